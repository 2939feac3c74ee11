import PyProof.Rows.All
import Wide.All
import OpenK.AllK
import Wide.FinOn
import HandS.ForMost
import HandS.Wide
import HandS.WideBits
import HandS.Style
import HandS.Deep
import HandS.IsInst
import HandS.TupAny
import HandS.SortInts
import HandS.Conv
import HandS.Zip
import HandS.Flow
import HandS.TupMul
import PyProof.ReprRoads
import HandS.RaiseMore
import KE.KRevSl
import HandS.Walk
import HandS.Codes
import HandS.EndBits
import HandS.SetFor
import PySem.Challenge.RW_lookalike_k05_tokens_and_their_places
set_option Elab.async false
set_option linter.all false
set_option maxRecDepth 100000
/-! Ev 1: data with ownership, what stands for data in the abstract heap, environments. -/
namespace Ev
open PySem PySem.Spec PyProof.Rows L2

/-- who may change a thing: nobody any more (f), the name that holds it (l: a list; g: a source of draws, a list of a list of ints and an int) -/
inductive O where
  | f | l | g
  deriving DecidableEq
abbrev DO := PyData × O
abbrev Slot := Option DO
abbrev Rho := List Slot

abbrev PS1 := Addr → Prop
/-- a constant of the module's -/
def KL (K : PySem.W.Frag) (a : Addr) (xs : List V) : Prop :=
  ∃ (o : Obj) (its : Array Value) (n : Nat), K.lookup a = some o ∧ o.cls = .type "list" ∧ o.dict = none ∧ o.data = .seq its n ∧ its.size ≤ sizeLine ∧ Vals xs its.toList
def KT (K : PySem.W.Frag) (a : Addr) (xs : List V) : Prop :=
  ∃ (o : Obj) (its : Array Value) (n : Nat), K.lookup a = some o ∧ o.cls = .type "tuple" ∧ o.data = .seq its n ∧ its.size ≤ sizeLine ∧ Vals xs its.toList
def FL (K : PySem.W.Frag) (H : Hp) (Z : PS1) (a : Addr) (xs : List V) : Prop := (Rd H a (.lst xs) ∧ ¬ Z a) ∨ KL K a xs
def FT (K : PySem.W.Frag) (H : Hp) (Z : PS1) (a : Addr) (xs : List V) : Prop := (Rd H a (.tup xs) ∧ ¬ Z a) ∨ KT K a xs
theorem FL.sq {K : PySem.W.Frag} {H : Hp} {Z : PS1} {a : Addr} {xs : List V} (h : FL K H Z a xs) : SqL K H a xs := by
  rcases h with h | h
  · exact .inl h.1
  · exact .inr h
theorem FT.sq {K : PySem.W.Frag} {H : Hp} {Z : PS1} {a : Addr} {xs : List V} (h : FT K H Z a xs) : SqT K H a xs := by
  rcases h with h | h
  · exact .inl h.1
  · exact .inr h

mutual
/-- frozen data -/
inductive Fz (K : PySem.W.Frag) (H : Hp) (Z : PS1) : V → PyData → Prop
  | non : Fz K H Z .non .none
  | bl (b : Bool) : Fz K H Z (.bl b) (.bool b)
  | int (i : Int) : Fz K H Z (.int i) (.int i)
  | str (x : Str) : Fz K H Z (.str x) (.str x)
  | lst {a : Addr} {xs : List V} {ds : List PyData} : FL K H Z a xs → FzAll K H Z xs ds → Fz K H Z (.ref a) (.list ds)
  | tup {a : Addr} {xs : List V} {ds : List PyData} : FT K H Z a xs → FzAll K H Z xs ds → Fz K H Z (.ref a) (.tuple ds)
inductive FzAll (K : PySem.W.Frag) (H : Hp) (Z : PS1) : List V → List PyData → Prop
  | nil : FzAll K H Z [] []
  | cons {v : V} {vs : List V} {d : PyData} {ds : List PyData} : Fz K H Z v d → FzAll K H Z vs ds → FzAll K H Z (v :: vs) (d :: ds)
end

/-- what is frozen stays so -/
def FK (H : Hp) (Z : PS1) (H' : Hp) (Z' : PS1) : Prop := ∀ a o, H a = some o → ¬ Z a → H' a = some o ∧ ¬ Z' a
theorem FK.refl {H : Hp} {Z : PS1} : FK H Z H Z := fun _ _ h n => ⟨h, n⟩
theorem FK.trans {H H1 H2 : Hp} {Z Z1 Z2 : PS1} (a : FK H Z H1 Z1) (b : FK H1 Z1 H2 Z2) : FK H Z H2 Z2 := fun x o h n =>
  let ⟨h1, n1⟩ := a x o h n; b x o h1 n1
theorem rd_keep {H H' : Hp} {Z Z' : PS1} (k : FK H Z H' Z') {a : Addr} {u : HO} (r : Rd H a u) (n : ¬ Z a) : Rd H' a u ∧ ¬ Z' a := by
  rcases r with r | ⟨o, r⟩
  · obtain ⟨h1, n1⟩ := k a _ r n
    exact ⟨.inl h1, n1⟩
  · obtain ⟨h1, n1⟩ := k a _ r n
    exact ⟨.inr ⟨o, h1⟩, n1⟩
theorem FL.keep {K : PySem.W.Frag} {H H' : Hp} {Z Z' : PS1} (k : FK H Z H' Z') {a : Addr} {xs : List V} (h : FL K H Z a xs) : FL K H' Z' a xs := by
  rcases h with h | h
  · exact .inl (rd_keep k h.1 h.2)
  · exact .inr h
theorem FT.keep {K : PySem.W.Frag} {H H' : Hp} {Z Z' : PS1} (k : FK H Z H' Z') {a : Addr} {xs : List V} (h : FT K H Z a xs) : FT K H' Z' a xs := by
  rcases h with h | h
  · exact .inl (rd_keep k h.1 h.2)
  · exact .inr h
mutual
theorem Fz.keep {K : PySem.W.Frag} {H H' : Hp} {Z Z' : PS1} (k : FK H Z H' Z') : ∀ {v : V} {d : PyData}, Fz K H Z v d → Fz K H' Z' v d
  | _, _, .non => .non
  | _, _, .bl b => .bl b
  | _, _, .int i => .int i
  | _, _, .str x => .str x
  | _, _, .lst h r => .lst (h.keep k) (r.keep k)
  | _, _, .tup h r => .tup (h.keep k) (r.keep k)
theorem FzAll.keep {K : PySem.W.Frag} {H H' : Hp} {Z Z' : PS1} (k : FK H Z H' Z') : ∀ {v : List V} {d : List PyData}, FzAll K H Z v d → FzAll K H' Z' v d
  | _, _, .nil => .nil
  | _, _, .cons h r => .cons (h.keep k) (r.keep k)
end
mutual
theorem Fz.dp {K : PySem.W.Frag} {H : Hp} {Z : PS1} : ∀ {v : V} {d : PyData}, Fz K H Z v d → Dp K H v d
  | _, _, .non => .non
  | _, _, .bl b => .bl b
  | _, _, .int i => .int i
  | _, _, .str x => .str x
  | _, _, .lst h r => .lst h.sq r.dp
  | _, _, .tup h r => .tup h.sq r.dp
theorem FzAll.dp {K : PySem.W.Frag} {H : Hp} {Z : PS1} : ∀ {v : List V} {d : List PyData}, FzAll K H Z v d → DpAll K H v d
  | _, _, .nil => .nil
  | _, _, .cons h r => .cons h.dp r.dp
end
section
variable {K : PySem.W.Frag} {H : Hp} {Z : PS1}
theorem FzAll.length : ∀ {vs : List V} {ds : List PyData}, FzAll K H Z vs ds → vs.length = ds.length
  | _, _, .nil => rfl
  | _, _, .cons _ r => congrArg (· + 1) r.length
theorem FzAll.get : ∀ {vs : List V} {ds : List PyData} {i : Nat} {d : PyData}, FzAll K H Z vs ds → ds[i]? = some d → ∃ v, vs[i]? = some v ∧ Fz K H Z v d
  | _, _, _, _, .nil, e => by simp at e
  | _, _, 0, _, .cons h _, e => by simp at e; subst e; exact ⟨_, rfl, h⟩
  | _, _, i + 1, d, .cons _ r, e => by
    obtain ⟨v, h1, h2⟩ := FzAll.get (i := i) (d := d) r (by simpa using e)
    exact ⟨v, by simpa using h1, h2⟩
theorem FzAll.getV : ∀ {vs : List V} {ds : List PyData} {i : Nat} {v : V}, FzAll K H Z vs ds → vs[i]? = some v → ∃ d, ds[i]? = some d ∧ Fz K H Z v d
  | _, _, _, _, .nil, e => by simp at e
  | _, _, 0, _, .cons h _, e => by simp at e; subst e; exact ⟨_, rfl, h⟩
  | _, _, i + 1, v, .cons _ r, e => by
    obtain ⟨d, h1, h2⟩ := FzAll.getV (i := i) (v := v) r (by simpa using e)
    exact ⟨d, by simpa using h1, h2⟩
theorem FzAll.append : ∀ {vs us : List V} {ds es : List PyData}, FzAll K H Z vs ds → FzAll K H Z us es → FzAll K H Z (vs ++ us) (ds ++ es)
  | _, _, _, _, .nil, s => s
  | _, _, _, _, .cons h r, s => .cons h (r.append s)
theorem FzAll.take : ∀ {vs : List V} {ds : List PyData} (n : Nat), FzAll K H Z vs ds → FzAll K H Z (vs.take n) (ds.take n)
  | _, _, 0, _ => .nil
  | _, _, _ + 1, .nil => .nil
  | _, _, n + 1, .cons h r => .cons h (r.take n)
theorem FzAll.drop : ∀ {vs : List V} {ds : List PyData} (n : Nat), FzAll K H Z vs ds → FzAll K H Z (vs.drop n) (ds.drop n)
  | _, _, 0, r => r
  | _, _, _ + 1, .nil => .nil
  | _, _, n + 1, .cons _ r => FzAll.drop n r
theorem FzAll.rev : ∀ {vs : List V} {ds : List PyData}, FzAll K H Z vs ds → FzAll K H Z vs.reverse ds.reverse
  | _, _, .nil => .nil
  | _, _, .cons h r => by
    rw [List.reverse_cons, List.reverse_cons]
    exact r.rev.append (.cons h .nil)
theorem FzAll.set : ∀ {vs : List V} {ds : List PyData} {v : V} {d : PyData} (i : Nat), FzAll K H Z vs ds → Fz K H Z v d → FzAll K H Z (vs.set i v) (ds.set i d)
  | _, _, _, _, _, .nil, _ => .nil
  | _, _, _, _, 0, .cons _ r, q => .cons q r
  | _, _, _, _, i + 1, .cons h r, q => .cons h (r.set i q)
theorem FzAll.erase : ∀ {vs : List V} {ds : List PyData} (i : Nat), FzAll K H Z vs ds → FzAll K H Z (vs.eraseIdx i) (ds.eraseIdx i)
  | _, _, _, .nil => .nil
  | _, _, 0, .cons _ r => r
  | _, _, i + 1, .cons h r => .cons h (r.erase i)
theorem FzAll.dropLast {vs : List V} {ds : List PyData} (h : FzAll K H Z vs ds) : FzAll K H Z vs.dropLast ds.dropLast := by
  rw [List.dropLast_eq_take, List.dropLast_eq_take, h.length]
  exact h.take _
theorem FzAll.flat {vs : List V} {ds : List PyData} (h : FzAll K H Z vs ds) : ∀ n : Nat, FzAll K H Z (List.replicate n vs).flatten (List.replicate n ds).flatten
  | 0 => .nil
  | n + 1 => by
    rw [List.replicate_succ, List.replicate_succ, List.flatten_cons, List.flatten_cons]
    exact h.append (FzAll.flat h n)
theorem FzAll.ints {vs : List V} : ∀ {ns : List Int}, FzAll K H Z vs (ns.map PyData.int) → vs = ns.map V.int := by
  induction vs with
  | nil => intro ns h; cases ns with
    | nil => rfl
    | cons a b => cases h
  | cons v vs ih => intro ns h; cases ns with
    | nil => cases h
    | cons a b => cases h with
      | cons h1 h2 => cases h1; rw [ih h2]; rfl
theorem FzAll.ofInts : ∀ ns : List Int, FzAll K H Z (ns.map V.int) (ns.map PyData.int)
  | [] => .nil
  | n :: ns => .cons (.int n) (FzAll.ofInts ns)
theorem FzAll.bools {vs : List V} : ∀ {ns : List Bool}, FzAll K H Z vs (ns.map PyData.bool) → vs = ns.map V.bl := by
  induction vs with
  | nil => intro ns h; cases ns with
    | nil => rfl
    | cons a b => cases h
  | cons v vs ih => intro ns h; cases ns with
    | nil => cases h
    | cons a b => cases h with
      | cons h1 h2 => cases h1; rw [ih h2]; rfl
theorem FzAll.strs {vs : List V} : ∀ {ns : List Str}, FzAll K H Z vs (ns.map PyData.str) → vs = ns.map V.str := by
  induction vs with
  | nil => intro ns h; cases ns with
    | nil => rfl
    | cons a b => cases h
  | cons v vs ih => intro ns h; cases ns with
    | nil => cases h
    | cons a b => cases h with
      | cons h1 h2 => cases h1; rw [ih h2]; rfl
theorem FzAll.ofStrs : ∀ ns : List Str, FzAll K H Z (ns.map V.str) (ns.map PyData.str)
  | [] => .nil
  | n :: ns => .cons (.str n) (FzAll.ofStrs ns)
end

/-- v stands for d, owned as o; its owned addresses are among P -/
inductive Rep (K : PySem.W.Frag) (H : Hp) (Z : PS1) (P : PS1) : V → PyData → O → Prop
  | fz {v : V} {d : PyData} : Fz K H Z v d → Rep K H Z P v d .f
  | l {a : Addr} {xs : List V} {ds : List PyData} : H a = some (.lst xs) → FzAll K H Z xs ds → P a → Rep K H Z P (.ref a) (.list ds) .l
  | g {a b : Addr} {n : Int} {ns : List Int} : H a = some (.lst [.ref b, .int n]) → H b = some (.lst (ns.map V.int)) → a ≠ b → P a → P b → Rep K H Z P (.ref a) (.list [.list (ns.map PyData.int), .int n]) .g
section
variable {K : PySem.W.Frag} {H H' : Hp} {Z Z' P P' : PS1}
theorem Rep.keep {v : V} {d : PyData} {o : O} (r : Rep K H Z P v d o) (k : FK H Z H' Z') (ko : ∀ a u, P a → H a = some u → H' a = some u) (hp : ∀ a, P a → P' a) : Rep K H' Z' P' v d o := by
  cases r with
  | fz h => exact .fz (h.keep k)
  | l h r p => exact .l (ko _ _ p h) (r.keep k) (hp _ p)
  | g h1 h2 n p q => exact .g (ko _ _ p h1) (ko _ _ q h2) n (hp _ p) (hp _ q)
theorem Rep.dp {v : V} {d : PyData} {o : O} (r : Rep K H Z P v d o) : Dp K H v d := by
  cases r with
  | fz h => exact h.dp
  | l h r p => exact .lst (.of h) r.dp
  | g h1 h2 n p q => exact .lst (.of h1) (.cons (.lst (.of h2) (FzAll.ofInts (Z := Z) _).dp) (.cons (.int _) .nil))
/-- to freeze: the owned addresses leave Z -/
theorem Rep.freeze {v : V} {d : PyData} {o : O} (r : Rep K H Z P v d o) : Fz K H (fun a => Z a ∧ ¬ P a) v d := by
  have k : FK H Z H (fun a => Z a ∧ ¬ P a) := fun a u h n => ⟨h, fun z => n z.1⟩
  cases r with
  | fz h => exact h.keep k
  | l h r p => exact .lst (.inl ⟨.inl h, fun z => z.2 p⟩) (r.keep k)
  | g h1 h2 n p q => exact .lst (.inl ⟨.inl h1, fun z => z.2 p⟩) (.cons (.lst (.inl ⟨.inl h2, fun z => z.2 q⟩) (FzAll.ofInts _)) (.cons (.int _) .nil))
theorem Rep.frozen {v : V} {d : PyData} (r : Rep K H Z P v d .f) : Fz K H Z v d := by
  cases r with
  | fz h => exact h
/-- the items of a list or tuple -/
theorem Rep.items {v : V} {ds : List PyData} {o : O} (ho : o ≠ .g) (r : Rep K H Z P v (.list ds) o) : ∃ a xs, v = .ref a ∧ SqL K H a xs ∧ FzAll K H Z xs ds := by
  cases r with
  | fz h => cases h with
    | lst h r => exact ⟨_, _, rfl, h.sq, r⟩
  | l h r p => exact ⟨_, _, rfl, .of h, r⟩
  | g h1 h2 n p q => exact absurd rfl ho
theorem Rep.titems {v : V} {ds : List PyData} {o : O} (r : Rep K H Z P v (.tuple ds) o) : ∃ a xs, v = .ref a ∧ SqT K H a xs ∧ FzAll K H Z xs ds := by
  cases r with
  | fz h => cases h with
    | tup h r => exact ⟨_, _, rfl, h.sq, r⟩
theorem Rep.some_at {v : V} {d : PyData} {o : O} (ho : o ≠ .f) (r : Rep K H Z P v d o) : ∃ a u, P a ∧ H a = some u := by
  cases r with
  | fz h => exact absurd rfl ho
  | l h r p => exact ⟨_, _, p, h⟩
  | g h1 h2 n p q => exact ⟨_, _, p, h1⟩
end

/-- the slots' values stand for the environment's data; Ls i owns slot i's -/
def Den (K : PySem.W.Frag) (H : Hp) (Z : PS1) (σ : L2.St) (ρ : Rho) (Ls : Nat → PS1) : Prop :=
  ∀ (i : Nat) (d : PyData) (o : O), ρ[i]? = some (some (d, o)) → ∃ v, σ[i]? = some (some v) ∧ Rep K H Z (Ls i) v d o
def LL (Ls : Nat → PS1) : PS1 := fun a => ∃ i, Ls i a
/-- a state: the owners stand apart, all owned addresses are tracked and in Z -/
structure Own (H : Hp) (Z : PS1) (Ls : Nat → PS1) : Prop where
  dis : ∀ i j a, Ls i a → Ls j a → i = j
  z : ∀ i a, Ls i a → Z a
  tr : ∀ i a, Ls i a → ∃ o, H a = some o
/-- a step: L may change; what is frozen stays; other owned ones stay owned -/
structure Stp (H : Hp) (Z L : PS1) (H' : Hp) (Z' : PS1) : Prop where
  keep : ∀ a o, H a = some o → ¬ L a → H' a = some o
  fz : ∀ a o, H a = some o → ¬ Z a → ¬ Z' a
  own : ∀ a o, H a = some o → Z a → ¬ L a → Z' a
  dom : ∀ a o, H a = some o → ∃ o', H' a = some o'
theorem Stp.refl {H : Hp} {Z L : PS1} : Stp H Z L H Z := ⟨fun _ _ h _ => h, fun _ _ _ n => n, fun _ _ _ z _ => z, fun _ o h => ⟨o, h⟩⟩
theorem Stp.fk {H H' : Hp} {Z L Z' : PS1} (s : Stp H Z L H' Z') (hl : ∀ a, L a → Z a) : FK H Z H' Z' := fun a o h n => ⟨s.keep a o h fun l => n (hl a l), s.fz a o h n⟩
/-- two steps: what the second may change was ours or is new -/
theorem Stp.trans {H H1 H2 : Hp} {Z Z1 Z2 L L1 : PS1} (a : Stp H Z L H1 Z1) (b : Stp H1 Z1 L1 H2 Z2) (hl : ∀ x o, H x = some o → L1 x → L x) : Stp H Z L H2 Z2 where
  keep := fun x o h n => b.keep x o (a.keep x o h n) fun l => n (hl x o h l)
  fz := fun x o h n => by
    obtain ⟨o', h'⟩ := a.dom x o h
    exact b.fz x o' h' (a.fz x o h n)
  own := fun x o h z n => b.own x o (a.keep x o h n) (a.own x o h z n) fun l => n (hl x o h l)
  dom := fun x o h => by
    obtain ⟨o', h'⟩ := a.dom x o h
    exact b.dom x o' h'
theorem Stp.mono {H H' : Hp} {Z Z' L L' : PS1} (a : Stp H Z L H' Z') (h : ∀ x, L x → L' x) : Stp H Z L' H' Z' :=
  ⟨fun x o e n => a.keep x o e fun l => n (h x l), a.fz, fun x o e z n => a.own x o e z fun l => n (h x l), a.dom⟩
theorem Stp.same {H H' : Hp} {Z Z' L : PS1} (a : Stp H Z L H' Z') (h : ∀ x, ¬ L x) : Same H H' := fun x o e => a.keep x o e (h x)
end Ev
/-! Ev 2: the small language and what it does on data. -/
namespace Ev
open PySem PySem.Spec L2

inductive BO where
  | add | sub | mul | fdiv | mod | shl | shr | pow | band | bor | bxor
  deriving DecidableEq
inductive CO where
  | eq | ne | lt | le | gt | ge | isN | notN | isB | notB | mem | nmem
  deriving DecidableEq
inductive Bi where
  | len | max2 | min2 | abs | int1 | str1 | list1 | tuple1 | all | any | sum | max1 | min1 | sorted | repr | isi (t : List String) | range2 | set0
  deriving DecidableEq
inductive Me where
  | join | sindex | lindex | tindex | isalnum | split | upper
  deriving DecidableEq
inductive Mu where
  | append | pop | popAt | extend
  deriving DecidableEq
/-- a target -/
inductive T where
  | name (i : Nat)
  | tup (ts : List T)
mutual
inductive E where
  | var (i : Nat)
  | lit (d : PyData)
  | cst (i : Nat)
  | bin (o : BO) (a b : E)
  | neg (a : E)
  | cmp (o : CO) (a b : E)
  | cmp2 (o o' : CO) (a b c : E)
  | not_ (a : E) | and_ (a b : E) | or_ (a b : E) | ite (c a b : E) | truth (a : E)
  | tup (es : List E) | lst (es : List E)
  | idx (a i : E) | slice (a lo hi : E) | rev (a : E)
  | call (f : Nat) (args : List E)
  | callK (f : Nat) (ord : List Nat) (args kws : List E)
  | bi (b : Bi) (args : List E)
  | meth (m : Me) (a : E) (args : List E)
  | mut (m : Mu) (i : Nat) (args : List E)
  | gmut (m : Mu) (i : Nat) (args : List E)
  | deal (a b : E)
  | comp (elt : E) (t : T) (it : It) (cond : E) (own : List Nat)
inductive It where
  | seq (e : E) | range (a b : E) | range3 (a b c : E) | enum (e : E) | zip (a b : E)
end
inductive S where
  | expr (e : E)
  | set (i : Nat) (e : E)
  | setT (t : T) (e : E)
  | par (is : List Nat) (es : List E)
  | setI (x : Nat) (i e : E)
  | ret (e : E) | retv (i : Nat) | retN
  | ite (c : E) (a b : List S)
  | while_ (c : E) (b : List S)
  | for_ (t : T) (it : It) (b : List S)
  | pass | brk | cont
inductive Fl where
  | nx | rt (r : DO) | bk | ct

/-- what a def does: which parameters are handed on by reference; from the arguments, what it answers and what these hold behind -/
structure FS where
  ref : List Bool
  run : List DO → Option (DO × List Slot)
/-- what stands around: the defs, the constants, how many rounds a while may take -/
structure Cf where
  fn : List FS
  cs : List PyData
  W : Nat

/-! ### quiet: nothing that a name owns is changed -/
def Cf.pure (Φ : Cf) (f : Nat) : Bool := match Φ.fn[f]? with
  | some F => F.ref.all (!·)
  | none => true
def Cf.mask (Φ : Cf) (f : Nat) : List Bool := match Φ.fn[f]? with
  | some F => F.ref
  | none => []
mutual
def E.quiet (Φ : Cf) : E → Bool
  | .var _ | .lit _ | .cst _ => true
  | .bin _ a b => a.quiet Φ && b.quiet Φ
  | .neg a => a.quiet Φ
  | .cmp _ a b => a.quiet Φ && b.quiet Φ
  | .cmp2 _ _ a b c => a.quiet Φ && (b.quiet Φ && c.quiet Φ)
  | .not_ a => a.quiet Φ | .and_ a b => a.quiet Φ && b.quiet Φ | .or_ a b => a.quiet Φ && b.quiet Φ
  | .ite c a b => c.quiet Φ && (a.quiet Φ && b.quiet Φ) | .truth a => a.quiet Φ
  | .tup es => quiets Φ es | .lst es => quiets Φ es
  | .idx a i => a.quiet Φ && i.quiet Φ | .slice a lo hi => a.quiet Φ && (lo.quiet Φ && hi.quiet Φ) | .rev a => a.quiet Φ
  | .call f args => Φ.pure f && quiets Φ args
  | .callK f _ args kws => Φ.pure f && (quiets Φ args && quiets Φ kws)
  | .bi _ args => quiets Φ args
  | .meth _ a args => a.quiet Φ && quiets Φ args
  | .mut _ _ _ => false
  | .gmut _ _ _ => false
  | .deal a b => a.quiet Φ && b.quiet Φ
  | .comp elt _ it c _ => elt.quiet Φ && (it.quiet Φ && c.quiet Φ)
def quiets (Φ : Cf) : List E → Bool
  | [] => true
  | e :: es => e.quiet Φ && quiets Φ es
def It.quiet (Φ : Cf) : It → Bool
  | .seq e => e.quiet Φ | .range a b => a.quiet Φ && b.quiet Φ | .range3 a b c => a.quiet Φ && (b.quiet Φ && c.quiet Φ) | .enum e => e.quiet Φ | .zip a b => a.quiet Φ && b.quiet Φ
end

/-! ### operators on data -/
def seqOf : DO → Option (List PyData)
  | (.list ds, .f) => some ds
  | (.list ds, .l) => some ds
  | (.tuple ds, _) => some ds
  | _ => none
def intsOf : List PyData → Option (List Int)
  | [] => some []
  | .int i :: r => (intsOf r).map (i :: ·)
  | _ => none
def boolsOf : List PyData → Option (List Bool)
  | [] => some []
  | .bool i :: r => (boolsOf r).map (i :: ·)
  | _ => none
def strsOf : List PyData → Option (List Str)
  | [] => some []
  | .str i :: r => (strsOf r).map (i :: ·)
  | _ => none
theorem intsOf_map (ns : List Int) : intsOf (ns.map PyData.int) = some ns := by
  induction ns with
  | nil => rfl
  | cons n r ih => show (intsOf (r.map PyData.int)).map (n :: ·) = _; rw [ih]; rfl
theorem boolsOf_map (ns : List Bool) : boolsOf (ns.map PyData.bool) = some ns := by
  induction ns with
  | nil => rfl
  | cons n r ih => show (boolsOf (r.map PyData.bool)).map (n :: ·) = _; rw [ih]; rfl
theorem strsOf_map (ns : List Str) : strsOf (ns.map PyData.str) = some ns := by
  induction ns with
  | nil => rfl
  | cons n r ih => show (strsOf (r.map PyData.str)).map (n :: ·) = _; rw [ih]; rfl
theorem intsOf_eq : ∀ {ds : List PyData} {ns : List Int}, intsOf ds = some ns → ds = ns.map PyData.int
  | [], ns, h => by cases h; rfl
  | .int i :: r, ns, h => by
    unfold intsOf at h
    cases e : intsOf r with
    | none => rw [e] at h; cases h
    | some m => rw [e] at h; cases h; rw [intsOf_eq e]; rfl
  | .none :: _, _, h => by cases h
  | .bool _ :: _, _, h => by cases h
  | .str _ :: _, _, h => by cases h
  | .list _ :: _, _, h => by cases h
  | .tuple _ :: _, _, h => by cases h
  | .dict _ :: _, _, h => by cases h
theorem boolsOf_eq : ∀ {ds : List PyData} {ns : List Bool}, boolsOf ds = some ns → ds = ns.map PyData.bool
  | [], ns, h => by cases h; rfl
  | .bool i :: r, ns, h => by
    unfold boolsOf at h
    cases e : boolsOf r with
    | none => rw [e] at h; cases h
    | some m => rw [e] at h; cases h; rw [boolsOf_eq e]; rfl
  | .none :: _, _, h => by cases h
  | .int _ :: _, _, h => by cases h
  | .str _ :: _, _, h => by cases h
  | .list _ :: _, _, h => by cases h
  | .tuple _ :: _, _, h => by cases h
  | .dict _ :: _, _, h => by cases h
theorem strsOf_eq : ∀ {ds : List PyData} {ns : List Str}, strsOf ds = some ns → ds = ns.map PyData.str
  | [], ns, h => by cases h; rfl
  | .str i :: r, ns, h => by
    unfold strsOf at h
    cases e : strsOf r with
    | none => rw [e] at h; cases h
    | some m => rw [e] at h; cases h; rw [strsOf_eq e]; rfl
  | .none :: _, _, h => by cases h
  | .int _ :: _, _, h => by cases h
  | .bool _ :: _, _, h => by cases h
  | .list _ :: _, _, h => by cases h
  | .tuple _ :: _, _, h => by cases h
  | .dict _ :: _, _, h => by cases h

/-- a check -/
def chk (p : Prop) [Decidable p] {α : Type} (x : α) : Option α := if p then some x else none
theorem chk_some {p : Prop} [Decidable p] {α : Type} {x y : α} (h : chk p x = some y) : p ∧ x = y := by
  unfold chk at h
  split at h
  · exact ⟨by assumption, Option.some.inj h⟩
  · cases h
def fz (d : PyData) : DO := (d, .f)
def addSem : DO → DO → Option DO
  | (.int i, _), (.int j, _) => some (fz (.int (i + j)))
  | (.str x, _), (.str y, _) => chk (x.length + y.length ≤ sizeLine) (fz (.str (x ++ y)))
  | (.tuple xs, _), (.tuple ys, _) => chk (xs.length + ys.length ≤ sizeLine) (fz (.tuple (xs ++ ys)))
  | (.list xs, o), (.list ys, o') => if o = .g ∨ o' = .g then none else chk (xs.length + ys.length ≤ sizeLine) (.list (xs ++ ys), .l)
  | _, _ => none
def mulSem : DO → DO → Option DO
  | (.int i, _), (.int j, _) => chk (i.natAbs.log2 + j.natAbs.log2 < 1000000) (fz (.int (i * j)))
  | (.list xs, o), (.int k, _) => if o = .l then chk (-(2 ^ 63) ≤ k ∧ k < 2 ^ 63 ∧ xs.length * k.toNat ≤ sizeLine) (.list (List.replicate k.toNat xs).flatten, .l) else none
  | (.tuple xs, _), (.int k, _) => if k = 1 then some (fz (.tuple xs)) else if k ≤ 0 then chk (xs.isEmpty = false ∧ -(2 ^ 62) ≤ k) (fz (.tuple [])) else chk (xs.isEmpty = false ∧ 2 ≤ k ∧ k ≤ 1000 ∧ xs.length ≤ 1000) (fz (.tuple (List.replicate k.toNat xs).flatten))
  | _, _ => none
def binSem (o : BO) (x y : DO) : Option DO :=
  match o with
  | .add => addSem x y
  | .mul => mulSem x y
  | o => match x.1, y.1 with
    | .int i, .int j => match o with
      | .sub => some (fz (.int (i - j)))
      | .fdiv => chk (0 < j ∧ j.natAbs.log2 < 9000) (fz (.int (i / j)))
      | .mod => chk (0 < j) (fz (.int (i % j)))
      | .shl => chk (0 ≤ j ∧ j ≤ 1000000 ∧ i.natAbs < 2 ^ 64) (fz (.int (i * 2 ^ j.toNat)))
      | .shr => chk (0 ≤ j) (fz (.int (i / 2 ^ j.toNat)))
      | .pow => chk (0 ≤ j ∧ j ≤ 1000000 ∧ i.natAbs < 2 ^ 64) (fz (.int (i ^ j.toNat)))
      | .band => some (fz (.int (Builtin.bitAnd i j)))
      | .bor => some (fz (.int (Builtin.bitOr i j)))
      | .bxor => some (fz (.int (Builtin.bitXor i j)))
      | _ => none
    | _, _ => none
/-- x in y -/
def memSem (x y : DO) : Option Bool :=
  match x.1, y.1 with
  | .str c, .str z => chk (c.length = 1) (decide (c.cps.getD 0 0 ∈ z.cps.toList))
  | d, .list ds => chk (SeqAt.shaped d = true ∧ SeqAt.shaped (.list ds) = true) (ds.any fun z => PyData.eqv z d)
  | d, .tuple ds => chk (SeqAt.shaped d = true ∧ SeqAt.shaped (.tuple ds) = true) (ds.any fun z => PyData.eqv z d)
  | _, _ => none
def isNone : PyData → Bool
  | .none => true
  | _ => false
def cmpSem (o : CO) (x y : DO) : Option Bool :=
  match o with
  | .eq => chk (SeqAt.shaped x.1 = true ∧ SeqAt.shaped y.1 = true) (PyData.eqv x.1 y.1)
  | .ne => chk (SeqAt.shaped x.1 = true ∧ SeqAt.shaped y.1 = true) (!PyData.eqv x.1 y.1)
  | .isN => match y.1 with | .none => some (isNone x.1) | _ => none
  | .notN => match y.1 with | .none => some (!isNone x.1) | _ => none
  | .isB => match x.1, y.1 with | .bool a, .bool b => some (a == b) | _, _ => none
  | .notB => match x.1, y.1 with | .bool a, .bool b => some (!(a == b)) | _, _ => none
  | .mem => memSem x y
  | .nmem => (memSem x y).map (!·)
  | .le => match x.1, y.1 with
    | .int i, .int j => some (decide (i ≤ j))
    | .str i, .str j => some (!decide (j.cps.toList < i.cps.toList))
    | _, _ => none
  | o => match x.1, y.1 with
    | .int i, .int j => match o with
      | .lt => some (decide (i < j))
      | .gt => some (decide (j < i))
      | .ge => some (decide (j ≤ i))
      | _ => none
    | _, _ => none
def truthSem : PyData → Option Bool
  | .none => some false
  | .bool b => some b
  | .int i => some (i != 0)
  | .list ds => some (!ds.isEmpty)
  | .tuple ds => some (!ds.isEmpty)
  | .str x => chk (x.length ≤ sizeLine) (x.length != 0)
  | _ => none
def idxG : List PyData → Int → Option DO
  | [.list ns, .int n], i => if i = 1 then some (fz (.int n)) else if i = 0 then some (.list ns, .l) else none
  | _, _ => none
def idxSem (x y : DO) : Option DO :=
  match x, y.1 with
  | (.list ds, o), .int i => if o = .g then idxG ds i else (atI ds i).map fz
  | (.tuple ds, _), .int i => (atI ds i).map fz
  | (.str z, _), .int i => if z.length ≤ sizeLine then (atI z.cps.toList i).map (fun c => fz (.str ⟨#[c]⟩)) else none
  | _, _ => none
def partE : E → PyData → Option (Option Int)
  | .lit .none, _ => some none
  | _, .int i => some (some i)
  | _, _ => none
def cutD (ds : List PyData) (lo hi : Option Int) : List PyData := (ds.drop (HT.sIx ds.length 0 lo)).take (HT.sIx ds.length ds.length hi - HT.sIx ds.length 0 lo)
def sliceSem (x : DO) (lo hi : Option Int) : Option DO :=
  match x with
  | (.list ds, o) => if o = .g then none else some (.list (cutD ds lo hi), .l)
  | (.tuple ds, _) => some (fz (.tuple (cutD ds lo hi)))
  | (.str z, _) => chk (z.length ≤ sizeLine) (fz (.str (cutS z lo hi)))
  | _ => none
def revSem : DO → Option DO
  | (.list ds, o) => if o = .g then none else some (.list ds.reverse, .l)
  | (.tuple ds, _) => some (fz (.tuple ds.reverse))
  | _ => none
/-- the type of data -/
def tyD : PyData → String
  | .none => "NoneType" | .bool _ => "bool" | .int _ => "int" | .str _ => "str" | .list _ => "list" | .tuple _ => "tuple" | .dict _ => "dict"
def isiB (t : String) : PyData → Bool
  | .none => false | .bool _ => t == "bool" || t == "int" | .int _ => t == "int" | .str _ => t == "str" | .list _ => t == "list" | .tuple _ => t == "tuple" | .dict _ => t == "dict"
def maxOf : List Int → Int
  | [] => 0
  | [a] => a
  | a :: r => let m := maxOf r; if a < m then m else a
def minOf : List Int → Int
  | [] => 0
  | [a] => a
  | a :: r => let m := minOf r; if m < a then m else a
def insI (x : Int) : List Int → List Int
  | [] => [x]
  | y :: r => if x ≤ y then x :: y :: r else y :: insI x r
def sortI : List Int → List Int
  | [] => []
  | x :: r => insI x (sortI r)
/-- a sorted list without equal ones -/
def insU (x : Int) : List Int → List Int
  | [] => [x]
  | y :: r => if x < y then x :: y :: r else if x = y then y :: r else y :: insU x r
def sortU : List Int → List Int
  | [] => []
  | x :: r => insU x (sortU r)
def tupD : PyData → Option (List PyData)
  | .tuple ds => some ds
  | _ => none
def lenSem : PyData → Option PyData
  | .str x => chk (x.length ≤ sizeLine) (.int x.length)
  | .list ds => some (.int ds.length)
  | .tuple ds => some (.int ds.length)
  | _ => none
def absSem : PyData → Option PyData
  | .int i => some (.int (if i < 0 then -i else i))
  | _ => none
def intSem : PyData → Option PyData
  | .int i => some (.int i)
  | .bool k => some (.int (if k then 1 else 0))
  | .str x => if x.length ≤ 640 then (PySem.intText? x).map .int else none
  | _ => none
def strSem : PyData → Option PyData
  | .int i => chk (i.natAbs.log2 < 1920) (.str (toString i))
  | .str x => some (.str x)
  | _ => none
def listD : PyData → Option (List PyData)
  | .list ds => some ds
  | _ => none
def reprSem (d : PyData) : Option PyData := chk (d.showable = true ∧ d.hasDict = false ∧ d.depth ≤ 60 ∧ d.shown.length ≤ sizeLine) (.str d.shown)
def rangeD (lo : Int) (n : Nat) : List PyData := (List.range n).map fun (k : Nat) => .int (lo + (k : Int))
def rangeC (lo c : Int) (n : Nat) : List PyData := (List.range n).map fun (k : Nat) => .int (lo + (k : Int) * c)
def small62 (i : Int) : Bool := decide (-(2 ^ 62) ≤ i) && decide (i < 2 ^ 62)
def intD : PyData → Option Int
  | .int i => some i
  | _ => none
def bi1 (b : Bi) (x : DO) : Option DO :=
  match b with
  | .len => (lenSem x.1).map fz
  | .abs => (absSem x.1).map fz
  | .int1 => (intSem x.1).map fz
  | .str1 => (strSem x.1).map fz
  | .list1 => (seqOf x).map fun ds => (.list ds, .l)
  | .tuple1 => (seqOf x).map fun ds => fz (.tuple ds)
  | .all => (listD x.1).bind fun ds => (boolsOf ds).map fun bs => fz (.bool (bs.all id))
  | .any => (listD x.1).bind fun ds => (boolsOf ds).map fun bs => fz (.bool (bs.any id))
  | .sum => (listD x.1).bind fun ds => (intsOf ds).map fun ns => fz (.int ns.sum)
  | .max1 => (listD x.1).bind fun ds => (intsOf ds).bind fun ns => chk (0 < ns.length) (fz (.int (maxOf ns)))
  | .min1 => (listD x.1).bind fun ds => (intsOf ds).bind fun ns => chk (0 < ns.length) (fz (.int (minOf ns)))
  | .sorted => (listD x.1).bind fun ds => (intsOf ds).map fun ns => (.list ((sortI ns).map PyData.int), .l)
  | .repr => (reprSem x.1).map fz
  | .isi ts => some (fz (.bool (ts.any fun t => isiB t x.1)))
  | .set0 => (tupD x.1).bind fun ds => (intsOf ds).bind fun ns => chk (ns.length < 64) (.list ((sortU ns).map PyData.int), .l)
  | .range2 => (intD x.1).bind fun n => chk (-(2 ^ 62) ≤ n ∧ n ≤ 2 ^ 24) (.list (rangeD 0 n.toNat), .l)
  | _ => none
def bi2 (b : Bi) (x y : DO) : Option DO :=
  match b with
  | .max2 => (intD x.1).bind fun i => (intD y.1).map fun j => fz (.int (if j > i then j else i))
  | .min2 => (intD x.1).bind fun i => (intD y.1).map fun j => fz (.int (if j < i then j else i))
  | _ => none
def biSem (b : Bi) : List DO → Option DO
  | [x] => bi1 b x
  | [x, y] => bi2 b x y
  | _ => none
/-- a changing method of a list: its answer, the list behind -/
def mu0 (m : Mu) (ds : List PyData) : Option (PyData × List PyData) :=
  match m with
  | .pop => ds[ds.length - 1]?.map fun d => (d, ds.dropLast)
  | _ => none
def itemsD : PyData → Option (List PyData)
  | .list es => some es
  | .tuple es => some es
  | _ => none
def mu1 (m : Mu) (ds : List PyData) (x : PyData) : Option (PyData × List PyData) :=
  match m with
  | .append => chk (ds.length < sizeLine) (.none, ds ++ [x])
  | .popAt => (intD x).bind fun i => (if -(2 ^ 63) ≤ i ∧ i < 2 ^ 63 then seqIndex? i ds.length else none).bind fun k => ds[k]?.map fun d => (d, ds.eraseIdx k)
  | .extend => (itemsD x).bind fun es => chk (ds.length + es.length ≤ sizeLine) (.none, ds ++ es)
  | _ => none
def muSem (m : Mu) (ds : List PyData) : List PyData → Option (PyData × List PyData)
  | [] => mu0 m ds
  | [x] => mu1 m ds x
  | _ => none
def meSem (m : Me) (x : DO) (xs : List DO) : Option DO :=
  match m, x, xs with
  | .join, (.str a, _), [y] => (seqOf y).bind fun ds => (strsOf ds).bind fun ys => chk ((ys.map (·.length)).sum + ys.length * a.length ≤ 16777216) (fz (.str (Txt.join a ys)))
  | .isalnum, (.str a, _), [] => some (fz (.bool (Txt.isalnum a)))
  | .upper, (.str a, _), [] => chk (a.length ≤ 5592405) (fz (.str (Txt.upper a)))
  | .split, (.str a, _), [(.str b, _)] => chk ((b.length == 0) = false ∧ a.length + 2 ≤ sizeLine) (.list ((Txt.split a b).map PyData.str), .l)
  | _, _, _ => none

/-! ### environments -/
def Rho.put (ρ : Rho) (i : Nat) (s : Slot) : Rho := ρ.set i s
def Rho.at (ρ : Rho) (i : Nat) : Slot := (ρ[i]?).getD none
def wipeR (ρ : Rho) : List Nat → Rho
  | [] => ρ
  | v :: vs => (wipeR ρ vs).set v none
mutual
def bindT : T → PyData → Rho → Option Rho
  | .name i, d, ρ => if i < ρ.length then some (ρ.set i (some (d, .f))) else none
  | .tup ts, .tuple ds, ρ => bindTs ts ds ρ
  | .tup _, _, _ => none
def bindTs : List T → List PyData → Rho → Option Rho
  | [], [], ρ => some ρ
  | t :: ts, d :: ds, ρ => (bindT t d ρ).bind fun ρ1 => bindTs ts ds ρ1
  | _, _, _ => none
end
/-- the arguments in the parameters' order: what the name at a by-reference place holds -/
def takeRefs : List Bool → List E → List DO → Rho → Option (List DO × Rho)
  | [], [], [], ρ => some ([], ρ)
  | true :: bs, .var i :: es, _ :: ds, ρ => match ρ.at i with
    | some x => (takeRefs bs es ds (ρ.set i none)).map fun (l, ρ') => (x :: l, ρ')
    | none => none
  | false :: bs, _ :: es, d :: ds, ρ => (takeRefs bs es ds ρ).map fun (l, ρ') => (d :: l, ρ')
  | _, _, _, _ => none
def giveRefs : List Bool → List E → List Slot → Rho → Option Rho
  | [], [], [], ρ => some ρ
  | true :: bs, .var i :: es, o :: os, ρ => giveRefs bs es os (ρ.set i o)
  | false :: bs, _ :: es, _ :: os, ρ => giveRefs bs es os ρ
  | _, _, _, _ => none
/-- a call's arguments have come: the call -/
def callSem (Φ : Cf) (f : Nat) (es : List E) (ds : List DO) (ρ : Rho) : Option (DO × Rho) :=
  match Φ.fn[f]? with
  | some F => (takeRefs F.ref es ds ρ).bind fun (xs, ρ1) => (F.run xs).bind fun (r, os) => (giveRefs F.ref es os ρ1).map fun ρ2 => (r, ρ2)
  | none => none
/-- arguments by keywords: for each parameter the place of its value -/
def permV {α : Type} (ord : List Nat) (xs : List α) : Option (List α) := ord.mapM fun j => xs[j]?
def callPure (Φ : Cf) (f : Nat) (xs : List DO) : Option DO :=
  match Φ.fn[f]? with
  | some F => if F.ref.all (!·) then (F.run xs).map (·.1) else none
  | none => none
/-- a comprehension's turns -/
def compGo (body : PyData → Rho → Option (Option PyData × Rho)) : List PyData → List PyData → Rho → Option (List PyData × Rho)
  | [], acc, ρ => some (acc, ρ)
  | x :: xs, acc, ρ => (body x ρ).bind fun (y, ρ1) => match y with
    | none => compGo body xs acc ρ1
    | some d => if acc.length < sizeLine then compGo body xs (acc ++ [d]) ρ1 else none
/-- a text's signs -/
def signsD (x : Str) : List PyData := x.cps.toList.map fun c => .str ⟨#[c]⟩
def enumFrom (i : Int) : List PyData → List PyData
  | [] => []
  | d :: ds => .tuple [.int i, d] :: enumFrom (i + 1) ds
def zipD : List PyData → List PyData → List PyData
  | x :: xs, y :: ys => .tuple [x, y] :: zipD xs ys
  | _, _ => []

def ownL : Slot → Bool
  | some (.list _, .l) => true
  | _ => false
def ownG : Slot → Bool
  | some (.list [.list _, .int _], .g) => true
  | _ => false
def isVar : E → Rho → Bool
  | .var i, ρ => (ρ.at i).isSome
  | _, _ => false
/-! ### expressions -/
mutual
def ev (Φ : Cf) (pk : Bool) : E → Rho → Option (DO × Rho)
  | .var i, ρ => match ρ.at i with
    | some (d, o) => if pk then some ((d, o), ρ) else some ((d, .f), ρ.set i (some (d, .f)))
    | none => none
  | .lit d, ρ => some ((d, .f), ρ)
  | .cst i, ρ => (Φ.cs[i]?).map fun d => ((d, .f), ρ)
  | .bin o a b, ρ => (ev Φ (b.quiet Φ) a ρ).bind fun (x, ρ1) => (ev Φ true b ρ1).bind fun (y, ρ2) => (binSem o x y).map fun z => (z, ρ2)
  | .neg a, ρ => (ev Φ true a ρ).bind fun (x, ρ1) => match x.1 with
    | .int i => some ((.int (-i), .f), ρ1)
    | _ => none
  | .cmp o a b, ρ => (ev Φ (b.quiet Φ) a ρ).bind fun (x, ρ1) => (ev Φ true b ρ1).bind fun (y, ρ2) => (cmpSem o x y).map fun z => ((.bool z, .f), ρ2)
  | .cmp2 o o' a b c, ρ => (ev Φ (b.quiet Φ) a ρ).bind fun (x, ρ1) => (ev Φ (c.quiet Φ) b ρ1).bind fun (y, ρ2) => (cmpSem o x y).bind fun k =>
      if k then (ev Φ true c ρ2).bind fun (z, ρ3) => (cmpSem o' y z).map fun w => ((.bool w, .f), ρ3) else some ((.bool false, .f), ρ2)
  | .not_ a, ρ => (ev Φ true a ρ).bind fun (x, ρ1) => match x.1 with
    | .bool b => some ((.bool (!b), .f), ρ1)
    | _ => none
  | .and_ a b, ρ => (ev Φ true a ρ).bind fun (x, ρ1) => match x.1 with
    | .bool true => ev Φ pk b ρ1
    | .bool false => some ((.bool false, .f), ρ1)
    | _ => none
  | .or_ a b, ρ => (ev Φ true a ρ).bind fun (x, ρ1) => match x.1 with
    | .bool false => ev Φ pk b ρ1
    | .bool true => some ((.bool true, .f), ρ1)
    | _ => none
  | .ite c a b, ρ => (ev Φ true c ρ).bind fun (x, ρ1) => match x.1 with
    | .bool true => ev Φ pk a ρ1
    | .bool false => ev Φ pk b ρ1
    | _ => none
  | .truth a, ρ => (ev Φ true a ρ).bind fun (x, ρ1) => (truthSem x.1).map fun b => ((.bool b, .f), ρ1)
  | .tup es, ρ => (evs Φ es ρ).bind fun (xs, ρ1) => chk (xs.length ≤ sizeLine) ((.tuple (xs.map (·.1)), .f), ρ1)
  | .lst es, ρ => (evs Φ es ρ).bind fun (xs, ρ1) => chk (xs.length ≤ sizeLine) ((.list (xs.map (·.1)), .l), ρ1)
  | .idx a i, ρ => (ev Φ (i.quiet Φ) a ρ).bind fun (x, ρ1) => (ev Φ true i ρ1).bind fun (y, ρ2) => (idxSem x y).bind fun z => if pk then some (z, ρ2) else (match z with
    | (d, .f) => some ((d, .f), ρ2)
    | _ => none)
  | .slice a lo hi, ρ => (ev Φ (lo.quiet Φ && hi.quiet Φ) a ρ).bind fun (x, ρ1) => (ev Φ true lo ρ1).bind fun (y, ρ2) => (ev Φ true hi ρ2).bind fun (z, ρ3) =>
      (partE lo y.1).bind fun l => (partE hi z.1).bind fun h => (sliceSem x l h).map fun w => (w, ρ3)
  | .rev a, ρ => (ev Φ true a ρ).bind fun (x, ρ1) => (revSem x).map fun w => (w, ρ1)
  | .call f args, ρ => (evc Φ (Φ.mask f) args ρ).bind fun (xs, ρ1) => callSem Φ f args xs ρ1
  | .callK f ord args kws, ρ => (evs Φ args ρ).bind fun (xs, ρ1) => (evs Φ kws ρ1).bind fun (ys, ρ2) => (permV ord (xs ++ ys)).bind fun zs => (callPure Φ f zs).map fun r => (r, ρ2)
  | .bi b args, ρ => (evp Φ args ρ).bind fun (xs, ρ1) => (biSem b xs).map fun w => (w, ρ1)
  | .meth m a args, ρ => (ev Φ (quiets Φ args) a ρ).bind fun (x, ρ1) => (evp Φ args ρ1).bind fun (xs, ρ2) => (meSem m x xs).map fun w => (w, ρ2)
  | .mut m i args, ρ => if ownL (ρ.at i) = false then none else (evs Φ args ρ).bind fun (xs, ρ1) => match ρ1.at i with
    | some (.list ds, .l) => (muSem m ds (xs.map (·.1))).map fun (r, ds') => ((r, .f), ρ1.set i (some (.list ds', .l)))
    | _ => none
  | .gmut m i args, ρ => if (ownG (ρ.at i) && quiets Φ args) = false then none else (evs Φ args ρ).bind fun (xs, ρ1) => match ρ1.at i with
    | some (.list [.list ds, .int n], .g) => (muSem m ds (xs.map (·.1))).bind fun (r, ds') => (intsOf ds').map fun _ => ((r, .f), ρ1.set i (some (.list [.list ds', .int n], .g)))
    | _ => none
  | .deal a b, ρ => (ev Φ false a ρ).bind fun (x, ρ1) => (ev Φ true b ρ1).bind fun (y, ρ2) => match x, y.1 with
    | (.list ds, .l), .int n => (intsOf ds).map fun _ => ((.list [.list ds, .int n], .g), ρ2)
    | _, _ => none
  | .comp elt t it c own, ρ => (evIt Φ it ρ).bind fun (xs, ρ1) =>
      (compGo (fun x ρ => (bindT t x ρ).bind fun ρ2 => (ev Φ true c ρ2).bind fun (k, ρ3) => match k.1 with
        | .bool true => (ev Φ false elt ρ3).map fun (y, ρ4) => (some y.1, wipeR ρ4 own)
        | .bool false => some (none, wipeR ρ3 own)
        | _ => none) xs [] (wipeR ρ1 own)).map fun (ys, ρ5) => ((.list ys, .l), ρ5)
/-- values that are kept: what they are is frozen -/
def evs (Φ : Cf) : List E → Rho → Option (List DO × Rho)
  | [], ρ => some ([], ρ)
  | e :: es, ρ => (ev Φ false e ρ).bind fun (x, ρ1) => (evs Φ es ρ1).map fun (xs, ρ2) => ((x.1, .f) :: xs, ρ2)
/-- a call's values: a name that is handed on by reference is not looked at yet -/
def evc (Φ : Cf) : List Bool → List E → Rho → Option (List DO × Rho)
  | _, [], ρ => some ([], ρ)
  | bs, e :: es, ρ => if bs.headD false then (if isVar e ρ then (evc Φ bs.tail es ρ).map fun (xs, ρ2) => ((.none, .f) :: xs, ρ2) else none)
      else (ev Φ false e ρ).bind fun (x, ρ1) => (evc Φ bs.tail es ρ1).map fun (xs, ρ2) => ((x.1, .f) :: xs, ρ2)
/-- values that are looked at -/
def evp (Φ : Cf) : List E → Rho → Option (List DO × Rho)
  | [], ρ => some ([], ρ)
  | e :: es, ρ => (ev Φ (quiets Φ es) e ρ).bind fun (x, ρ1) => (evp Φ es ρ1).map fun (xs, ρ2) => (x :: xs, ρ2)
/-- what is walked; a list that is walked is frozen -/
def evIt (Φ : Cf) : It → Rho → Option (List PyData × Rho)
  | .seq e, ρ => (ev Φ false e ρ).bind fun (x, ρ1) => (match x.1 with
    | .list ds => some ds
    | .tuple ds => some ds
    | _ => none).map fun ds => (ds, ρ1)
  | .range a b, ρ => (ev Φ true a ρ).bind fun (x, ρ1) => (ev Φ true b ρ1).bind fun (y, ρ2) => match x.1, y.1 with
    | .int i, .int j => if small62 i && small62 j then some (rangeD i (j - i).toNat, ρ2) else none
    | _, _ => none
  | .range3 a b c, ρ => none
  | .enum e, ρ => (ev Φ false e ρ).bind fun (x, ρ1) => match x.1 with
    | .list ds => some (enumFrom 0 ds, ρ1)
    | .tuple ds => some (enumFrom 0 ds, ρ1)
    | .str z => some (enumFrom 0 (signsD z), ρ1)
    | _ => none
  | .zip a b, ρ => (ev Φ false a ρ).bind fun (x, ρ1) => (ev Φ false b ρ1).bind fun (y, ρ2) => match x.1, y.1 with
    | .list xs, .list ys => some (zipD xs ys, ρ2)
    | _, _ => none
end

/-! ### statements -/
def forGo (body : PyData → Rho → Option (Fl × Rho)) : List PyData → Rho → Option (Fl × Rho)
  | [], ρ => some (.nx, ρ)
  | x :: xs, ρ => (body x ρ).bind fun (f, ρ1) => match f with
    | .nx => forGo body xs ρ1
    | .ct => forGo body xs ρ1
    | .bk => some (.nx, ρ1)
    | .rt r => some (.rt r, ρ1)
def whileGo (body : Rho → Option (Option Fl × Rho)) : Nat → Rho → Option (Fl × Rho)
  | 0, _ => none
  | n + 1, ρ => (body ρ).bind fun (f, ρ1) => match f with
    | none => some (.nx, ρ1)
    | some .nx => whileGo body n ρ1
    | some .ct => whileGo body n ρ1
    | some .bk => some (.nx, ρ1)
    | some (.rt r) => some (.rt r, ρ1)
def setParR : List Nat → List DO → Rho → Option Rho
  | [], [], ρ => some ρ
  | i :: is, x :: xs, ρ => if i < ρ.length then setParR is xs (ρ.set i (some x)) else none
  | _, _, _ => none
/-- values that go into names -/
def evm (Φ : Cf) : List E → Rho → Option (List DO × Rho)
  | [], ρ => some ([], ρ)
  | e :: es, ρ => (ev Φ false e ρ).bind fun (x, ρ1) => (evm Φ es ρ1).map fun (xs, ρ2) => (x :: xs, ρ2)
/-- refs: the slots that the def's caller sees -/
def noRef (refs : List Nat) (i : Nat) : Bool := !refs.contains i
mutual
def T.free (refs : List Nat) : T → Bool
  | .name i => noRef refs i
  | .tup ts => Ts.free refs ts
def Ts.free (refs : List Nat) : List T → Bool
  | [] => true
  | t :: ts => t.free refs && Ts.free refs ts
end
mutual
def evS (Φ : Cf) (refs : List Nat) : S → Rho → Option (Fl × Rho)
  | .expr e, ρ => (ev Φ true e ρ).map fun (_, ρ1) => (.nx, ρ1)
  | .set i e, ρ => (ev Φ false e ρ).bind fun (x, ρ1) => if i < ρ1.length ∧ noRef refs i = true then some (.nx, ρ1.set i (some x)) else none
  | .setT t e, ρ => (ev Φ false e ρ).bind fun (x, ρ1) => if t.free refs then (bindT t x.1 ρ1).map fun ρ2 => (.nx, ρ2) else none
  | .par is es, ρ => (evm Φ es ρ).bind fun (xs, ρ1) => if is.all (noRef refs) then (setParR is xs ρ1).map fun ρ2 => (.nx, ρ2) else none
  | .setI x i e, ρ => (ev Φ false e ρ).bind fun (y, ρ1) => if (ownL (ρ1.at x) || ownG (ρ1.at x)) = false then none else (ev Φ true i ρ1).bind fun (k, ρ2) => match ρ2.at x, k.1 with
    | some (.list ds, .l), .int n => (ixN ds.length n).map fun j => (.nx, ρ2.set x (some (.list (ds.set j y.1), .l)))
    | some (.list [.list ds, .int m], .g), .int n => match y.1 with
      | .int v => if n = 1 then some (.nx, ρ2.set x (some (.list [.list ds, .int v], .g))) else none
      | _ => none
    | _, _ => none
  | .ret e, ρ => (ev Φ false e ρ).map fun (x, ρ1) => (.rt x, ρ1)
  | .retv i, ρ => match ρ.at i with
    | some x => if noRef refs i then some (.rt x, ρ.set i none) else none
    | none => none
  | .retN, ρ => some (.rt (.none, .f), ρ)
  | .ite c a b, ρ => (ev Φ true c ρ).bind fun (x, ρ1) => match x.1 with
    | .bool true => evSs Φ refs a ρ1
    | .bool false => evSs Φ refs b ρ1
    | _ => none
  | .while_ c b, ρ => whileGo (fun ρ => (ev Φ true c ρ).bind fun (x, ρ1) => match x.1 with
    | .bool true => (evSs Φ refs b ρ1).map fun (f, ρ2) => (some f, ρ2)
    | .bool false => some (none, ρ1)
    | _ => none) Φ.W ρ
  | .for_ t it b, ρ => (evIt Φ it ρ).bind fun (xs, ρ1) => if t.free refs then forGo (fun x ρ => (bindT t x ρ).bind fun ρ2 => evSs Φ refs b ρ2) xs ρ1 else none
  | .pass, ρ => some (.nx, ρ)
  | .brk, ρ => some (.bk, ρ)
  | .cont, ρ => some (.ct, ρ)
def evSs (Φ : Cf) (refs : List Nat) : List S → Rho → Option (Fl × Rho)
  | [], ρ => some (.nx, ρ)
  | s :: ss, ρ => (evS Φ refs s ρ).bind fun (f, ρ1) => match f with
    | .nx => evSs Φ refs ss ρ1
    | f => some (f, ρ1)
end
/-- a def's code -/
structure Code where
  np : Nat
  nl : Nat
  ref : List Bool
  body : List S
def refsOf : Nat → List Bool → List Nat
  | _, [] => []
  | i, true :: r => i :: refsOf (i + 1) r
  | i, false :: r => refsOf (i + 1) r
def outsOf : List Bool → Rho → List Slot
  | [], _ => []
  | true :: bs, s :: ρ => s :: outsOf bs ρ
  | false :: bs, _ :: ρ => none :: outsOf bs ρ
  | _ :: bs, [] => none :: outsOf bs []
def Code.run (Φ : Cf) (c : Code) (args : List DO) : Option (DO × List Slot) :=
  (evSs Φ (refsOf 0 c.ref) c.body (args.map some ++ List.replicate (c.nl - c.np) none)).bind fun (f, ρ) => match f with
    | .rt r => some (r, outsOf c.ref ρ)
    | .nx => some ((.none, .f), outsOf c.ref ρ)
    | _ => none
end Ev
namespace Ev
open PySem
def tcode : Code := ⟨1, 2, [false], [.set 1 (.bin .add (.var 0) (.lit (.int 1))), .ret (.tup [.var 1, .var 0])]⟩
example (Φ : Cf) (n : Int) : tcode.run Φ [(.int n, .f)] = some ((.tuple [.int (n + 1), .int n], .f), [none]) := by rfl
end Ev
/-! Ev 3: what an evaluation leaves; names, constants, operators. -/
namespace Ev
open PySem PySem.Spec L2

section
variable {K : PySem.W.Frag} {σ : L2.St}
/-- from the state (H, Z, Ls) to (ρ', H', Z', Ls') -/
structure Mid (K : PySem.W.Frag) (σ : L2.St) (q : Bool) (H : Hp) (Z : PS1) (Ls : Nat → PS1) (ρ' : Rho) (H' : Hp) (Z' : PS1) (Ls' : Nat → PS1) : Prop where
  den : Den K H' Z' σ ρ' Ls'
  own : Own H' Z' Ls'
  stp : Stp H Z (LL Ls) H' Z'
  same : q = true → Same H H'
  new : ∀ a, LL Ls' a → LL Ls a ∨ H a = none
def putL (Ls : Nat → PS1) (i : Nat) (P : PS1) : Nat → PS1 := fun j a => if j = i then P a else Ls j a
theorem putL_same {Ls : Nat → PS1} {i : Nat} {P : PS1} {a : Addr} : putL Ls i P i a = P a := by unfold putL; rw [if_pos rfl]
theorem putL_ne {Ls : Nat → PS1} {i j : Nat} {P : PS1} {a : Addr} (h : j ≠ i) : putL Ls i P j a = Ls j a := by unfold putL; rw [if_neg h]
/-- what a value owns stands apart -/
structure Exc (H : Hp) (Ls : Nat → PS1) (P : PS1) (H' : Hp) (Z' : PS1) (Ls' : Nat → PS1) : Prop where
  z : ∀ a, P a → Z' a
  tr : ∀ a, P a → ∃ o, H' a = some o
  dis : ∀ a, P a → ¬ LL Ls' a
  new : ∀ a, P a → LL Ls a ∨ H a = none
def noP : PS1 := fun _ => False
theorem Exc.none {H H' : Hp} {Z' : PS1} {Ls Ls' : Nat → PS1} : Exc H Ls noP H' Z' Ls' := ⟨fun _ h => h.elim, fun _ h => h.elim, fun _ h => h.elim, fun _ h => h.elim⟩
theorem Same.rfl' {H : Hp} : Same H H := fun _ _ h => h
theorem Mid.refl {q : Bool} {H : Hp} {Z : PS1} {Ls : Nat → PS1} {ρ : Rho} (d : Den K H Z σ ρ Ls) (o : Own H Z Ls) : Mid K σ q H Z Ls ρ H Z Ls :=
  ⟨d, o, .refl, fun _ => Same.rfl', fun _ h => .inl h⟩
theorem Own.ll {H : Hp} {Z : PS1} {Ls : Nat → PS1} (o : Own H Z Ls) : ∀ a, LL Ls a → Z a := fun a ⟨i, h⟩ => o.z i a h
theorem Own.lt {H : Hp} {Z : PS1} {Ls : Nat → PS1} (o : Own H Z Ls) : ∀ a, LL Ls a → ∃ u, H a = some u := fun a ⟨i, h⟩ => o.tr i a h
theorem Mid.trans {q1 q2 q : Bool} {H H1 H2 : Hp} {Z Z1 Z2 : PS1} {Ls Ls1 Ls2 : Nat → PS1} {ρ1 ρ2 : Rho} (a : Mid K σ q1 H Z Ls ρ1 H1 Z1 Ls1) (b : Mid K σ q2 H1 Z1 Ls1 ρ2 H2 Z2 Ls2) (hq : q = true → q1 = true ∧ q2 = true) : Mid K σ q H Z Ls ρ2 H2 Z2 Ls2 where
  den := b.den
  own := b.own
  stp := a.stp.trans b.stp fun x o h l => (a.new x l).resolve_right fun z => by rw [h] at z; cases z
  same := fun z => by
    obtain ⟨h1, h2⟩ := hq z
    exact fun x o h => b.same h2 x o (a.same h1 x o h)
  new := fun x l => by
    rcases b.new x l with h | h
    · exact a.new x h
    · refine .inr ?_
      cases e : H x with
      | none => rfl
      | some o =>
        obtain ⟨o', h'⟩ := a.stp.dom x o e
        rw [h] at h'; cases h'
/-- a value of ahead still stands -/
theorem Mid.rep {q : Bool} {H1 H2 H : Hp} {Z1 Z2 P : PS1} {Ls Ls1 Ls2 : Nat → PS1} {ρ2 : Rho} {v : V} {d : PyData} {o : O} (b : Mid K σ q H1 Z1 Ls1 ρ2 H2 Z2 Ls2) (own : Own H1 Z1 Ls1) (r : Rep K H1 Z1 P v d o)
    (h : q = true ∨ Exc H Ls P H1 Z1 Ls1) : Rep K H2 Z2 P v d o := by
  refine r.keep (b.stp.fk own.ll) (fun a u p e => ?_) fun _ p => p
  rcases h with h | h
  · exact b.same h a u e
  · exact b.stp.keep a u e (h.dis a p)
theorem Mid.fz {q : Bool} {H1 H2 : Hp} {Z1 Z2 : PS1} {Ls1 Ls2 : Nat → PS1} {ρ2 : Rho} {v : V} {d : PyData} (b : Mid K σ q H1 Z1 Ls1 ρ2 H2 Z2 Ls2) (own : Own H1 Z1 Ls1) (r : Fz K H1 Z1 v d) : Fz K H2 Z2 v d := r.keep (b.stp.fk own.ll)
theorem Mid.fzAll {q : Bool} {H1 H2 : Hp} {Z1 Z2 : PS1} {Ls1 Ls2 : Nat → PS1} {ρ2 : Rho} {v : List V} {d : List PyData} (b : Mid K σ q H1 Z1 Ls1 ρ2 H2 Z2 Ls2) (own : Own H1 Z1 Ls1) (r : FzAll K H1 Z1 v d) : FzAll K H2 Z2 v d := r.keep (b.stp.fk own.ll)
/-- what the value owned is nobody's any more -/
theorem Mid.freeze {q : Bool} {H H1 : Hp} {Z Z1 P : PS1} {Ls Ls1 : Nat → PS1} {ρ1 : Rho} (m : Mid K σ q H Z Ls ρ1 H1 Z1 Ls1) (x : Exc H Ls P H1 Z1 Ls1) : Mid K σ q H Z Ls ρ1 H1 (fun a => Z1 a ∧ ¬ P a) Ls1 where
  den := fun i d o e => by
    obtain ⟨v, h, r⟩ := m.den i d o e
    exact ⟨v, h, r.keep (fun a u h n => ⟨h, fun z => n z.1⟩) (fun _ _ _ h => h) fun _ p => p⟩
  own := ⟨m.own.dis, fun i a h => ⟨m.own.z i a h, fun p => x.dis a p ⟨i, h⟩⟩, m.own.tr⟩
  stp := ⟨m.stp.keep, fun a o h n z => m.stp.fz a o h n z.1, fun a o h z n => ⟨m.stp.own a o h z n, fun p => (x.new a p).elim n fun e => by rw [h] at e; cases e⟩, m.stp.dom⟩
  same := m.same
  new := m.new
/-- a new thing is laid: frozen -/
theorem Mid.laid {q : Bool} {H H1 : Hp} {Z Z1 : PS1} {Ls Ls1 : Nat → PS1} {ρ1 : Rho} {p : Addr} {o : HO} (m : Mid K σ q H Z Ls ρ1 H1 Z1 Ls1) (hp : H1 p = none) : Mid K σ q H Z Ls ρ1 (upd H1 p o) (fun a => Z1 a ∧ a ≠ p) Ls1 where
  den := fun i d o' e => by
    obtain ⟨v, h, r⟩ := m.den i d o' e
    refine ⟨v, h, r.keep (fun a u h n => ⟨by rw [upd_ne (ne_of_none h hp)]; exact h, fun z => n z.1⟩) (fun a u _ h => by rw [upd_ne (ne_of_none h hp)]; exact h) fun _ p => p⟩
  own := ⟨m.own.dis, fun i a h => ⟨m.own.z i a h, fun e => by
    obtain ⟨u, hu⟩ := m.own.tr i a h
    rw [e, hp] at hu; cases hu⟩, fun i a h => by
    obtain ⟨u, hu⟩ := m.own.tr i a h
    exact ⟨u, by rw [upd_ne (ne_of_none hu hp)]; exact hu⟩⟩
  stp := ⟨fun a u h n => by
      have := m.stp.keep a u h n
      rw [upd_ne (ne_of_none this hp)]; exact this,
    fun a u h n z => m.stp.fz a u h n z.1, fun a u h z n => ⟨m.stp.own a u h z n, fun e => by
      have := m.stp.keep a u h n
      rw [e, hp] at this; cases this⟩, fun a u h => by
      obtain ⟨u', h'⟩ := m.stp.dom a u h
      exact ⟨u', by rw [upd_ne (ne_of_none h' hp)]; exact h'⟩⟩
  same := fun z a u h => by
    have := m.same z a u h
    rw [upd_ne (ne_of_none this hp)]; exact this
  new := m.new
/-- .. owned by the value -/
theorem Mid.laidO {q : Bool} {H H1 : Hp} {Z Z1 : PS1} {Ls Ls1 : Nat → PS1} {ρ1 : Rho} {p : Addr} {o : HO} (m : Mid K σ q H Z Ls ρ1 H1 Z1 Ls1) (hp : H1 p = none) :
    Mid K σ q H Z Ls ρ1 (upd H1 p o) (fun a => Z1 a ∨ a = p) Ls1 ∧ Exc H Ls (fun a => a = p) (upd H1 p o) (fun a => Z1 a ∨ a = p) Ls1 := by
  have hn : H p = none := by
    cases e : H p with
    | none => rfl
    | some u =>
      obtain ⟨u', h'⟩ := m.stp.dom p u e
      rw [hp] at h'; cases h'
  have np : ∀ {a u}, H1 a = some u → a ≠ p := fun h => ne_of_none h hp
  refine ⟨⟨fun i d o' e => ?_, ⟨m.own.dis, fun i a h => .inl (m.own.z i a h), fun i a h => ?_⟩, ⟨fun a u h n => ?_, fun a u h n z => ?_, fun a u h z n => .inl (m.stp.own a u h z n), fun a u h => ?_⟩, fun z a u h => ?_, m.new⟩,
    ⟨fun a e => .inr e, fun a e => ⟨o, by rw [e, upd_same]⟩, fun a e l => ?_, fun a e => .inr (by rw [e]; exact hn)⟩⟩
  · obtain ⟨v, h, r⟩ := m.den i d o' e
    exact ⟨v, h, r.keep (fun a u h n => ⟨by rw [upd_ne (np h)]; exact h, fun z => z.elim n (np h)⟩) (fun a u _ h => by rw [upd_ne (np h)]; exact h) fun _ p => p⟩
  · obtain ⟨u, hu⟩ := m.own.tr i a h
    exact ⟨u, by rw [upd_ne (np hu)]; exact hu⟩
  · have := m.stp.keep a u h n
    rw [upd_ne (np this)]; exact this
  · rcases z with z | z
    · exact m.stp.fz a u h n z
    · rw [z, hn] at h; cases h
  · obtain ⟨u', h'⟩ := m.stp.dom a u h
    exact ⟨u', by rw [upd_ne (np h')]; exact h'⟩
  · have := m.same z a u h
    rw [upd_ne (np this)]; exact this
  · obtain ⟨i, l⟩ := l
    obtain ⟨u, hu⟩ := m.own.tr i a l
    exact np hu e
end

/-- what an expression leaves -/
def EPost (K : PySem.W.Frag) (σ : L2.St) (q pk : Bool) (H : Hp) (Z : PS1) (Ls : Nat → PS1) (r : DO) (ρ' : Rho) (v : V) (H' : Hp) : Prop :=
  ∃ Z' P Ls', Mid K σ q H Z Ls ρ' H' Z' Ls' ∧ Rep K H' Z' P v r.1 r.2 ∧ (pk = false → Exc H Ls P H' Z' Ls')
/-- an expression's reading -/
def TEv (K : PySem.W.Frag) (q pk : Bool) (f : Rho → Option (DO × Rho)) : TE := fun σ H Q => ∃ Z Ls ρ r ρ', Den K H Z σ ρ Ls ∧ Own H Z Ls ∧ f ρ = some (r, ρ') ∧ ∀ v H', EPost K σ q pk H Z Ls r ρ' v H' → Q v H'
def TTv (K : PySem.W.Frag) (q : Bool) (f : Rho → Option (DO × Rho)) : TT := fun σ H Q => ∃ Z Ls ρ b o ρ', Den K H Z σ ρ Ls ∧ Own H Z Ls ∧ f ρ = some ((.bool b, o), ρ') ∧ ∀ H' Z' Ls', Mid K σ q H Z Ls ρ' H' Z' Ls' → Q b H'
def JE (X : Cx) (Φ : Cf) (e : Expr) (c : E) : Prop := ∀ pk, PE X e (TEv X.K (c.quiet Φ) pk (ev Φ pk c))
def JT (X : Cx) (Φ : Cf) (e : Expr) (c : E) : Prop := PT X e (TTv X.K (c.quiet Φ) (ev Φ true c))

theorem PE.weak {X : Cx} {e : Expr} {t t' : TE} (h : PE X e t) (w : ∀ σ H Q, t' σ H Q → t σ H Q) : PE X e t' := ⟨fun pins s σ H Q I q => h.run pins s σ H Q I (w σ H Q q)⟩
theorem PT.weak {X : Cx} {e : Expr} {t t' : TT} (h : PT X e t) (w : ∀ σ H Q, t' σ H Q → t σ H Q) : PT X e t' := ⟨fun pins s σ H Q I q => h.run pins s σ H Q I (w σ H Q q)⟩
theorem PC.weak {X : Cx} {op : CmpOp} {a b : Expr} {t t' : TE} (h : PC X op a b t) (w : ∀ σ H Q, t' σ H Q → t σ H Q) : PC X op a b t' := ⟨fun pins s σ H Q I q => h.run pins s σ H Q I (w σ H Q q)⟩

section
variable {X : Cx} {Φ : Cf} {K : PySem.W.Frag} {σ : L2.St}
theorem at_some {ρ : Rho} {i : Nat} {x : DO} (h : ρ.at i = some x) : ρ[i]? = some (some x) := by
  unfold Rho.at at h
  cases e : ρ[i]? with
  | none => rw [e] at h; cases h
  | some y => rw [e] at h; rw [show y = some x from h]
/-- a slot's thing is frozen -/
theorem Den.frozen {q : Bool} {H : Hp} {Z : PS1} {Ls : Nat → PS1} {ρ : Rho} {i : Nat} {d : PyData} {o : O} (den : Den K H Z σ ρ Ls) (own : Own H Z Ls) (e1 : ρ[i]? = some (some (d, o))) :
    Mid K σ q H Z Ls (ρ.set i (some (d, .f))) H (fun a => Z a ∧ ¬ Ls i a) (putL Ls i noP) := by
  obtain ⟨v, hv, rep⟩ := den i d o e1
  refine ⟨fun j d' o' e' => ?_, ⟨fun j j' a h h' => ?_, fun j a h => ?_, fun j a h => ?_⟩, ⟨fun _ _ h _ => h, fun _ _ _ n z => n z.1, fun a _ _ z n => ⟨z, fun l => n ⟨i, l⟩⟩, fun _ o h => ⟨o, h⟩⟩, fun _ => Same.rfl', fun a ⟨j, h⟩ => ?_⟩
  · by_cases hj : j = i
    · subst hj
      have hl : j < ρ.length := (List.getElem?_eq_some_iff.mp e1).1
      rw [List.getElem?_set_self hl] at e'
      cases e'
      exact ⟨v, hv, .fz rep.freeze⟩
    · rw [List.getElem?_set_ne (Ne.symm hj)] at e'
      obtain ⟨v', hv', r'⟩ := den j d' o' e'
      refine ⟨v', hv', r'.keep (fun a u h n => ⟨h, fun z => n z.1⟩) (fun _ _ _ h => h) fun a p => ?_⟩
      rw [putL_ne hj]; exact p
  · by_cases hj : j = i
    · rw [hj, putL_same] at h; exact h.elim
    · by_cases hj' : j' = i
      · rw [hj', putL_same] at h'; exact h'.elim
      · rw [putL_ne hj] at h; rw [putL_ne hj'] at h'; exact own.dis j j' a h h'
  · by_cases hj : j = i
    · rw [hj, putL_same] at h; exact h.elim
    · rw [putL_ne hj] at h
      exact ⟨own.z j a h, fun l => hj (own.dis j i a h l)⟩
  · by_cases hj : j = i
    · rw [hj, putL_same] at h; exact h.elim
    · rw [putL_ne hj] at h; exact own.tr j a h
  · by_cases hj : j = i
    · rw [hj, putL_same] at h; exact h.elim
    · rw [putL_ne hj] at h; exact .inl ⟨j, h⟩
/-- a scalar's end -/
theorem post_fz {q pk : Bool} {H H' : Hp} {Z Z' : PS1} {Ls Ls' : Nat → PS1} {d : PyData} {ρ' : Rho} {v : V} (m : Mid K σ q H Z Ls ρ' H' Z' Ls') (h : Fz K H' Z' v d) : EPost K σ q pk H Z Ls (d, .f) ρ' v H' :=
  ⟨Z', noP, Ls', m, .fz h, fun _ => .none⟩
theorem post_tup {q pk : Bool} {H H' : Hp} {Z Z' : PS1} {Ls Ls' : Nat → PS1} {ds : List PyData} {ρ' : Rho} {vs : List V} {p : Addr} (m : Mid K σ q H Z Ls ρ' H' Z' Ls') (h : FzAll K H' Z' vs ds) (hp : H' p = none) :
    EPost K σ q pk H Z Ls (.tuple ds, .f) ρ' (.ref p) (upd H' p (.tup vs)) := by
  refine ⟨_, noP, Ls', m.laid hp, .fz (.tup (.inl ⟨.inl upd_same, fun z => z.2 rfl⟩) ?_), fun _ => .none⟩
  exact h.keep fun a u e n => ⟨by rw [upd_ne (ne_of_none e hp)]; exact e, fun z => n z.1⟩
theorem post_lst {q pk : Bool} {H H' : Hp} {Z Z' : PS1} {Ls Ls' : Nat → PS1} {ds : List PyData} {ρ' : Rho} {vs : List V} {p : Addr} (m : Mid K σ q H Z Ls ρ' H' Z' Ls') (h : FzAll K H' Z' vs ds) (hp : H' p = none) :
    EPost K σ q pk H Z Ls (.list ds, .l) ρ' (.ref p) (upd H' p (.lst vs)) := by
  obtain ⟨m', x⟩ := m.laidO (o := .lst vs) hp
  refine ⟨_, fun a => a = p, Ls', m', .l upd_same ?_ rfl, fun _ => x⟩
  exact h.keep fun a u e n => ⟨by rw [upd_ne (ne_of_none e hp)]; exact e, fun z => z.elim n fun w => absurd w (ne_of_none e hp)⟩

/-! ### names, constants -/
theorem je_var {i : Nat} {x : Str} {pos : Pos} (hN : X.N[i]? = some x) (hv : Vis X.env.scope x) (hd : (x == ("__debug__" : Str)) = false) (hcd : (x == ("__classdict__" : Str)) = false) : JE X Φ (.Name x pos) (.var i) := by
  intro pk
  refine PE.weak (pe_var hN hv hd hcd) fun σ H Q ⟨Z, Ls, ρ, r, ρ', den, own, e, k⟩ => ?_
  simp only [ev] at e
  cases e1 : ρ.at i with
  | none => rw [e1] at e; cases e
  | some x =>
    obtain ⟨d, o⟩ := x
    rw [e1] at e
    obtain ⟨v, hv, rep⟩ := den i d o (at_some e1)
    refine ⟨v, hv, k v H ?_⟩
    cases pk with
    | true => cases e; exact ⟨Z, Ls i, Ls, .refl den own, rep, fun z => by cases z⟩
    | false =>
      cases e
      refine ⟨fun a => Z a ∧ ¬ Ls i a, noP, putL Ls i noP, den.frozen own (at_some e1), .fz rep.freeze, fun _ => .none⟩
theorem je_const {e : Expr} {v : V} {d : PyData} (h : PE X e (tC v)) (hd : ∀ H Z, Fz X.K H Z v d) : JE X Φ e (.lit d) := by
  intro pk
  refine PE.weak h fun σ H Q ⟨Z, Ls, ρ, r, ρ', den, own, e, k⟩ => ?_
  simp only [ev] at e
  cases e
  exact k v H (post_fz (.refl den own) (hd _ _))
theorem je_int {i j pos} : JE X Φ (.Constant (.int i) j pos) (.lit (.int i)) := je_const pe_int fun _ _ => .int i
theorem je_bool {i j pos} : JE X Φ (.Constant (.bool i) j pos) (.lit (.bool i)) := je_const pe_bl fun _ _ => .bl i
theorem je_str {i j pos} : JE X Φ (.Constant (.str i) j pos) (.lit (.str i)) := je_const pe_str fun _ _ => .str i
theorem je_none {j pos} : JE X Φ (.Constant .none j pos) (.lit .none) := je_const pe_non fun _ _ => .non
/-- a module's constant -/
theorem je_cst {i : Nat} {x : Str} {v : V} {u : Value} {d : PyData} {pos : Pos} (hg : Gl X x) (hm : X.mg x = some u) (r : RelV v u) (hd : (x == ("__debug__" : Str)) = false) (hc : Φ.cs[i]? = some d) (hf : ∀ H Z, Fz X.K H Z v d) : JE X Φ (.Name x pos) (.cst i) := by
  intro pk
  refine PE.weak (pe_glob hg hm r hd) fun σ H Q ⟨Z, Ls, ρ, r, ρ', den, own, e, k⟩ => ?_
  simp only [ev, hc] at e
  cases e
  exact k v H (post_fz (.refl den own) (hf _ _))

/-! ### two operands -/
theorem bind_some {α β : Type} {x : Option α} {f : α → Option β} {b : β} (h : x.bind f = some b) : ∃ a, x = some a ∧ f a = some b := Option.bind_eq_some_iff.mp h
theorem map_some {α β : Type} {x : Option α} {f : α → β} {b : β} (h : x.map f = some b) : ∃ a, x = some a ∧ f a = b := Option.map_eq_some_iff.mp h
/-- both operands have come -/
theorem two {a b : E} {ρ ρ1 ρ2 : Rho} {x y : DO} {H : Hp} {Z : PS1} {Ls : Nat → PS1} (den : Den K H Z σ ρ Ls) (own : Own H Z Ls) (ea : ev Φ (b.quiet Φ) a ρ = some (x, ρ1)) (eb : ev Φ true b ρ1 = some (y, ρ2)) {R : V → V → Hp → Prop}
    (k : ∀ v u H2 Z2 Ls2 P1 P2, Mid K σ (a.quiet Φ && b.quiet Φ) H Z Ls ρ2 H2 Z2 Ls2 → Rep K H2 Z2 P1 v x.1 x.2 → Rep K H2 Z2 P2 u y.1 y.2 → R v u H2) :
    TEv K (a.quiet Φ) (b.quiet Φ) (ev Φ (b.quiet Φ) a) σ H fun v H1 => TEv K (b.quiet Φ) true (ev Φ true b) σ H1 fun u H2 => R v u H2 := by
  refine ⟨Z, Ls, ρ, x, ρ1, den, own, ea, fun v H1 ⟨Z1, P1, Ls1, m1, r1, x1⟩ => ?_⟩
  refine ⟨Z1, Ls1, ρ1, y, ρ2, m1.den, m1.own, eb, fun u H2 ⟨Z2, P2, Ls2, m2, r2, _⟩ => ?_⟩
  refine k v u H2 Z2 Ls2 P1 P2 (m1.trans m2 fun z => by rw [Bool.and_eq_true] at z; exact z) ?_ r2
  refine m2.rep m1.own r1 (H := H) (Ls := Ls) ?_
  cases hq : b.quiet Φ with
  | true => exact .inl rfl
  | false => exact .inr (x1 hq)
theorem je_bin {op : Operator} {o : BO} {a b : Expr} {ca cb : E} {r : R2} {pos : Pos} (ho : OpR X (binaryOp op) r) (ja : JE X Φ a ca) (jb : JE X Φ b cb)
    (h : ∀ {v u : V} {x y z : DO} {q pk : Bool} {σ : L2.St} {H H2 : Hp} {Z Z2 : PS1} {Ls Ls2 : Nat → PS1} {P1 P2 : PS1} {ρ2 : Rho} {Q : VK}, binSem o x y = some z → Mid X.K σ q H Z Ls ρ2 H2 Z2 Ls2 → Rep X.K H2 Z2 P1 v x.1 x.2 → Rep X.K H2 Z2 P2 u y.1 y.2 →
      (∀ w H', EPost X.K σ q pk H Z Ls z ρ2 w H' → Q w H') → r v u H2 Q) : JE X Φ (.BinOp a op b pos) (.bin o ca cb) := by
  intro pk
  refine PE.weak (pe_op ho (ja (cb.quiet Φ)) (jb true)) fun σ H Q ⟨Z, Ls, ρ, r, ρ', den, own, e, k⟩ => ?_
  simp only [ev] at e
  obtain ⟨⟨x, ρ1⟩, ea, e⟩ := bind_some e
  obtain ⟨⟨y, ρ2⟩, eb, e⟩ := bind_some e
  obtain ⟨z, ez, e⟩ := map_some e
  cases e
  exact two den own ea eb fun v u H2 Z2 Ls2 P1 P2 m r1 r2 => h ez m r1 r2 k
end
end Ev
/-! Ev 4: operators and comparisons, by values. -/
namespace Ev
open PySem PySem.Spec L2
section
variable {X : Cx}
/-- two lists put together, whoever they belong to -/
theorem op_catS : OpR X (binaryOp .Add) (fun x y H Q => ∃ l b xs zs, x = .ref l ∧ y = .ref b ∧ SqL X.K H l xs ∧ SqL X.K H b zs ∧ xs.length + zs.length ≤ sizeLine ∧ ∀ p, H p = none → Q (.ref p) (upd H p (.lst (xs ++ zs)))) := by
  intro pins s σ H x y v u Q I rx ry h
  obtain ⟨l, b, xs, zs, rfl, rfl, hl, hb, hz, q⟩ := h
  cases rx
  cases ry
  obtain ⟨its, r, ⟨⟨c1, d1, dt1, s1⟩, n1, e1, hc1, hd1, ht1⟩, z1⟩ := I.list hl
  obtain ⟨its2, r2, ⟨⟨c2, d2, dt2, s2⟩, n2, e2, hc2, hd2, ht2⟩, z2⟩ := I.list hb
  simp only at hc1 hd1 ht1 hc2 hd2 ht2
  subst hc1 hd1 ht1 hc2 hd2 ht2
  have q1 := r.length
  have q2 := r2.length
  refine concat_meets ⟨_, e1, rfl⟩ ⟨_, e2, rfl⟩ noFill_list_add seq_list_add PySem.F.slot_list_add PySem.F.entry_list_add (PySem.F.args_list_add_2 _ _)
    (PyProof.Rows.list_addW l b its.toArray its2.toArray n1 n2 none none s1 s2 (by simp; omega)) ⟨e1, e2, ?_⟩
  have ea : its.toArray ++ its2.toArray = (its ++ its2).toArray := by simp
  rw [ea]
  exact ⟨.ref _, _, I.lnew (t' := s.toks) (r.append r2) (by rw [List.length_append]; omega), rfl, q _ I.fresh⟩
/-- what + asks -/
def rAddE (K : PySem.W.Frag) : R2 := fun x y H Q => ((rI0 fun i j => .int (i + j)) x y H Q ∨ (∃ i j, x = .str i ∧ y = .str j ∧ i.length + j.length ≤ sizeLine ∧ Q (.str (i ++ j)) H)) ∨
  (rCatA K x y H Q ∨ ∃ l b xs zs, x = .ref l ∧ y = .ref b ∧ SqL K H l xs ∧ SqL K H b zs ∧ xs.length + zs.length ≤ sizeLine ∧ ∀ p, H p = none → Q (.ref p) (upd H p (.lst (xs ++ zs))))
theorem op_addE : OpR X (binaryOp .Add) (rAddE X.K) := (op_add.or op_add_str).or (op_catA.or op_catS)
/-- a tuple times 1: itself -/
theorem tuple_mul1 (l : Addr) (items : Array Value) (n : Nat) (dd : Option Addr) (sl : Array (Option Value)) (x : Int) (u : Tok) (c0 : (decide (x < -(2 ^ 63)) || decide (x ≥ 2 ^ 63)) = false) (c1 : (items.isEmpty || x == 1) = true) :
    Meets (Builtin.«tuple.__mul__» ⟨[.ref l, .int x u], []⟩) (fun _ R s => s.heap.get? l = some { cls := .type "tuple", dict := dd, data := .seq items n, slots := sl } ∧ R (.ok (.ret (Value.ref l))) s) :=
  .of_wp fun prog w A R s h => by
    obtain ⟨hp, g, d, tk, os⟩ := s
    obtain ⟨hl, h⟩ := h
    have f1 := AutoSeq1.idx_int
    wp_walk using wpAny_loadPart' hl
    repeat (first
      | (refine wpAny_ite_false (decide_eq_false (by rw [c0]; exact Bool.false_ne_true)) ?_; wp_walk using wpAny_loadPart' hl)
      | (refine wpAny_ite_true (decide_eq_true c1) ?_; wp_walk using wpAny_loadPart' hl))
    exact ⟨_, rfl, h⟩
def rRepT1 (K : PySem.W.Frag) : R2 := fun x y H Q => ∃ l xs, x = .ref l ∧ y = .int 1 ∧ SqT K H l xs ∧ Q (.ref l) H
theorem op_repT1 : OpR X (binaryOp .Mult) (rRepT1 X.K) := by
  intro pins s σ H x y v u Q I rx ry h
  obtain ⟨l, xs, rfl, rfl, hT, q⟩ := h
  cases rx
  obtain ⟨t, rfl⟩ := ry
  obtain ⟨its, r, ⟨⟨cls, dd, data, sl⟩, ho, hc, n, hd⟩, hs⟩ := I.tuple hT
  simp only at hc hd
  subst hc hd
  refine wpAny_binaryOp_repeat_ref (T := "tuple") (U := "int") (by decide) ⟨_, ho, rfl⟩ (fun s' => typeIs_int s' 1 t) noFill_tuple_mul F.fills_int_mul F.slot_int_rmul repeat_tuple F.slot_int_index.lookup (call_meets F.slot_int_rmul (typeIs_int s 1 t) F.entry_int_rmul (F.args_int_rmul_2 _ _)
    (int_rmul_tuple 1 t l its.toArray n dd sl) ⟨ho, rfl, ⟨_, ho, rfl⟩, call_meets F.slot_tuple_mul ⟨_, ho, rfl⟩ F.entry_tuple_mul (F.args_tuple_mul_2 _ _) (tuple_mul1 l its.toArray n dd sl 1 t (by decide) (by rw [Bool.or_eq_true]; exact .inr rfl)) ⟨ho, ?_⟩⟩)
  exact ⟨.ref l, H, I, rfl, q⟩
/-- a tuple times 0 or fewer: the empty one -/
theorem tuple_mul0 (l : Addr) (items : Array Value) (n : Nat) (dd : Option Addr) (sl : Array (Option Value)) (x : Int) (u : Tok) (c0 : (decide (x < -(2 ^ 63)) || decide (x ≥ 2 ^ 63)) = false) (c1 : (items.isEmpty || x == 1) = false) (c2 : (decide (x ≤ 0) || items.isEmpty) = true) :
    Meets (Builtin.«tuple.__mul__» ⟨[.ref l, .int x u], []⟩) (fun _ R s => s.heap.get? l = some { cls := .type "tuple", dict := dd, data := .seq items n, slots := sl } ∧
      R (.ok (.ret (Value.ref s.heap.objs.size))) { s with heap := s.heap.push { cls := Value.type "tuple", data := Data.seq #[] }, toks := s.toks }) :=
  .of_wp fun prog w A R s h => by
    obtain ⟨hp, g, d, tk, os⟩ := s
    obtain ⟨hl, h⟩ := h
    have f1 := AutoSeq1.idx_int
    wp_walk using wpAny_loadPart' hl
    repeat (first
      | (refine wpAny_ite_false (decide_eq_false (by rw [c0]; exact Bool.false_ne_true)) ?_; wp_walk using wpAny_loadPart' hl)
      | (refine wpAny_ite_false (decide_eq_false (by rw [c1]; exact Bool.false_ne_true)) ?_; wp_walk using wpAny_loadPart' hl)
      | (refine wpAny_ite_true (decide_eq_true c2) ?_; wp_walk using wpAny_loadPart' hl))
    exact ⟨_, rfl, h⟩
def rRepT0 (K : PySem.W.Frag) : R2 := fun x y H Q => ∃ l k xs, x = .ref l ∧ y = .int k ∧ SqT K H l xs ∧ xs ≠ [] ∧ -(2 ^ 62) ≤ k ∧ k ≤ 0 ∧ ∀ p, H p = none → Q (.ref p) (upd H p (.tup []))
theorem op_repT0 : OpR X (binaryOp .Mult) (rRepT0 X.K) := by
  intro pins s σ H x y v u Q I rx ry h
  obtain ⟨l, k, xs, rfl, rfl, hT, hne, h1, h2, q⟩ := h
  cases rx
  obtain ⟨t, rfl⟩ := ry
  obtain ⟨its, r, ⟨⟨cls, dd, data, sl⟩, ho, hc, n, hd⟩, hs⟩ := I.tuple hT
  simp only at hc hd
  subst hc hd
  have hle : its.length = xs.length := r.length.symm
  have hn : its ≠ [] := fun e => hne (by
    rw [e] at hle
    exact List.eq_nil_of_length_eq_zero hle.symm)
  have hi : its.toArray.isEmpty = false := by
    cases its with
    | nil => exact absurd rfl hn
    | cons a b => rfl
  have c0 : (decide (k < -(2 ^ 63)) || decide (k ≥ 2 ^ 63)) = false := by
    rw [decide_eq_false (by omega), decide_eq_false (by omega)] <;> rfl
  have c1 : (its.toArray.isEmpty || k == 1) = false := by
    rw [hi, Bool.false_or]
    exact beq_eq_false_iff_ne.mpr (by omega)
  have c2 : (decide (k ≤ 0) || its.toArray.isEmpty) = true := by
    rw [decide_eq_true h2, Bool.true_or]
  refine wpAny_binaryOp_repeat_ref (T := "tuple") (U := "int") (by decide) ⟨_, ho, rfl⟩ (fun s' => typeIs_int s' k t) noFill_tuple_mul F.fills_int_mul F.slot_int_rmul repeat_tuple F.slot_int_index.lookup (call_meets F.slot_int_rmul (typeIs_int s k t) F.entry_int_rmul (F.args_int_rmul_2 _ _)
    (int_rmul_tuple k t l its.toArray n dd sl) ⟨ho, rfl, ⟨_, ho, rfl⟩, call_meets F.slot_tuple_mul ⟨_, ho, rfl⟩ F.entry_tuple_mul (F.args_tuple_mul_2 _ _) (tuple_mul0 l its.toArray n dd sl k t c0 c1 c2) ⟨ho, ?_⟩⟩)
  refine ⟨.ref s.heap.objs.size, _, I.laid (t' := s.toks) (o := .tup []) (fun b ob q => Heap.get?_push_of_some _ q) (Nat.le_refl _) ?_, rfl, q _ (I.hok.fresh (Nat.le_refl _))⟩
  exact ⟨by simp, _, .nil, PyProof.Rows.IsTup.new _ _⟩
def rMulE (K : PySem.W.Frag) : R2 := fun x y H Q => ((rI CMulW fun i j => .int (i * j)) x y H Q ∨ rRep x y H Q) ∨ ((rRepT K x y H Q ∨ rRepT1 K x y H Q) ∨ rRepT0 K x y H Q)
theorem op_mulE : OpR X (binaryOp .Mult) (rMulE X.K) := (op_mulW.or op_rep).or ((op_repT.or op_repT1).or op_repT0)

variable {K : PySem.W.Frag} {σ : L2.St} {q pk : Bool} {H H2 : Hp} {Z Z2 P1 P2 : PS1} {Ls Ls2 : Nat → PS1} {ρ2 : Rho} {Q : VK} {v u : V} {x y z : DO}
theorem Rep.frozenT {K : PySem.W.Frag} {H : Hp} {Z P : PS1} {v : V} {ds : List PyData} {o : O} (r : Rep K H Z P v (.tuple ds) o) : Fz K H Z v (.tuple ds) := by
  cases r with
  | fz h => exact h
theorem rep_int {i : Int} {o : O} (r : Rep K H2 Z2 P1 v (.int i) o) : v = .int i := by
  cases r with
  | fz h => cases h; rfl
theorem rep_bool {i : Bool} {o : O} (r : Rep K H2 Z2 P1 v (.bool i) o) : v = .bl i := by
  cases r with
  | fz h => cases h; rfl
theorem rep_str {i : Str} {o : O} (r : Rep K H2 Z2 P1 v (.str i) o) : v = .str i := by
  cases r with
  | fz h => cases h; rfl
theorem rep_none {o : O} (r : Rep K H2 Z2 P1 v .none o) : v = .non := by
  cases r with
  | fz h => cases h; rfl
theorem add_ok (e : addSem x y = some z) (m : Mid K σ q H Z Ls ρ2 H2 Z2 Ls2) (r1 : Rep K H2 Z2 P1 v x.1 x.2) (r2 : Rep K H2 Z2 P2 u y.1 y.2) (k : ∀ w H', EPost K σ q pk H Z Ls z ρ2 w H' → Q w H') : rAddE K v u H2 Q := by
  obtain ⟨dx, ox⟩ := x
  obtain ⟨dy, oy⟩ := y
  unfold addSem at e
  split at e
  · cases e
    rename_i h1 h2
    cases h1; cases h2
    exact .inl (.inl ⟨_, _, rep_int r1, rep_int r2, k _ _ (post_fz m (.int _))⟩)
  · obtain ⟨hz, rfl⟩ := chk_some e
    rename_i h1 h2
    cases h1; cases h2
    exact .inl (.inr ⟨_, _, rep_str r1, rep_str r2, hz, k _ _ (post_fz m (.str _))⟩)
  · obtain ⟨hz, rfl⟩ := chk_some e
    rename_i h1 h2
    cases h1; cases h2
    obtain ⟨a, xs, rfl, s1, f1⟩ := r1.titems
    obtain ⟨b, ys, rfl, s2, f2⟩ := r2.titems
    refine .inr (.inl ⟨a, b, xs, ys, rfl, rfl, s1, s2, by rw [f1.length, f2.length]; exact hz, fun e => ?_, fun _ e => ?_, fun _ _ p hp => ?_⟩)
    · refine k _ _ (post_fz m ?_)
      subst e
      cases f1
      cases r2 with
      | fz h => exact h
    · refine k _ _ (post_fz m ?_)
      subst e
      cases f2
      rw [List.append_nil]
      cases r1 with
      | fz h => exact h
    · exact k _ _ (post_tup m (f1.append f2) hp)
  · rename_i h1 h2
    cases h1; cases h2
    split at e
    · cases e
    · rename_i ho
      obtain ⟨hz, rfl⟩ := chk_some e
      obtain ⟨a, xs, rfl, s1, f1⟩ := r1.items fun z => ho (.inl z)
      obtain ⟨b, ys, rfl, s2, f2⟩ := r2.items fun z => ho (.inr z)
      exact .inr (.inr ⟨a, b, xs, ys, rfl, rfl, s1, s2, by rw [f1.length, f2.length]; exact hz, fun p hp => k _ _ (post_lst m (f1.append f2) hp)⟩)
  · cases e
theorem mul_ok (e : mulSem x y = some z) (m : Mid K σ q H Z Ls ρ2 H2 Z2 Ls2) (r1 : Rep K H2 Z2 P1 v x.1 x.2) (r2 : Rep K H2 Z2 P2 u y.1 y.2) (k : ∀ w H', EPost K σ q pk H Z Ls z ρ2 w H' → Q w H') : rMulE K v u H2 Q := by
  obtain ⟨dx, ox⟩ := x
  obtain ⟨dy, oy⟩ := y
  unfold mulSem at e
  split at e
  · obtain ⟨hz, rfl⟩ := chk_some e
    rename_i h1 h2
    cases h1; cases h2
    exact .inl (.inl ⟨_, _, rep_int r1, rep_int r2, hz, k _ _ (post_fz m (.int _))⟩)
  · rename_i h1 h2
    cases h1; cases h2
    split at e
    · rename_i ho
      subst ho
      obtain ⟨⟨h1, h2, h3⟩, rfl⟩ := chk_some e
      cases r1 with
      | l hl f p =>
        exact .inl (.inr ⟨_, _, _, rfl, rep_int r2, hl, h1, h2, by rw [f.length]; exact h3, fun p hp => k _ _ (post_lst m (f.flat _) hp)⟩)
    · cases e
  · rename_i h1 h2
    cases h1; cases h2
    obtain ⟨p, xs, rfl, sq, f⟩ := r1.titems
    have ft := r1.frozenT
    split at e
    · rename_i hk
      subst hk
      cases e
      exact .inr (.inl (.inr ⟨_, _, rfl, rep_int r2, sq, k _ _ (post_fz m ft)⟩))
    split at e
    · rename_i hk
      obtain ⟨⟨h1, h2⟩, rfl⟩ := chk_some e
      refine .inr (.inr ⟨_, _, _, rfl, rep_int r2, sq, fun e => ?_, h2, hk, fun p hp => k _ _ (post_tup m .nil hp)⟩)
      subst e
      cases f
      cases h1
    · obtain ⟨⟨h1, h2, h3, h4⟩, rfl⟩ := chk_some e
      refine .inr (.inl (.inl ⟨_, _, _, rfl, rep_int r2, sq, fun e => ?_, h2, h3, by rw [f.length]; exact h4, fun p hp => k _ _ (post_tup m (f.flat _) hp)⟩))
      subst e
      cases f
      cases h1
  · cases e
end
section
variable {X : Cx} {Φ : Cf} {a b : Expr} {ca cb : E} {pos : Pos}
theorem je_add (ja : JE X Φ a ca) (jb : JE X Φ b cb) : JE X Φ (.BinOp a .Add b pos) (.bin .add ca cb) := je_bin op_addE ja jb fun e m r1 r2 k => add_ok e m r1 r2 k
theorem je_mul (ja : JE X Φ a ca) (jb : JE X Φ b cb) : JE X Φ (.BinOp a .Mult b pos) (.bin .mul ca cb) := je_bin op_mulE ja jb fun e m r1 r2 k => mul_ok e m r1 r2 k
/-- ints by a function -/
theorem je_ints {op : Operator} {o : BO} {C : Int → Int → Prop} {g : Int → Int → Int} (ho : OpR X (binaryOp op) (rI C fun i j => .int (g i j)))
    (h : ∀ {x y z : DO}, binSem o x y = some z → ∃ i j, x.1 = .int i ∧ y.1 = .int j ∧ C i j ∧ z = fz (.int (g i j))) (ja : JE X Φ a ca) (jb : JE X Φ b cb) : JE X Φ (.BinOp a op b pos) (.bin o ca cb) := je_bin ho ja jb fun e m r1 r2 k => by
  obtain ⟨i, j, e1, e2, c, rfl⟩ := h e
  rw [e1] at r1
  rw [e2] at r2
  exact ⟨i, j, rep_int r1, rep_int r2, c, k _ _ (post_fz m (.int _))⟩
theorem rI_of {g : Int → Int → V} {C : Int → Int → Prop} {f : Value → Value → Sem Value} (h : OpR X f (rI0 g)) (hC : ∀ i j, C i j := by intros; trivial) : OpR X f (rI C g) := fun pins s σ H x y v u Q I rx ry ⟨i, j, e1, e2, _, q⟩ => h pins s σ H x y v u Q I rx ry ⟨i, j, e1, e2, q⟩
theorem je_sub (ja : JE X Φ a ca) (jb : JE X Φ b cb) : JE X Φ (.BinOp a .Sub b pos) (.bin .sub ca cb) := je_ints (C := fun _ _ => True) (rI_of op_sub) (fun {x y z} e => by
  obtain ⟨dx, ox⟩ := x
  obtain ⟨dy, oy⟩ := y
  cases dx <;> cases dy <;> first
    | (cases e; exact ⟨_, _, rfl, rfl, trivial, rfl⟩)
    | exact absurd e (by simp [binSem])) ja jb
theorem je_fdiv (ja : JE X Φ a ca) (jb : JE X Φ b cb) : JE X Φ (.BinOp a .FloorDiv b pos) (.bin .fdiv ca cb) := je_ints op_fdivW (fun {x y z} e => by
  obtain ⟨dx, ox⟩ := x
  obtain ⟨dy, oy⟩ := y
  cases dx <;> cases dy <;> first
    | (obtain ⟨h, rfl⟩ := chk_some e; exact ⟨_, _, rfl, rfl, h, rfl⟩)
    | exact absurd e (by simp [binSem])) ja jb
theorem je_mod (ja : JE X Φ a ca) (jb : JE X Φ b cb) : JE X Φ (.BinOp a .Mod b pos) (.bin .mod ca cb) := je_ints op_mod (fun {x y z} e => by
  obtain ⟨dx, ox⟩ := x
  obtain ⟨dy, oy⟩ := y
  cases dx <;> cases dy <;> first
    | (obtain ⟨h, rfl⟩ := chk_some e; exact ⟨_, _, rfl, rfl, h, rfl⟩)
    | exact absurd e (by simp [binSem])) ja jb
theorem je_shl (ja : JE X Φ a ca) (jb : JE X Φ b cb) : JE X Φ (.BinOp a .LShift b pos) (.bin .shl ca cb) := je_ints op_shl (fun {x y z} e => by
  obtain ⟨dx, ox⟩ := x
  obtain ⟨dy, oy⟩ := y
  cases dx <;> cases dy <;> first
    | (obtain ⟨h, rfl⟩ := chk_some e; exact ⟨_, _, rfl, rfl, h, rfl⟩)
    | exact absurd e (by simp [binSem])) ja jb
theorem je_shr (ja : JE X Φ a ca) (jb : JE X Φ b cb) : JE X Φ (.BinOp a .RShift b pos) (.bin .shr ca cb) := je_ints op_shr (fun {x y z} e => by
  obtain ⟨dx, ox⟩ := x
  obtain ⟨dy, oy⟩ := y
  cases dx <;> cases dy <;> first
    | (obtain ⟨h, rfl⟩ := chk_some e; exact ⟨_, _, rfl, rfl, h, rfl⟩)
    | exact absurd e (by simp [binSem])) ja jb
theorem je_pow (ja : JE X Φ a ca) (jb : JE X Φ b cb) : JE X Φ (.BinOp a .Pow b pos) (.bin .pow ca cb) := je_ints op_pow (fun {x y z} e => by
  obtain ⟨dx, ox⟩ := x
  obtain ⟨dy, oy⟩ := y
  cases dx <;> cases dy <;> first
    | (obtain ⟨h, rfl⟩ := chk_some e; exact ⟨_, _, rfl, rfl, h, rfl⟩)
    | exact absurd e (by simp [binSem])) ja jb
theorem je_band (ja : JE X Φ a ca) (jb : JE X Φ b cb) : JE X Φ (.BinOp a .BitAnd b pos) (.bin .band ca cb) := je_ints (C := fun _ _ => True) (rI_of op_and) (fun {x y z} e => by
  obtain ⟨dx, ox⟩ := x
  obtain ⟨dy, oy⟩ := y
  cases dx <;> cases dy <;> first
    | (cases e; exact ⟨_, _, rfl, rfl, trivial, rfl⟩)
    | exact absurd e (by simp [binSem])) ja jb
theorem je_bor (ja : JE X Φ a ca) (jb : JE X Φ b cb) : JE X Φ (.BinOp a .BitOr b pos) (.bin .bor ca cb) := je_ints (C := fun _ _ => True) (rI_of op_or) (fun {x y z} e => by
  obtain ⟨dx, ox⟩ := x
  obtain ⟨dy, oy⟩ := y
  cases dx <;> cases dy <;> first
    | (cases e; exact ⟨_, _, rfl, rfl, trivial, rfl⟩)
    | exact absurd e (by simp [binSem])) ja jb
theorem je_bxor (ja : JE X Φ a ca) (jb : JE X Φ b cb) : JE X Φ (.BinOp a .BitXor b pos) (.bin .bxor ca cb) := je_ints (C := fun _ _ => True) (rI_of op_xor) (fun {x y z} e => by
  obtain ⟨dx, ox⟩ := x
  obtain ⟨dy, oy⟩ := y
  cases dx <;> cases dy <;> first
    | (cases e; exact ⟨_, _, rfl, rfl, trivial, rfl⟩)
    | exact absurd e (by simp [binSem])) ja jb
theorem je_neg (ja : JE X Φ a ca) : JE X Φ (.UnaryOp .USub a pos) (.neg ca) := by
  intro pk
  refine PE.weak (pe_un un_neg (ja true)) fun σ H Q ⟨Z, Ls, ρ, r, ρ', den, own, e, k⟩ => ?_
  simp only [ev] at e
  obtain ⟨⟨⟨d, o⟩, ρ1⟩, ea, e⟩ := bind_some e
  cases d with
  | int i =>
    cases e
    exact ⟨Z, Ls, ρ, _, ρ1, den, own, ea, fun v H1 ⟨Z1, P1, Ls1, m1, r1, _⟩ => ⟨i, rep_int r1, k _ _ (post_fz m1 (.int _))⟩⟩
  | _ => cases e

/-! ### comparisons -/
/-- a comparison by its operator's rule -/
def JC (X : Cx) (Φ : Cf) (op : CmpOp) (o : CO) : Prop := ∃ r : R2, OpR X (compareOp op) r ∧ ∀ {v u : V} {x y : DO} {z : Bool} {H2 : Hp} {Z2 P1 P2 : PS1} {Q : VK}, cmpSem o x y = some z → Rep X.K H2 Z2 P1 v x.1 x.2 → Rep X.K H2 Z2 P2 u y.1 y.2 → Q (.bl z) H2 → r v u H2 Q
theorem je_cmp {op : CmpOp} {o : CO} (hc : JC X Φ op o) (ja : JE X Φ a ca) (jb : JE X Φ b cb) (hm : behindInMarks op b = false) : JE X Φ (.Compare a [op] [b] pos) (.cmp o ca cb) := by
  obtain ⟨r, ho, h⟩ := hc
  intro pk
  refine PE.weak (pe_cmpR ho (ja (cb.quiet Φ)) (jb true) hm) fun σ H Q ⟨Z, Ls, ρ, r, ρ', den, own, e, k⟩ => ?_
  simp only [ev] at e
  obtain ⟨⟨x, ρ1⟩, ea, e⟩ := bind_some e
  obtain ⟨⟨y, ρ2⟩, eb, e⟩ := bind_some e
  obtain ⟨z, ez, e⟩ := map_some e
  cases e
  exact two den own ea eb fun v u H2 Z2 Ls2 P1 P2 m r1 r2 => h ez r1 r2 (k _ _ (post_fz m (.bl _)))
theorem jt_cmp {op : CmpOp} {o : CO} (hc : JC X Φ op o) (ja : JE X Φ a ca) (jb : JE X Φ b cb) (hm : behindInMarks op b = false) : JT X Φ (.Compare a [op] [b] pos) (.cmp o ca cb) := by
  obtain ⟨r, ho, h⟩ := hc
  refine PT.weak (pt_cmpR ho (ja (cb.quiet Φ)) (jb true) hm) fun σ H Q ⟨Z, Ls, ρ, b', o', ρ', den, own, e, k⟩ => ?_
  simp only [ev] at e
  obtain ⟨⟨x, ρ1⟩, ea, e⟩ := bind_some e
  obtain ⟨⟨y, ρ2⟩, eb, e⟩ := bind_some e
  obtain ⟨z, ez, e⟩ := map_some e
  cases e
  exact two (R := fun v u H2 => r v u H2 fun x H' => ∃ k, x = .bl k ∧ Q k H') den own ea eb fun v u H2 Z2 Ls2 P1 P2 m r1 r2 => h ez r1 r2 ⟨_, rfl, k _ _ _ m⟩
/-- a op b op' c -/
theorem je_cmp2 {c : Expr} {cc : E} {op op' : CmpOp} {o o' : CO} (hc : JC X Φ op o) (hc' : JC X Φ op' o') (ja : JE X Φ a ca) (jb : JE X Φ b cb) (jc : JE X Φ c cc) (hm : lastMarks [op, op'] [b, c] = false) : JE X Φ (.Compare a [op, op'] [b, c] pos) (.cmp2 o o' ca cb cc) := by
  obtain ⟨r, ho, h⟩ := hc
  obtain ⟨r', ho', h'⟩ := hc'
  intro pk
  refine PE.weak (pe_chain ho ho' (ja (cb.quiet Φ)) (jb (cc.quiet Φ)) (jc true) hm) fun σ H Q ⟨Z, Ls, ρ, rr, ρ', den, own, e, k⟩ => ?_
  simp only [ev] at e
  obtain ⟨⟨x, ρ1⟩, ea, e⟩ := bind_some e
  obtain ⟨⟨y, ρ2⟩, eb, e⟩ := bind_some e
  obtain ⟨z, ez, e⟩ := bind_some e
  refine ⟨Z, Ls, ρ, x, ρ1, den, own, ea, fun v H1 ⟨Z1, P1, Ls1, m1, r1, x1⟩ => ?_⟩
  refine ⟨Z1, Ls1, ρ1, y, ρ2, m1.den, m1.own, eb, fun u H2 ⟨Z2, P2, Ls2, m2, r2, x2⟩ => ?_⟩
  have r1' := m2.rep m1.own r1 (H := H) (Ls := Ls) (by
    cases hq : cb.quiet Φ with
    | true => exact .inl rfl
    | false => exact .inr (x1 hq))
  refine h ez r1' r2 ⟨z, rfl, ?_⟩
  cases z with
  | false =>
    rw [if_neg Bool.false_ne_true]
    cases e
    exact k _ _ (post_fz (m1.trans m2 fun hz => by
      simp only [E.quiet, Bool.and_eq_true] at hz
      exact ⟨hz.1, hz.2.1⟩) (.bl _))
  | true =>
    rw [if_pos rfl]
    obtain ⟨⟨w, ρ3⟩, ec, e⟩ := bind_some e
    obtain ⟨z2, ez2, e⟩ := map_some e
    cases e
    refine ⟨Z2, Ls2, ρ2, w, ρ3, m2.den, m2.own, ec, fun t H3 ⟨Z3, P3, Ls3, m3, r3, _⟩ => ?_⟩
    have r2' := m3.rep m2.own r2 (H := H1) (Ls := Ls1) (by
      cases hq : cc.quiet Φ with
      | true => exact .inl rfl
      | false => exact .inr (x2 hq))
    exact h' ez2 r2' r3 (k _ _ (post_fz (m1.trans (m2.trans m3 (q := cb.quiet Φ && cc.quiet Φ) fun hz => by rw [Bool.and_eq_true] at hz; exact hz) fun hz => by
      simp only [E.quiet, Bool.and_eq_true] at hz
      exact ⟨hz.1, by rw [Bool.and_eq_true]; exact hz.2⟩) (.bl _)))
theorem jt_cmp2 {c : Expr} {cc : E} {op op' : CmpOp} {o o' : CO} (hc : JC X Φ op o) (hc' : JC X Φ op' o') (ja : JE X Φ a ca) (jb : JE X Φ b cb) (jc : JE X Φ c cc) (hm : lastMarks [op, op'] [b, c] = false) : JT X Φ (.Compare a [op, op'] [b, c] pos) (.cmp2 o o' ca cb cc) := by
  obtain ⟨r, ho, h⟩ := hc
  obtain ⟨r', ho', h'⟩ := hc'
  refine PT.weak (pt_chain ho ho' (ja (cb.quiet Φ)) (jb (cc.quiet Φ)) (jc true) hm) fun σ H Q ⟨Z, Ls, ρ, b', o2, ρ', den, own, e, k⟩ => ?_
  simp only [ev] at e
  obtain ⟨⟨x, ρ1⟩, ea, e⟩ := bind_some e
  obtain ⟨⟨y, ρ2⟩, eb, e⟩ := bind_some e
  obtain ⟨z, ez, e⟩ := bind_some e
  refine ⟨Z, Ls, ρ, x, ρ1, den, own, ea, fun v H1 ⟨Z1, P1, Ls1, m1, r1, x1⟩ => ?_⟩
  refine ⟨Z1, Ls1, ρ1, y, ρ2, m1.den, m1.own, eb, fun u H2 ⟨Z2, P2, Ls2, m2, r2, x2⟩ => ?_⟩
  have r1' := m2.rep m1.own r1 (H := H) (Ls := Ls) (by
    cases hq : cb.quiet Φ with
    | true => exact .inl rfl
    | false => exact .inr (x1 hq))
  refine h ez r1' r2 ⟨z, rfl, ?_⟩
  cases z with
  | false =>
    rw [if_neg Bool.false_ne_true]
    cases e
    exact ⟨_, rfl, k _ _ _ (m1.trans m2 fun hz => by
      simp only [E.quiet, Bool.and_eq_true] at hz
      exact ⟨hz.1, hz.2.1⟩)⟩
  | true =>
    rw [if_pos rfl]
    obtain ⟨⟨w, ρ3⟩, ec, e⟩ := bind_some e
    obtain ⟨z2, ez2, e⟩ := map_some e
    cases e
    refine ⟨Z2, Ls2, ρ2, w, ρ3, m2.den, m2.own, ec, fun t H3 ⟨Z3, P3, Ls3, m3, r3, _⟩ => ?_⟩
    have r2' := m3.rep m2.own r2 (H := H1) (Ls := Ls1) (by
      cases hq : cc.quiet Φ with
      | true => exact .inl rfl
      | false => exact .inr (x2 hq))
    exact h' ez2 r2' r3 ⟨_, rfl, k _ _ _ (m1.trans (m2.trans m3 (q := cb.quiet Φ && cc.quiet Φ) fun hz => by rw [Bool.and_eq_true] at hz; exact hz) fun hz => by
      simp only [E.quiet, Bool.and_eq_true] at hz
      exact ⟨hz.1, by rw [Bool.and_eq_true]; exact hz.2⟩)⟩
theorem jc_ints {op : CmpOp} {o : CO} {g : Int → Int → Bool} (ho : OpR X (compareOp op) (rI0 fun i j => .bl (g i j))) (h : ∀ {x y : DO} {z : Bool}, cmpSem o x y = some z → ∃ i j, x.1 = .int i ∧ y.1 = .int j ∧ z = g i j) : JC X Φ op o :=
  ⟨_, ho, fun e r1 r2 q => by
    obtain ⟨i, j, e1, e2, rfl⟩ := h e
    rw [e1] at r1
    rw [e2] at r2
    exact ⟨i, j, rep_int r1, rep_int r2, q⟩⟩
theorem jc_lt : JC X Φ .Lt .lt := jc_ints op_lt fun {x y z} e => by
  obtain ⟨dx, ox⟩ := x
  obtain ⟨dy, oy⟩ := y
  cases dx <;> cases dy <;> first
    | (cases e; exact ⟨_, _, rfl, rfl, rfl⟩)
    | exact absurd e (by simp [cmpSem])
theorem jc_le : JC X Φ .LtE .le := ⟨_, op_le.or op_le_str, fun {v u x y z H2 Z2 P1 P2 Q} e r1 r2 q => by
  obtain ⟨dx, ox⟩ := x
  obtain ⟨dy, oy⟩ := y
  cases dx with
  | int i => cases dy with
    | int j => cases e; exact .inl ⟨i, j, rep_int r1, rep_int r2, q⟩
    | _ => cases e
  | str a => cases dy with
    | str b => cases e; exact .inr ⟨a, b, rep_str r1, rep_str r2, q⟩
    | _ => cases e
  | _ => cases e⟩
theorem jc_gt : JC X Φ .Gt .gt := jc_ints op_gt fun {x y z} e => by
  obtain ⟨dx, ox⟩ := x
  obtain ⟨dy, oy⟩ := y
  cases dx <;> cases dy <;> first
    | (cases e; exact ⟨_, _, rfl, rfl, rfl⟩)
    | exact absurd e (by simp [cmpSem])
theorem jc_ge : JC X Φ .GtE .ge := jc_ints op_ge fun {x y z} e => by
  obtain ⟨dx, ox⟩ := x
  obtain ⟨dy, oy⟩ := y
  cases dx <;> cases dy <;> first
    | (cases e; exact ⟨_, _, rfl, rfl, rfl⟩)
    | exact absurd e (by simp [cmpSem])
theorem jc_eq (hu : X.A.units + 64 < cLine) : JC X Φ .Eq .eq := ⟨_, op_eqD hu, fun e r1 r2 q => by
  obtain ⟨⟨s1, s2⟩, rfl⟩ := chk_some e
  exact ⟨_, _, r1.dp, r2.dp, s1, s2, q⟩⟩
theorem jc_ne (hu : X.A.units + 64 < cLine) : JC X Φ .NotEq .ne := ⟨_, op_neD hu, fun e r1 r2 q => by
  obtain ⟨⟨s1, s2⟩, rfl⟩ := chk_some e
  exact ⟨_, _, r1.dp, r2.dp, s1, s2, q⟩⟩
theorem rep_isNone {K : PySem.W.Frag} {H2 : Hp} {Z2 P1 : PS1} {v : V} {d : PyData} {o : O} (r : Rep K H2 Z2 P1 v d o) : decide (v = .non) = isNone d := by
  cases r with
  | fz h => cases h <;> rfl
  | l => rfl
  | g => rfl
theorem jc_isN : JC X Φ .Is .isN := ⟨_, op_isN, fun {v u x y z H2 Z2 P1 P2 Q} e r1 r2 q => by
  obtain ⟨dy, oy⟩ := y
  cases dy with
  | none =>
    cases e
    refine ⟨rep_none r2, ?_⟩
    rw [rep_isNone r1]; exact q
  | _ => cases e⟩
theorem jc_notN : JC X Φ .IsNot .notN := ⟨_, op_notN, fun {v u x y z H2 Z2 P1 P2 Q} e r1 r2 q => by
  obtain ⟨dy, oy⟩ := y
  cases dy with
  | none =>
    cases e
    refine ⟨rep_none r2, ?_⟩
    rw [rep_isNone r1]; exact q
  | _ => cases e⟩
theorem jc_isB : JC X Φ .Is .isB := ⟨_, op_isBl, fun {v u x y z H2 Z2 P1 P2 Q} e r1 r2 q => by
  obtain ⟨dx, ox⟩ := x
  obtain ⟨dy, oy⟩ := y
  cases dx with
  | bool a => cases dy with
    | bool b =>
      cases e
      refine ⟨a, b, rep_bool r1, rep_bool r2, ?_⟩
      rw [← Bool.beq_eq_decide_eq]; exact q
    | _ => cases e
  | _ => cases e⟩
theorem jc_notB : JC X Φ .IsNot .notB := ⟨_, op_notBl, fun {v u x y z H2 Z2 P1 P2 Q} e r1 r2 q => by
  obtain ⟨dx, ox⟩ := x
  obtain ⟨dy, oy⟩ := y
  cases dx with
  | bool a => cases dy with
    | bool b =>
      cases e
      refine ⟨a, b, rep_bool r1, rep_bool r2, ?_⟩
      rw [← Bool.beq_eq_decide_eq]; exact q
    | _ => cases e
  | _ => cases e⟩
/-- x in a tuple of data of any depth -/
theorem op_inT (hu : X.A.units + 65 < cLine) : OpR X (compareOp .In) (fun x y H Q => ∃ d ds, Dp X.K H x d ∧ Dp X.K H y (.tuple ds) ∧ SeqAt.shaped d = true ∧ SeqAt.shaped (.tuple ds) = true ∧ Q (.bl (ds.any fun z => PyData.eqv z d)) H) := by
  intro pins s σ H x y v u Q I rx ry h
  obtain ⟨d, ds, hd, he, sd, se, q⟩ := h
  obtain ⟨as, r1⟩ := Dp.reads I d x v hd rx
  obtain ⟨bs, r2⟩ := Dp.reads I (.tuple ds) y u he ry
  have c : PyData.canLayAll0 ds = true := SeqAt.canLay_of_shaped se
  exact SeqAt.in_tuple_reads r2 r1 c (SeqAt.canLay_of_shaped sd) (PyProof.Rows.room_in_shaped sd hu) ⟨.bl _, H, I, rfl, q⟩
theorem op_notInT (hu : X.A.units + 65 < cLine) : OpR X (compareOp .NotIn) (fun x y H Q => ∃ d ds, Dp X.K H x d ∧ Dp X.K H y (.tuple ds) ∧ SeqAt.shaped d = true ∧ SeqAt.shaped (.tuple ds) = true ∧ Q (.bl (!ds.any fun z => PyData.eqv z d)) H) := by
  intro pins s σ H x y v u Q I rx ry h
  obtain ⟨d, ds, hd, he, sd, se, q⟩ := h
  obtain ⟨as, r1⟩ := Dp.reads I d x v hd rx
  obtain ⟨bs, r2⟩ := Dp.reads I (.tuple ds) y u he ry
  have c : PyData.canLayAll0 ds = true := SeqAt.canLay_of_shaped se
  exact SeqAt.notIn_tuple_reads r2 r1 c (SeqAt.canLay_of_shaped sd) (PyProof.Rows.room_in_shaped sd hu) ⟨.bl _, H, I, rfl, q⟩
theorem one_sign {c : Str} (h : c.length = 1) : c = ⟨#[c.cps.getD 0 0]⟩ := by
  obtain ⟨⟨l⟩⟩ := c
  have h' : l.length = 1 := h
  match l, h' with
  | [a], _ => rfl
theorem jc_in (hu : X.A.units + 65 < cLine) : JC X Φ .In .mem := ⟨_, op_in_sign.or ((op_inD hu).or (op_inT hu)), fun {v u x y z H2 Z2 P1 P2 Q} e r1 r2 q => by
  obtain ⟨dx, ox⟩ := x
  obtain ⟨dy, oy⟩ := y
  have e2 : memSem (dx, ox) (dy, oy) = some z := e
  clear e
  unfold memSem at e2
  split at e2
  · rename_i c w h1 h2
    simp only at h1 h2
    subst h1 h2
    obtain ⟨hl, rfl⟩ := chk_some e2
    refine .inl ⟨c.cps.getD 0 0, w, ?_, rep_str r2, q⟩
    rw [rep_str r1, ← one_sign hl]
  · rename_i ds h2
    simp only at h2
    subst h2
    obtain ⟨⟨s1, s2⟩, rfl⟩ := chk_some e2
    exact .inr (.inl ⟨_, ds, r1.dp, r2.dp, s1, s2, q⟩)
  · rename_i ds h2
    simp only at h2
    subst h2
    obtain ⟨⟨s1, s2⟩, rfl⟩ := chk_some e2
    exact .inr (.inr ⟨_, ds, r1.dp, r2.dp, s1, s2, q⟩)
  · cases e2⟩
theorem jc_notin (hu : X.A.units + 65 < cLine) : JC X Φ .NotIn .nmem := ⟨_, op_notIn_sign.or ((op_notInD hu).or (op_notInT hu)), fun {v u x y z H2 Z2 P1 P2 Q} e r1 r2 q => by
  obtain ⟨dx, ox⟩ := x
  obtain ⟨dy, oy⟩ := y
  have e1 : (memSem (dx, ox) (dy, oy)).map (!·) = some z := e
  clear e
  obtain ⟨z', e2, rfl⟩ := map_some e1
  clear e1
  unfold memSem at e2
  split at e2
  · rename_i c w h1 h2
    simp only at h1 h2
    subst h1 h2
    obtain ⟨hl, rfl⟩ := chk_some e2
    refine .inl ⟨c.cps.getD 0 0, w, ?_, rep_str r2, q⟩
    rw [rep_str r1, ← one_sign hl]
  · rename_i ds h2
    simp only at h2
    subst h2
    obtain ⟨⟨s1, s2⟩, rfl⟩ := chk_some e2
    exact .inr (.inl ⟨_, ds, r1.dp, r2.dp, s1, s2, q⟩)
  · rename_i ds h2
    simp only at h2
    subst h2
    obtain ⟨⟨s1, s2⟩, rfl⟩ := chk_some e2
    exact .inr (.inr ⟨_, ds, r1.dp, r2.dp, s1, s2, q⟩)
  · cases e2⟩
end
end Ev
/-! Ev 5: truth, and, or, not, if; lists of values; displays; subscripts. -/
namespace Ev
open PySem PySem.Spec L2
section
variable {X : Cx} {Φ : Cf} {a b c : Expr} {ca cb cc : E} {pos : Pos}
/-! ### truth -/
theorem truth_ok {K : PySem.W.Frag} {H : Hp} {Z P : PS1} {v : V} {d : PyData} {o : O} {k : Bool} (e : truthSem d = some k) (r : Rep K H Z P v d o) : TruV K v H k := by
  cases r with
  | fz h =>
    cases h with
    | non => cases e; rfl
    | bl b => cases e; rfl
    | int i => cases e; rfl
    | str x =>
      obtain ⟨hz, rfl⟩ := chk_some e
      refine ⟨hz, ?_⟩
      cases x.length <;> rfl
    | lst h r =>
      cases e
      refine .inl ⟨_, h.sq, ?_⟩
      cases r <;> rfl
    | tup h r =>
      cases e
      refine .inr (.inl ⟨_, h.sq, ?_⟩)
      cases r <;> rfl
  | l h r p =>
    cases e
    refine .inl ⟨_, .of h, ?_⟩
    cases r <;> rfl
  | g h1 h2 n p q => cases e; exact .inl ⟨_, .of h1, rfl⟩
theorem jt_truth (ja : JE X Φ a ca) (he : ∀ whole, isTrue a X.env whole = (do let v ← whole; standAt a.pos; holding [v] (truthy v))) : JT X Φ a (.truth ca) := by
  refine PT.weak (pt_truth (ja true) he) fun σ H Q ⟨Z, Ls, ρ, b, o, ρ', den, own, e, k⟩ => ?_
  simp only [ev] at e
  obtain ⟨⟨x, ρ1⟩, ea, e⟩ := bind_some e
  obtain ⟨t, et, e⟩ := map_some e
  cases e
  exact ⟨Z, Ls, ρ, x, ρ1, den, own, ea, fun v H1 ⟨Z1, P1, Ls1, m1, r1, _⟩ => ⟨b, truth_ok et r1, k _ _ _ m1⟩⟩
/-- a test whose expression tells a bool -/
theorem tt_bool {q : Bool} {f : Rho → Option (DO × Rho)} {K : PySem.W.Frag} {σ : L2.St} {H : Hp} {Q : Bool → Hp → Prop} (h : TTv K q f σ H Q) : TEv K q true f σ H (fun v H' => ∃ k, v = .bl k ∧ Q k H') := by
  obtain ⟨Z, Ls, ρ, b, o, ρ', den, own, e, k⟩ := h
  exact ⟨Z, Ls, ρ, _, ρ', den, own, e, fun v H' ⟨Z', P', Ls', m, r, _⟩ => ⟨b, rep_bool r, k _ _ _ m⟩⟩

/-! ### not, and, or, if: as tests -/
theorem jt_not (ja : JT X Φ a ca) : JT X Φ (.UnaryOp .Not a pos) (.not_ ca) := by
  refine PT.weak (pt_not ja) fun σ H Q ⟨Z, Ls, ρ, b, o, ρ', den, own, e, k⟩ => ?_
  simp only [ev] at e
  obtain ⟨⟨⟨d, o'⟩, ρ1⟩, ea, e⟩ := bind_some e
  cases d with
  | bool t => cases e; exact ⟨Z, Ls, ρ, t, o', ρ1, den, own, ea, k⟩
  | _ => cases e
def JW (X : Cx) (Φ : Cf) (e : Expr) (c : E) : Prop := PW X e (TTv X.K (c.quiet Φ) (ev Φ true c))
theorem PW.weak {X : Cx} {e : Expr} {t t' : TT} (h : PW X e t) (w : ∀ σ H Q, t' σ H Q → t σ H Q) : PW X e t' := ⟨fun wh pins s σ H Q I q => h.run wh pins s σ H Q I (w σ H Q q)⟩
theorem jw_one_and (ja : JT X Φ a ca) : JW X Φ (.BoolOp .And [a] pos) ca := pw_and1 ja
theorem jw_one_or (ja : JT X Φ a ca) : JW X Φ (.BoolOp .Or [a] pos) ca := pw_or1 ja
theorem tt_and {K : PySem.W.Frag} {σ : L2.St} {H : Hp} {Q : Bool → Hp → Prop} (h : TTv K (ca.quiet Φ && cb.quiet Φ) (ev Φ true (.and_ ca cb)) σ H Q) :
    TTv K (ca.quiet Φ) (ev Φ true ca) σ H fun c H1 => if c = true then TTv K (cb.quiet Φ) (ev Φ true cb) σ H1 Q else Q false H1 := by
  obtain ⟨Z, Ls, ρ, b, o, ρ', den, own, e, k⟩ := h
  simp only [ev] at e
  obtain ⟨⟨⟨d, o'⟩, ρ1⟩, ea, e⟩ := bind_some e
  cases d with
  | bool t =>
    refine ⟨Z, Ls, ρ, t, o', ρ1, den, own, ea, fun H1 Z1 Ls1 m1 => ?_⟩
    cases t with
    | true => exact iteT ⟨Z1, Ls1, ρ1, b, o, ρ', m1.den, m1.own, e, fun H2 Z2 Ls2 m2 => k _ _ _ (m1.trans m2 fun z => by rw [Bool.and_eq_true] at z; exact z)⟩
    | false => cases e; exact iteF (k _ _ _ ⟨m1.den, m1.own, m1.stp, fun z => by rw [Bool.and_eq_true] at z; exact m1.same z.1, m1.new⟩)
  | _ => cases e
theorem tt_or {K : PySem.W.Frag} {σ : L2.St} {H : Hp} {Q : Bool → Hp → Prop} (h : TTv K (ca.quiet Φ && cb.quiet Φ) (ev Φ true (.or_ ca cb)) σ H Q) :
    TTv K (ca.quiet Φ) (ev Φ true ca) σ H fun c H1 => if c = true then Q true H1 else TTv K (cb.quiet Φ) (ev Φ true cb) σ H1 Q := by
  obtain ⟨Z, Ls, ρ, b, o, ρ', den, own, e, k⟩ := h
  simp only [ev] at e
  obtain ⟨⟨⟨d, o'⟩, ρ1⟩, ea, e⟩ := bind_some e
  cases d with
  | bool t =>
    refine ⟨Z, Ls, ρ, t, o', ρ1, den, own, ea, fun H1 Z1 Ls1 m1 => ?_⟩
    cases t with
    | false => exact iteF ⟨Z1, Ls1, ρ1, b, o, ρ', m1.den, m1.own, e, fun H2 Z2 Ls2 m2 => k _ _ _ (m1.trans m2 fun z => by rw [Bool.and_eq_true] at z; exact z)⟩
    | true => cases e; exact iteT (k _ _ _ ⟨m1.den, m1.own, m1.stp, fun z => by rw [Bool.and_eq_true] at z; exact m1.same z.1, m1.new⟩)
  | _ => cases e
theorem jw_and {rest : List Expr} (ja : JT X Φ a ca) (jb : JW X Φ (.BoolOp .And (b :: rest) pos) cb) : JW X Φ (.BoolOp .And (a :: b :: rest) pos) (.and_ ca cb) := PW.weak (pw_and ja jb) fun σ H Q h => tt_and h
theorem jw_or {rest : List Expr} (ja : JT X Φ a ca) (jb : JW X Φ (.BoolOp .Or (b :: rest) pos) cb) : JW X Φ (.BoolOp .Or (a :: b :: rest) pos) (.or_ ca cb) := PW.weak (pw_or ja jb) fun σ H Q h => tt_or h
theorem jt_of_jw (h : JW X Φ a ca) : JT X Φ a ca := PW.pt h
/-! ### as values -/
theorem je_one {op} (ja : JE X Φ a ca) : JE X Φ (.BoolOp op [a] pos) ca := fun pk => pe_one (ja pk)
theorem Mid.less {K : PySem.W.Frag} {σ : L2.St} {q q' : Bool} {H H' : Hp} {Z Z' : PS1} {Ls Ls' : Nat → PS1} {ρ' : Rho} (m : Mid K σ q H Z Ls ρ' H' Z' Ls') (h : q' = true → q = true) : Mid K σ q' H Z Ls ρ' H' Z' Ls' :=
  ⟨m.den, m.own, m.stp, fun z => m.same (h z), m.new⟩
theorem Exc.trans {K : PySem.W.Frag} {σ : L2.St} {q : Bool} {H H1 H2 : Hp} {Z Z1 Z2 P : PS1} {Ls Ls1 Ls2 : Nat → PS1} {ρ1 : Rho} (m : Mid K σ q H Z Ls ρ1 H1 Z1 Ls1) (x : Exc H1 Ls1 P H2 Z2 Ls2) : Exc H Ls P H2 Z2 Ls2 :=
  ⟨x.z, x.tr, x.dis, fun a p => by
    rcases x.new a p with h | h
    · exact m.new a h
    · refine .inr ?_
      cases e : H a with
      | none => rfl
      | some o =>
        obtain ⟨o', h'⟩ := m.stp.dom a o e
        rw [h] at h'; cases h'⟩
/-- the second's end is the whole's -/
theorem EPost.after {K : PySem.W.Frag} {σ : L2.St} {q1 q2 q pk : Bool} {H H1 H2 : Hp} {Z Z1 : PS1} {Ls Ls1 : Nat → PS1} {ρ1 ρ2 : Rho} {r : DO} {v : V} (m : Mid K σ q1 H Z Ls ρ1 H1 Z1 Ls1) (hq : q = true → q1 = true ∧ q2 = true)
    (p : EPost K σ q2 pk H1 Z1 Ls1 r ρ2 v H2) : EPost K σ q pk H Z Ls r ρ2 v H2 := by
  obtain ⟨Z2, P2, Ls2, m2, r2, x2⟩ := p
  exact ⟨Z2, P2, Ls2, m.trans m2 hq, r2, fun z => (x2 z).trans m⟩
theorem andq {p q : Bool} (h : (p && q) = true) : p = true ∧ q = true := by rw [Bool.and_eq_true] at h; exact h
theorem je_and {rest : List Expr} (ja : JE X Φ a ca) (jb : JE X Φ (.BoolOp .And (b :: rest) pos) cb) : JE X Φ (.BoolOp .And (a :: b :: rest) pos) (.and_ ca cb) := by
  intro pk
  refine PE.weak (pe_and (ja true) (jb pk)) fun σ H Q ⟨Z, Ls, ρ, r, ρ', den, own, e, k⟩ => ?_
  simp only [ev] at e
  obtain ⟨⟨⟨d, o'⟩, ρ1⟩, ea, e⟩ := bind_some e
  cases d with
  | bool t =>
    refine ⟨Z, Ls, ρ, _, ρ1, den, own, ea, fun v H1 ⟨Z1, P1, Ls1, m1, r1, _⟩ => ⟨t, rep_bool r1, ?_⟩⟩
    cases t with
    | true => exact iteT ⟨Z1, Ls1, ρ1, r, ρ', m1.den, m1.own, e, fun w H2 p => k w H2 (.after m1 andq p)⟩
    | false => cases e; exact iteF (k _ _ (post_fz (m1.less fun z => (andq z).1) (.bl _)))
  | _ => cases e
theorem je_or {rest : List Expr} (ja : JE X Φ a ca) (jb : JE X Φ (.BoolOp .Or (b :: rest) pos) cb) : JE X Φ (.BoolOp .Or (a :: b :: rest) pos) (.or_ ca cb) := by
  intro pk
  refine PE.weak (pe_or (ja true) (jb pk)) fun σ H Q ⟨Z, Ls, ρ, r, ρ', den, own, e, k⟩ => ?_
  simp only [ev] at e
  obtain ⟨⟨⟨d, o'⟩, ρ1⟩, ea, e⟩ := bind_some e
  cases d with
  | bool t =>
    refine ⟨Z, Ls, ρ, _, ρ1, den, own, ea, fun v H1 ⟨Z1, P1, Ls1, m1, r1, _⟩ => ⟨t, rep_bool r1, ?_⟩⟩
    cases t with
    | false => exact iteF ⟨Z1, Ls1, ρ1, r, ρ', m1.den, m1.own, e, fun w H2 p => k w H2 (.after m1 andq p)⟩
    | true => cases e; exact iteT (k _ _ (post_fz (m1.less fun z => (andq z).1) (.bl _)))
  | _ => cases e
theorem je_not (ja : JE X Φ a ca) : JE X Φ (.UnaryOp .Not a pos) (.not_ ca) := by
  intro pk
  refine PE.weak (pe_not (ja true)) fun σ H Q ⟨Z, Ls, ρ, r, ρ', den, own, e, k⟩ => ?_
  simp only [ev] at e
  obtain ⟨⟨⟨d, o'⟩, ρ1⟩, ea, e⟩ := bind_some e
  cases d with
  | bool t => cases e; exact ⟨Z, Ls, ρ, _, ρ1, den, own, ea, fun v H1 ⟨Z1, P1, Ls1, m1, r1, _⟩ => ⟨t, rep_bool r1, k _ _ (post_fz m1 (.bl _))⟩⟩
  | _ => cases e
theorem je_ite (jc : JT X Φ c cc) (ja : JE X Φ a ca) (jb : JE X Φ b cb) : JE X Φ (.IfExp c a b pos) (.ite cc ca cb) := by
  intro pk
  refine PE.weak (pe_ifExp jc (ja pk) (jb pk)) fun σ H Q ⟨Z, Ls, ρ, r, ρ', den, own, e, k⟩ => ?_
  simp only [ev] at e
  obtain ⟨⟨⟨d, o'⟩, ρ1⟩, ea, e⟩ := bind_some e
  cases d with
  | bool t =>
    refine ⟨Z, Ls, ρ, t, o', ρ1, den, own, ea, fun H1 Z1 Ls1 m1 => ?_⟩
    cases t with
    | true => exact iteT ⟨Z1, Ls1, ρ1, r, ρ', m1.den, m1.own, e, fun w H2 p => k w H2 (.after m1 (fun z => ⟨(andq z).1, (andq (andq z).2).1⟩) p)⟩
    | false => exact iteF ⟨Z1, Ls1, ρ1, r, ρ', m1.den, m1.own, e, fun w H2 p => k w H2 (.after m1 (fun z => ⟨(andq z).1, (andq (andq z).2).2⟩) p)⟩
  | _ => cases e
theorem jt_ite (jc : JT X Φ c cc) (ja : JT X Φ a ca) (jb : JT X Φ b cb) (h : PT X (.IfExp c a b pos) (fun σ H Q => TTv X.K (cc.quiet Φ) (ev Φ true cc) σ H fun k H1 => if k = true then TTv X.K (ca.quiet Φ) (ev Φ true ca) σ H1 Q else TTv X.K (cb.quiet Φ) (ev Φ true cb) σ H1 Q)) :
    JT X Φ (.IfExp c a b pos) (.ite cc ca cb) := by
  refine PT.weak h fun σ H Q ⟨Z, Ls, ρ, r, o, ρ', den, own, e, k⟩ => ?_
  simp only [ev] at e
  obtain ⟨⟨⟨d, o'⟩, ρ1⟩, ea, e⟩ := bind_some e
  cases d with
  | bool t =>
    refine ⟨Z, Ls, ρ, t, o', ρ1, den, own, ea, fun H1 Z1 Ls1 m1 => ?_⟩
    cases t with
    | true => exact iteT ⟨Z1, Ls1, ρ1, r, o, ρ', m1.den, m1.own, e, fun H2 Z2 Ls2 m2 => k _ _ _ (m1.trans m2 fun z => ⟨(andq z).1, (andq (andq z).2).1⟩)⟩
    | false => exact iteF ⟨Z1, Ls1, ρ1, r, o, ρ', m1.den, m1.own, e, fun H2 Z2 Ls2 m2 => k _ _ _ (m1.trans m2 fun z => ⟨(andq z).1, (andq (andq z).2).2⟩)⟩
  | _ => cases e

/-! ### lists of values -/
def NoStar (e : Expr) : Prop := ∀ es env, starEach (e :: es) env = (false, eval e env) :: starEach es env
/-- values that are kept -/
def TAs (K : PySem.W.Frag) (q : Bool) (f : Rho → Option (List DO × Rho)) : TA := fun σ H Q => ∃ Z Ls ρ xs ρ', Den K H Z σ ρ Ls ∧ Own H Z Ls ∧ f ρ = some (xs, ρ') ∧
  ∀ vs H' Z' Ls', Mid K σ q H Z Ls ρ' H' Z' Ls' → FzAll K H' Z' vs (xs.map (·.1)) → Q vs H'
def JA (X : Cx) (Φ : Cf) (es : List Expr) (cs : List E) : Prop := PA X es (TAs X.K (quiets Φ cs) (evs Φ cs))
theorem PA.weak {X : Cx} {e : List Expr} {t t' : TA} (h : PA X e t) (w : ∀ σ H Q, t' σ H Q → t σ H Q) : PA X e t' := ⟨fun pos pins s σ H Q I q => h.run pos pins s σ H Q I (w σ H Q q)⟩
theorem ja_nil : JA X Φ [] [] := PA.weak pa_nil fun σ H Q ⟨Z, Ls, ρ, r, ρ', den, own, e, k⟩ => by
  cases e
  exact k _ _ _ _ (.refl den own) .nil
theorem ja_cons {e : Expr} {es : List Expr} {c : E} {cs : List E} (hs : NoStar e) (je : JE X Φ e c) (js : JA X Φ es cs) : JA X Φ (e :: es) (c :: cs) := by
  refine PA.weak (pa_cons (je false) js (hs _ _)) fun σ H Q ⟨Z, Ls, ρ, r, ρ', den, own, e, k⟩ => ?_
  simp only [evs] at e
  obtain ⟨⟨x, ρ1⟩, ea, e⟩ := bind_some e
  obtain ⟨⟨xs, ρ2⟩, eb, e⟩ := map_some e
  cases e
  refine ⟨Z, Ls, ρ, x, ρ1, den, own, ea, fun v H1 ⟨Z1, P1, Ls1, m1, r1, x1⟩ => ?_⟩
  have m1' := m1.freeze (x1 rfl)
  refine ⟨_, Ls1, ρ1, xs, ρ2, m1'.den, m1'.own, eb, fun vs H2 Z2 Ls2 m2 f2 => ?_⟩
  exact k _ _ _ _ (m1'.trans m2 fun z => andq z) (.cons (m2.fz m1'.own r1.freeze) f2)
/-- values that are looked at -/
def Looks (K : PySem.W.Frag) (H : Hp) (Z : PS1) (vs : List V) (xs : List DO) : Prop := Paired (fun v (x : DO) => ∃ P, Rep K H Z P v x.1 x.2) vs xs
def TAp (K : PySem.W.Frag) (q : Bool) (f : Rho → Option (List DO × Rho)) : TA := fun σ H Q => ∃ Z Ls ρ xs ρ', Den K H Z σ ρ Ls ∧ Own H Z Ls ∧ f ρ = some (xs, ρ') ∧
  ∀ vs H' Z' Ls', Mid K σ q H Z Ls ρ' H' Z' Ls' → Looks K H' Z' vs xs → Q vs H'
def JP (X : Cx) (Φ : Cf) (es : List Expr) (cs : List E) : Prop := PA X es (TAp X.K (quiets Φ cs) (evp Φ cs))
theorem jp_nil : JP X Φ [] [] := PA.weak pa_nil fun σ H Q ⟨Z, Ls, ρ, r, ρ', den, own, e, k⟩ => by
  cases e
  exact k _ _ _ _ (.refl den own) .nil
theorem jp_cons {e : Expr} {es : List Expr} {c : E} {cs : List E} (hs : NoStar e) (je : JE X Φ e c) (js : JP X Φ es cs) : JP X Φ (e :: es) (c :: cs) := by
  refine PA.weak (pa_cons (je (quiets Φ cs)) js (hs _ _)) fun σ H Q ⟨Z, Ls, ρ, r, ρ', den, own, e, k⟩ => ?_
  simp only [evp] at e
  obtain ⟨⟨x, ρ1⟩, ea, e⟩ := bind_some e
  obtain ⟨⟨xs, ρ2⟩, eb, e⟩ := map_some e
  cases e
  refine ⟨Z, Ls, ρ, x, ρ1, den, own, ea, fun v H1 ⟨Z1, P1, Ls1, m1, r1, x1⟩ => ?_⟩
  refine ⟨_, Ls1, ρ1, xs, ρ2, m1.den, m1.own, eb, fun vs H2 Z2 Ls2 m2 f2 => ?_⟩
  refine k _ _ _ _ (m1.trans m2 fun z => andq z) (.cons ⟨P1, m2.rep m1.own r1 (H := H) (Ls := Ls) ?_⟩ f2)
  cases hq : quiets Φ cs with
  | true => exact .inl rfl
  | false => exact .inr (x1 hq)
theorem je_tup {es : List Expr} {cs : List E} {x1} (ja : JA X Φ es cs) : JE X Φ (.Tuple es x1 pos) (.tup cs) := by
  intro pk
  refine PE.weak (pe_tup ja) fun σ H Q ⟨Z, Ls, ρ, r, ρ', den, own, e, k⟩ => ?_
  simp only [ev] at e
  obtain ⟨⟨xs, ρ1⟩, ea, e⟩ := bind_some e
  obtain ⟨hz, e⟩ := chk_some e
  cases e
  exact ⟨Z, Ls, ρ, xs, _, den, own, ea, fun vs H' Z' Ls' m f => ⟨by rw [f.length, List.length_map]; exact hz, fun p hp => k _ _ (post_tup m f hp)⟩⟩
theorem je_lst {es : List Expr} {cs : List E} (ja : JA X Φ es cs) : JE X Φ (.List es pos) (.lst cs) := by
  intro pk
  refine PE.weak (pe_lst ja) fun σ H Q ⟨Z, Ls, ρ, r, ρ', den, own, e, k⟩ => ?_
  simp only [ev] at e
  obtain ⟨⟨xs, ρ1⟩, ea, e⟩ := bind_some e
  obtain ⟨hz, e⟩ := chk_some e
  cases e
  exact ⟨Z, Ls, ρ, xs, _, den, own, ea, fun vs H' Z' Ls' m f => ⟨by rw [f.length, List.length_map]; exact hz, fun p hp => k _ _ (post_lst m f hp)⟩⟩

/-! ### subscripts -/
theorem atI_fz {K : PySem.W.Frag} {H : Hp} {Z : PS1} {vs : List V} {ds : List PyData} {i : Int} {d : PyData} (f : FzAll K H Z vs ds) (e : atI ds i = some d) : ∃ v, atI vs i = some v ∧ Fz K H Z v d := by
  unfold atI at e ⊢
  obtain ⟨j, e1, e2⟩ := bind_some e
  obtain ⟨v, h1, h2⟩ := f.get e2
  exact ⟨v, by rw [f.length, e1]; exact h1, h2⟩
theorem je_idx (ja : JE X Φ a ca) (jb : JE X Φ b cb) (hs : PlainIx b) : JE X Φ (.Subscript a b pos) (.idx ca cb) := by
  intro pk
  refine PE.weak (pe_ix ix_seq (ja (cb.quiet Φ)) (jb true) hs) fun σ H Q ⟨Z, Ls, ρ, r, ρ', den, own, e, k⟩ => ?_
  simp only [ev] at e
  obtain ⟨⟨x, ρ1⟩, ea, e⟩ := bind_some e
  obtain ⟨⟨y, ρ2⟩, eb, e⟩ := bind_some e
  obtain ⟨z, ez, e⟩ := bind_some e
  refine two den own ea eb fun v u H2 Z2 Ls2 P1 P2 m r1 r2 => ?_
  have fin : ∀ {w : V}, Fz X.K H2 Z2 w z.1 → z.2 = .f → EPost X.K σ (E.quiet Φ (.idx ca cb)) pk H Z Ls r ρ' w H2 := fun {w} h hz => by
    obtain ⟨d, o⟩ := z
    simp only at hz
    subst hz
    cases pk with
    | true => cases e; exact post_fz m h
    | false => cases e; exact post_fz m h
  obtain ⟨dx, ox⟩ := x
  obtain ⟨dy, oy⟩ := y
  unfold idxSem at ez
  split at ez
  · rename_i ds o i h1 h2
    cases h1
    simp only at h2
    subst h2
    split at ez
    · rename_i ho
      subst ho
      cases r1 with
      | @g a' b' n ns h1 h2 h3 h4 h5 =>
        have ez : (if i = 1 then some (fz (.int n)) else if i = 0 then some (.list (ns.map PyData.int), .l) else none) = some z := ez
        by_cases hi : i = 1
        · rw [if_pos hi] at ez
          subst hi
          cases ez
          exact .inl ⟨_, _, _, _, rfl, rep_int r2, .of h1, rfl, k _ _ (fin (.int _) rfl)⟩
        · rw [if_neg hi] at ez
          by_cases hi0 : i = 0
          · rw [if_pos hi0] at ez
            subst hi0
            cases ez
            refine .inl ⟨_, _, _, _, rfl, rep_int r2, .of h1, rfl, k _ _ ?_⟩
            cases pk with
            | true => cases e; exact ⟨Z2, P1, Ls2, m, .l h2 (FzAll.ofInts _) h5, fun z => by cases z⟩
            | false => cases e
          · rw [if_neg hi0] at ez
            cases ez
    · rename_i ho
      obtain ⟨d, e1, rfl⟩ := map_some ez
      obtain ⟨p, xs, rfl, sq, f⟩ := r1.items ho
      obtain ⟨w, h1, h2⟩ := atI_fz f e1
      exact .inl ⟨p, xs, i, w, rfl, rep_int r2, sq, h1, k _ _ (fin h2 rfl)⟩
  · rename_i ds o i h1 h2
    cases h1
    simp only at h2
    subst h2
    obtain ⟨d, e1, rfl⟩ := map_some ez
    obtain ⟨p, xs, rfl, sq, f⟩ := r1.titems
    obtain ⟨w, h1, h2⟩ := atI_fz f e1
    exact .inr (.inl ⟨p, xs, i, w, rfl, rep_int r2, sq, h1, k _ _ (fin h2 rfl)⟩)
  · rename_i z' o i h1 h2
    cases h1
    simp only at h2
    subst h2
    split at ez
    · rename_i hz
      obtain ⟨c', e1, rfl⟩ := map_some ez
      exact .inr (.inr ⟨z', i, c', rep_str r1, rep_int r2, hz, e1, k _ _ (fin (.str _) rfl)⟩)
    · cases ez
  · cases ez
end
end Ev
/-! Ev 6: slices, built-ins, methods. -/
namespace Ev
open PySem PySem.Spec L2
section
open PyProof.Rows
variable {prog : Program} {w : World} {A : Around} {E : Value → Shared → Prop} {s : Shared}
theorem adjust_rev (n : Nat) : Builtin.Slice.sliceAdjust none none (-1) (n : Int) = ((n : Int) - 1, -1) := by
  unfold Builtin.Slice.sliceAdjust
  simp
theorem places_rev (n : Nat) : Builtin.Slice.slicePlaces ((n : Int) - 1) (-1) (-1) = n := by
  unfold Builtin.Slice.slicePlaces
  simp
  omega
theorem sliceApplied_rev {sl : Addr} {t : Tok} {n : Nat} {Q : Int × Int × Nat → Shared → Prop} (hs : s.heap.IsSliceOf sl .none .none (.int (-1) t)) (h : Q ((n : Int) - 1, -1, n) s) : wpAny (model prog w) A (Builtin.Slice.sliceApplied (.ref sl) (pure (n : Int))) Q E s := by
  obtain ⟨os, hos, hcs, hds⟩ := id hs
  unfold Builtin.Slice.sliceApplied Builtin.Slice.sliceFields
  refine wpAny_bind (wpAny_bind (wpAny_field hos hds (x := .none) rfl (wpAny_bind (wpAny_field hos hds (x := .none) rfl (wpAny_bind (wpAny_field hos hds (x := .int (-1) t) rfl (wpAny_pure ?_)))))))
  refine wpAny_bind (HT.slicePart_ (.int (-1) t) ?_)
  show wpAny _ _ (if ((-1 : Int) == 0) = true then _ else _) _ _ s
  rw [if_neg (by decide)]
  refine wpAny_bind (HT.slicePart_ .none (wpAny_bind (HT.slicePart_ .none (wpAny_bind (wpAny_pure ?_)))))
  show wpAny _ _ (match Builtin.Slice.sliceAdjust none none (-1) (n : Int) with | (lo, hi) => pure (lo, (-1 : Int), Builtin.Slice.slicePlaces lo hi (-1))) _ _ s
  rw [adjust_rev n]
  show wpAny _ _ (pure ((n : Int) - 1, (-1 : Int), Builtin.Slice.slicePlaces ((n : Int) - 1) (-1) (-1))) _ _ s
  rw [places_rev]
  exact wpAny_pure h
theorem pick_rev (xs : Array Value) : ((List.range xs.size).filterMap fun (m : Nat) => xs[((xs.size : Int) - 1 + (m : Int) * (-1)).toNat]?).toArray = xs.toList.reverse.toArray := by
  have e : (fun (m : Nat) => xs[((xs.size : Int) - 1 + (m : Int) * (-1)).toNat]?) = (fun m => xs[m]?) ∘ fun k => xs.size - 1 - k := by
    funext m
    show xs[((xs.size : Int) - 1 + (m : Int) * (-1)).toNat]? = xs[xs.size - 1 - m]?
    have : ((xs.size : Int) - 1 + (m : Int) * (-1)).toNat = xs.size - 1 - m := by omega
    rw [this]
  rw [e, ← List.filterMap_map, PySem.W.krv_range, List.filterMap_reverse, PySem.W.krv_all]
theorem getItem_tuple_rev {t sl : Addr} {items : Array Value} {tk : Tok} {Q : Value → Shared → Prop} (ht : IsTup s.heap t items) (hs : s.heap.IsSliceOf sl .none .none (.int (-1) tk))
    (h : Q (.ref s.heap.objs.size) { s with heap := s.heap.push { cls := .type "tuple", data := .seq items.toList.reverse.toArray } }) (hsz : items.size ≤ sizeLine) : wpAny (model prog w) A (getItem (.ref t) (.ref sl)) Q E s := by
  have hso : sizeOk (.seq items.toList.reverse.toArray) := by
    show items.toList.reverse.toArray.size ≤ sizeLine
    rw [List.size_toArray, List.length_reverse, Array.length_toList]
    exact hsz
  obtain ⟨os, hos, hcs, hds⟩ := id hs
  have hTs : s.TypeIs (.ref sl) "slice" := ⟨os, hos, hcs⟩
  unfold getItem
  try with_reducible refine wpAny_holding ?_
  first | refine wpAny_bind (wpAny_pure ?_) | skip
  refine wpAny_bind (wpAny_sequenceKey ht.typeIs (by decide) ?_)
  refine wpAny_bind (wpAny_callSpecial?_slot (name := Str.ofString "__getitem__") ht.typeIs PyProof.Rows.slot_tuple_getitem
    (wpAny_call_entry PyProof.Rows.slot_tuple_getitem ht.typeIs entry_tuple_getitem ?_ (args_tuple_getitem _ _)))
  show wpAny _ _ (Builtin.Tuple.tupleItemsOf (.ref t) >>= _) _ _ s
  refine wpAny_bind (tupleItemsOf_ ht ?_)
  refine wpAny_bind (wpAny_typeOf hTs ?_)
  rw [if_pos (by decide)]
  refine wpAny_bind (sliceApplied_rev hs ?_)
  have hno : ¬ ((((items.size : Int) - 1) == 0 && (-1 : Int) == 1 && items.size == items.size) = true) := by
    intro q
    rw [Bool.and_eq_true, Bool.and_eq_true] at q
    exact absurd q.1.2 (by decide)
  show wpAny _ _ (if (((items.size : Int) - 1) == 0 && (-1 : Int) == 1 && items.size == items.size) = true then _ else _) _ _ s
  rw [if_neg hno, pick_rev]
  first
    | exact wpAny_bind (m := Builtin.Tuple.tupleExact _) (wpAny_newObj_type (wpAny_pure ⟨_, rfl, wpAny_pure h⟩) hso)
    | exact wpAny_bind (m := Builtin.Tuple.tupleExact _) (wpAny_newObj_type (wpAny_bind (wpAny_pure (wpAny_pure ⟨_, rfl, wpAny_pure h⟩))) hso)
    | exact wpAny_bind (wpAny_bind (m := Builtin.Tuple.tupleExact _) (wpAny_newObj_type (wpAny_pure (wpAny_pure ⟨_, rfl, wpAny_pure h⟩)) hso))
    | exact wpAny_bind (wpAny_bind (m := Builtin.Tuple.tupleExact _) (wpAny_newObj_type (wpAny_pure ⟨_, rfl, wpAny_pure h⟩) hso))
end
section
open PyProof.Rows
variable {X : Cx}
/-- a list or a tuple the other way round -/
def tRevA (K : PySem.W.Frag) (te : TE) : TE := fun σ H Q => te σ H fun x H1 => ∃ a xs, x = .ref a ∧ ((SqL K H1 a xs ∧ ∀ p, H1 p = none → Q (.ref p) (upd H1 p (.lst xs.reverse))) ∨ (SqT K H1 a xs ∧ ∀ p, H1 p = none → Q (.ref p) (upd H1 p (.tup xs.reverse))))
theorem pe_revA {e : Expr} {te : TE} {k : Nat} {p1 p2 p3 pos : Pos} (he : PE X e te) : PE X (.Subscript e (.Slice none none (some (.UnaryOp .USub (.Constant (.int 1) k p1) p2)) p3) pos) (tRevA X.K te) := by
  have parts : PO X (some (.UnaryOp .USub (.Constant (.int 1) k p1) p2)) (tPart (tUn (rU fun i => .int (-i)) (tC (.int 1)))) := po_some (pe_un un_neg pe_int)
  refine ⟨fun pins s σ H Q I h => Subscript_ (thn (he.run pins s σ H _ I h) fun v s1 ⟨x, H1, I1, r1, q1⟩ => ?_)⟩
  obtain ⟨a, xs, rfl, q1⟩ := q1
  cases r1
  refine wpAny_Slice (thn (po_none.run pins s1 σ H1 (fun o H2 => o = none ∧ H2 = H1) I1 ⟨rfl, rfl⟩) fun vl s2 ⟨_, H2, I2, pl, el, e2⟩ => ?_)
  subst el e2
  refine thn (po_none.run pins s2 σ H2 (fun o H3 => o = none ∧ H3 = H2) I2 ⟨rfl, rfl⟩) fun vu s3 ⟨_, H3, I3, pu, eu, e3⟩ => ?_
  subst eu e3
  refine thn (parts.run pins s3 σ H3 (fun o H4 => o = some (-1) ∧ H4 = H3) I3 ⟨1, rfl, -1, rfl, rfl, rfl⟩) fun vs s4 ⟨_, H4, I4, ps, eo, e4⟩ => ?_
  subst eo e4
  have I5 : Inv X pins σ H4 { s4 with heap := s4.heap.push { cls := .type "slice", data := .fields #[vl, vu, vs] } } := I4.kept (t' := s4.toks) fun b ob q => Heap.get?_push_of_some _ q
  show wpAny (model X.prog X.w) X.A (subscriptTail e (.Slice none none (some (.UnaryOp .USub (.Constant (.int 1) k p1) p2)) p3) (.ref a) (.ref s4.heap.objs.size)) (EP X pins σ Q) X.xe { s4 with heap := s4.heap.push { cls := .type "slice", data := .fields #[vl, vu, vs] } }
  rcases q1 with ⟨hx, q⟩ | ⟨hx, q⟩
  · obtain ⟨its, r, ht, hz⟩ := I5.list hx
    have hlen := r.length
    refine tail_any (ops := [.ref a, .ref s4.heap.objs.size]) ht.isList.typeIs (PySem.slot_list_getitem.lookup) ?_ (by with_unfolding_all rfl)
    refine wpAny_getItem_list_slice ht.isList (Heap.IsSliceOf.new _ vl vu vs) pl pu ps (by decide) ?_ (by rw [List.size_toArray]; omega)
    rw [PySem.W.krv_pick]
    exact ⟨.ref _, _, I5.laid (t' := s4.toks) (o := .lst xs.reverse) (fun b ob q => Heap.get?_push_of_some _ q) (Nat.le_refl _) ⟨by rw [List.length_reverse]; exact hz, _, 0, r.reverse, Heap.get?_push_size _ rfl⟩, rfl, q _ (I5.hok.fresh (Nat.le_refl _))⟩
  · cases pl
    cases pu
    cases ps with
    | int _ t =>
    obtain ⟨its, r, ht, hz⟩ := I5.tuple hx
    have hlen := r.length
    refine tail_any (ops := [.ref a, .ref s4.heap.objs.size]) ht.typeIs (PyProof.Rows.slot_tuple_getitem.lookup) ?_ (by with_unfolding_all rfl)
    refine getItem_tuple_rev ht (Heap.IsSliceOf.new _ _ _ _) ?_ (by rw [List.size_toArray]; omega)
    exact ⟨.ref _, _, I5.laid (t' := s4.toks) (o := .tup xs.reverse) (fun b ob q => Heap.get?_push_of_some _ q) (Nat.le_refl _) ⟨by rw [List.length_reverse]; exact hz, _, r.reverse, IsTup.new _ _⟩, rfl, q _ (I5.hok.fresh (Nat.le_refl _))⟩
end
section
variable {X : Cx} {Φ : Cf} {a b c : Expr} {ca cb cc : E} {pos : Pos}
/-! ### slices -/
def TOv (K : PySem.W.Frag) (q : Bool) (c : E) (f : Rho → Option (DO × Rho)) : TO := fun σ H Q => ∃ Z Ls ρ r ρ' l, Den K H Z σ ρ Ls ∧ Own H Z Ls ∧ f ρ = some (r, ρ') ∧ partE c r.1 = some l ∧
  ∀ H' Z' Ls', Mid K σ q H Z Ls ρ' H' Z' Ls' → Q l H'
def JO (X : Cx) (Φ : Cf) (e : Option Expr) (c : E) : Prop := PO X e (TOv X.K (c.quiet Φ) c (ev Φ true c))
theorem PO.weak {X : Cx} {e : Option Expr} {t t' : TO} (h : PO X e t) (w : ∀ σ H Q, t' σ H Q → t σ H Q) : PO X e t' := ⟨fun pins s σ H Q I q => h.run pins s σ H Q I (w σ H Q q)⟩
theorem jo_none : JO X Φ none (.lit .none) := PO.weak po_none fun σ H Q ⟨Z, Ls, ρ, r, ρ', l, den, own, e, el, k⟩ => by
  have e : some (((PyData.none, O.f) : DO), ρ) = some (r, ρ') := e
  cases e
  cases el
  exact k _ _ _ (.refl den own)
theorem partE_some {c : E} {d : PyData} {l : Option Int} (hc : c ≠ .lit .none) (h : partE c d = some l) : ∃ i, d = .int i ∧ l = some i := by
  unfold partE at h
  split at h
  · exact absurd rfl hc
  · cases h; exact ⟨_, rfl, rfl⟩
  · cases h
theorem jo_some {e : Expr} {c : E} (hc : c ≠ .lit .none) (je : JE X Φ e c) : JO X Φ (some e) c := PO.weak (po_some (je true)) fun σ H Q ⟨Z, Ls, ρ, r, ρ', l, den, own, e, el, k⟩ => by
  refine ⟨Z, Ls, ρ, r, ρ', den, own, e, fun v H1 ⟨Z1, P1, Ls1, m1, r1, _⟩ => ?_⟩
  obtain ⟨i, hi, rfl⟩ := partE_some hc el
  rw [hi] at r1
  exact ⟨_, rep_int r1, k _ _ _ m1⟩
def rSlE (K : PySem.W.Frag) : V → Option Int → Option Int → Hp → VK → Prop := fun x lo hi H Q => rSlL K x lo hi H Q ∨ (rSlA K x lo hi H Q ∨ rSlS x lo hi H Q)
theorem sl_e : SlR X (rSlE X.K) := sl_list.or (sl_tupA.or sl_str)
theorem cut_fz {K : PySem.W.Frag} {H : Hp} {Z : PS1} {vs : List V} {ds : List PyData} (f : FzAll K H Z vs ds) (lo hi : Option Int) : FzAll K H Z (cutV vs lo hi) (cutD ds lo hi) := by
  unfold cutV cutD
  rw [f.length]
  exact (f.drop _).take _
theorem je_slice {lo hi : Option Expr} {cl ch : E} {p2 : Pos} (ja : JE X Φ a ca) (jl : JO X Φ lo cl) (jh : JO X Φ hi ch) : JE X Φ (.Subscript a (.Slice lo hi none p2) pos) (.slice ca cl ch) := by
  intro pk
  refine PE.weak (pe_slice sl_e (ja (cl.quiet Φ && ch.quiet Φ)) jl jh) fun σ H Q ⟨Z, Ls, ρ, r, ρ', den, own, e, k⟩ => ?_
  simp only [ev] at e
  obtain ⟨⟨x, ρ1⟩, ea, e⟩ := bind_some e
  obtain ⟨⟨y, ρ2⟩, el, e⟩ := bind_some e
  obtain ⟨⟨z, ρ3⟩, eh, e⟩ := bind_some e
  obtain ⟨l, pl, e⟩ := bind_some e
  obtain ⟨h, ph, e⟩ := bind_some e
  obtain ⟨w, ew, e⟩ := map_some e
  cases e
  refine ⟨Z, Ls, ρ, x, ρ1, den, own, ea, fun v H1 ⟨Z1, P1, Ls1, m1, r1, x1⟩ => ?_⟩
  refine ⟨Z1, Ls1, ρ1, y, ρ2, l, m1.den, m1.own, el, pl, fun H2 Z2 Ls2 m2 => ?_⟩
  refine ⟨Z2, Ls2, ρ2, z, ρ3, h, m2.den, m2.own, eh, ph, fun H3 Z3 Ls3 m3 => ?_⟩
  have m23 : Mid X.K σ (cl.quiet Φ && ch.quiet Φ) H1 Z1 Ls1 ρ3 H3 Z3 Ls3 := m2.trans m3 andq
  have r3 := m23.rep m1.own r1 (H := H) (Ls := Ls) (by
    cases hq : (cl.quiet Φ && ch.quiet Φ) with
    | true => exact .inl rfl
    | false => exact .inr (x1 hq))
  have m := m1.trans m23 (q := E.quiet Φ (.slice ca cl ch)) andq
  obtain ⟨dx, ox⟩ := x
  unfold sliceSem at ew
  split at ew
  · rename_i hx
    cases hx
    split at ew
    · cases ew
    · rename_i ho
      cases ew
      obtain ⟨p, xs, rfl, sq, f⟩ := r3.items ho
      exact .inl ⟨p, xs, rfl, sq, fun p' hp => k _ _ (post_lst m (cut_fz f l h) hp)⟩
  · rename_i hx
    cases hx
    cases ew
    obtain ⟨p, xs, rfl, sq, f⟩ := r3.titems
    refine .inr (.inl ⟨p, xs, rfl, sq, fun hw => k _ _ (post_fz m ?_), fun _ p' hp => k _ _ (post_tup m (cut_fz f l h) hp)⟩)
    have e1 : cutD _ l h = _ := show (List.take _ (List.drop _ _)) = _ by rw [← f.length, hw.1, hw.2, List.drop_zero, Nat.sub_zero, f.length, List.take_length]
    rw [e1]
    cases r3 with
    | fz h => exact h
  · rename_i hx
    cases hx
    obtain ⟨hz, rfl⟩ := chk_some ew
    exact .inr (.inr ⟨_, rep_str r3, hz, k _ _ (post_fz m (.str _))⟩)
  · cases ew
theorem je_rev {k : Nat} {p1 p2 p3 : Pos} (ja : JE X Φ a ca) : JE X Φ (.Subscript a (.Slice none none (some (.UnaryOp .USub (.Constant (.int 1) k p1) p2)) p3) pos) (.rev ca) := by
  intro pk
  refine PE.weak (pe_revA (ja true)) fun σ H Q ⟨Z, Ls, ρ, r, ρ', den, own, e, k⟩ => ?_
  simp only [ev] at e
  obtain ⟨⟨x, ρ1⟩, ea, e⟩ := bind_some e
  obtain ⟨w, ew, e⟩ := map_some e
  cases e
  refine ⟨Z, Ls, ρ, x, ρ1, den, own, ea, fun v H1 ⟨Z1, P1, Ls1, m1, r1, x1⟩ => ?_⟩
  obtain ⟨dx, ox⟩ := x
  unfold revSem at ew
  split at ew
  · rename_i hx
    cases hx
    split at ew
    · cases ew
    · rename_i ho
      cases ew
      obtain ⟨p, xs, rfl, sq, f⟩ := r1.items ho
      exact ⟨p, xs, rfl, .inl ⟨sq, fun p' hp => k _ _ (post_lst m1 f.rev hp)⟩⟩
  · rename_i hx
    cases hx
    cases ew
    obtain ⟨p, xs, rfl, sq, f⟩ := r1.titems
    exact ⟨p, xs, rfl, .inr ⟨sq, fun p' hp => k _ _ (post_tup m1 f.rev hp)⟩⟩
  · cases ew

/-! ### built-ins -/
def NoStars (es : List Expr) : Prop := ∀ pos env, (backTo pos (starEach es env)).any (·.1) = false
theorem NoStars.nil : NoStars [] := fun _ _ => rfl
theorem NoStars.cons {e : Expr} {es : List Expr} (h : NoStar e) (hs : NoStars es) : NoStars (e :: es) := fun pos env => by
  rw [h]
  show (false || (backTo pos (starEach es env)).any (·.1)) = false
  rw [hs]
  rfl
/-- what a built-in's rule asks is had from the data -/
structure BiOk (K : PySem.W.Frag) (b : Bi) (r : List V → Hp → VK → Prop) : Prop where
  ok : ∀ {σ : L2.St} {q pk : Bool} {H H2 : Hp} {Z Z2 : PS1} {Ls Ls2 : Nat → PS1} {ρ2 : Rho} {vs : List V} {xs : List DO} {z : DO} {Q : VK},
  biSem b xs = some z → Looks K H2 Z2 vs xs → Mid K σ q H Z Ls ρ2 H2 Z2 Ls2 → (∀ w H', EPost K σ q pk H Z Ls z ρ2 w H' → Q w H') → r vs H2 Q
theorem bi_read {es : List Expr} {cs : List E} {b : Bi} {r : List V → Hp → VK → Prop} {σ : L2.St} {H : Hp} {Q : VK} {pk : Bool} (hb : BiOk X.K b r) (h : TEv X.K (quiets Φ cs) pk (ev Φ pk (.bi b cs)) σ H Q) : tCB r (TAp X.K (quiets Φ cs) (evp Φ cs)) σ H Q := by
  obtain ⟨Z, Ls, ρ, r, ρ', den, own, e, k⟩ := h
  simp only [ev] at e
  obtain ⟨⟨xs, ρ1⟩, ea, e⟩ := bind_some e
  obtain ⟨w, ew, e⟩ := map_some e
  cases e
  exact ⟨Z, Ls, ρ, xs, ρ1, den, own, ea, fun vs H1 Z1 Ls1 m1 l => hb.ok ew l m1 k⟩
theorem je_bi {x : Str} {id : String} {e : Expr} {es : List Expr} {cs : List E} {b : Bi} {r : List V → Hp → VK → Prop} {p : Pos} (hc : CallR X (.builtin id) r) (hb : BiOk X.K b r) (hg : Gl X x) (hm : X.mg x = none) (hv : bootBuiltins x = some (.builtin id))
    (hn : x ≠ "__name__") (hd : (x == ("__debug__" : Str)) = false) (ha : JP X Φ (e :: es) cs) (s1 : NoStar e) (s2 : NoStars es) : JE X Φ (.Call (.Name x p) (e :: es) [] pos) (.bi b cs) := fun pk =>
  PE.weak (pe_callB hc hg hm hv ha hn hd (s1 _ _) (s2 _ _)) fun σ H Q h => bi_read (es := e :: es) hb h
theorem je_biT {x : Str} {T : String} {e : Expr} {es : List Expr} {cs : List E} {b : Bi} {r : List V → Hp → VK → Prop} {p : Pos} (hc : CallR X (.type T) r) (hb : BiOk X.K b r) (hg : Gl X x) (hm : X.mg x = none) (hv : bootBuiltins x = some (.type T))
    (hn : x ≠ "__name__") (hd : (x == ("__debug__" : Str)) = false) (ha : JP X Φ (e :: es) cs) (s1 : NoStar e) (s2 : NoStars es) : JE X Φ (.Call (.Name x p) (e :: es) [] pos) (.bi b cs) := fun pk =>
  PE.weak (pe_callTy hc hg hm hv ha hn hd (s1 _ _) (s2 _ _)) fun σ H Q h => bi_read (es := e :: es) hb h
end
section
variable {K : PySem.W.Frag}
theorem Looks.one {H : Hp} {Z : PS1} {vs : List V} {x : DO} (l : Looks K H Z vs [x]) : ∃ v P, vs = [v] ∧ Rep K H Z P v x.1 x.2 := by
  cases l with
  | cons h t => cases t; obtain ⟨P, r⟩ := h; exact ⟨_, P, rfl, r⟩
theorem Looks.two {H : Hp} {Z : PS1} {vs : List V} {x y : DO} (l : Looks K H Z vs [x, y]) : ∃ v u P P', vs = [v, u] ∧ Rep K H Z P v x.1 x.2 ∧ Rep K H Z P' u y.1 y.2 := by
  cases l with
  | cons h t =>
    obtain ⟨P, r⟩ := h
    obtain ⟨u, P', rfl, r'⟩ := Looks.one t
    exact ⟨_, u, P, P', rfl, r, r'⟩
/-- the items of any sequence -/
theorem seq_items {H : Hp} {Z P : PS1} {v : V} {x : DO} {ds : List PyData} (e : seqOf x = some ds) (r : Rep K H Z P v x.1 x.2) : ∃ p xs, v = .ref p ∧ (SqL K H p xs ∨ SqT K H p xs) ∧ FzAll K H Z xs ds ∧ (∀ es, x.1 = .tuple es → Fz K H Z v (.tuple ds)) ∧ ((∃ es, x.1 = .list es) → SqL K H p xs) ∧ ((∃ es, x.1 = .tuple es) → SqT K H p xs) := by
  obtain ⟨d, o⟩ := x
  unfold seqOf at e
  split at e
  · rename_i hx
    cases hx
    cases e
    obtain ⟨p, xs, rfl, sq, f⟩ := r.items (show O.f ≠ O.g from by decide)
    exact ⟨p, xs, rfl, .inl sq, f, fun _ h => (by cases h), fun _ => sq, fun ⟨_, h⟩ => by cases h⟩
  · rename_i hx
    cases hx
    cases e
    obtain ⟨p, xs, rfl, sq, f⟩ := r.items (show O.l ≠ O.g from by decide)
    exact ⟨p, xs, rfl, .inl sq, f, fun _ h => (by cases h), fun _ => sq, fun ⟨_, h⟩ => by cases h⟩
  · rename_i hx
    cases hx
    cases e
    obtain ⟨p, xs, rfl, sq, f⟩ := r.titems
    refine ⟨p, xs, rfl, .inr sq, f, fun _ h => ?_, fun ⟨_, h⟩ => (by cases h), fun _ => sq⟩
    cases r with
    | fz h => exact h
  · cases e
theorem list_items {H : Hp} {Z P : PS1} {v : V} {ds : List PyData} {o : O} (r : Rep K H Z P v (.list ds) o) : ∃ p xs, v = .ref p ∧ SqL K H p xs ∧ xs.length = ds.length ∧ DpAll K H xs ds := by
  cases r with
  | fz h => cases h with
    | lst h r => exact ⟨_, _, rfl, h.sq, r.length, r.dp⟩
  | l h r p => exact ⟨_, _, rfl, .of h, r.length, r.dp⟩
  | g h1 h2 n p q => exact ⟨_, _, rfl, .of h1, rfl, .cons (.lst (.of h2) (FzAll.ofInts (Z := Z) _).dp) (.cons (.int _) .nil)⟩
theorem dp_ints {H : Hp} {vs : List V} : ∀ {ns : List Int}, DpAll K H vs (ns.map PyData.int) → vs = ns.map V.int := by
  induction vs with
  | nil => intro ns h; cases ns with
    | nil => rfl
    | cons a b => cases h
  | cons v vs ih => intro ns h; cases ns with
    | nil => cases h
    | cons a b => cases h with
      | cons h1 h2 => cases h1; rw [ih h2]; rfl
theorem dp_bools {H : Hp} {vs : List V} : ∀ {ns : List Bool}, DpAll K H vs (ns.map PyData.bool) → vs = ns.map V.bl := by
  induction vs with
  | nil => intro ns h; cases ns with
    | nil => rfl
    | cons a b => cases h
  | cons v vs ih => intro ns h; cases ns with
    | nil => cases h
    | cons a b => cases h with
      | cons h1 h2 => cases h1; rw [ih h2]; rfl
/-- a built-in of one argument -/
theorem bi_one {b : Bi} {r : V → Hp → VK → Prop} (h2 : ∀ x y, bi2 b x y = none) (h : ∀ {σ : L2.St} {q pk : Bool} {H H2 : Hp} {Z Z2 P : PS1} {Ls Ls2 : Nat → PS1} {ρ2 : Rho} {v : V} {x z : DO} {Q : VK},
    bi1 b x = some z → Rep K H2 Z2 P v x.1 x.2 → Mid K σ q H Z Ls ρ2 H2 Z2 Ls2 → (∀ w H', EPost K σ q pk H Z Ls z ρ2 w H' → Q w H') → r v H2 Q) : BiOk K b (fun xs H Q => ∃ x, xs = [x] ∧ r x H Q) := .mk fun {σ q pk H H2 Z Z2 Ls Ls2 ρ2 vs xs z Q} e l m k => by
  match xs, e, l with
  | [], e, _ => cases e
  | [x], e, l =>
    obtain ⟨v, P, rfl, r⟩ := l.one
    exact ⟨v, rfl, h e r m k⟩
  | [x, y], e, _ =>
    have e' : bi2 b x y = some z := e
    rw [h2] at e'
    cases e'
  | _ :: _ :: _ :: _, e, _ => cases e
theorem len_ok : BiOk K .len (fun xs H Q => ∃ x, xs = [x] ∧ ∃ n, LenV K x H n ∧ Q (.int n) H) := bi_one (fun _ _ => rfl) fun {σ q pk H H2 Z Z2 P Ls Ls2 ρ2 v x z Q} e r m k => by
  obtain ⟨d, e1, rfl⟩ := map_some (show (lenSem x.1).map fz = some z from e)
  obtain ⟨dx, ox⟩ := x
  cases dx with
  | str x =>
    obtain ⟨hz, rfl⟩ := chk_some e1
    cases rep_str r
    exact ⟨_, ⟨hz, rfl⟩, k _ _ (post_fz m (.int _))⟩
  | list ds =>
    cases e1
    obtain ⟨p, xs, rfl, sq, hl, _⟩ := list_items r
    exact ⟨_, .inl ⟨xs, sq, hl.symm⟩, k _ _ (post_fz m (.int _))⟩
  | tuple ds =>
    cases e1
    obtain ⟨p, xs, rfl, sq, f⟩ := r.titems
    exact ⟨_, .inr ⟨xs, sq, f.length.symm⟩, k _ _ (post_fz m (.int _))⟩
  | _ => cases e1
theorem abs_ok : BiOk K .abs (fun xs H Q => ∃ x, xs = [x] ∧ ∃ i, x = .int i ∧ Q (.int (if i < 0 then -i else i)) H) := bi_one (fun _ _ => rfl) fun {σ q pk H H2 Z Z2 P Ls Ls2 ρ2 v x z Q} e r m k => by
  obtain ⟨d, e1, rfl⟩ := map_some (show (absSem x.1).map fz = some z from e)
  obtain ⟨dx, ox⟩ := x
  cases dx with
  | int i => cases e1; exact ⟨i, rep_int r, k _ _ (post_fz m (.int _))⟩
  | _ => cases e1
theorem int_ok : BiOk K .int1 (fun xs H Q => ((∃ i, xs = [.int i] ∧ Q (.int i) H) ∨ ∃ k, xs = [.bl k] ∧ Q (.int (if k then 1 else 0)) H) ∨ ∃ a n, xs = [.str a] ∧ PySem.intText? a = some n ∧ a.length ≤ 640 ∧ Q (.int n) H) := .mk fun {σ q pk H H2 Z Z2 Ls Ls2 ρ2 vs xs z Q} e l m k => by
  match xs, e, l with
  | [], e, _ => cases e
  | [x], e, l =>
    obtain ⟨v, P, rfl, r⟩ := l.one
    obtain ⟨d, e1, rfl⟩ := map_some (show (intSem x.1).map fz = some z from e)
    obtain ⟨dx, ox⟩ := x
    cases dx with
    | int i => cases e1; cases rep_int r; exact .inl (.inl ⟨i, rfl, k _ _ (post_fz m (.int _))⟩)
    | bool i => cases e1; cases rep_bool r; exact .inl (.inr ⟨i, rfl, k _ _ (post_fz m (.int _))⟩)
    | str y =>
      unfold intSem at e1
      simp only at e1
      split at e1
      · obtain ⟨n, e2, rfl⟩ := map_some e1
        cases rep_str r
        exact .inr ⟨y, n, rfl, e2, by assumption, k _ _ (post_fz m (.int _))⟩
      · cases e1
    | _ => cases e1
  | [x, y], e, _ => cases e
  | _ :: _ :: _ :: _, e, _ => cases e
theorem str_ok : BiOk K .str1 (fun xs H Q => (∃ i, xs = [.int i] ∧ i.natAbs.log2 < 1920 ∧ Q (.str (toString i)) H) ∨ ∃ a, xs = [.str a] ∧ Q (.str a) H) := .mk fun {σ q pk H H2 Z Z2 Ls Ls2 ρ2 vs xs z Q} e l m k => by
  match xs, e, l with
  | [], e, _ => cases e
  | [x], e, l =>
    obtain ⟨v, P, rfl, r⟩ := l.one
    obtain ⟨d, e1, rfl⟩ := map_some (show (strSem x.1).map fz = some z from e)
    obtain ⟨dx, ox⟩ := x
    cases dx with
    | int i => obtain ⟨hz, rfl⟩ := chk_some e1; cases rep_int r; exact .inl ⟨i, rfl, hz, k _ _ (post_fz m (.str _))⟩
    | str i => cases e1; cases rep_str r; exact .inr ⟨i, rfl, k _ _ (post_fz m (.str _))⟩
    | _ => cases e1
  | [x, y], e, _ => cases e
  | _ :: _ :: _ :: _, e, _ => cases e
theorem list_ok : BiOk K .list1 (fun xs H Q => ∃ x, xs = [x] ∧ ∃ p ys, x = .ref p ∧ (SqL K H p ys ∨ SqT K H p ys) ∧ ∀ l, H l = none → Q (.ref l) (upd H l (.lst ys))) := bi_one (fun _ _ => rfl) fun {σ q pk H H2 Z Z2 P Ls Ls2 ρ2 v x z Q} e r m k => by
  obtain ⟨ds, e1, rfl⟩ := map_some (show (seqOf x).map (fun ds => ((.list ds, .l) : DO)) = some z from e)
  obtain ⟨p, xs, rfl, sq, f, _⟩ := seq_items e1 r
  exact ⟨p, xs, rfl, sq, fun l hl => k _ _ (post_lst m f hl)⟩
theorem tuple_ok : BiOk K .tuple1 (fun xs H Q => ∃ x, xs = [x] ∧ ∃ p ys, x = .ref p ∧ ((SqL K H p ys ∧ ∀ l, H l = none → Q (.ref l) (upd H l (.tup ys))) ∨ (SqT K H p ys ∧ Q (.ref p) H))) := bi_one (fun _ _ => rfl) fun {σ q pk H H2 Z Z2 P Ls Ls2 ρ2 v x z Q} e r m k => by
  obtain ⟨ds, e1, rfl⟩ := map_some (show (seqOf x).map (fun ds => fz (.tuple ds)) = some z from e)
  obtain ⟨p, xs, rfl, sq, f, ft, sl, st⟩ := seq_items e1 r
  obtain ⟨dx, ox⟩ := x
  cases dx with
  | list es => exact ⟨p, xs, rfl, .inl ⟨sl ⟨_, rfl⟩, fun l hl => k _ _ (post_tup m f hl)⟩⟩
  | tuple es => exact ⟨p, xs, rfl, .inr ⟨st ⟨_, rfl⟩, k _ _ (post_fz m (ft _ rfl))⟩⟩
  | _ => cases e1
theorem listD_some {d : PyData} {ds : List PyData} (h : listD d = some ds) : d = .list ds := by
  cases d with
  | list x => cases h; rfl
  | _ => cases h
theorem intD_some {d : PyData} {i : Int} (h : intD d = some i) : d = .int i := by
  cases d with
  | int x => cases h; rfl
  | _ => cases h
theorem all_ok : BiOk K .all (fun xs H Q => ∃ x, xs = [x] ∧ rAll K [x] H Q) := bi_one (fun _ _ => rfl) fun {σ q pk H H2 Z Z2 P Ls Ls2 ρ2 v x z Q} e r m k => by
  obtain ⟨ds, e1, e⟩ := bind_some (show (listD x.1).bind (fun ds => (boolsOf ds).map fun bs => fz (.bool (bs.all id))) = some z from e)
  obtain ⟨bs, e2, rfl⟩ := map_some e
  have e3 := boolsOf_eq e2
  subst e3
  rw [listD_some e1] at r
  obtain ⟨p, xs, rfl, sq, hl, f⟩ := list_items r
  rw [dp_bools f] at sq
  exact ⟨p, bs, rfl, sq, k _ _ (post_fz m (.bl _))⟩
theorem any_ok : BiOk K .any (fun xs H Q => ∃ x, xs = [x] ∧ rAny K [x] H Q) := bi_one (fun _ _ => rfl) fun {σ q pk H H2 Z Z2 P Ls Ls2 ρ2 v x z Q} e r m k => by
  obtain ⟨ds, e1, e⟩ := bind_some (show (listD x.1).bind (fun ds => (boolsOf ds).map fun bs => fz (.bool (bs.any id))) = some z from e)
  obtain ⟨bs, e2, rfl⟩ := map_some e
  have e3 := boolsOf_eq e2
  subst e3
  rw [listD_some e1] at r
  obtain ⟨p, xs, rfl, sq, hl, f⟩ := list_items r
  rw [dp_bools f] at sq
  exact ⟨p, bs, rfl, sq, k _ _ (post_fz m (.bl _))⟩
theorem sum_ok : BiOk K .sum (fun xs H Q => ∃ x, xs = [x] ∧ rSum K [x] H Q) := bi_one (fun _ _ => rfl) fun {σ q pk H H2 Z Z2 P Ls Ls2 ρ2 v x z Q} e r m k => by
  obtain ⟨ds, e1, e⟩ := bind_some (show (listD x.1).bind (fun ds => (intsOf ds).map fun bs => fz (.int bs.sum)) = some z from e)
  obtain ⟨bs, e2, rfl⟩ := map_some e
  have e3 := intsOf_eq e2
  subst e3
  rw [listD_some e1] at r
  obtain ⟨p, xs, rfl, sq, hl, f⟩ := list_items r
  rw [dp_ints f] at sq
  exact ⟨p, bs, rfl, sq, k _ _ (post_fz m (.int _))⟩
theorem maxOf_is : ∀ {ns : List Int} {m : Int}, m ∈ ns → (∀ y ∈ ns, y ≤ m) → maxOf ns = m := by
  have key : ∀ ns : List Int, ns ≠ [] → maxOf ns ∈ ns ∧ ∀ y ∈ ns, y ≤ maxOf ns := by
    intro ns
    induction ns with
    | nil => intro h; exact absurd rfl h
    | cons a r ih =>
      intro _
      cases r with
      | nil => exact ⟨List.mem_singleton.mpr rfl, fun y hy => by rw [List.mem_singleton] at hy; rw [hy]; exact Int.le_refl _⟩
      | cons b r =>
        obtain ⟨h1, h2⟩ := ih (by simp)
        show (if a < maxOf (b :: r) then maxOf (b :: r) else a) ∈ _ ∧ ∀ y ∈ _, y ≤ (if a < maxOf (b :: r) then maxOf (b :: r) else a)
        by_cases h : a < maxOf (b :: r)
        · rw [if_pos h]
          refine ⟨List.mem_cons_of_mem _ h1, fun y hy => ?_⟩
          rcases List.mem_cons.mp hy with rfl | hy
          · omega
          · exact h2 y hy
        · rw [if_neg h]
          refine ⟨List.mem_cons_self, fun y hy => ?_⟩
          rcases List.mem_cons.mp hy with rfl | hy
          · omega
          · have := h2 y hy; omega
  intro ns m hm hb
  obtain ⟨h1, h2⟩ := key ns (by rintro rfl; cases hm)
  have a := h2 m hm
  have b := hb _ h1
  omega
theorem minOf_is : ∀ {ns : List Int} {m : Int}, m ∈ ns → (∀ y ∈ ns, m ≤ y) → minOf ns = m := by
  have key : ∀ ns : List Int, ns ≠ [] → minOf ns ∈ ns ∧ ∀ y ∈ ns, minOf ns ≤ y := by
    intro ns
    induction ns with
    | nil => intro h; exact absurd rfl h
    | cons a r ih =>
      intro _
      cases r with
      | nil => exact ⟨List.mem_singleton.mpr rfl, fun y hy => by rw [List.mem_singleton] at hy; rw [hy]; exact Int.le_refl _⟩
      | cons b r =>
        obtain ⟨h1, h2⟩ := ih (by simp)
        show (if minOf (b :: r) < a then minOf (b :: r) else a) ∈ _ ∧ ∀ y ∈ _, (if minOf (b :: r) < a then minOf (b :: r) else a) ≤ y
        by_cases h : minOf (b :: r) < a
        · rw [if_pos h]
          refine ⟨List.mem_cons_of_mem _ h1, fun y hy => ?_⟩
          rcases List.mem_cons.mp hy with rfl | hy
          · omega
          · exact h2 y hy
        · rw [if_neg h]
          refine ⟨List.mem_cons_self, fun y hy => ?_⟩
          rcases List.mem_cons.mp hy with rfl | hy
          · omega
          · have := h2 y hy; omega
  intro ns m hm hb
  obtain ⟨h1, h2⟩ := key ns (by rintro rfl; cases hm)
  have a := h2 m hm
  have b := hb _ h1
  omega
theorem max_ok : BiOk K .max1 (fun xs H Q => ∃ x, xs = [x] ∧ rMax K [x] H Q) := bi_one (fun _ _ => rfl) fun {σ q pk H H2 Z Z2 P Ls Ls2 ρ2 v x z Q} e r m k => by
  obtain ⟨ds, e1, e⟩ := bind_some (show (listD x.1).bind (fun ds => (intsOf ds).bind fun ns => chk (0 < ns.length) (fz (.int (maxOf ns)))) = some z from e)
  obtain ⟨bs, e2, e⟩ := bind_some e
  obtain ⟨hz, rfl⟩ := chk_some e
  have e3 := intsOf_eq e2
  subst e3
  rw [listD_some e1] at r
  obtain ⟨p, xs, rfl, sq, hl, f⟩ := list_items r
  rw [dp_ints f] at sq
  exact ⟨p, bs, rfl, sq, hz, fun t h1 h2 => by rw [← maxOf_is h1 h2]; exact k _ _ (post_fz m (.int _))⟩
theorem min_ok : BiOk K .min1 (fun xs H Q => ∃ x, xs = [x] ∧ rMin K [x] H Q) := bi_one (fun _ _ => rfl) fun {σ q pk H H2 Z Z2 P Ls Ls2 ρ2 v x z Q} e r m k => by
  obtain ⟨ds, e1, e⟩ := bind_some (show (listD x.1).bind (fun ds => (intsOf ds).bind fun ns => chk (0 < ns.length) (fz (.int (minOf ns)))) = some z from e)
  obtain ⟨bs, e2, e⟩ := bind_some e
  obtain ⟨hz, rfl⟩ := chk_some e
  have e3 := intsOf_eq e2
  subst e3
  rw [listD_some e1] at r
  obtain ⟨p, xs, rfl, sq, hl, f⟩ := list_items r
  rw [dp_ints f] at sq
  exact ⟨p, bs, rfl, sq, hz, fun t h1 h2 => by rw [← minOf_is h1 h2]; exact k _ _ (post_fz m (.int _))⟩
theorem insI_perm (x : Int) : ∀ l : List Int, (insI x l).Perm (x :: l)
  | [] => .refl _
  | y :: r => by
    unfold insI
    split
    · exact .refl _
    · exact ((insI_perm x r).cons y).trans (.swap x y r)
theorem sortI_perm : ∀ l : List Int, (sortI l).Perm l
  | [] => .refl _
  | x :: r => by
    unfold sortI
    exact (insI_perm x _).trans ((sortI_perm r).cons x)
theorem insI_sorted (x : Int) : ∀ {l : List Int}, l.Pairwise (· ≤ ·) → (insI x l).Pairwise (· ≤ ·)
  | [], _ => List.pairwise_singleton _ _
  | y :: r, h => by
    unfold insI
    have h' := List.pairwise_cons.mp h
    split
    · rename_i hx
      refine List.pairwise_cons.mpr ⟨fun z hz => ?_, h⟩
      rcases List.mem_cons.mp hz with rfl | hz
      · exact hx
      · have := h'.1 z hz; omega
    · rename_i hx
      refine List.pairwise_cons.mpr ⟨fun z hz => ?_, insI_sorted x h'.2⟩
      rcases List.mem_cons.mp ((insI_perm x r).mem_iff.mp hz) with rfl | hz
      · omega
      · exact h'.1 z hz
theorem sortI_sorted : ∀ l : List Int, (sortI l).Pairwise (· ≤ ·)
  | [] => .nil
  | x :: r => insI_sorted x (sortI_sorted r)
theorem sorted_uniq : ∀ {l m : List Int}, l.Pairwise (· ≤ ·) → m.Pairwise (· ≤ ·) → l.Perm m → l = m
  | [], m, _, _, p => by rw [List.Perm.nil_eq p]
  | x :: r, m, hl, hm, p => by
    cases m with
    | nil => exact absurd p.symm (by simp)
    | cons y s =>
      have h1 := List.pairwise_cons.mp hl
      have h2 := List.pairwise_cons.mp hm
      have e : x = y := by
        have a : x ∈ y :: s := p.mem_iff.mp List.mem_cons_self
        have b : y ∈ x :: r := p.mem_iff.mpr List.mem_cons_self
        rcases List.mem_cons.mp a with a | a
        · exact a
        · rcases List.mem_cons.mp b with b | b
          · exact b.symm
          · have u := h2.1 x a
            have w := h1.1 y b
            omega
      subst e
      rw [sorted_uniq h1.2 h2.2 (List.Perm.cons_inv p)]
theorem sorted_ok : BiOk K .sorted (fun xs H Q => ∃ x, xs = [x] ∧ rSortedI K [x] H Q) := bi_one (fun _ _ => rfl) fun {σ q pk H H2 Z Z2 P Ls Ls2 ρ2 v x z Q} e r m k => by
  obtain ⟨ds, e1, e⟩ := bind_some (show (listD x.1).bind (fun ds => (intsOf ds).map fun ns => (((.list ((sortI ns).map PyData.int), .l)) : DO)) = some z from e)
  obtain ⟨bs, e2, rfl⟩ := map_some e
  have e3 := intsOf_eq e2
  subst e3
  rw [listD_some e1] at r
  obtain ⟨p, xs, rfl, sq, hl, f⟩ := list_items r
  rw [dp_ints f] at sq
  refine ⟨p, bs, rfl, sq, fun ns' p' h1 h2 hp => ?_⟩
  have e : ns' = sortI bs := sorted_uniq h2 (sortI_sorted bs) (h1.trans (sortI_perm bs).symm)
  subst e
  exact k _ _ (post_lst m (FzAll.ofInts _) hp)
theorem repr_ok : BiOk K .repr (fun xs H Q => ∃ x, xs = [x] ∧ ∃ d, Dp K H x d ∧ d.showable = true ∧ d.hasDict = false ∧ d.depth ≤ 60 ∧ d.shown.length ≤ sizeLine ∧ Q (.str d.shown) H) := bi_one (fun _ _ => rfl) fun {σ q pk H H2 Z Z2 P Ls Ls2 ρ2 v x z Q} e r m k => by
  obtain ⟨d, e1, rfl⟩ := map_some (show (reprSem x.1).map fz = some z from e)
  obtain ⟨⟨h1, h2, h3, h4⟩, rfl⟩ := chk_some e1
  exact ⟨x.1, r.dp, h1, h2, h3, h4, k _ _ (post_fz m (.str _))⟩
theorem bi_two {b : Bi} {r : V → V → Hp → VK → Prop} (h1 : ∀ x, bi1 b x = none) (h : ∀ {σ : L2.St} {q pk : Bool} {H H2 : Hp} {Z Z2 P P' : PS1} {Ls Ls2 : Nat → PS1} {ρ2 : Rho} {v u : V} {x y z : DO} {Q : VK},
    bi2 b x y = some z → Rep K H2 Z2 P v x.1 x.2 → Rep K H2 Z2 P' u y.1 y.2 → Mid K σ q H Z Ls ρ2 H2 Z2 Ls2 → (∀ w H', EPost K σ q pk H Z Ls z ρ2 w H' → Q w H') → r v u H2 Q) : BiOk K b (fun xs H Q => ∃ x y, xs = [x, y] ∧ r x y H Q) := .mk fun {σ q pk H H2 Z Z2 Ls Ls2 ρ2 vs xs z Q} e l m k => by
  match xs, e, l with
  | [], e, _ => cases e
  | [x], e, l =>
    have e' : bi1 b x = some z := e
    rw [h1] at e'
    cases e'
  | [x, y], e, l =>
    obtain ⟨v, u, P, P', rfl, r, r'⟩ := l.two
    exact ⟨v, u, rfl, h e r r' m k⟩
  | _ :: _ :: _ :: _, e, _ => cases e
theorem max2_ok : BiOk K .max2 (fun xs H Q => ∃ x y, xs = [x, y] ∧ ∃ i j, x = .int i ∧ y = .int j ∧ Q (.int (if j > i then j else i)) H) := bi_two (fun _ => rfl) fun {σ q pk H H2 Z Z2 P P' Ls Ls2 ρ2 v u x y z Q} e r r' m k => by
  obtain ⟨i, e1, e⟩ := bind_some (show (intD x.1).bind (fun i => (intD y.1).map fun j => fz (.int (if j > i then j else i))) = some z from e)
  obtain ⟨j, e2, rfl⟩ := map_some e
  rw [intD_some e1] at r
  rw [intD_some e2] at r'
  exact ⟨i, j, rep_int r, rep_int r', k _ _ (post_fz m (.int _))⟩
theorem min2_ok : BiOk K .min2 (fun xs H Q => ∃ x y, xs = [x, y] ∧ ∃ i j, x = .int i ∧ y = .int j ∧ Q (.int (if j < i then j else i)) H) := bi_two (fun _ => rfl) fun {σ q pk H H2 Z Z2 P P' Ls Ls2 ρ2 v u x y z Q} e r r' m k => by
  obtain ⟨i, e1, e⟩ := bind_some (show (intD x.1).bind (fun i => (intD y.1).map fun j => fz (.int (if j < i then j else i))) = some z from e)
  obtain ⟨j, e2, rfl⟩ := map_some e
  rw [intD_some e1] at r
  rw [intD_some e2] at r'
  exact ⟨i, j, rep_int r, rep_int r', k _ _ (post_fz m (.int _))⟩
end
/-! ### the rules of the built-ins, as they are used -/
section
variable {X : Cx}
theorem CallR.weak {f : Value} {r r' : List V → Hp → VK → Prop} (h : CallR X f r) (w : ∀ xs H Q, r' xs H Q → r xs H Q) : CallR X f r' := fun pins s σ H xs us Q I rx q => h pins s σ H xs us Q I rx (w xs H Q q)
theorem cr_len : CallR X (.builtin "len") (fun xs H Q => ∃ x, xs = [x] ∧ ∃ n, LenV X.K x H n ∧ Q (.int n) H) := CallR.weak call_len fun xs H Q ⟨x, e, n, l, q⟩ => ⟨x, n, e, l, q⟩
theorem cr_abs : CallR X (.builtin "abs") (fun xs H Q => ∃ x, xs = [x] ∧ ∃ i, x = .int i ∧ Q (.int (if i < 0 then -i else i)) H) := CallR.weak call_abs fun xs H Q ⟨x, e, i, e2, q⟩ => ⟨i, by rw [e, e2], q⟩
theorem cr_int : CallR X (.type "int") (fun xs H Q => ((∃ i, xs = [.int i] ∧ Q (.int i) H) ∨ ∃ k, xs = [.bl k] ∧ Q (.int (if k then 1 else 0)) H) ∨ ∃ a n, xs = [.str a] ∧ PySem.intText? a = some n ∧ a.length ≤ 640 ∧ Q (.int n) H) := call_int1.or call_int_str
theorem cr_str : CallR X (.type "str") (fun xs H Q => (∃ i, xs = [.int i] ∧ i.natAbs.log2 < 1920 ∧ Q (.str (toString i)) H) ∨ ∃ a, xs = [.str a] ∧ Q (.str a) H) := call_str_int.or SkE.call_str_str
theorem cr_list : CallR X (.type "list") (fun xs H Q => ∃ x, xs = [x] ∧ ∃ p ys, x = .ref p ∧ (SqL X.K H p ys ∨ SqT X.K H p ys) ∧ ∀ l, H l = none → Q (.ref l) (upd H l (.lst ys))) := CallR.weak call_list_of fun xs H Q ⟨x, e, p, ys, e2, q⟩ => ⟨p, ys, by rw [e, e2], q⟩
theorem cr_tuple : CallR X (.type "tuple") (fun xs H Q => ∃ x, xs = [x] ∧ ∃ p ys, x = .ref p ∧ ((SqL X.K H p ys ∧ ∀ l, H l = none → Q (.ref l) (upd H l (.tup ys))) ∨ (SqT X.K H p ys ∧ Q (.ref p) H))) := CallR.weak call_tuple_of fun xs H Q ⟨x, e, p, ys, e2, q⟩ => ⟨p, ys, by rw [e, e2], q⟩
theorem cr_allE (hc : X.calm = true) : CallR X (.builtin "all") (fun xs H Q => ∃ x, xs = [x] ∧ rAll X.K [x] H Q) := CallR.weak (cr_all hc) fun xs H Q ⟨x, e, q⟩ => by rw [e]; exact q
theorem cr_anyE (hc : X.calm = true) : CallR X (.builtin "any") (fun xs H Q => ∃ x, xs = [x] ∧ rAny X.K [x] H Q) := CallR.weak (cr_any hc) fun xs H Q ⟨x, e, q⟩ => by rw [e]; exact q
theorem cr_sumE (hc : X.calm = true) : CallR X (.builtin "sum") (fun xs H Q => ∃ x, xs = [x] ∧ rSum X.K [x] H Q) := CallR.weak (cr_sum hc) fun xs H Q ⟨x, e, q⟩ => by rw [e]; exact q
theorem cr_maxE (hc : X.calm = true) : CallR X (.builtin "max") (fun xs H Q => ∃ x, xs = [x] ∧ rMax X.K [x] H Q) := CallR.weak (cr_max hc) fun xs H Q ⟨x, e, q⟩ => by rw [e]; exact q
theorem cr_minE (hc : X.calm = true) : CallR X (.builtin "min") (fun xs H Q => ∃ x, xs = [x] ∧ rMin X.K [x] H Q) := CallR.weak (cr_min hc) fun xs H Q ⟨x, e, q⟩ => by rw [e]; exact q
theorem cr_sortedE : CallR X (.builtin "sorted") (fun xs H Q => ∃ x, xs = [x] ∧ rSortedI X.K [x] H Q) := CallR.weak cr_sortedI fun xs H Q ⟨x, e, q⟩ => by rw [e]; exact q
theorem cr_max2 (hc : X.calm = true) : CallR X (.builtin "max") (fun xs H Q => ∃ x y, xs = [x, y] ∧ ∃ i j, x = .int i ∧ y = .int j ∧ Q (.int (if j > i then j else i)) H) := CallR.weak (call_max2 hc) fun xs H Q ⟨x, y, e, i, j, e1, e2, q⟩ => ⟨i, j, by rw [e, e1, e2], q⟩
theorem cr_min2 (hc : X.calm = true) : CallR X (.builtin "min") (fun xs H Q => ∃ x y, xs = [x, y] ∧ ∃ i j, x = .int i ∧ y = .int j ∧ Q (.int (if j < i then j else i)) H) := CallR.weak (call_min2 hc) fun xs H Q ⟨x, y, e, i, j, e1, e2, q⟩ => ⟨i, j, by rw [e, e1, e2], q⟩
/-- repr of data, where none is under way -/
theorem cr_repr (hg : X.A.guards = some []) (hu : X.A.units + 64 < cLine) : CallR X (.builtin "repr") (fun xs H Q => ∃ x, xs = [x] ∧ ∃ d, Dp X.K H x d ∧ d.showable = true ∧ d.hasDict = false ∧ d.depth ≤ 60 ∧ d.shown.length ≤ sizeLine ∧ Q (.str d.shown) H) := by
  intro pins s σ H xs us Q I r h
  obtain ⟨x, rfl, d, dp, h1, h2, h3, h4, q⟩ := h
  obtain ⟨u, rfl, ru⟩ := vals1 r
  have fin : ∀ tk, EP X pins σ Q (.str d.shown s.toks) { s with toks := tk } := fun tk => ⟨.str d.shown, H, I.tok _, ⟨_, rfl⟩, q⟩
  have big : ∀ a, u = .ref a → wpAny (model X.prog X.w) X.A (call (.builtin "repr") [u]) (EP X pins σ Q) X.xe s := fun a e => by
    subst e
    obtain ⟨as, rd⟩ := Dp.reads I d x _ dp ru
    exact repr_of_reads' rd h1 (fun z => by rw [h2] at z; cases z) hg (by omega) (fun _ _ z => z) (fun h' u tk hk => ⟨.str d.shown, H, I.kept hk, ⟨_, rfl⟩, q⟩) h4
  cases dp with
  | non =>
    cases ru
    exact PySem.P.repr_of_none ⟨.str _, H, I.tok _, ⟨_, rfl⟩, by simpa only [PyData.shown] using q⟩
  | bl b =>
    cases ru
    exact PySem.P.repr_of_bool ⟨.str _, H, I.tok _, ⟨_, rfl⟩, by simpa only [PyData.shown] using q⟩
  | int i =>
    obtain ⟨t, rfl⟩ := ru
    exact PySem.P.repr_of_int (by simpa only [PyData.showable, decide_eq_true_eq] using h1) ⟨.str _, H, I.tok _, ⟨_, rfl⟩, by simpa only [PyData.shown] using q⟩
  | str y =>
    obtain ⟨t, rfl⟩ := ru
    exact PySem.P.repr_of_str ⟨.str _, H, I.tok _, ⟨_, rfl⟩, by simpa only [PyData.shown] using q⟩ (by simpa only [PyData.shown] using h4)
  | lst h r => cases ru; exact big _ rfl
  | tup h r => cases ru; exact big _ rfl
end
end Ev
/-! Ev 7: isinstance; methods of texts; lists that are changed. -/
namespace Ev
open PySem PySem.Spec L2
section
variable {K : PySem.W.Frag}
theorem rep_ty {H : Hp} {Z P : PS1} {v : V} {d : PyData} {o : O} (r : Rep K H Z P v d o) : TyX K H v (.type (tyD d)) := by
  cases r with
  | fz h =>
    cases h with
    | non => exact .base .non
    | bl b => exact .base (.bl b)
    | int i => exact .base (.int i)
    | str x => exact .base (.str x)
    | lst h r =>
      rcases h with ⟨h | ⟨o, h⟩, _⟩ | ⟨o, its, n, h, c, _⟩
      · exact .base (.lst h)
      · exact .base (.frz h)
      · exact .kList h c
    | tup h r =>
      rcases h with ⟨h | ⟨o, h⟩, _⟩ | ⟨o, its, n, h, c, _⟩
      · exact .base (.tup h)
      · exact .fTuple h
      · exact .kTuple h c
  | l h r p => exact .base (.lst h)
  | g h1 h2 n p q => exact .base (.lst h1)
/-- the classes that isinstance is asked for here -/
def isTy (t : String) : Bool := t == "int" || t == "bool" || t == "str" || t == "list" || t == "tuple"
theorem isTy_or {t : String} (h : isTy t = true) : t = "int" ∨ t = "bool" ∨ t = "str" ∨ t = "list" ∨ t = "tuple" := by
  simp only [isTy, Bool.or_eq_true, beq_iff_eq] at h
  rcases h with (((h | h) | h) | h) | h
  · exact .inl h
  · exact .inr (.inl h)
  · exact .inr (.inr (.inl h))
  · exact .inr (.inr (.inr (.inl h)))
  · exact .inr (.inr (.inr (.inr h)))
theorem kit_d {t : String} (ht : isTy t = true) {H : Hp} {Z P : PS1} {v : V} {d : PyData} {o : O} (r : Rep K H Z P v d o) : PySem.W.kitOne K (.type (tyD d)) (.type t) = some (isiB t d) := by
  have nd : ∀ kvs, d ≠ .dict kvs := fun kvs e => by
    subst e
    cases r with
    | fz h => cases h
  rcases isTy_or ht with rfl | rfl | rfl | rfl | rfl
  all_goals
    cases d with
    | dict kvs => exact absurd rfl (nd kvs)
    | _ => (refine kit_ty ?_; simp only [tyD, isiB]; decide +kernel)
theorem kit_any {ts : List String} (ht : ∀ t ∈ ts, isTy t = true) {H : Hp} {Z P : PS1} {v : V} {d : PyData} {o : O} (r : Rep K H Z P v d o) : PySem.W.kitAny K (.type (tyD d)) (ts.map Value.type) = some (ts.any fun t => isiB t d) := by
  induction ts with
  | nil => rfl
  | cons t ts ih =>
    refine kitAny_cons (kit_d (ht t List.mem_cons_self) r) (fun e => ?_) fun e => ?_
    · rw [ih fun t h => ht t (List.mem_cons_of_mem _ h), List.any_cons, e, Bool.false_or]
    · rw [List.any_cons, e, Bool.true_or]
end
section
variable {X : Cx} {Φ : Cf} {a b c : Expr} {ca cb cc : E} {pos : Pos}
/-- a class by its name; several in a tuple -/
inductive ClsE (X : Cx) : Expr → List String → Bool → Prop
  | one {e : Expr} {t : String} : PE X e (tC (.ty t)) → NoStar e → ClsE X e [t] false
  | tup {es : List Expr} {ts : List String} {k : Nat} {p : Pos} : PA X es (fun σ H Q => Q (ts.map V.ty) H) → NoStar (.Tuple es k p) → ts.length ≤ 5 → ClsE X (.Tuple es k p) ts true
theorem paired_ty : ∀ ts : List String, Paired ClsV (ts.map V.ty) (ts.map Value.type)
  | [] => .nil
  | t :: ts => .cons (.ty t) (paired_ty ts)
theorem je_isi {e : Expr} {ts : List String} {tu : Bool} {p : Pos} (ja : JE X Φ a ca) (s1 : NoStar a) (hc : ClsE X e ts tu) (ht : ∀ t ∈ ts, isTy t = true) (hg : Gl X "isinstance") (hm : X.mg "isinstance" = none) :
    JE X Φ (.Call (.Name "isinstance" p) [a, e] [] pos) (.bi (.isi ts) [ca]) := by
  intro pk
  cases hc with
  | @one _ t he s2 =>
    have s3 : NoStars [e] := .cons s2 .nil
    refine PE.weak (pe_callB call_isi hg hm (by decide +kernel) (pa_cons (ja true) (pa_cons he pa_nil (s2 _ _)) (s1 _ _)) (by decide +kernel) (by decide +kernel) (s1 _ _) (s3 _ _)) fun σ H Q ⟨Z, Ls, ρ, r, ρ', den, own, e, k⟩ => ?_
    simp only [ev, evp, quiets] at e
    obtain ⟨⟨xs, ρ1⟩, eq1, e⟩ := bind_some e
    obtain ⟨⟨x, ρ2⟩, ea, eb⟩ := bind_some eq1
    cases eb
    obtain ⟨w, ew, e⟩ := map_some e
    cases e
    refine ⟨Z, Ls, ρ, x, _, den, own, ea, fun v H1 ⟨Z1, P1, Ls1, m1, r1, _⟩ => ?_⟩
    have ew : some (fz (.bool ([t].any fun t => isiB t x.1))) = some _ := ew
    cases ew
    refine ⟨v, _, _, _, _, rfl, .ty t, rep_ty r1, kit_d (ht t List.mem_cons_self) r1, k _ _ (post_fz (m1.less fun z => (andq z).1) ?_)⟩
    rw [List.any_cons, List.any_nil, Bool.or_false]
    exact .bl _
  | @tup es ts k p hes s2 hl =>
    have s3 : NoStars [.Tuple es k p] := .cons s2 .nil
    refine PE.weak (pe_callB call_isiT hg hm (by decide +kernel) (pa_cons (ja true) (pa_cons (pe_tup hes) pa_nil (s2 _ _)) (s1 _ _)) (by decide +kernel) (by decide +kernel) (s1 _ _) (s3 _ _)) fun σ H Q ⟨Z, Ls, ρ, r, ρ', den, own, e, k⟩ => ?_
    simp only [ev, evp, quiets] at e
    obtain ⟨⟨xs, ρ1⟩, eq1, e⟩ := bind_some e
    obtain ⟨⟨x, ρ2⟩, ea, eb⟩ := bind_some eq1
    cases eb
    obtain ⟨w, ew, e⟩ := map_some e
    cases e
    refine ⟨Z, Ls, ρ, x, _, den, own, ea, fun v H1 ⟨Z1, P1, Ls1, m1, r1, _⟩ => ?_⟩
    have ew : some (fz (.bool (ts.any fun t => isiB t x.1))) = some _ := ew
    cases ew
    refine ⟨by rw [List.length_map]; exact Nat.le_trans hl (by decide), fun q hq => ?_⟩
    have m2 := m1.laid (o := .tup (ts.map V.ty)) hq
    have r2 : Rep X.K (upd H1 q (.tup (ts.map V.ty))) (fun a => Z1 a ∧ a ≠ q) P1 v x.1 x.2 := r1.keep (fun a u h n => ⟨by rw [upd_ne (ne_of_none h hq)]; exact h, fun z => n z.1⟩) (fun a u _ h => by rw [upd_ne (ne_of_none h hq)]; exact h) fun _ p => p
    exact ⟨v, q, _, _, _, _, rfl, upd_same, paired_ty ts, rep_ty r2, kit_any ht r2, k _ _ (post_fz (m2.less fun z => (andq z).1) (.bl _))⟩

/-! ### methods -/
theorem few_of {es : List Expr} {env : Env} {cpos : Pos} {e : Expr} (h : NoStars (e :: es)) (hl : es.length < 20) : ((backTo cpos (starEach (e :: es) env)).all (fun x => !x.1) && (backToKw cpos (keywordEach [] env)).all (fun x => x.1.isSome)
      && decide ((e :: es).length + ([] : List Keyword).length + (if ([] : List Keyword).isEmpty then 0 else 1) < 30)) = true := by
  have h1 : (backTo cpos (starEach (e :: es) env)).all (fun x => !x.1) = true := by
    have := h cpos env
    rw [List.all_eq_not_any_not]
    simp only [Bool.not_not]
    rw [this] <;> rfl
  rw [h1]
  have h2 : decide ((e :: es).length + ([] : List Keyword).length + (if ([] : List Keyword).isEmpty then 0 else 1) < 30) = true := decide_eq_true (by simp; omega)
  rw [h2]
  rfl
structure MeOk (K : PySem.W.Frag) (m : Me) (r : V → List V → Hp → VK → Prop) : Prop where
  ok : ∀ {σ : L2.St} {q pk : Bool} {H H2 : Hp} {Z Z2 P : PS1} {Ls Ls2 : Nat → PS1} {ρ2 : Rho} {v : V} {vs : List V} {x : DO} {xs : List DO} {z : DO} {Q : VK},
    meSem m x xs = some z → Rep K H2 Z2 P v x.1 x.2 → Looks K H2 Z2 vs xs → Mid K σ q H Z Ls ρ2 H2 Z2 Ls2 → (∀ w H', EPost K σ q pk H Z Ls z ρ2 w H' → Q w H') → r v vs H2 Q
  str : ∀ {x : DO} {xs : List DO} {z : DO}, meSem m x xs = some z → ∃ s, x.1 = .str s
theorem je_meth {m : Me} {r : V → List V → Hp → VK → Prop} {id : String} {name : Str} {o e : Expr} {es : List Expr} {co : E} {cs : List E} {apos cpos : Pos} (slot : PySem.Slot "str" name id) (hty : typeOf (.builtin id) = pure (.type "method_descriptor")) (hm : MtR X id r) (ok : MeOk X.K m r)
    (jo : JE X Φ o co) (hbase : attributeBase o name X.env (eval o X.env) = eval o X.env) (hline : (apos.endLine == cpos.line) = true) (ha : JP X Φ (e :: es) cs) (s1 : NoStar e) (s2 : NoStars es) (hl : es.length < 20) :
    JE X Φ (.Call (.Attribute o name apos) (e :: es) [] cpos) (.meth m co cs) := by
  intro pk
  refine PE.weak (pe_bm PySem.F.plainAttrs_str slot hty hm (jo (quiets Φ cs)) ha hbase (few_of (.cons s1 s2) hl) hline (s1 _ _) (s2 _ _)) fun σ H Q ⟨Z, Ls, ρ, r, ρ', den, own, e, k⟩ => ?_
  simp only [ev] at e
  obtain ⟨⟨x, ρ1⟩, ea, e⟩ := bind_some e
  obtain ⟨⟨xs, ρ2⟩, eb, e⟩ := bind_some e
  obtain ⟨w, ew, e⟩ := map_some e
  cases e
  obtain ⟨s, hs⟩ := ok.str ew
  refine ⟨Z, Ls, ρ, x, ρ1, den, own, ea, fun v H1 ⟨Z1, P1, Ls1, m1, r1, x1⟩ => ?_⟩
  refine ⟨?_, Z1, Ls1, ρ1, xs, _, m1.den, m1.own, eb, fun vs H2 Z2 Ls2 m2 l2 => ?_⟩
  · rw [hs] at r1
    rw [rep_str r1]
    exact rfl
  · refine ok.ok ew (m2.rep m1.own r1 (H := H) (Ls := Ls) ?_) l2 (m1.trans m2 andq) k
    cases hq : quiets Φ cs with
    | true => exact .inl rfl
    | false => exact .inr (x1 hq)
theorem je_meth0 {m : Me} {r : V → List V → Hp → VK → Prop} {id : String} {name : Str} {o : Expr} {co : E} {apos cpos : Pos} (slot : PySem.Slot "str" name id) (hty : typeOf (.builtin id) = pure (.type "method_descriptor")) (hm : MtR X id r) (ok : MeOk X.K m r)
    (jo : JE X Φ o co) (hbase : attributeBase o name X.env (eval o X.env) = eval o X.env) (hline : (apos.endLine == cpos.line) = true) : JE X Φ (.Call (.Attribute o name apos) [] [] cpos) (.meth m co []) := by
  intro pk
  refine PE.weak (pe_bm0 PySem.F.plainAttrs_str slot hty hm (jo true) hbase hline) fun σ H Q ⟨Z, Ls, ρ, r, ρ', den, own, e, k⟩ => ?_
  simp only [ev, quiets, evp] at e
  obtain ⟨⟨x, ρ1⟩, ea, e⟩ := bind_some e
  obtain ⟨w, ew, e⟩ := map_some e
  cases e
  obtain ⟨s, hs⟩ := ok.str ew
  refine ⟨Z, Ls, ρ, x, _, den, own, ea, fun v H1 ⟨Z1, P1, Ls1, m1, r1, x1⟩ => ⟨?_, ok.ok ew r1 .nil (m1.less fun z => (andq z).1) k⟩⟩
  rw [hs] at r1
  rw [rep_str r1]
  exact rfl
theorem join_ok : MeOk X.K .join (fun x xs H Q => ∃ a p, ∃ ys : List Str, x = .str a ∧ xs = [.ref p] ∧ (SqL X.K H p (ys.map V.str) ∨ SqT X.K H p (ys.map V.str)) ∧ (ys.map (·.length)).sum + ys.length * a.length ≤ 16777216 ∧ Q (.str (Txt.join a ys)) H) where
  ok := fun {σ q pk H H2 Z Z2 P Ls Ls2 ρ2 v vs x xs z Q} e r l m k => by
    match x, xs, e, l with
    | (.str a, o), [y], e, l =>
      obtain ⟨ds, e1, e⟩ := bind_some e
      obtain ⟨ys, e2, e⟩ := bind_some e
      obtain ⟨hz, rfl⟩ := chk_some e
      obtain ⟨u, P', rfl, r'⟩ := l.one
      obtain ⟨p, us, rfl, sq, f, _⟩ := seq_items e1 r'
      have e3 := strsOf_eq e2
      subst e3
      rw [f.strs] at sq
      exact ⟨a, p, ys, rep_str r, rfl, sq, hz, k _ _ (post_fz m (.str _))⟩
    | (.none, _), _, e, _ => cases e
    | (.bool _, _), _, e, _ => cases e
    | (.int _, _), _, e, _ => cases e
    | (.list _, _), _, e, _ => cases e
    | (.tuple _, _), _, e, _ => cases e
    | (.dict _, _), _, e, _ => cases e
    | (.str _, _), [], e, _ => cases e
    | (.str _, _), _ :: _ :: _, e, _ => cases e
  str := fun {x xs z} e => by
    obtain ⟨d, o⟩ := x
    cases d with
    | str s => exact ⟨s, rfl⟩
    | _ => cases e
theorem upper_ok : MeOk X.K .upper (fun x xs H Q => ∃ a, x = .str a ∧ xs = [] ∧ a.length ≤ 5592405 ∧ Q (.str (Txt.upper a)) H) where
  ok := fun {σ q pk H H2 Z Z2 P Ls Ls2 ρ2 v vs x xs z Q} e r l m k => by
    match x, xs, e, l with
    | (.str a, o), [], e, l =>
      obtain ⟨hz, rfl⟩ := chk_some e
      cases l
      exact ⟨a, rep_str r, rfl, hz, k _ _ (post_fz m (.str _))⟩
    | (.none, _), _, e, _ => cases e
    | (.bool _, _), _, e, _ => cases e
    | (.int _, _), _, e, _ => cases e
    | (.list _, _), _, e, _ => cases e
    | (.tuple _, _), _, e, _ => cases e
    | (.dict _, _), _, e, _ => cases e
    | (.str _, _), _ :: _, e, _ => cases e
  str := fun {x xs z} e => by
    obtain ⟨d, o⟩ := x
    cases d with
    | str s => exact ⟨s, rfl⟩
    | _ => cases e
end
end Ev
/-! Ev 8: lists that are changed. -/
namespace Ev
open PySem PySem.Spec L2
/-! ### extend by any list or tuple -/
theorem ext_list (l b : Addr) (its its2 : Array Value) (n n2 : Nat) (dd : Option Addr) (sl : Array (Option Value)) (h0 : ¬(!its.isEmpty && Builtin.List.listTooLong (its.size + its2.size)) = true) (h1 : its.size ≤ sizeLine) (h2 : its.size + its2.size ≤ sizeLine + 1) :
    Meets (Builtin.«list.extend» ⟨[.ref l, .ref b], []⟩) (fun _ R s => s.heap.get? l = some { cls := .type "list", dict := none, data := .seq its n, slots := #[] } ∧ s.heap.get? b = some { cls := .type "list", dict := dd, data := .seq its2 n2, slots := sl } ∧
      R (.ok (.ret Value.none)) { s with heap := s.heap.update l (Obj.mapSeq fun x => x ++ its2), toks := s.toks }) := by
  refine .of_wp fun prog w A R s h => ?_
  obtain ⟨hp, gg, dd, tk, os⟩ := s
  obtain ⟨hl, hb, h⟩ := h
  have i1 := AutoSeq1.idx_int
  have i2 := AutoSeq1.sub_tuple_tuple
  have i3 := AutoSeq1.sub_list_list
  have i4 := AutoSeq1.sub_tuple_list
  have i5 := AutoSeq1.sub_list_tuple
  have hz' : (its ++ its2).size ≤ sizeLine + 1 := by rw [Array.size_append]; exact h2
  wp_walk using (wpAny_updateSeq hl rfl (hz := h1) (_hz' := hz')), AutoSeq1.wpAny_loadPart' hl, AutoSeq1.wpAny_loadPart' hb
  exact ⟨_, rfl, h⟩
theorem ext_tup (l b : Addr) (its its2 : Array Value) (n n2 : Nat) (dd : Option Addr) (sl : Array (Option Value)) (h0 : ¬(!its.isEmpty && Builtin.List.listTooLong (its.size + its2.size)) = true) (h1 : its.size ≤ sizeLine) (h2 : its.size + its2.size ≤ sizeLine + 1) :
    Meets (Builtin.«list.extend» ⟨[.ref l, .ref b], []⟩) (fun _ R s => s.heap.get? l = some { cls := .type "list", dict := none, data := .seq its n, slots := #[] } ∧ s.heap.get? b = some { cls := .type "tuple", dict := dd, data := .seq its2 n2, slots := sl } ∧
      R (.ok (.ret Value.none)) { s with heap := s.heap.update l (Obj.mapSeq fun x => x ++ its2), toks := s.toks }) := by
  refine .of_wp fun prog w A R s h => ?_
  obtain ⟨hp, gg, dd, tk, os⟩ := s
  obtain ⟨hl, hb, h⟩ := h
  have i1 := AutoSeq1.idx_int
  have i2 := AutoSeq1.sub_tuple_tuple
  have i3 := AutoSeq1.sub_list_list
  have i4 := AutoSeq1.sub_tuple_list
  have i5 := AutoSeq1.sub_list_tuple
  have hz' : (its ++ its2).size ≤ sizeLine + 1 := by rw [Array.size_append]; exact h2
  wp_walk using (wpAny_updateSeq hl rfl (hz := h1) (_hz' := hz')), AutoSeq1.wpAny_loadPart' hl, AutoSeq1.wpAny_loadPart' hb
  exact ⟨_, rfl, h⟩
section
variable {X : Cx} {Φ : Cf} {K : PySem.W.Frag}
def rExtE (K : PySem.W.Frag) : V → List V → Hp → VK → Prop := fun x vs H Q => ∃ l b xs zs, x = .ref l ∧ vs = [.ref b] ∧ H l = some (.lst xs) ∧ (SqL K H b zs ∨ SqT K H b zs) ∧ xs.length + zs.length ≤ sizeLine ∧ Q .non (upd H l (.lst (xs ++ zs)))
theorem mt_extE : MtM X "list.extend" (rExtE X.K) := by
  intro pins s σ H x vs v us Q I rx rv h
  obtain ⟨l, b, xs, zs, rfl, rfl, hH, hB, hz, q⟩ := h
  cases rx
  obtain ⟨u, rfl, ru⟩ := rv.one
  cases ru
  obtain ⟨z, its, n, r, hl, e⟩ := I.lstM hH
  have fin : ∀ its2 : List Value, Vals zs its2 → ∀ tk, EP X pins σ Q .none { s with heap := s.heap.update l (Obj.mapSeq fun x => x ++ its2.toArray), toks := tk } := fun its2 r2 tk =>
    ⟨.non, _, I.lset (its' := its ++ its2) (t' := tk) hH e (by simp) (r.append r2) (by rw [List.length_append]; exact hz), rfl, q⟩
  rcases hB with hB | hB
  · obtain ⟨its2, r2, ⟨⟨c2, d2, dt2, s2⟩, n2, e2, hc2, hd2, ht2⟩, z2⟩ := I.list hB
    simp only at hc2 hd2 ht2
    subst hc2 hd2 ht2
    have hsz : its.toArray.size + its2.toArray.size ≤ sizeLine := by rw [List.size_toArray, List.size_toArray, ← hl, ← r2.length]; exact hz
    have hlong : ¬ (!its.toArray.isEmpty && Builtin.List.listTooLong (its.toArray.size + its2.toArray.size)) = true := by
      rw [notLongL hsz, Bool.and_false]
      exact Bool.false_ne_true
    exact call_meets F.slot_list_extend ⟨_, e, rfl⟩ F.entry_list_extend (F.args_list_extend_2 _ _) (ext_list l b its.toArray its2.toArray n n2 none s2 hlong (by rw [List.size_toArray]; omega) (by omega)) ⟨e, e2, fin its2 r2 _⟩
  · obtain ⟨its2, r2, ⟨⟨c2, d2, dt2, s2⟩, e2, hc2, n2, ht2⟩, z2⟩ := I.tuple hB
    simp only at hc2 ht2
    subst hc2 ht2
    have hsz : its.toArray.size + its2.toArray.size ≤ sizeLine := by rw [List.size_toArray, List.size_toArray, ← hl, ← r2.length]; exact hz
    have hlong : ¬ (!its.toArray.isEmpty && Builtin.List.listTooLong (its.toArray.size + its2.toArray.size)) = true := by
      rw [notLongL hsz, Bool.and_false]
      exact Bool.false_ne_true
    exact call_meets F.slot_list_extend ⟨_, e, rfl⟩ F.entry_list_extend (F.args_list_extend_2 _ _) (ext_tup l b its.toArray its2.toArray n n2 d2 s2 hlong (by rw [List.size_toArray]; omega) (by omega)) ⟨e, e2, fin its2 r2 _⟩

/-! ### a name's list is changed -/
theorem Mid.write {K : PySem.W.Frag} {σ : L2.St} {q : Bool} {H H1 : Hp} {Z Z1 : PS1} {Ls Ls1 : Nat → PS1} {ρ1 : Rho} {i : Nat} {a : Addr} {xs xs' : List V} {ds ds' : List PyData} (m : Mid K σ q H Z Ls ρ1 H1 Z1 Ls1)
    (hi : ρ1[i]? = some (some (.list ds, .l))) (hv : σ[i]? = some (some (.ref a))) (ha : H1 a = some (.lst xs)) (hp : Ls1 i a) (f : FzAll K H1 Z1 xs' ds') :
    Mid K σ false H Z Ls (ρ1.set i (some (.list ds', .l))) (upd H1 a (.lst xs')) Z1 Ls1 ∧ FK H1 Z1 (upd H1 a (.lst xs')) Z1 := by
  have fk : FK H1 Z1 (upd H1 a (.lst xs')) Z1 := fun x u h n => ⟨by
    rw [upd_ne (fun e => n (by rw [e]; exact m.own.z i a hp))]; exact h, n⟩
  refine ⟨⟨fun j d o e => ?_, ⟨m.own.dis, m.own.z, fun j x h => ?_⟩, ⟨fun x u h n => ?_, m.stp.fz, m.stp.own, fun x u h => ?_⟩, fun z => (by cases z), m.new⟩, fk⟩
  · by_cases hj : j = i
    · subst hj
      have hl : j < ρ1.length := (List.getElem?_eq_some_iff.mp hi).1
      rw [List.getElem?_set_self hl] at e
      cases e
      exact ⟨_, hv, .l upd_same (f.keep fk) hp⟩
    · rw [List.getElem?_set_ne (Ne.symm hj)] at e
      obtain ⟨v, h1, r⟩ := m.den j d o e
      exact ⟨v, h1, r.keep fk (fun x u p h => by rw [upd_ne (fun e => hj (m.own.dis j i a (by rw [← e]; exact p) hp))]; exact h) fun _ p => p⟩
  · by_cases hx : x = a
    · subst hx; exact ⟨_, upd_same⟩
    · obtain ⟨u, hu⟩ := m.own.tr j x h
      exact ⟨u, by rw [upd_ne hx]; exact hu⟩
  · have h' := m.stp.keep x u h n
    rw [upd_ne]
    · exact h'
    · intro e
      subst e
      exact n ((m.new x ⟨i, hp⟩).resolve_right fun z => by rw [h] at z; cases z)
  · by_cases hx : x = a
    · subst hx; exact ⟨_, upd_same⟩
    · obtain ⟨u', h'⟩ := m.stp.dom x u h
      exact ⟨u', by rw [upd_ne hx]; exact h'⟩
theorem Exc.step' {K : PySem.W.Frag} {σ : L2.St} {q : Bool} {H0 H1 H2 : Hp} {Z1 Z2 P : PS1} {Ls0 Ls1 Ls2 : Nat → PS1} {ρ2 : Rho} (x : Exc H0 Ls0 P H1 Z1 Ls1) (m : Mid K σ q H1 Z1 Ls1 ρ2 H2 Z2 Ls2) : Exc H0 Ls0 P H2 Z2 Ls2 where
  z := fun a p => by
    obtain ⟨o, h⟩ := x.tr a p
    exact m.stp.own a o h (x.z a p) (x.dis a p)
  tr := fun a p => by
    obtain ⟨o, h⟩ := x.tr a p
    exact m.stp.dom a o h
  dis := fun a p l => by
    obtain ⟨o, h⟩ := x.tr a p
    rcases m.new a l with w | w
    · exact x.dis a p w
    · rw [h] at w; cases w
  new := x.new
/-- a thing that a slot owns is written -/
theorem Mid.upL {K : PySem.W.Frag} {σ : L2.St} {q : Bool} {H H1 : Hp} {Z Z1 : PS1} {Ls Ls1 : Nat → PS1} {ρ1 : Rho} {i : Nat} {x : Addr} {o : HO} {v : V} {d d' : PyData} {w w' : O} (m : Mid K σ q H Z Ls ρ1 H1 Z1 Ls1) (hi : ρ1[i]? = some (some (d, w))) (hv : σ[i]? = some (some v)) (hx : ∃ u, H1 x = some u) (hp : Ls1 i x)
    (r : FK H1 Z1 (upd H1 x o) Z1 → Rep K (upd H1 x o) Z1 (Ls1 i) v d' w') : Mid K σ false H Z Ls (ρ1.set i (some (d', w'))) (upd H1 x o) Z1 Ls1 ∧ FK H1 Z1 (upd H1 x o) Z1 := by
  have fk : FK H1 Z1 (upd H1 x o) Z1 := fun y u h n => ⟨by
    rw [upd_ne (fun e => n (by rw [e]; exact m.own.z i x hp))]; exact h, n⟩
  refine ⟨⟨fun j d0 o0 e => ?_, ⟨m.own.dis, m.own.z, fun j y h => ?_⟩, ⟨fun y u h n => ?_, m.stp.fz, m.stp.own, fun y u h => ?_⟩, fun z => (by cases z), m.new⟩, fk⟩
  · by_cases hj : j = i
    · subst hj
      rw [List.getElem?_set_self (List.getElem?_eq_some_iff.mp hi).1] at e
      cases e
      exact ⟨v, hv, r fk⟩
    · rw [List.getElem?_set_ne (Ne.symm hj)] at e
      obtain ⟨u, h1, r1⟩ := m.den j d0 o0 e
      exact ⟨u, h1, r1.keep fk (fun y u p h => by rw [upd_ne (fun e => hj (m.own.dis j i y p (by rw [e]; exact hp)))]; exact h) fun _ p => p⟩
  · by_cases hy : y = x
    · exact ⟨o, by rw [hy, upd_same]⟩
    · obtain ⟨u, hu⟩ := m.own.tr j y h
      exact ⟨u, by rw [upd_ne hy]; exact hu⟩
  · have h' := m.stp.keep y u h n
    rw [upd_ne]
    · exact h'
    · intro e
      subst e
      exact n ((m.new y ⟨i, hp⟩).resolve_right fun z => by rw [h] at z; cases z)
  · by_cases hy : y = x
    · exact ⟨o, by rw [hy, upd_same]⟩
    · obtain ⟨u', h'⟩ := m.stp.dom y u h
      exact ⟨u', by rw [upd_ne hy]; exact h'⟩
theorem ownG_some {s : Slot} (h : ¬ ownG s = false) : ∃ ds n, s = some (.list [.list ds, .int n], .g) := by
  have h : ownG s = true := by simpa using h
  unfold ownG at h
  split at h
  · exact ⟨_, _, rfl⟩
  · cases h
/-- what a changing method's rule asks is had from the data -/
structure MuOk (K : PySem.W.Frag) (m : Mu) (r : V → List V → Hp → VK → Prop) : Prop where
  ok : ∀ {H : Hp} {Z : PS1} {a : Addr} {xs : List V} {ds ds' es : List PyData} {us : List V} {w : PyData} {Q : VK}, muSem m ds es = some (w, ds') → H a = some (.lst xs) → FzAll K H Z xs ds → FzAll K H Z us es →
    (∀ v xs', FzAll K H Z xs' ds' → Fz K H Z v w → Q v (upd H a (.lst xs'))) → r (.ref a) us H Q
theorem ownL_some {s : Slot} (h : ¬ ownL s = false) : ∃ ds, s = some (.list ds, .l) := by
  match s, h with
  | some (.list ds, .l), _ => exact ⟨ds, rfl⟩
  | none, h => exact absurd rfl h
  | some (.none, _), h => exact absurd rfl h
  | some (.bool _, _), h => exact absurd rfl h
  | some (.int _, _), h => exact absurd rfl h
  | some (.str _, _), h => exact absurd rfl h
  | some (.tuple _, _), h => exact absurd rfl h
  | some (.dict _, _), h => exact absurd rfl h
  | some (.list _, .f), h => exact absurd rfl h
  | some (.list _, .g), h => exact absurd rfl h
theorem mu_read {m : Mu} {r : V → List V → Hp → VK → Prop} {i : Nat} {cs : List E} {t : TA} (ok : MuOk X.K m r) {σ : L2.St} {H : Hp} {Q : VK} {pk q : Bool} (ht : ∀ σ H Q, TAs X.K (quiets Φ cs) (evs Φ cs) σ H Q → t σ H Q)
    (h : TEv X.K false pk (ev Φ pk (.mut m i cs)) σ H Q) : tVar i σ H fun x H1 => tyV X.K "list" x H1 ∧ t σ H1 fun us H2 => r x us H2 Q := by
  obtain ⟨Z, Ls, ρ, r', ρ', den, own, e, k⟩ := h
  simp only [ev] at e
  split at e
  · cases e
  · rename_i h0
    obtain ⟨ds0, h0⟩ := ownL_some h0
    obtain ⟨v, hv, rep⟩ := den i _ _ (at_some h0)
    obtain ⟨⟨xs, ρ1⟩, ea, e⟩ := bind_some e
    cases rep with
    | @l a ys ds0' hl fl pl =>
      refine ⟨_, hv, .inl ⟨rfl, ys, .of hl⟩, ht _ _ _ ⟨Z, Ls, ρ, xs, ρ1, den, own, ea, fun us H1 Z1 Ls1 m1 f1 => ?_⟩⟩
      simp only at e
      split at e
      · rename_i ds h1
        obtain ⟨⟨w, ds'⟩, ew, e⟩ := map_some e
        cases e
        obtain ⟨v1, hv1, rep1⟩ := m1.den i _ _ (at_some h1)
        rw [hv] at hv1
        cases hv1
        cases rep1 with
        | l hl1 fl1 pl1 =>
          refine ok.ok ew hl1 fl1 f1 fun v2 xs' fx fw => k _ _ ?_
          obtain ⟨m2, fk⟩ := m1.write (at_some h1) hv hl1 pl1 fx
          exact post_fz m2 (fw.keep fk)
      · cases e
/-- of one argument -/
theorem mu_one {m : Mu} {r : V → V → Hp → VK → Prop} (h0 : ∀ ds, mu0 m ds = none) (h : ∀ {H : Hp} {Z : PS1} {a : Addr} {xs : List V} {ds ds' : List PyData} {e : PyData} {u : V} {w : PyData} {Q : VK}, mu1 m ds e = some (w, ds') → H a = some (.lst xs) → FzAll K H Z xs ds → Fz K H Z u e →
    (∀ v xs', FzAll K H Z xs' ds' → Fz K H Z v w → Q v (upd H a (.lst xs'))) → r (.ref a) u H Q) : MuOk K m (fun x vs H Q => ∃ y, vs = [y] ∧ r x y H Q) where
  ok := fun {H Z a xs ds ds' es us w Q} e ha f f1 k => by
    match es, e, f1 with
    | [d], e, f1 =>
      cases f1 with
      | cons h1 t => cases t; exact ⟨_, rfl, h e ha f h1 k⟩
    | [], e, _ =>
      have e' : mu0 m ds = some (w, ds') := e
      rw [h0] at e'
      cases e'
    | _ :: _ :: _, e, _ => cases e
theorem MtR.weak {id : String} {r r' : V → List V → Hp → VK → Prop} (h : MtR X id r) (w : ∀ x xs H Q, r' x xs H Q → r x xs H Q) : MtR X id r' := fun pins s σ H x xs v us Q I rx rs q => h pins s σ H x xs v us Q I rx rs (w x xs H Q q)
def rApp : V → V → Hp → VK → Prop := fun x y H Q => ∃ l xs, x = .ref l ∧ H l = some (.lst xs) ∧ xs.length < sizeLine ∧ Q .non (upd H l (.lst (xs ++ [y])))
theorem mt_app : MtR X "list.append" (fun x vs H Q => ∃ y, vs = [y] ∧ rApp x y H Q) := MtR.weak mt_append fun x xs H Q ⟨y, e, l, zs, e1, h, hz, q⟩ => ⟨l, zs, y, e1, e, h, hz, q⟩
theorem append_ok : MuOk X.K .append (fun x vs H Q => ∃ y, vs = [y] ∧ rApp x y H Q) := mu_one (fun _ => rfl) fun {H Z a xs ds ds' e u w Q} h ha f f1 k => by
  obtain ⟨hz, h⟩ := chk_some h
  cases h
  exact ⟨a, xs, rfl, ha, by rw [f.length]; exact hz, k _ _ (f.append (.cons f1 .nil)) .non⟩
theorem pop_ok : MuOk X.K .pop rPop where
  ok := fun {H Z a xs ds ds' es us w Q} e ha f f1 k => by
    match es, e, f1 with
    | [], e, f1 =>
      obtain ⟨d, e1, e⟩ := map_some (show (ds[ds.length - 1]?).map (fun d => (d, ds.dropLast)) = some (w, ds') from e)
      cases e
      cases f1
      obtain ⟨v, h1, h2⟩ := f.get e1
      exact ⟨a, xs, v, rfl, rfl, ha, by rw [f.length]; exact h1, k _ _ f.dropLast h2⟩
    | [_], e, _ => cases e
    | _ :: _ :: _, e, _ => cases e
def rPop1 : V → V → Hp → VK → Prop := fun x y H Q => ∃ l xs i k w, x = .ref l ∧ y = .int i ∧ H l = some (.lst xs) ∧ -(2 ^ 63) ≤ i ∧ i < 2 ^ 63 ∧ seqIndex? i xs.length = some k ∧ xs[k]? = some w ∧ Q w (upd H l (.lst (xs.eraseIdx k)))
theorem mt_pop1 : MtR X "list.pop" (fun x vs H Q => ∃ y, vs = [y] ∧ rPop1 x y H Q) := MtR.weak mt_popAt fun x xs H Q ⟨y, e, l, zs, i, k, w, e1, e2, q⟩ => ⟨l, zs, i, k, w, e1, by rw [e, e2], q⟩
theorem popAt_ok : MuOk X.K .popAt (fun x vs H Q => ∃ y, vs = [y] ∧ rPop1 x y H Q) := mu_one (fun _ => rfl) fun {H Z a xs ds ds' e u w Q} h ha f f1 k => by
  obtain ⟨i, e0, h⟩ := bind_some (show (intD e).bind (fun i => (if -(2 ^ 63) ≤ i ∧ i < 2 ^ 63 then seqIndex? i ds.length else none).bind fun k => ds[k]?.map fun d => (d, ds.eraseIdx k)) = some (w, ds') from h)
  obtain ⟨j, e1, h⟩ := bind_some h
  obtain ⟨d, e2, h⟩ := map_some h
  cases h
  rw [intD_some e0] at f1
  cases f1
  obtain ⟨v, h1, h2⟩ := f.get e2
  split at e1
  · rename_i hb
    exact ⟨a, xs, i, j, v, rfl, rfl, ha, hb.1, hb.2, by rw [f.length]; exact e1, h1, k _ _ (f.erase j) h2⟩
  · cases e1
def rExt1 (K : PySem.W.Frag) : V → V → Hp → VK → Prop := fun x y H Q => ∃ l b xs zs, x = .ref l ∧ y = .ref b ∧ H l = some (.lst xs) ∧ (SqL K H b zs ∨ SqT K H b zs) ∧ xs.length + zs.length ≤ sizeLine ∧ Q .non (upd H l (.lst (xs ++ zs)))
theorem mt_ext1 : MtR X "list.extend" (fun x vs H Q => ∃ y, vs = [y] ∧ rExt1 X.K x y H Q) := MtR.weak mt_extE fun x xs H Q ⟨y, e, l, b, zs, ys, e1, e2, q⟩ => ⟨l, b, zs, ys, e1, by rw [e, e2], q⟩
theorem extend_ok : MuOk X.K .extend (fun x vs H Q => ∃ y, vs = [y] ∧ rExt1 X.K x y H Q) := mu_one (fun _ => rfl) fun {H Z a xs ds ds' e u w Q} h ha f f1 k => by
  obtain ⟨es, e0, h⟩ := bind_some (show (itemsD e).bind (fun es => chk (ds.length + es.length ≤ sizeLine) (PyData.none, ds ++ es)) = some (w, ds') from h)
  obtain ⟨hz, h⟩ := chk_some h
  cases h
  cases f1 with
  | lst h5 g5 => cases e0; exact ⟨a, _, xs, _, rfl, rfl, ha, .inl h5.sq, by rw [f.length, g5.length]; exact hz, k _ _ (f.append g5) .non⟩
  | tup h5 g5 => cases e0; exact ⟨a, _, xs, _, rfl, rfl, ha, .inr h5.sq, by rw [f.length, g5.length]; exact hz, k _ _ (f.append g5) .non⟩
  | _ => cases e0
theorem je_mu {m : Mu} {r : V → List V → Hp → VK → Prop} {id : String} {name x : Str} {e : Expr} {es : List Expr} {i : Nat} {cs : List E} {apos cpos xpos : Pos} (slot : PySem.Slot "list" name id) (hty : typeOf (.builtin id) = pure (.type "method_descriptor")) (hm : MtR X id r) (ok : MuOk X.K m r)
    (hN : X.N[i]? = some x) (hv : Vis X.env.scope x) (hd : (x == ("__debug__" : Str)) = false) (hcd : (x == ("__classdict__" : Str)) = false) (hline : (apos.endLine == cpos.line) = true) (ha : JA X Φ (e :: es) cs) (s1 : NoStar e) (s2 : NoStars es) (hl : es.length < 20) :
    JE X Φ (.Call (.Attribute (.Name x xpos) name apos) (e :: es) [] cpos) (.mut m i cs) := fun pk =>
  PE.weak (pe_bm PySem.F.plainAttrs_list slot hty hm (pe_var hN hv hd hcd) ha rfl (few_of (.cons s1 s2) hl) hline (s1 _ _) (s2 _ _)) fun σ H Q h => mu_read (q := false) ok (fun _ _ _ z => z) h
theorem je_mu0 {m : Mu} {r : V → List V → Hp → VK → Prop} {id : String} {name x : Str} {i : Nat} {apos cpos xpos : Pos} (slot : PySem.Slot "list" name id) (hty : typeOf (.builtin id) = pure (.type "method_descriptor")) (hm : MtR X id r) (ok : MuOk X.K m r)
    (hN : X.N[i]? = some x) (hv : Vis X.env.scope x) (hd : (x == ("__debug__" : Str)) = false) (hcd : (x == ("__classdict__" : Str)) = false) (hline : (apos.endLine == cpos.line) = true) :
    JE X Φ (.Call (.Attribute (.Name x xpos) name apos) [] [] cpos) (.mut m i []) := fun pk =>
  PE.weak (pe_bm0 PySem.F.plainAttrs_list slot hty hm (pe_var hN hv hd hcd) rfl hline) fun σ H Q h => mu_read (q := false) (t := tNil) ok (fun _ _ _ ⟨Z, Ls, ρ, xs, ρ', den, own, e, k⟩ => by
    cases e
    exact k _ _ _ _ (.refl den own) .nil) h
/-! ### a source of draws: x[0].m(..) -/
theorem gmu_read {m : Mu} {r : V → List V → Hp → VK → Prop} {i : Nat} {cs : List E} {t : TA} (ok : MuOk X.K m r) {σ : L2.St} {H : Hp} {Q : VK} {pk q : Bool} (ht : ∀ σ H Q, TAs X.K (quiets Φ cs) (evs Φ cs) σ H Q → t σ H Q)
    (h : TEv X.K false pk (ev Φ pk (.gmut m i cs)) σ H Q) : tOp (rIx X.K) (tVar i) (tC (.int 0)) σ H fun x H1 => tyV X.K "list" x H1 ∧ t σ H1 fun us H2 => r x us H2 Q := by
  obtain ⟨Z, Ls, ρ, r', ρ', den, own, e, k⟩ := h
  simp only [ev] at e
  split at e
  · cases e
  · rename_i h0
    have h0 : (ownG (ρ.at i) && quiets Φ cs) = true := by simpa using h0
    obtain ⟨h0, hq⟩ := andq h0
    obtain ⟨ds0, n0, h0⟩ := ownG_some (by rw [h0]; decide)
    obtain ⟨v, hv, rep⟩ := den i _ _ (at_some h0)
    obtain ⟨⟨xs, ρ1⟩, ea, e⟩ := bind_some e
    cases rep with
    | @g a b n ns ha hb hab pa pb =>
      refine ⟨_, hv, .inl ⟨a, _, 0, .ref b, rfl, rfl, .of ha, rfl, .inl ⟨rfl, _, .of hb⟩, ht _ _ _ ⟨Z, Ls, ρ, xs, ρ1, den, own, ea, fun us H1 Z1 Ls1 m1 f1 => ?_⟩⟩⟩
      simp only at e
      split at e
      · rename_i ds n1 h1
        obtain ⟨⟨w, ds'⟩, ew, e⟩ := bind_some e
        obtain ⟨ns', en, e⟩ := map_some e
        cases e
        obtain ⟨v1, hv1, rep1⟩ := m1.den i _ _ (at_some h1)
        rw [hv] at hv1
        cases hv1
        have sm := m1.same hq a _ ha
        cases rep1 with
        | @g _ b1 _ ns1 ha1 hb1 hab1 pa1 pb1 =>
          rw [sm] at ha1
          cases ha1
          refine ok.ok ew hb1 (FzAll.ofInts _) f1 fun v2 xs' fx fw => k _ _ ?_
          have ed := intsOf_eq en
          subst ed
          have ex := fx.ints
          subst ex
          obtain ⟨m2, fk⟩ := m1.upL (o := .lst (ns'.map V.int)) (d' := .list [.list (ns'.map PyData.int), .int _]) (w' := .g) (at_some h1) hv ⟨_, hb1⟩ pb1 (fun fk => .g (by rw [upd_ne hab]; exact sm) upd_same hab pa1 pb1)
          exact post_fz m2 (fw.keep fk)
      · cases e
theorem je_gmut {m : Mu} {r : V → List V → Hp → VK → Prop} {id : String} {name x : Str} {e : Expr} {es : List Expr} {i j : Nat} {cs : List E} {apos cpos xpos zp sp : Pos} (slot : PySem.Slot "list" name id) (hty : typeOf (.builtin id) = pure (.type "method_descriptor")) (hm : MtR X id r) (ok : MuOk X.K m r)
    (hN : X.N[i]? = some x) (hv : Vis X.env.scope x) (hd : (x == ("__debug__" : Str)) = false) (hcd : (x == ("__classdict__" : Str)) = false) (hline : (apos.endLine == cpos.line) = true) (ha : JA X Φ (e :: es) cs) (s1 : NoStar e) (s2 : NoStars es) (hl : es.length < 20) :
    JE X Φ (.Call (.Attribute (.Subscript (.Name x xpos) (.Constant (.int 0) j zp) sp) name apos) (e :: es) [] cpos) (.gmut m i cs) := fun pk =>
  PE.weak (pe_bm PySem.F.plainAttrs_list slot hty hm (pe_ix ix_seq (pe_var hN hv hd hcd) pe_int (fun _ _ => rfl)) ha rfl (few_of (.cons s1 s2) hl) hline (s1 _ _) (s2 _ _)) fun σ H Q h => gmu_read (q := false) ok (fun _ _ _ z => z) h
theorem je_gmut0 {m : Mu} {r : V → List V → Hp → VK → Prop} {id : String} {name x : Str} {i j : Nat} {apos cpos xpos zp sp : Pos} (slot : PySem.Slot "list" name id) (hty : typeOf (.builtin id) = pure (.type "method_descriptor")) (hm : MtR X id r) (ok : MuOk X.K m r)
    (hN : X.N[i]? = some x) (hv : Vis X.env.scope x) (hd : (x == ("__debug__" : Str)) = false) (hcd : (x == ("__classdict__" : Str)) = false) (hline : (apos.endLine == cpos.line) = true) :
    JE X Φ (.Call (.Attribute (.Subscript (.Name x xpos) (.Constant (.int 0) j zp) sp) name apos) [] [] cpos) (.gmut m i []) := fun pk =>
  PE.weak (pe_bm0 PySem.F.plainAttrs_list slot hty hm (pe_ix ix_seq (pe_var hN hv hd hcd) pe_int (fun _ _ => rfl)) rfl hline) fun σ H Q h => gmu_read (q := false) (t := tNil) ok (fun _ _ _ ⟨Z, Ls, ρ, xs, ρ', den, own, e, k⟩ => by
    cases e
    exact k _ _ _ _ (.refl den own) .nil) h
theorem rep_l {K : PySem.W.Frag} {H : Hp} {Z P : PS1} {v : V} {ds : List PyData} (r : Rep K H Z P v (.list ds) .l) : ∃ a xs, v = .ref a ∧ H a = some (.lst xs) ∧ FzAll K H Z xs ds ∧ P a := by
  cases r with
  | l h f p => exact ⟨_, _, rfl, h, f, p⟩
/-- [a list of ints, an int]: a source of draws -/
theorem je_deal {a b : Expr} {ca cb : E} {pos : Pos} (s1 : NoStar a) (s2 : NoStar b) (ja : JE X Φ a ca) (jb : JE X Φ b cb) : JE X Φ (.List [a, b] pos) (.deal ca cb) := by
  intro pk
  refine PE.weak (pe_lst (pa_cons (ja false) (pa_cons (jb true) pa_nil (s2 _ _)) (s1 _ _))) fun σ H Q ⟨Z, Ls, ρ, r, ρ', den, own, e, k⟩ => ?_
  simp only [ev] at e
  obtain ⟨⟨x, ρ1⟩, ea, e⟩ := bind_some e
  obtain ⟨⟨y, ρ2⟩, eb, e⟩ := bind_some e
  refine ⟨Z, Ls, ρ, x, ρ1, den, own, ea, fun v H1 ⟨Z1, P1, Ls1, m1, r1, x1⟩ => ?_⟩
  refine ⟨Z1, Ls1, ρ1, y, ρ2, m1.den, m1.own, eb, fun u H2 ⟨Z2, P2, Ls2, m2, r2, _⟩ => ⟨(by show 2 ≤ sizeLine; decide), fun p hp => ?_⟩⟩
  have x1 := x1 rfl
  obtain ⟨dx, ox⟩ := x
  obtain ⟨dy, oy⟩ := y
  match dx, ox, dy, e, r1, r2 with
  | .list ds, .l, .int n, e, r1, r2 =>
    obtain ⟨ns, en, e⟩ := map_some e
    cases e
    have ed := intsOf_eq en
    subst ed
    cases rep_int r2
    have r1' : Rep X.K H2 Z2 P1 v (.list (ns.map PyData.int)) .l := m2.rep m1.own r1 (H := H) (Ls := Ls) (.inr x1)
    have x2 := x1.step' m2
    obtain ⟨b', xs, rfl, hb, fb, pb⟩ := rep_l r1'
    have exs := fb.ints
    subst exs
    have m12 := m1.trans m2 (q := E.quiet Φ (.deal ca cb)) fun z => andq z
    obtain ⟨m3, x3⟩ := m12.laidO (o := .lst [.ref b', .int n]) hp
    have hne : p ≠ b' := fun e => by rw [e, hb] at hp; cases hp
    refine k _ _ ⟨_, fun z => z = p ∨ P1 z, Ls2, m3, .g upd_same (by rw [upd_ne (Ne.symm hne)]; exact hb) hne (.inl rfl) (.inr pb), fun _ => ⟨fun z hz => ?_, fun z hz => ?_, fun z hz => ?_, fun z hz => ?_⟩⟩
    · rcases hz with hz | hz
      · exact x3.z z hz
      · exact .inl (x2.z z hz)
    · rcases hz with hz | hz
      · exact x3.tr z hz
      · obtain ⟨o, ho⟩ := x2.tr z hz
        exact ⟨o, by rw [upd_ne (ne_of_none ho hp)]; exact ho⟩
    · rcases hz with hz | hz
      · exact x3.dis z hz
      · exact x2.dis z hz
    · rcases hz with hz | hz
      · exact x3.new z hz
      · exact x2.new z hz
end
end Ev
/-! Ev 9: defs and their calls. -/
namespace Ev
open PySem PySem.Spec L2

/-- a def's promise where no repr is under way -/
structure FnG (P : Program) (w : World) (K : PySem.W.Frag) (mg : Str → Option Value) (base : Heap) (CX : CXT) (k : Nat) (f : Addr) (fd : FuncData) (ps : List Str) (sp : Sp) : Prop where
  len : ∀ vs H Q E, sp vs H Q E → vs.length = ps.length
  run : ∀ (A : Around) (outer : List PySem.Env) (s : Shared) (H : Hp) (args : Args) (us : List Value) (vs : List V) (Q : VK) (E : XK), Room k A → A.guards = some [] → Env0 P w K mg base A outer s H → BindsTo s fd args (ps.zip us) → Vals vs us →
    sp vs H Q E → codeAny (model P w) A (.call (.ref f) args) (CR CX outer P w H s Q E) s
theorem FnG.mono {P : Program} {w : World} {K : PySem.W.Frag} {mg : Str → Option Value} {base : Heap} {CX : CXT} {j k : Nat} {f : Addr} {fd : FuncData} {ps : List Str} {sp : Sp} (F : FnG P w K mg base CX j f fd ps sp) (h : j ≤ k) : FnG P w K mg base CX k f fd ps sp :=
  ⟨F.len, fun A outer s H args us vs Q E hr => F.run A outer s H args us vs Q E (hr.mono h)⟩
theorem FnG.of {P : Program} {w : World} {K : PySem.W.Frag} {mg : Str → Option Value} {base : Heap} {CX : CXT} {k : Nat} {f : Addr} {fd : FuncData} {ps : List Str} {sp : Sp} (F : FnOk P w K mg base CX k f fd ps sp) : FnG P w K mg base CX k f fd ps sp :=
  ⟨F.len, fun A outer s H args us vs Q E hr _ => F.run A outer s H args us vs Q E hr⟩
section
variable {X : Cx} {CX : CXT} {k : Nat} {f : Addr} {fd : FuncData} {ps : List Str} {sp : Sp} {E : XK} {x : Str} {p pos : Pos} {e : Expr} {es : List Expr} {t tk : TA}
theorem run_any {pins : List (Addr × Obj)} {σ : L2.St} {H : Hp} {s : Shared} {Q : VK} {us : List Value} {vs : List V} {args : Args} (F : FnG X.prog X.w X.K X.mg X.base CX k f fd ps sp) (hr : Room k X.A) (hgd : X.A.guards = some []) (hx : Passes CX X E)
    (I : Inv X pins σ H s) (hb : us.length = ps.length → BindsTo s fd args (ps.zip us)) (r : Vals vs us) (h : sp vs H Q E) : codeAny (model X.prog X.w) X.A (.call (.ref f) args) (fun r s' => match r with | .ok (.ret u) => EP X pins σ Q u s' | .ok _ => False | .error e => X.xe e s') s := by
  have hl : us.length = ps.length := by rw [← r.length]; exact F.len _ _ _ _ h
  refine codeAny_mono (F.run X.A X.stack s H args us vs Q E hr hgd I.env0 (hb hl) r h) fun r s' hq => ?_
  match r, hq with
  | .error e, hq => exact hx pins σ H s e s' I hq
  | .ok (.ret u), hq => exact I.after hq
theorem run_fnG {pins : List (Addr × Obj)} {σ : L2.St} {H : Hp} {s : Shared} {Q : VK} {us : List Value} {vs : List V} (F : FnG X.prog X.w X.K X.mg X.base CX k f fd ps sp) (hr : Room k X.A) (hgd : X.A.guards = some []) (hb : Binds X.K fd ps []) (hx : Passes CX X E)
    (I : Inv X pins σ H s) (r : Vals vs us) (h : sp vs H Q E) : wpAny (model X.prog X.w) X.A (call (.ref f) us) (EP X pins σ Q) X.xe s := by
  refine wpAny_call (codeAny_mono (run_any F hr hgd hx I (fun hl => ?_) r h) fun r s' hq => ?_)
  · have := hb s us I.kIn (by rw [List.append_nil]; exact hl)
    rw [List.append_nil] at this
    exact this
  · match r, hq with
    | .error e, hq => exact hq
    | .ok (.ret u), hq => exact hq
def tCallG (sp : Sp) (E : XK) (t : TA) : TE := fun σ H Q => t σ H fun vs H1 => sp vs H1 Q E
theorem pe_callG (F : FnG X.prog X.w X.K X.mg X.base CX k f fd ps sp) (hr : Room k X.A) (hgd : X.A.guards = some []) (hg : Gl X x) (hm : X.mg x = some (.ref f)) (hk : PySem.W.keepIn X.K (.ref f) = true) (hb : Binds X.K fd ps []) (hx : Passes CX X E)
    (ha : PA X (e :: es) t) (hdb : (x == ("__debug__" : Str)) = false) (he : NoStar e) (hs : NoStars es) : PE X (.Call (.Name x p) (e :: es) [] pos) (tCallG sp E t) := by
  refine ⟨fun pins s σ H Q I h => ?_⟩
  refine wpAny_Call_Name_kw (ld_glob I hg hm ?_ hdb)
  refine PySem.W.callWith_K (h₀ := X.base) I.ok.mod.kin hk (thn (ha.run pos pins s σ H _ I h) fun us s1 ⟨vs, H1, I1, r, q⟩ => ⟨I1.kIn, ?_⟩) (he _ _) (hs _ _)
  exact run_fnG F hr hgd hb hx I1 r q
theorem pe_callG0 (F : FnG X.prog X.w X.K X.mg X.base CX k f fd ps sp) (hr : Room k X.A) (hgd : X.A.guards = some []) (hg : Gl X x) (hm : X.mg x = some (.ref f)) (hk : PySem.W.keepIn X.K (.ref f) = true) (hb : Binds X.K fd ps []) (hx : Passes CX X E)
    (hdb : (x == ("__debug__" : Str)) = false) : PE X (.Call (.Name x p) [] [] pos) (tCallG sp E tNil) := by
  refine ⟨fun pins s σ H Q I h => ?_⟩
  refine wpAny_Call_Name_kw (ld_glob I hg hm ?_ hdb)
  exact PySem.W.callWith_K0 I.kIn hk (run_fnG (us := []) F hr hgd hb hx I .nil h)
/-- how a call with keywords binds: np values by place, then those of the names ks; ord: for each parameter the place of its value -/
structure KwOk (K : PySem.W.Frag) (fd : FuncData) (ps : List Str) (np : Nat) (ks : List Str) (ord : List Nat) : Prop where
  to : ∀ (s : Shared) (us ws zs : List Value), us.length = np → ws.length = ks.length → permV ord (us ++ ws) = some zs → zs.length = ps.length → BindsTo s fd ⟨us, ks.zip ws⟩ (ps.zip zs)
theorem permV_some {α : Type} {j : Nat} {ord : List Nat} {xs zs : List α} (h : permV (j :: ord) xs = some zs) : ∃ x r, xs[j]? = some x ∧ permV ord xs = some r ∧ zs = x :: r := by
  unfold permV at h
  rw [List.mapM_cons] at h
  obtain ⟨x, e, h⟩ := bind_some h
  obtain ⟨r, e2, h⟩ := bind_some h
  cases h
  exact ⟨x, r, e, e2, rfl⟩
theorem permV_mk {α : Type} {j : Nat} {ord : List Nat} {xs r : List α} {x : α} (h1 : xs[j]? = some x) (h2 : permV ord xs = some r) : permV (j :: ord) xs = some (x :: r) := by
  unfold permV at h2 ⊢
  rw [List.mapM_cons, h1, h2]
  rfl
theorem perm_rel {R : V → Value → Prop} : ∀ {ord : List Nat} {vs zs : List V} {us : List Value}, Paired R vs us → permV ord vs = some zs → ∃ ws, permV ord us = some ws ∧ Paired R zs ws
  | [], _, zs, _, _, h => by cases h; exact ⟨[], rfl, .nil⟩
  | j :: ord, vs, zs, us, r, h => by
    obtain ⟨x, q, e1, e2, rfl⟩ := permV_some h
    obtain ⟨ws, h1, h2⟩ := perm_rel r e2
    have get : ∀ {vs : List V} {us : List Value} {i : Nat} {x : V}, Paired R vs us → vs[i]? = some x → ∃ u, us[i]? = some u ∧ R x u := by
      intro vs us i x r
      induction r generalizing i with
      | nil => intro e; simp at e
      | cons a b ih =>
        intro e
        cases i with
        | zero => simp at e; subst e; exact ⟨_, rfl, a⟩
        | succ i => obtain ⟨u, h1, h2⟩ := ih (by simpa using e); exact ⟨u, by simpa using h1, h2⟩
    obtain ⟨u, h3, h4⟩ := get r e1
    exact ⟨u :: ws, permV_mk h3 h1, .cons h4 h2⟩
def tCallKG (sp : Sp) (E : XK) (np : Nat) (nk : Nat) (ord : List Nat) (t tk : TA) : TE := fun σ H Q => t σ H fun vs H1 => vs.length = np ∧ tk σ H1 fun ws H2 => ws.length = nk ∧ ∃ zs, permV ord (vs ++ ws) = some zs ∧ sp zs H2 Q E
theorem kw_fin {ks : List Str} {np : Nat} {ord : List Nat} (F : FnG X.prog X.w X.K X.mg X.base CX k f fd ps sp) (hr : Room k X.A) (hgd : X.A.guards = some []) (hb : KwOk X.K fd ps np ks ord) (hx : Passes CX X E)
    {pins : List (Addr × Obj)} {σ : L2.St} {Q : VK} {us ws : List Value} {vs zs : List V} {s2 : Shared} {H2 : Hp} (I2 : Inv X pins σ H2 s2) (r1 : Vals vs us) (r2 : Vals zs ws) (l1 : vs.length = np) (l2 : zs.length = ks.length) (h : ∃ qs, permV ord (vs ++ zs) = some qs ∧ sp qs H2 Q E) :
    wpAny (model X.prog X.w) X.A (call (.ref f) us (ks.zip ws)) (EP X pins σ Q) X.xe s2 := by
  obtain ⟨qs, e1, q⟩ := h
  obtain ⟨qv, e2, r3⟩ := perm_rel (r1.append r2) e1
  refine wpAny_call (codeAny_mono (run_any F hr hgd hx I2 (fun hl => hb.to s2 us ws qv (by rw [← r1.length]; exact l1) (by rw [← r2.length]; exact l2) e2 hl) r3 q) fun r s' hq => ?_)
  match r, hq with
  | .error e, hq => exact hq
  | .ok (.ret u), hq => exact hq
theorem pe_callKG {kws : List Keyword} {ks : List Str} {np : Nat} {ord : List Nat} (F : FnG X.prog X.w X.K X.mg X.base CX k f fd ps sp) (hr : Room k X.A) (hgd : X.A.guards = some []) (hg : Gl X x) (hm : X.mg x = some (.ref f)) (hk : PySem.W.keepIn X.K (.ref f) = true)
    (hb : KwOk X.K fd ps np ks ord) (hx : Passes CX X E) (ha : PA X (e :: es) t) (hkw : PK X kws tk) (hall : (backToKw pos (keywordEach kws X.env)).all (·.1.isSome) = true) (hks : (backToKw pos (keywordEach kws X.env)).filterMap (·.1) = ks)
    (hno : (backToKw pos (keywordEach kws X.env)).any (·.1.isNone) = false) (hdb : (x == ("__debug__" : Str)) = false) (he : NoStar e) (hs : NoStars es) : PE X (.Call (.Name x p) (e :: es) kws pos) (tCallKG sp E np ks.length ord t tk) := by
  refine ⟨fun pins s σ H Q I h => ?_⟩
  refine wpAny_Call_Name_kw (ld_glob I hg hm ?_ hdb)
  have hplain : ((backTo pos (starEach (e :: es) X.env)).any (·.1) || (backToKw pos (keywordEach kws X.env)).any (·.1.isNone)) = false := by rw [NoStars.cons he hs, hno] <;> rfl
  refine PySem.W.callWith_KW (h₀ := X.base) I.ok.mod.kin hk hall (thn (ha.run pos pins s σ H _ I h) fun us s1 ⟨vs, H1, I1, rv, l1, q⟩ => ?_) hplain (he _ _)
  refine thn (hkw.run pos pins s1 σ H1 _ I1 q) fun ws s2 ⟨zs, H2, I2, rz, l2, q2⟩ => ⟨I2.kIn, ?_⟩
  rw [hks]
  exact kw_fin F hr hgd hb hx I2 rv rz l1 l2 q2
theorem pe_callKG0 {kws : List Keyword} {ks : List Str} {ord : List Nat} (F : FnG X.prog X.w X.K X.mg X.base CX k f fd ps sp) (hr : Room k X.A) (hgd : X.A.guards = some []) (hg : Gl X x) (hm : X.mg x = some (.ref f)) (hk : PySem.W.keepIn X.K (.ref f) = true)
    (hb : KwOk X.K fd ps 0 ks ord) (hx : Passes CX X E) (hkw : PK X kws tk) (hall : (backToKw pos (keywordEach kws X.env)).all (·.1.isSome) = true) (hks : (backToKw pos (keywordEach kws X.env)).filterMap (·.1) = ks)
    (hno : (backToKw pos (keywordEach kws X.env)).any (·.1.isNone) = false) (hdb : (x == ("__debug__" : Str)) = false) : PE X (.Call (.Name x p) [] kws pos) (tCallKG sp E 0 ks.length ord tNil tk) := by
  refine ⟨fun pins s σ H Q I h => ?_⟩
  refine wpAny_Call_Name_kw (ld_glob I hg hm ?_ hdb)
  refine PySem.W.callWith_KW0 (h₀ := X.base) I.ok.mod.kin hk hall ?_ (by rw [hno] <;> rfl)
  refine thn (hkw.run pos pins s σ H _ I h.2) fun ws s2 ⟨zs, H2, I2, rz, l2, q2⟩ => ⟨I2.kIn, ?_⟩
  rw [hks]
  exact kw_fin F hr hgd hb hx I2 .nil rz rfl l2 q2
end
end Ev
/-! Ev 10: a def's promise by data; its calls. -/
namespace Ev
open PySem PySem.Spec L2

/-- what a def promises: from data that stand for the arguments, those by reference owned; to data that stand for its answer, and for what the references hold -/
def spOf (K : PySem.W.Frag) (F : FS) : Sp := fun vs H Q _ => vs.length = F.ref.length ∧ ∃ (Z : PS1) (Pa : Nat → PS1) (xs : List DO) (r : DO) (os : List Slot), xs.length = vs.length ∧
  (∀ (j : Nat) v x, vs[j]? = some v → xs[j]? = some x → Rep K H Z (Pa j) v x.1 x.2) ∧ Own H Z Pa ∧ F.run xs = some (r, os) ∧
  ∀ v H' Z' P (Po : Nat → PS1), Rep K H' Z' P v r.1 r.2 → Exc H Pa P H' Z' Po → (∀ (j : Nat) u y, vs[j]? = some u → os[j]? = some (some y) → Rep K H' Z' (Po j) u y.1 y.2) → Own H' Z' Po → Stp H Z (LL Pa) H' Z' → (∀ a, LL Po a → LL Pa a ∨ H a = none) → Q v H'

section
variable {K : PySem.W.Frag} {σ : L2.St}
inductive ArgOk (K : PySem.W.Frag) (σ : L2.St) (H : Hp) (Z : PS1) : List Bool → List E → List V → List DO → Prop
  | nil : ArgOk K σ H Z [] [] [] []
  | ref {i : Nat} {v : V} {bs : List Bool} {es : List E} {vs : List V} {ds : List DO} {d : DO} : σ[i]? = some (some v) → ArgOk K σ H Z bs es vs ds → ArgOk K σ H Z (true :: bs) (.var i :: es) (v :: vs) (d :: ds)
  | val {e : E} {v : V} {x : PyData} {bs : List Bool} {es : List E} {vs : List V} {ds : List DO} : Fz K H Z v x → ArgOk K σ H Z bs es vs ds → ArgOk K σ H Z (false :: bs) (e :: es) (v :: vs) ((x, .f) :: ds)
theorem ArgOk.keep {H H' : Hp} {Z Z' : PS1} (k : FK H Z H' Z') {bs : List Bool} {es : List E} {vs : List V} {ds : List DO} (h : ArgOk K σ H Z bs es vs ds) : ArgOk K σ H' Z' bs es vs ds := by
  induction h with
  | nil => exact .nil
  | ref e _ ih => exact .ref e ih
  | val e _ ih => exact .val (e.keep k) ih
theorem ArgOk.len {H : Hp} {Z : PS1} {bs : List Bool} {es : List E} {vs : List V} {ds : List DO} (h : ArgOk K σ H Z bs es vs ds) : vs.length = bs.length := by
  induction h with
  | nil => rfl
  | ref e _ ih => exact congrArg (· + 1) ih
  | val e _ ih => exact congrArg (· + 1) ih
def consL (P : PS1) (Pa : Nat → PS1) : Nat → PS1
  | 0 => P
  | j + 1 => Pa j
theorem Den.drop {H : Hp} {Z : PS1} {ρ : Rho} {Ls : Nat → PS1} {i : Nat} (d : Den K H Z σ ρ Ls) : Den K H Z σ (ρ.set i none) (putL Ls i noP) := fun j d' o e => by
  by_cases hj : j = i
  · subst hj
    by_cases hl : j < ρ.length
    · rw [List.getElem?_set_self hl] at e; cases e
    · rw [List.getElem?_eq_none (by rw [List.length_set]; omega)] at e; cases e
  · rw [List.getElem?_set_ne (Ne.symm hj)] at e
    obtain ⟨v, h, r⟩ := d j d' o e
    exact ⟨v, h, r.keep .refl (fun _ _ _ h => h) fun a p => by rw [putL_ne hj]; exact p⟩
theorem Own.drop {H : Hp} {Z : PS1} {Ls : Nat → PS1} {i : Nat} (o : Own H Z Ls) : Own H Z (putL Ls i noP) := by
  have sub : ∀ j a, putL Ls i noP j a → j ≠ i ∧ Ls j a := fun j a h => by
    by_cases hj : j = i
    · rw [hj, putL_same] at h; exact h.elim
    · rw [putL_ne hj] at h; exact ⟨hj, h⟩
  exact ⟨fun j j' a h h' => o.dis j j' a (sub j a h).2 (sub j' a h').2, fun j a h => o.z j a (sub j a h).2, fun j a h => o.tr j a (sub j a h).2⟩
theorem take_ok {H : Hp} {Z : PS1} {bs : List Bool} {es : List E} {vs : List V} {ds : List DO} (h : ArgOk K σ H Z bs es vs ds) : ∀ {ρ ρ' : Rho} {Ls : Nat → PS1} {xs : List DO}, Den K H Z σ ρ Ls → Own H Z Ls → takeRefs bs es ds ρ = some (xs, ρ') →
    ∃ (Pa Ls' : Nat → PS1), (∀ (j : Nat) v x, vs[j]? = some v → xs[j]? = some x → Rep K H Z (Pa j) v x.1 x.2) ∧ xs.length = vs.length ∧ Den K H Z σ ρ' Ls' ∧ Own H Z Pa ∧ Own H Z Ls' ∧ (∀ a, LL Pa a → ¬ LL Ls' a) ∧ (∀ a, LL Pa a → LL Ls a) ∧ (∀ a, LL Ls' a → LL Ls a) ∧ (bs.all (!·) = true → ∀ a, ¬ LL Pa a) := by
  induction h with
  | nil =>
    intro ρ ρ' Ls xs den own e
    cases e
    exact ⟨fun _ => noP, Ls, fun j v x h => by simp at h, rfl, den, ⟨fun _ _ _ h => h.elim, fun _ _ h => h.elim, fun _ _ h => h.elim⟩, own, fun a ⟨_, h⟩ => h.elim, fun a ⟨_, h⟩ => h.elim, fun _ h => h, fun _ a ⟨_, h⟩ => h.elim⟩
  | @ref i v bs es vs ds d hv h ih =>
    intro ρ ρ' Ls xs den own e
    unfold takeRefs at e
    split at e
    · rename_i x hx
      obtain ⟨⟨l, ρ1⟩, e1, e⟩ := map_some e
      cases e
      obtain ⟨d, o⟩ := x
      obtain ⟨v', hv', r⟩ := den i d o (at_some hx)
      rw [hv] at hv'
      cases hv'
      obtain ⟨Pa, Ls', a1, a2, a3, a4, a5, a6, a7, a8, a9⟩ := ih den.drop own.drop e1
      have nPa : ∀ a, Ls i a → ¬ LL Pa a := fun a h l => by
        obtain ⟨j, z⟩ := a7 a l
        by_cases hj : j = i
        · rw [hj, putL_same] at z; exact z
        · rw [putL_ne hj] at z; exact hj (own.dis j i a z h)
      have sub : ∀ a, LL (putL Ls i noP) a → LL Ls a ∧ ¬ Ls i a := fun a ⟨j, z⟩ => by
        by_cases hj : j = i
        · rw [hj, putL_same] at z; exact z.elim
        · rw [putL_ne hj] at z; exact ⟨⟨j, z⟩, fun w => hj (own.dis j i a z w)⟩
      refine ⟨consL (Ls i) Pa, Ls', fun j v' x h1 h2 => ?_, congrArg (· + 1) a2, a3, ⟨fun j j' a z z' => ?_, fun j a z => ?_, fun j a z => ?_⟩, a5, fun a ⟨j, z⟩ => ?_, fun a ⟨j, z⟩ => ?_, fun a z => (sub a (a8 a z)).1, fun z => by simp at z⟩
      · cases j with
        | zero => simp at h1 h2; subst h1 h2; exact r
        | succ j => exact a1 j v' x (by simpa using h1) (by simpa using h2)
      · cases j with
        | zero => cases j' with
          | zero => rfl
          | succ j' => exact absurd ⟨j', z'⟩ (nPa a z)
        | succ j => cases j' with
          | zero => exact absurd ⟨j, z⟩ (nPa a z')
          | succ j' => exact congrArg (· + 1) (a4.dis j j' a z z')
      · cases j with
        | zero => exact own.z i a z
        | succ j => exact a4.z j a z
      · cases j with
        | zero => exact own.tr i a z
        | succ j => exact a4.tr j a z
      · cases j with
        | zero => exact fun w => (sub a (a8 a w)).2 z
        | succ j => exact a6 a ⟨j, z⟩
      · cases j with
        | zero => exact ⟨i, z⟩
        | succ j => exact (sub a (a7 a ⟨j, z⟩)).1
    · cases e
  | @val c v x bs es vs ds hx h ih =>
    intro ρ ρ' Ls xs den own e
    unfold takeRefs at e
    obtain ⟨⟨l, ρ1⟩, e1, e⟩ := map_some e
    cases e
    obtain ⟨Pa, Ls', a1, a2, a3, a4, a5, a6, a7, a8, a9⟩ := ih den own e1
    refine ⟨consL noP Pa, Ls', fun j v' x h1 h2 => ?_, congrArg (· + 1) a2, a3, ⟨fun j j' a z z' => ?_, fun j a z => ?_, fun j a z => ?_⟩, a5, fun a ⟨j, z⟩ => ?_, fun a ⟨j, z⟩ => ?_, a8, fun z a ⟨j, w⟩ => ?_⟩
    · cases j with
      | zero => simp at h1 h2; subst h1 h2; exact .fz hx
      | succ j => exact a1 j v' x (by simpa using h1) (by simpa using h2)
    · cases j with
      | zero => exact z.elim
      | succ j => cases j' with
        | zero => exact z'.elim
        | succ j' => exact congrArg (· + 1) (a4.dis j j' a z z')
    · cases j with
      | zero => exact z.elim
      | succ j => exact a4.z j a z
    · cases j with
      | zero => exact z.elim
      | succ j => exact a4.tr j a z
    · cases j with
      | zero => exact z.elim
      | succ j => exact a6 a ⟨j, z⟩
    · cases j with
      | zero => exact z.elim
      | succ j => exact a7 a ⟨j, z⟩
    · cases j with
      | zero => exact w.elim
      | succ j => exact a9 (by simpa using z) a ⟨j, w⟩
theorem give_ok {H : Hp} {Z : PS1} {H0 : Hp} {Z0 : PS1} {bs : List Bool} {es : List E} {vs : List V} {ds : List DO} (h : ArgOk K σ H0 Z0 bs es vs ds) : ∀ {ρ ρ' : Rho} {Ls Po : Nat → PS1} {os : List Slot}, Den K H Z σ ρ Ls → Own H Z Ls →
    (∀ (j : Nat) u y, vs[j]? = some u → os[j]? = some (some y) → Rep K H Z (Po j) u y.1 y.2) → Own H Z Po → (∀ a, LL Po a → ¬ LL Ls a) → giveRefs bs es os ρ = some ρ' → ∃ Ls' : Nat → PS1, Den K H Z σ ρ' Ls' ∧ Own H Z Ls' ∧ ∀ a, LL Ls' a → LL Ls a ∨ LL Po a := by
  induction h with
  | nil =>
    intro ρ ρ' Ls Po os den own rep po dis e
    cases os with
    | nil => cases e; exact ⟨Ls, den, own, fun _ h => .inl h⟩
    | cons a b => cases e
  | @ref i v bs es vs ds d hv h ih =>
    intro ρ ρ' Ls Po os den own rep po dis e
    cases os with
    | nil => cases e
    | cons o os =>
      have e : giveRefs bs es os (ρ.set i o) = some ρ' := e
      have shift : ∀ a, LL (fun j => Po (j + 1)) a → LL Po a := fun a ⟨j, z⟩ => ⟨j + 1, z⟩
      have P0 : ∃ P : PS1, (∀ a, P a → Po 0 a) ∧ Den K H Z σ (ρ.set i o) (putL Ls i P) := by
        cases o with
        | none => exact ⟨noP, fun _ h => h.elim, den.drop⟩
        | some y =>
          refine ⟨Po 0, fun _ h => h, fun j d' o' e' => ?_⟩
          by_cases hj : j = i
          · subst hj
            by_cases hl : j < ρ.length
            · rw [List.getElem?_set_self hl] at e'
              cases e'
              refine ⟨v, hv, (rep 0 v _ rfl rfl).keep .refl (fun _ _ _ h => h) fun a p => ?_⟩
              rw [putL_same]; exact p
            · rw [List.getElem?_eq_none (by rw [List.length_set]; omega)] at e'; cases e'
          · rw [List.getElem?_set_ne (Ne.symm hj)] at e'
            obtain ⟨v', h', r'⟩ := den j d' o' e'
            exact ⟨v', h', r'.keep .refl (fun _ _ _ h => h) fun a p => by rw [putL_ne hj]; exact p⟩
      obtain ⟨P, hP, den1⟩ := P0
      have sub : ∀ j a, putL Ls i P j a → (j = i ∧ Po 0 a) ∨ (j ≠ i ∧ Ls j a) := fun j a z => by
        by_cases hj : j = i
        · rw [hj, putL_same] at z; exact .inl ⟨hj, hP a z⟩
        · rw [putL_ne hj] at z; exact .inr ⟨hj, z⟩
      have own1 : Own H Z (putL Ls i P) := ⟨fun j j' a z z' => by
          rcases sub j a z with ⟨e1, w⟩ | ⟨e1, w⟩
          · rcases sub j' a z' with ⟨e2, w'⟩ | ⟨e2, w'⟩
            · rw [e1, e2]
            · exact absurd ⟨j', w'⟩ (dis a ⟨0, w⟩)
          · rcases sub j' a z' with ⟨e2, w'⟩ | ⟨e2, w'⟩
            · exact absurd ⟨j, w⟩ (dis a ⟨0, w'⟩)
            · exact own.dis j j' a w w',
        fun j a z => by
          rcases sub j a z with ⟨_, w⟩ | ⟨_, w⟩
          · exact po.z 0 a w
          · exact own.z j a w,
        fun j a z => by
          rcases sub j a z with ⟨_, w⟩ | ⟨_, w⟩
          · exact po.tr 0 a w
          · exact own.tr j a w⟩
      obtain ⟨Ls', b1, b2, b3⟩ := ih (Po := fun j => Po (j + 1)) den1 own1 (fun j u y h1 h2 => rep (j + 1) u y (by simpa using h1) (by simpa using h2)) ⟨fun j j' a z z' => Nat.succ.inj (po.dis _ _ a z z'), fun j a z => po.z _ a z, fun j a z => po.tr _ a z⟩ (fun a ⟨j, z⟩ ⟨j', z'⟩ => by
        rcases sub j' a z' with ⟨_, w⟩ | ⟨_, w⟩
        · cases po.dis _ _ a z w
        · exact dis a ⟨_, z⟩ ⟨j', w⟩) e
      refine ⟨Ls', b1, b2, fun a z => ?_⟩
      rcases b3 a z with ⟨j, z⟩ | z
      · rcases sub j a z with ⟨_, w⟩ | ⟨_, w⟩
        · exact .inr ⟨0, w⟩
        · exact .inl ⟨j, w⟩
      · exact .inr (shift a z)
  | @val c v x bs es vs ds hx h ih =>
    intro ρ ρ' Ls Po os den own rep po dis e
    cases os with
    | nil => cases e
    | cons o os =>
      have e : giveRefs bs es os ρ = some ρ' := e
      have shift : ∀ a, LL (fun j => Po (j + 1)) a → LL Po a := fun a ⟨j, z⟩ => ⟨j + 1, z⟩
      obtain ⟨Ls', b1, b2, b3⟩ := ih (Po := fun j => Po (j + 1)) den own (fun j u y h1 h2 => rep (j + 1) u y (by simpa using h1) (by simpa using h2)) ⟨fun j j' a z z' => Nat.succ.inj (po.dis _ _ a z z'), fun j a z => po.z _ a z, fun j a z => po.tr _ a z⟩ (fun a z => dis a (shift a z)) e
      exact ⟨Ls', b1, b2, fun a z => (b3 a z).imp id (shift a)⟩
/-- the call itself, by data -/
theorem call_post {F : FS} {q0 pk : Bool} {H H1 : Hp} {Z Z1 : PS1} {Ls Ls1 : Nat → PS1} {ρ1 ρ2 : Rho} {es : List E} {vs : List V} {ds xs : List DO} {r : DO} {os : List Slot} {ρt : Rho} {Q : VK} {E : XK} (m1 : Mid K σ q0 H Z Ls ρ1 H1 Z1 Ls1) (ha : ArgOk K σ H1 Z1 F.ref es vs ds)
    (et : takeRefs F.ref es ds ρ1 = some (xs, ρt)) (er : F.run xs = some (r, os)) (eg : giveRefs F.ref es os ρt = some ρ2) (k : ∀ w H', EPost K σ (F.ref.all (!·) && q0) pk H Z Ls r ρ2 w H' → Q w H') : spOf K F vs H1 Q E := by
  obtain ⟨Pa, Ls', a1, a2, a3, a4, a5, a6, a7, a8, a9⟩ := take_ok ha m1.den m1.own et
  refine ⟨ha.len, Z1, Pa, xs, r, os, a2, a1, a4, er, fun v H' Z' P Po rep ex reps po stp new => k v H' ?_⟩
  -- the names' things that were not handed on
  have den1 : Den K H' Z' σ ρt Ls' := fun i d o e => by
    obtain ⟨u, h, r⟩ := a3 i d o e
    refine ⟨u, h, r.keep (stp.fk a4.ll) (fun a w p z => stp.keep a w z fun l => a6 a l ⟨i, p⟩) fun _ p => p⟩
  have own1 : Own H' Z' Ls' := ⟨a5.dis, fun i a z => by
      obtain ⟨w, hw⟩ := a5.tr i a z
      exact stp.own a w hw (a5.z i a z) fun l => a6 a l ⟨i, z⟩, fun i a z => by
      obtain ⟨w, hw⟩ := a5.tr i a z
      exact stp.dom a w hw⟩
  have dis : ∀ a, LL Po a → ¬ LL Ls' a := fun a z l => by
    rcases new a z with w | w
    · exact a6 a w l
    · obtain ⟨u, hu⟩ := a5.lt a l
      rw [w] at hu; cases hu
  obtain ⟨Ls2, b1, b2, b3⟩ := give_ok ha den1 own1 reps po dis eg
  have up : ∀ a, H1 a = none → H a = none := fun a h => by
    cases e : H a with
    | none => rfl
    | some u =>
      obtain ⟨u', h'⟩ := m1.stp.dom a u e
      rw [h] at h'; cases h'
  have m2 : Mid K σ (F.ref.all (!·)) H1 Z1 Ls1 ρ2 H' Z' Ls2 := ⟨b1, b2, stp.mono a7, fun z a u h => stp.keep a u h (a9 z a), fun a z => by
    rcases b3 a z with z | z
    · exact .inl (a8 a z)
    · exact (new a z).imp (a7 a) id⟩
  refine ⟨Z', P, Ls2, m1.trans m2 fun z => (andq z).symm, rep, fun _ => ⟨ex.z, ex.tr, fun a p l => ?_, fun a p => ?_⟩⟩
  · rcases b3 a l with z | z
    · rcases ex.new a p with w | w
      · exact a6 a w z
      · obtain ⟨u, hu⟩ := a5.lt a z
        rw [w] at hu; cases hu
    · exact ex.dis a p z
  · rcases ex.new a p with w | w
    · exact m1.new a (a7 a w)
    · exact .inr (up a w)
end
section
variable {X : Cx} {Φ : Cf}
/-- a call's values -/
def TAc (K : PySem.W.Frag) (Φ : Cf) (bs : List Bool) (cs : List E) : TA := fun σ H Q => ∃ Z Ls ρ xs ρ', Den K H Z σ ρ Ls ∧ Own H Z Ls ∧ evc Φ bs cs ρ = some (xs, ρ') ∧
  ∀ vs H' Z' Ls', Mid K σ (quiets Φ cs) H Z Ls ρ' H' Z' Ls' → ArgOk K σ H' Z' bs cs vs xs → Q vs H'
def JCl (X : Cx) (Φ : Cf) (bs : List Bool) (es : List Expr) (cs : List E) : Prop := PA X es (TAc X.K Φ bs cs)
theorem jcl_nil : JCl X Φ [] [] [] := PA.weak pa_nil fun σ H Q ⟨Z, Ls, ρ, r, ρ', den, own, e, k⟩ => by
  cases e
  exact k _ _ _ _ (.refl den own) .nil
theorem jcl_val {bs : List Bool} {e : Expr} {es : List Expr} {c : E} {cs : List E} (hs : NoStar e) (je : JE X Φ e c) (js : JCl X Φ bs es cs) : JCl X Φ (false :: bs) (e :: es) (c :: cs) := by
  refine PA.weak (pa_cons (je false) js (hs _ _)) fun σ H Q ⟨Z, Ls, ρ, r, ρ', den, own, e, k⟩ => ?_
  simp only [evc, List.headD_cons, Bool.false_eq_true, if_false, List.tail_cons] at e
  obtain ⟨⟨x, ρ1⟩, ea, e⟩ := bind_some e
  obtain ⟨⟨xs, ρ2⟩, eb, e⟩ := map_some e
  cases e
  refine ⟨Z, Ls, ρ, x, ρ1, den, own, ea, fun v H1 ⟨Z1, P1, Ls1, m1, r1, x1⟩ => ?_⟩
  have m1' := m1.freeze (x1 rfl)
  refine ⟨_, Ls1, ρ1, xs, ρ2, m1'.den, m1'.own, eb, fun vs H2 Z2 Ls2 m2 f2 => ?_⟩
  exact k _ _ _ _ (m1'.trans m2 fun z => andq z) (.val (m2.fz m1'.own r1.freeze) f2)
theorem jcl_ref {bs : List Bool} {x : Str} {pos : Pos} {es : List Expr} {i : Nat} {cs : List E} (hN : X.N[i]? = some x) (hv : Vis X.env.scope x) (hd : (x == ("__debug__" : Str)) = false) (hcd : (x == ("__classdict__" : Str)) = false) (js : JCl X Φ bs es cs) : JCl X Φ (true :: bs) (.Name x pos :: es) (.var i :: cs) := by
  refine PA.weak (pa_cons (pe_var hN hv hd hcd) js rfl) fun σ H Q ⟨Z, Ls, ρ, r, ρ', den, own, e, k⟩ => ?_
  simp only [evc, List.headD_cons, if_true, List.tail_cons] at e
  by_cases h0 : isVar (.var i) ρ = true
  · rw [if_pos h0] at e
    have h0 : (ρ.at i).isSome = true := h0
    obtain ⟨⟨d, o⟩, h0⟩ := Option.isSome_iff_exists.mp h0
    obtain ⟨v, hv, rep⟩ := den i d o (at_some h0)
    obtain ⟨⟨xs, ρ2⟩, eb, e⟩ := map_some e
    cases e
    refine ⟨v, hv, Z, Ls, ρ, xs, _, den, own, eb, fun vs H2 Z2 Ls2 m2 f2 => ?_⟩
    exact k _ _ _ _ (m2.less fun z => (andq z).2) (.ref hv f2)
  · rw [if_neg h0] at e
    cases e
theorem je_call {F : FS} {n k : Nat} {f : Addr} {fd : FuncData} {ps : List Str} {x : Str} {p pos : Pos} {e : Expr} {es : List Expr} {cs : List E} (hF : Φ.fn[n]? = some F) (G : FnG X.prog X.w X.K X.mg X.base CX0 k f fd ps (spOf X.K F)) (hr : Room k X.A) (hgd : X.A.guards = some []) (hg : Gl X x)
    (hm : X.mg x = some (.ref f)) (hk : PySem.W.keepIn X.K (.ref f) = true) (hb : Binds X.K fd ps []) (ha : JCl X Φ F.ref (e :: es) cs) (hdb : (x == ("__debug__" : Str)) = false) (he : NoStar e) (hs : NoStars es) : JE X Φ (.Call (.Name x p) (e :: es) [] pos) (.call n cs) := by
  intro pk
  refine PE.weak (pe_callG (E := E0) G hr hgd hg hm hk hb pass0 ha hdb he hs) fun σ H Q ⟨Z, Ls, ρ, r, ρ', den, own, e, k⟩ => ?_
  have hmask : Φ.mask n = F.ref := by unfold Cf.mask; rw [hF]
  have hpure : Φ.pure n = F.ref.all (!·) := by unfold Cf.pure; rw [hF]
  simp only [ev, hmask] at e
  obtain ⟨⟨ds, ρ1⟩, ea, e⟩ := bind_some e
  unfold callSem at e
  rw [hF] at e
  obtain ⟨⟨xs, ρt⟩, et, e⟩ := bind_some e
  obtain ⟨⟨r', os⟩, er, e⟩ := bind_some e
  obtain ⟨ρ2, eg, e⟩ := map_some e
  cases e
  refine ⟨Z, Ls, ρ, ds, ρ1, den, own, ea, fun vs H1 Z1 Ls1 m1 a1 => ?_⟩
  refine call_post (pk := pk) m1 a1 et er eg fun w H' po => k w H' ?_
  have hq : E.quiet Φ (.call n cs) = (F.ref.all (!·) && quiets Φ cs) := by rw [← hpure]; rfl
  rw [hq]
  exact po
/-! ### by keywords -/
def JK (X : Cx) (Φ : Cf) (kws : List Keyword) (cs : List E) : Prop := PK X kws (TAs X.K (quiets Φ cs) (evs Φ cs))
theorem PK.weak {X : Cx} {e : List Keyword} {t t' : TA} (h : PK X e t) (w : ∀ σ H Q, t' σ H Q → t σ H Q) : PK X e t' := ⟨fun pos pins s σ H Q I q => h.run pos pins s σ H Q I (w σ H Q q)⟩
theorem jk_nil : JK X Φ [] [] := PK.weak pk_nil fun σ H Q ⟨Z, Ls, ρ, r, ρ', den, own, e, k⟩ => by
  cases e
  exact k _ _ _ _ (.refl den own) .nil
theorem jk_cons {e : Expr} {nm : Option Str} {kp : Pos} {kws : List Keyword} {c : E} {cs : List E} (je : JE X Φ e c) (js : JK X Φ kws cs) : JK X Φ (⟨nm, e, kp⟩ :: kws) (c :: cs) := by
  refine PK.weak (pk_cons (je false) js) fun σ H Q ⟨Z, Ls, ρ, r, ρ', den, own, e, k⟩ => ?_
  simp only [evs] at e
  obtain ⟨⟨x, ρ1⟩, ea, e⟩ := bind_some e
  obtain ⟨⟨xs, ρ2⟩, eb, e⟩ := map_some e
  cases e
  refine ⟨Z, Ls, ρ, x, ρ1, den, own, ea, fun v H1 ⟨Z1, P1, Ls1, m1, r1, x1⟩ => ?_⟩
  have m1' := m1.freeze (x1 rfl)
  refine ⟨_, Ls1, ρ1, xs, ρ2, m1'.den, m1'.own, eb, fun vs H2 Z2 Ls2 m2 f2 => ?_⟩
  exact k _ _ _ _ (m1'.trans m2 fun z => andq z) (.cons (m2.fz m1'.own r1.freeze) f2)
/-- frozen arguments in another order -/
theorem perm_fz {K : PySem.W.Frag} {H : Hp} {Z : PS1} {ord : List Nat} : ∀ {vs zs : List V} {xs ys : List DO}, FzAll K H Z vs (xs.map (·.1)) → (∀ x ∈ xs, x.2 = O.f) → permV ord xs = some ys → permV ord vs = some zs → FzAll K H Z zs (ys.map (·.1)) ∧ (∀ y ∈ ys, y.2 = O.f) := by
  induction ord with
  | nil => intro vs zs xs ys f h e1 e2; cases e1; cases e2; exact ⟨.nil, fun y hy => by cases hy⟩
  | cons j ord ih =>
    intro vs zs xs ys f h e1 e2
    obtain ⟨x, ys', a1, a2, rfl⟩ := permV_some e1
    obtain ⟨v, zs', b1, b2, rfl⟩ := permV_some e2
    obtain ⟨f', h'⟩ := ih f h a2 b2
    obtain ⟨v', c1, c2⟩ := f.get (i := j) (d := x.1) (by rw [List.getElem?_map, a1]; rfl)
    rw [b1] at c1
    cases c1
    exact ⟨.cons c2 f', fun y hy => by
      rcases List.mem_cons.mp hy with rfl | hy
      · exact h _ (List.mem_of_getElem? a1)
      · exact h' y hy⟩
theorem perm_has {α β : Type} {ord : List Nat} : ∀ {xs : List α} {vs : List β} {ys : List α}, xs.length = vs.length → permV ord xs = some ys → ∃ zs, permV ord vs = some zs ∧ zs.length = ys.length := by
  induction ord with
  | nil => intro xs vs ys h e; cases e; exact ⟨[], rfl, rfl⟩
  | cons j ord ih =>
    intro xs vs ys h e
    obtain ⟨x, ys', a1, a2, rfl⟩ := permV_some e
    obtain ⟨zs, b1, b2⟩ := ih h a2
    have hj : j < vs.length := by rw [← h]; exact (List.getElem?_eq_some_iff.mp a1).1
    exact ⟨vs[j] :: zs, permV_mk (List.getElem?_eq_getElem hj) b1, congrArg (· + 1) b2⟩
theorem evs_f : ∀ {es : List E} {ρ ρ' : Rho} {xs : List DO}, evs Φ es ρ = some (xs, ρ') → ∀ x ∈ xs, x.2 = O.f
  | [], ρ, ρ', xs, e, x, hx => by cases e; cases hx
  | c :: cs, ρ, ρ', xs, e, x, hx => by
    simp only [evs] at e
    obtain ⟨⟨y, ρ1⟩, ea, e⟩ := bind_some e
    obtain ⟨⟨ys, ρ2⟩, eb, e⟩ := map_some e
    cases e
    rcases List.mem_cons.mp hx with rfl | hx
    · rfl
    · exact evs_f eb x hx
theorem evs_len : ∀ {es : List E} {ρ ρ' : Rho} {xs : List DO}, evs Φ es ρ = some (xs, ρ') → xs.length = es.length
  | [], ρ, ρ', xs, e => by cases e; rfl
  | c :: cs, ρ, ρ', xs, e => by
    simp only [evs] at e
    obtain ⟨⟨y, ρ1⟩, ea, e⟩ := bind_some e
    obtain ⟨⟨ys, ρ2⟩, eb, e⟩ := map_some e
    cases e
    exact congrArg (· + 1) (evs_len eb)
/-- a call without references, by data -/
theorem pure_post {K : PySem.W.Frag} {σ : L2.St} {F : FS} {q0 pk : Bool} {H H1 : Hp} {Z Z1 : PS1} {Ls Ls1 : Nat → PS1} {ρ1 : Rho} {vs : List V} {xs : List DO} {r : DO} {os : List Slot} {Q : VK} {E : XK} (m1 : Mid K σ q0 H Z Ls ρ1 H1 Z1 Ls1) (f : FzAll K H1 Z1 vs (xs.map (·.1))) (hf : ∀ x ∈ xs, x.2 = O.f)
    (hl : vs.length = F.ref.length) (er : F.run xs = some (r, os)) (k : ∀ w H', EPost K σ q0 pk H Z Ls r ρ1 w H' → Q w H') : spOf K F vs H1 Q E := by
  refine ⟨hl, Z1, fun _ => noP, xs, r, os, by rw [f.length, List.length_map], fun j v x h1 h2 => ?_, ⟨fun _ _ _ h => h.elim, fun _ _ h => h.elim, fun _ _ h => h.elim⟩, er, fun v H' Z' P Po rep ex reps po stp new => k v H' ?_⟩
  · obtain ⟨w, e1, e2⟩ := f.get (i := j) (d := x.1) (by rw [List.getElem?_map, h2]; rfl)
    rw [h1] at e1
    cases e1
    obtain ⟨d, o⟩ := x
    cases (hf _ (List.mem_of_getElem? h2) : o = O.f)
    exact .fz e2
  · have nl : ∀ a : Addr, ¬ LL (fun _ => noP) a := fun a ⟨_, z⟩ => z
    have same : Same H1 H' := stp.same nl
    have fk : FK H1 Z1 H' Z' := stp.fk fun a z => absurd z (nl a)
    have up : ∀ a, H1 a = none → H a = none := fun a h => by
      cases e : H a with
      | none => rfl
      | some u =>
        obtain ⟨u', h'⟩ := m1.stp.dom a u e
        rw [h] at h'; cases h'
    have m2 : Mid K σ true H1 Z1 Ls1 ρ1 H' Z' Ls1 := ⟨fun i d o e => by
        obtain ⟨u, h, r⟩ := m1.den i d o e
        exact ⟨u, h, r.keep fk (fun a w _ z => same a w z) fun _ p => p⟩, ⟨m1.own.dis, fun i a z => by
          obtain ⟨w, hw⟩ := m1.own.tr i a z
          exact stp.own a w hw (m1.own.z i a z) (nl a), fun i a z => by
          obtain ⟨w, hw⟩ := m1.own.tr i a z
          exact ⟨w, same a w hw⟩⟩, stp.mono fun a z => absurd z (nl a), fun _ => same, fun a z => .inl z⟩
    refine ⟨Z', P, Ls1, m1.trans m2 fun z => ⟨z, rfl⟩, rep, fun _ => ⟨ex.z, ex.tr, fun a p l => ?_, fun a p => ?_⟩⟩
    · rcases ex.new a p with w | w
      · exact nl a w
      · obtain ⟨u, hu⟩ := m1.own.lt a l
        rw [w] at hu; cases hu
    · rcases ex.new a p with w | w
      · exact absurd w (nl a)
      · exact .inr (up a w)
theorem callK_read {F : FS} {n : Nat} {ord : List Nat} {cs ks : List E} {pk : Bool} {σ : L2.St} {H : Hp} {Q : VK} {EX : XK} {t tk : TA} {nk : Nat} (hF : Φ.fn[n]? = some F) (hnk : nk = ks.length) (ho : ord.length = F.ref.length) (ht : ∀ σ H Q, TAs X.K (quiets Φ cs) (evs Φ cs) σ H Q → t σ H Q) (htk : ∀ σ H Q, TAs X.K (quiets Φ ks) (evs Φ ks) σ H Q → tk σ H Q)
    (h : TEv X.K (E.quiet Φ (.callK n ord cs ks)) pk (ev Φ pk (.callK n ord cs ks)) σ H Q) : tCallKG (spOf X.K F) EX cs.length nk ord t tk σ H Q := by
  obtain ⟨Z, Ls, ρ, r, ρ', den, own, e, k⟩ := h
  simp only [ev] at e
  obtain ⟨⟨xs, ρ1⟩, ea, e⟩ := bind_some e
  obtain ⟨⟨ys, ρ2⟩, eb, e⟩ := bind_some e
  obtain ⟨zs, ez, e⟩ := bind_some e
  obtain ⟨r', er, e⟩ := map_some e
  cases e
  unfold callPure at er
  rw [hF] at er
  simp only at er
  split at er
  · rename_i hall
    obtain ⟨⟨r2, os⟩, er2, e2⟩ := map_some er
    cases e2
    refine ht _ _ _ ⟨Z, Ls, ρ, xs, ρ1, den, own, ea, fun vs H1 Z1 Ls1 m1 f1 => ⟨by rw [f1.length, List.length_map]; exact evs_len ea, ?_⟩⟩
    refine htk _ _ _ ⟨Z1, Ls1, ρ1, ys, _, m1.den, m1.own, eb, fun ws H2 Z2 Ls2 m2 f2 => ⟨by rw [f2.length, List.length_map, hnk]; exact evs_len eb, ?_⟩⟩
    have f : FzAll X.K H2 Z2 (vs ++ ws) ((xs ++ ys).map (·.1)) := by rw [List.map_append]; exact (m2.fzAll m1.own f1).append f2
    have hf : ∀ x ∈ xs ++ ys, x.2 = O.f := fun x hx => (List.mem_append.mp hx).elim (evs_f ea x) (evs_f eb x)
    obtain ⟨qs, e1, e2⟩ := perm_has (vs := vs ++ ws) (by rw [f.length, List.length_map]) ez
    obtain ⟨g, hg⟩ := perm_fz f hf ez e1
    have hlen : ∀ {α : Type} {ord : List Nat} {xs ys : List α}, permV ord xs = some ys → ys.length = ord.length := by
      intro α ord
      induction ord with
      | nil => intro xs ys e; cases e; rfl
      | cons j ord ih =>
        intro xs ys e
        obtain ⟨x, r, _, e2, rfl⟩ := permV_some e
        exact congrArg (· + 1) (ih e2)
    refine ⟨qs, e1, pure_post (pk := pk) (m1.trans m2 (q := E.quiet Φ (.callK n ord cs ks)) fun z => andq (andq z).2) g hg (by rw [hlen e1]; exact ho) er2 k⟩
  · cases er
theorem je_callK {F : FS} {n k : Nat} {f : Addr} {fd : FuncData} {ps : List Str} {x : Str} {p pos : Pos} {e : Expr} {es : List Expr} {kws : List Keyword} {nms : List Str} {ord : List Nat} {cs ks : List E} (hF : Φ.fn[n]? = some F) (ho : ord.length = F.ref.length) (G : FnG X.prog X.w X.K X.mg X.base CX0 k f fd ps (spOf X.K F)) (hr : Room k X.A) (hgd : X.A.guards = some []) (hg : Gl X x)
    (hm : X.mg x = some (.ref f)) (hk : PySem.W.keepIn X.K (.ref f) = true) (hb : KwOk X.K fd ps cs.length nms ord) (ha : JA X Φ (e :: es) cs) (hkw : JK X Φ kws ks) (hn : nms.length = ks.length) (hall : (backToKw pos (keywordEach kws X.env)).all (·.1.isSome) = true) (hks : (backToKw pos (keywordEach kws X.env)).filterMap (·.1) = nms)
    (hno : (backToKw pos (keywordEach kws X.env)).any (·.1.isNone) = false) (hdb : (x == ("__debug__" : Str)) = false) (he : NoStar e) (hs : NoStars es) : JE X Φ (.Call (.Name x p) (e :: es) kws pos) (.callK n ord cs ks) := fun pk =>
  PE.weak (pe_callKG (E := E0) G hr hgd hg hm hk hb pass0 ha hkw hall hks hno hdb he hs) fun σ H Q h => callK_read hF hn ho (fun _ _ _ z => z) (fun _ _ _ z => z) h
theorem je_callK0 {F : FS} {n k : Nat} {f : Addr} {fd : FuncData} {ps : List Str} {x : Str} {p pos : Pos} {kws : List Keyword} {nms : List Str} {ord : List Nat} {ks : List E} (hF : Φ.fn[n]? = some F) (ho : ord.length = F.ref.length) (G : FnG X.prog X.w X.K X.mg X.base CX0 k f fd ps (spOf X.K F)) (hr : Room k X.A) (hgd : X.A.guards = some []) (hg : Gl X x)
    (hm : X.mg x = some (.ref f)) (hk : PySem.W.keepIn X.K (.ref f) = true) (hb : KwOk X.K fd ps 0 nms ord) (hkw : JK X Φ kws ks) (hn : nms.length = ks.length) (hall : (backToKw pos (keywordEach kws X.env)).all (·.1.isSome) = true) (hks : (backToKw pos (keywordEach kws X.env)).filterMap (·.1) = nms)
    (hno : (backToKw pos (keywordEach kws X.env)).any (·.1.isNone) = false) (hdb : (x == ("__debug__" : Str)) = false) : JE X Φ (.Call (.Name x p) [] kws pos) (.callK n ord [] ks) := fun pk =>
  PE.weak (pe_callKG0 (E := E0) G hr hgd hg hm hk hb pass0 hkw hall hks hno hdb) fun σ H Q h => callK_read (cs := []) (t := tNil) hF hn ho (fun _ _ _ ⟨Z, Ls, ρ, xs, ρ', den, own, e, k⟩ => by
    cases e
    exact k _ _ _ _ (.refl den own) .nil) (fun _ _ _ z => z) h
end
end Ev
/-! Ev 11: what is walked; targets. -/
namespace Ev
open PySem PySem.Spec PyProof.Rows L2
/-! ### enumerate of a tuple -/
section
variable {prog : Program} {w : World} {A : Around} {E : Value → Shared → Prop} {s : Shared}
theorem tup_next {it t : Addr} {i : Nat} {items : Array Value} {x : Value} {Q : Value → Shared → Prop} (qi : s.heap.IsTupleIter it t i) (qt : s.heap.IsTuple t items) (qx : items[i]? = some x)
    (k : ∀ h', h'.IsTupleIter it t (i + 1) → Heap.SameBut it s.heap h' → Q x { s with heap := h' }) : wpAny (model prog w) A (Builtin.SmallTypes.nextOf (.ref it)) Q E s := by
  obtain ⟨ob, po, pc, pd⟩ := id qi
  obtain ⟨ot, qo, _, m, qd⟩ := qt
  unfold Builtin.SmallTypes.nextOf
  refine wpAny_bind (wpAny_callSpecial?_slot (name := Str.ofString "__next__") qi.typeIs F.slot_tuple_iterator_next (wpAny_call_entry F.slot_tuple_iterator_next qi.typeIs F.entry_tuple_iterator_next ?_ (F.args_tuple_iterator_next_1 _)))
  show wpAny _ _ (field (Value.ref it) 0 >>= _) _ _ s
  refine wpAny_bind (wpAny_field po pd (x := Value.ref t) rfl ?_)
  show wpAny _ _ (if (Value.ref t == Value.none) = true then _ else _) _ _ s
  have nb : ¬ ((Value.ref t == Value.none) = true) := Bool.false_ne_true
  rw [if_neg nb]
  show wpAny _ _ (field (Value.ref it) 1 >>= _) _ _ s
  refine wpAny_bind (wpAny_field po pd (x := Value.int i 0) rfl ?_)
  show wpAny _ _ (seqItems? (Value.ref t) >>= _) _ _ s
  refine wpAny_bind (wpAny_seqItems qo qd ?_)
  simp only [Int.toNat_natCast, qx]
  refine wpAny_bind (wpAny_setField po pd (by simp) (wpAny_pure ⟨x, rfl, wpAny_pure (k _ ?_ (Heap.SameBut.update ..))⟩))
  refine ⟨_, Heap.get?_update_self _ po (Obj.isFreed_of_fields (Obj.data_mapFields pd _)), (Obj.cls_mapFields ..).trans pc, ?_⟩
  rw [Obj.data_mapFields pd]
  simp [rawInt]
theorem tup_stop {it t : Addr} {i : Nat} {items : Array Value} {Q : Value → Shared → Prop} (hn : A.handled = none) (qi : s.heap.IsTupleIter it t i) (qt : s.heap.IsTuple t items) (qx : items[i]? = none)
    (k : ∀ h' e, Heap.ExtBut it s.heap h' → (∃ o, h'.get? e = some o ∧ o.cls = .type "StopIteration") → E (.ref e) { s with heap := h' }) : wpAny (model prog w) A (Builtin.SmallTypes.nextOf (.ref it)) Q E s := by
  obtain ⟨ob, po, pc, pd⟩ := id qi
  obtain ⟨ot, qo, _, m, qd⟩ := qt
  unfold Builtin.SmallTypes.nextOf
  refine wpAny_bind (wpAny_callSpecial?_slot (name := Str.ofString "__next__") qi.typeIs F.slot_tuple_iterator_next (wpAny_call_entry F.slot_tuple_iterator_next qi.typeIs F.entry_tuple_iterator_next ?_ (F.args_tuple_iterator_next_1 _)))
  show wpAny _ _ (field (Value.ref it) 0 >>= _) _ _ s
  refine wpAny_bind (wpAny_field po pd (x := Value.ref t) rfl ?_)
  show wpAny _ _ (if (Value.ref t == Value.none) = true then _ else _) _ _ s
  have nb : ¬ ((Value.ref t == Value.none) = true) := Bool.false_ne_true
  rw [if_neg nb]
  show wpAny _ _ (field (Value.ref it) 1 >>= _) _ _ s
  refine wpAny_bind (wpAny_field po pd (x := Value.int i 0) rfl ?_)
  show wpAny _ _ (seqItems? (Value.ref t) >>= _) _ _ s
  refine wpAny_bind (wpAny_seqItems qo qd ?_)
  simp only [Int.toNat_natCast, qx]
  refine wpAny_bind (wpAny_rule (wpAny_bind (wpAny_setField po pd (by simp) ?_)))
  show wpAny _ _ (newExc (Value.type "StopIteration") [] >>= _) _ _ _
  refine wpAny_bind ?_; simp only [newExc, newTuple]; refine wpAny_bind (wpAny_newObj_type ?_ (by size_fits))
  refine wpAny_bind (m := firstArgMember _ _) (wpAny_of_eq (a := .none) (by first | rfl | (simp only [firstArgMember]; rfl)) ?_)
  refine wpAny_newObj_type ?_ (by size_fits); simp only [raiseNew]
  refine wpAny_bind (wpAny_handled ?_)
  first | rw [show A.in1.handled = none from hn] | rw [hn]
  refine wpAny_bind (wpAny_pure (wpAny_throw ?_))
  exact k _ _ (((Heap.SameBut.update ..).extBut.push _).push _) ⟨_, Heap.get?_push_size _ rfl, rfl⟩
end
theorem draws_tup {prog : Program} {w : World} {A : Around} (hn : A.handled = none) (it t : Addr) (ne : t ≠ it) (items : Array Value) :
    Draws prog w A it [it, t] items.size (fun i v => items[i]? = some v) (fun i h => h.IsTupleIter it t i ∧ h.IsTuple t items) where
  live := fun _ _ st => let ⟨o, q, _⟩ := st.1; ⟨o, q⟩
  frame := fun _ _ _ st k => ⟨let ⟨o, q, r⟩ := st.1; ⟨o, k it (by simp) o q, r⟩, let ⟨o, q, r⟩ := st.2; ⟨o, k t (by simp) o q, r⟩⟩
  item := fun i s Q E lt st k => by
    refine tup_next st.1 st.2 (x := items[i]) (by simp [lt]) fun h' a b => ?_
    exact k _ h' s.toks (by simp [lt]) ⟨a, st.2.extBut b.extBut ne⟩ b
  done := fun s Q E st k => tup_stop hn st.1 st.2 (by simp) k
set_option maxHeartbeats 1000000 in
theorem new_enumT (l : Addr) (items : Array Value) (n : Nat) (dct : Option Addr) (sl : Array (Option Value)) :
    Meets (Builtin.«enumerate.__new__» ⟨[.type "enumerate", .ref l], []⟩) (fun _ R s => s.heap.get? l = some { cls := .type "tuple", dict := dct, data := .seq items n, slots := sl } ∧
      R (.ok (.ret (.ref (s.heap.push { cls := .type "tuple_iterator", data := .fields #[.ref l, .int 0 0] }).objs.size)))
        { s with heap := (s.heap.push { cls := .type "tuple_iterator", data := .fields #[.ref l, .int 0 0] }).push { cls := .type "enumerate", data := .fields #[.none, .bool false, .ref s.heap.objs.size, rawInt 0, .none, .none] } }) :=
  .of_wp fun prog w A R s h => by
    obtain ⟨hp, g, d, tk, os⟩ := s
    obtain ⟨hl, h⟩ := h
    have hsub := sub_enumerate
    have qT : Heap.IsTuple (Shared.heap ⟨hp, g, d, tk, os⟩) l items := ⟨_, hl, rfl, n, rfl⟩
    wp_walk using AutoSeq1.wpAny_loadPart' hl
    refine wpAny_stack_any fun st => wpAny_pure ?_
    split
    · rename_i c _ _ _ _ _
      cases (c == Value.type "enumerate")
      · wp_walk using AutoSeq1.wpAny_loadPart' hl, wpAny_pyIter_tuple qT
        exact ⟨_, rfl, h⟩
      · wp_walk using AutoSeq1.wpAny_loadPart' hl, wpAny_pyIter_tuple qT
        exact ⟨_, rfl, h⟩
    · wp_walk using AutoSeq1.wpAny_loadPart' hl, wpAny_pyIter_tuple qT
      exact ⟨_, rfl, h⟩
theorem call_enumT {prog : Program} {w : World} {A : Around} {E : Value → Shared → Prop} {s : Shared} {l : Addr} {items : Array Value} {Q : Value → Shared → Prop} (qT : s.heap.IsTuple l items)
    (k : ∀ h', IsEnum h' (s.heap.objs.size + 1) s.heap.objs.size 0 .none → h'.IsTupleIter s.heap.objs.size l 0 → (∀ b o, s.heap.get? b = some o → h'.get? b = some o) → Q (.ref (s.heap.objs.size + 1)) { s with heap := h' }) :
    wpAny (model prog w) A (call (.type "enumerate") [.ref l]) Q E s := by
  obtain ⟨⟨c, dct, dt, sl⟩, hl, hc, n, hd⟩ := qT
  simp only at hc hd
  subst hc hd
  refine callType_new F.called_enumerate (by decide) (F.typeCall_enumerate_1 _) (F.newCall_enumerate_1 _) (fun obj => F.args_object_init_2 obj _) F.entry_enumerate_new (new_enumT l items n dct sl) ⟨hl, ?_⟩
  have z1 : (s.heap.push { cls := .type "tuple_iterator", data := .fields #[.ref l, .int 0 0] }).objs.size = s.heap.objs.size + 1 := Heap.size_push ..
  show _ ∧ _
  rw [z1]
  have e1 : IsEnum ((s.heap.push { cls := .type "tuple_iterator", data := .fields #[.ref l, .int 0 0] }).push
      { cls := .type "enumerate", data := .fields #[.none, .bool false, .ref s.heap.objs.size, rawInt 0, .none, .none] }) (s.heap.objs.size + 1) s.heap.objs.size 0 .none := by
    have := Heap.get?_push_size (s.heap.push { cls := .type "tuple_iterator", data := .fields #[.ref l, .int 0 0] })
      (o := { cls := .type "enumerate", data := .fields #[.none, .bool false, .ref s.heap.objs.size, rawInt 0, .none, .none] }) rfl
    rw [z1] at this
    exact this
  exact ⟨⟨_, e1, rfl⟩, k _ e1 ⟨_, Heap.get?_push_of_some _ (Heap.get?_push_size _ rfl), rfl, rfl⟩ fun b o x => Heap.get?_push_of_some _ (Heap.get?_push_of_some _ x)⟩
/-- the tuple at a, each item in a new pair -/
def IteT (K : PySem.W.Frag) (a : Addr) : L2.It :=
  ⟨fun i H => ∃ (xs : List V) (x : V), SqT K H a xs ∧ xs[i]? = some x, fun i H v H' => ∃ T x, v = .ref T ∧ H T = none ∧ H' = upd H T (.tup [.int (i : Nat), x]) ∧ ∀ xs, SqT K H a xs → xs[i]? = some x, fun i H => ∃ xs : List V, SqT K H a xs ∧ xs.length ≤ i⟩
theorem enumT_end {prog : Program} {w : World} {A : Around} {E : Value → Shared → Prop} {s : Shared} {e it t : Addr} {i : Int} {j : Nat} {items : Array Value} {old : Value} {Q : Option Value → Shared → Prop} (hn : A.handled = none)
    (q : IsEnum s.heap e it i old) (qi : s.heap.IsTupleIter it t j) (qt : s.heap.IsTuple t items) (qx : items[j]? = none) (k : ∀ h', Heap.ExtBut it s.heap h' → Q none { s with heap := h' }) : wpAny (model prog w) A (pyNext (.ref e)) Q E s := by
  have ty : s.TypeIs (.ref e) "enumerate" := ⟨_, q, rfl⟩
  unfold pyNext
  refine wpAny_bind (wpAny_attempt (wpAny_callSpecial?_slot (name := Str.ofString "__next__") ty F.slot_enumerate_next (wpAny_call_entry F.slot_enumerate_next ty F.entry_enumerate_next ?_ (F.args_enumerate_next_1 _))))
  show wpAny _ _ (field (Value.ref e) 2 >>= _) _ _ _
  refine wpAny_bind (wpAny_field q rfl (x := Value.ref it) rfl (wpAny_bind (tup_stop hn qi qt qx fun h' x b ⟨o, po, pc⟩ => ?_)))
  refine wpAny_bind (wpAny_isInstance (T := "StopIteration") (b := true) ⟨o, po, pc⟩ isSubtype_stop ?_)
  exact wpAny_pure (k _ b)
theorem turn_enumT {P : Program} {w : World} {K : PySem.W.Frag} {elts : List Expr} {kk : Nat} {tpos : Pos} (a e it : Addr) :
    Turn P w K (.Tuple elts kk tpos) (IteT K a) [e, it] e (fun i h => (∃ old, IsEnum h e it ((i : Nat) : Int) old) ∧ h.IsTupleIter it a i ∧ e ≠ it) where
  mem := by simp
  obj := fun i h st b hb => by
    obtain ⟨⟨o1, q1⟩, ⟨o2, q2, _, q3⟩, _⟩ := st
    rcases (by simpa using hb : b = e ∨ b = it) with z | z
    · subst z; exact ⟨_, q1, fun v q => nomatch q⟩
    · subst z; exact ⟨o2, q2, fun v q => by rw [q3] at q; cases q⟩
  keep := fun i h h' st k => let ⟨⟨o1, q1⟩, ⟨o2, q2, r⟩, ne⟩ := st; ⟨⟨o1, k e (by simp) _ q1⟩, ⟨o2, k it (by simp) _ q2, r⟩, ne⟩
  item := by
    intro X hP hw hK hc i pins s σ H E I hf st ⟨xs, x, hq, hx⟩
    subst hP hw hK
    obtain ⟨⟨o1, q1⟩, qi, ne⟩ := st
    obtain ⟨its, rv, p, hz⟩ := I.tuple hq
    obtain ⟨u, hu, ru⟩ := rv.get hx
    have le : e < s.heap.objs.size := Heap.lt_size q1
    have li : it < s.heap.objs.size := by obtain ⟨_, q, _⟩ := qi; exact Heap.lt_size q
    have nea : e ≠ a := fun z => by
      subst z
      obtain ⟨o, q, c, _⟩ := p
      rw [q1] at q
      cases q
      simp at c
    have nia : a ≠ it := fun z => by
      subst z
      obtain ⟨o, q, c, _⟩ := p
      obtain ⟨o', q', c', _⟩ := qi
      rw [q] at q'
      cases q'
      rw [c] at c'
      simp at c'
    have lt : i < its.toArray.size := by
      have := (List.getElem?_eq_some_iff.mp hx).1
      rw [rv.length] at this
      simpa using this
    refine wpAny_pyNext_enum_itemD (draws_tup (A := X.A.in1) (I.ok.hd hc) it a nia its.toArray) q1 ⟨qi, p⟩ lt ne (by simp [ne, nea]) fun y h' tk hy ho hst hT hsz hk => ?_
    have ey : y = u := by
      have : its.toArray[i]? = some u := by simpa using hu
      rw [this] at hy
      exact (Option.some.inj hy).symm
    subst ey
    refine ⟨_, rfl, wpAny_letOwnedTupleGo_enum (s := { s with heap := h', toks := tk + 1 }) ho fun h'' q2 sb => ?_⟩
    have hT2 : h''.get? s.heap.objs.size = some { cls := .type "tuple", data := .seq #[.int i tk, y] } := (sb.2 _ (Nat.ne_of_gt le)).trans hT
    have new : ObjOk X.prog X.w (upd H s.heap.objs.size (.tup [.int (i : Nat), x])) h'' s.heap.objs.size (.tup [.int (i : Nat), x]) :=
      ⟨(by decide : 2 ≤ sizeLine), [.int i tk, y], .cons ⟨_, rfl⟩ (.cons ru .nil), ⟨_, hT2, rfl, _, rfl⟩⟩
    have I1 : Inv X pins σ (upd H s.heap.objs.size (.tup [.int (i : Nat), x])) { s with heap := h'', toks := tk + 1 } :=
      I.turnedNew (ch := [e, it]) (fun b ob hb q => (sb.2 b (fun z => hb (by simp [z]))).trans (hk b ob (fun z => hb (by simp [z])) (fun z => hb (by simp [z])) q)) hf (Nat.le_refl _) new
    refine ⟨.ref s.heap.objs.size, _, I1, rfl, ⟨_, x, rfl, I.hok.fresh (Nat.le_refl _), rfl, fun ys hy => by rw [I.tuple_inj hy hq]; exact hx⟩, ⟨⟨y, ?_⟩, ?_, ne⟩, fun b hb => ?_⟩
    · rw [show ((i + 1 : Nat) : Int) = (i : Int) + 1 by omega]
      exact q2
    · obtain ⟨o, q, r⟩ := hst.1
      exact ⟨o, (sb.2 it (Ne.symm ne)).trans q, r⟩
    · have lb : b < s.heap.objs.size := by
        rcases (by simpa using hb : b = e ∨ b = it) with z | z <;> (rw [z]; assumption)
      rw [upd_ne (Nat.ne_of_lt lb)]
      exact (hf b hb).1
  done := by
    intro X hP hw hK hc i pins s σ H E I hf st ⟨xs, hq, hx⟩
    subst hP hw hK
    obtain ⟨⟨o1, q1⟩, qi, ne⟩ := st
    obtain ⟨its, rv, p, hz⟩ := I.tuple hq
    obtain ⟨f0, f1, f2, f3, f4, f5⟩ := hf it (by simp)
    have nia : a ≠ it := fun z => by
      subst z
      obtain ⟨o, q, c, _⟩ := p
      obtain ⟨o', q', c', _⟩ := qi
      rw [q] at q'
      cases q'
      rw [c] at c'
      simp at c'
    have lz : its.toArray.size ≤ i := by
      rw [rv.length] at hx
      simpa using hx
    exact enumT_end (I.ok.hd hc) q1 qi p (by simpa using lz) fun h' eb => ⟨rfl, I.turned (t' := s.toks) (fun b o hb q => eb b o hb q) f0 f1 f3 f4 f5⟩
  self := fun A i s Q E st h => let ⟨⟨_, he⟩, _⟩ := st; wpAny_pyIter_enum he h
/-- a list or a tuple, its items numbered -/
def iEnumE (K : PySem.W.Frag) (ta : TA) : TI := fun σ H R => ta σ H fun vs H1 => ∃ a, vs = [.ref a] ∧ ((∃ xs, SqL K H1 a xs ∧ R (Ite K a) H1) ∨ ∃ xs, SqT K H1 a xs ∧ R (IteT K a) H1)
theorem pi_enumE {X : Cx} {e : Expr} {ta : TA} {p pos tpos : Pos} {elts : List Expr} {kk : Nat} (hg : Gl X "enumerate") (hm : X.mg "enumerate" = none) (ha : PA X [e] ta) (hs : starEach [e] X.env = [(false, eval e X.env)]) :
    PI X (.Tuple elts kk tpos) (.Call (.Name "enumerate" p) [e] [] pos) (iEnumE X.K ta) := by
  refine ⟨fun pins s σ H R I h => ?_⟩
  refine Call_ (ld_blt I hg hm boot_enumerate (PyProof.Rows.callWith_type1 (thn (ha.run pos pins s σ H _ I h) fun us s1 ⟨vs, H1, I1, r1, q1⟩ => ?_) hs rfl))
  obtain ⟨a, ex, q⟩ := q1
  subst ex
  cases r1 with
  | cons r rr =>
    cases rr
    cases r
    have fp : ∀ b, b ∈ [s1.heap.objs.size + 1, s1.heap.objs.size] → FpOk X pins H1 b := fun b hb => by
      have le : s1.heap.objs.size ≤ b := by
        rcases (by simpa using hb : b = s1.heap.objs.size + 1 ∨ b = s1.heap.objs.size) with z | z <;> omega
      exact I1.fpOk le (I1.hok.fresh le)
    rcases q with ⟨xs, sq, q⟩ | ⟨xs, sq, q⟩
    · obtain ⟨its, rv, pl, hz⟩ := I1.list sq
      refine call_enumerate_list pl.isList fun h' qe qi _ k => wpAny_pyIter_enum qe ?_
      exact ⟨s1.heap.objs.size + 1, [s1.heap.objs.size + 1, s1.heap.objs.size], _, _, H1, rfl, I1.kept (t' := s1.toks) k, turn_enum a _ _, ⟨⟨.none, qe⟩, qi, Nat.succ_ne_self _⟩, fp, q⟩
    · obtain ⟨its, rv, pl, hz⟩ := I1.tuple sq
      refine call_enumT pl fun h' qe qi k => wpAny_pyIter_enum qe ?_
      exact ⟨s1.heap.objs.size + 1, [s1.heap.objs.size + 1, s1.heap.objs.size], _, _, H1, rfl, I1.kept (t' := s1.toks) k, turn_enumT a _ _, ⟨⟨.none, qe⟩, qi, Nat.succ_ne_self _⟩, fp, q⟩
theorem walk_enumT {K : PySem.W.Frag} {a : Addr} {xs : List V} : Walk (IteT K a) xs.length (fun H => SqT K H a xs) (YPair (fun i => some (.int (i : Nat))) (fun i => xs[i]?)) := by
  refine ⟨fun i _ hi q => ⟨xs, xs[i], q, by simp [hi]⟩, fun _ q => ⟨xs, q, Nat.le_refl _⟩, fun i H v H' _ q ⟨T, x, h1, h2, h3, h4⟩ => ?_⟩
  exact ⟨T, .int (i : Nat), x, h1, h2, h3, rfl, h4 xs q⟩

/-! ### enumerate of a text -/
def IteS (x : Str) : L2.It :=
  ⟨fun i _ => i < x.cps.size, fun i H v H' => ∃ T c, v = .ref T ∧ H T = none ∧ H' = upd H T (.tup [.int (i : Nat), .str ⟨#[c]⟩]) ∧ x.cps[i]? = some c, fun i _ => x.cps.size ≤ i⟩
theorem draws_str {prog : Program} {w : World} {A : Around} (hn : A.handled = none) (it : Addr) (x : Str) (t : Tok) {ty : String} (hty : ty = "str_ascii_iterator" ∨ ty = "str_iterator") :
    Draws prog w A it [it] x.cps.size (fun i v => ∃ c u, x.cps[i]? = some c ∧ v = .str ⟨#[c]⟩ u) (fun i h => h.IsStrIter it ty x t i) := by
  rcases hty with rfl | rfl
  · exact Draws.strAscii hn it x t
  · exact Draws.strWide hn it x t
theorem enumS_end {prog : Program} {w : World} {A : Around} {E : Value → Shared → Prop} {s : Shared} {e it : Addr} {i : Int} {j : Nat} {x : Str} {t : Tok} {ty : String} {old : Value} {Q : Option Value → Shared → Prop} (hn : A.handled = none) (hty : ty = "str_ascii_iterator" ∨ ty = "str_iterator")
    (q : IsEnum s.heap e it i old) (qi : s.heap.IsStrIter it ty x t j) (qx : x.cps[j]? = none) (k : ∀ h', Heap.ExtBut it s.heap h' → Q none { s with heap := h' }) : wpAny (model prog w) A (pyNext (.ref e)) Q E s := by
  have tE : s.TypeIs (.ref e) "enumerate" := ⟨_, q, rfl⟩
  unfold pyNext
  refine wpAny_bind (wpAny_attempt (wpAny_callSpecial?_slot (name := Str.ofString "__next__") tE F.slot_enumerate_next (wpAny_call_entry F.slot_enumerate_next tE F.entry_enumerate_next ?_ (F.args_enumerate_next_1 _))))
  show wpAny _ _ (field (Value.ref e) 2 >>= _) _ _ _
  refine wpAny_bind (wpAny_field q rfl (x := Value.ref it) rfl (wpAny_bind ?_))
  rcases hty with rfl | rfl
  · refine wpAny_nextOf_ascii_end hn qi qx fun h' x b ⟨o, po, pc⟩ => ?_
    refine wpAny_bind (wpAny_isInstance (T := "StopIteration") (b := true) ⟨o, po, pc⟩ isSubtype_stop ?_)
    exact wpAny_pure (k _ b)
  · refine wpAny_nextOf_wide_end hn qi qx fun h' x b ⟨o, po, pc⟩ => ?_
    refine wpAny_bind (wpAny_isInstance (T := "StopIteration") (b := true) ⟨o, po, pc⟩ isSubtype_stop ?_)
    exact wpAny_pure (k _ b)
theorem turn_enumS {P : Program} {w : World} {K : PySem.W.Frag} {elts : List Expr} {kk : Nat} {tpos : Pos} (x : Str) (e it : Addr) (t : Tok) (ty : String) (hty : ty = "str_ascii_iterator" ∨ ty = "str_iterator") :
    Turn P w K (.Tuple elts kk tpos) (IteS x) [e, it] e (fun i h => (∃ old, IsEnum h e it ((i : Nat) : Int) old) ∧ h.IsStrIter it ty x t i ∧ e ≠ it) where
  mem := by simp
  obj := fun i h st b hb => by
    obtain ⟨⟨o1, q1⟩, ⟨o2, q2, _, q3⟩, _⟩ := st
    rcases (by simpa using hb : b = e ∨ b = it) with z | z
    · subst z; exact ⟨_, q1, fun v q => nomatch q⟩
    · subst z; exact ⟨o2, q2, fun v q => by rw [q3] at q; cases q⟩
  keep := fun i h h' st k => let ⟨⟨o1, q1⟩, ⟨o2, q2, r⟩, ne⟩ := st; ⟨⟨o1, k e (by simp) _ q1⟩, ⟨o2, k it (by simp) _ q2, r⟩, ne⟩
  item := by
    intro X hP hw hK hc i pins s σ H E I hf st lt
    subst hP hw hK
    obtain ⟨⟨o1, q1⟩, qi, ne⟩ := st
    have le : e < s.heap.objs.size := Heap.lt_size q1
    have li : it < s.heap.objs.size := by obtain ⟨_, q, _⟩ := qi; exact Heap.lt_size q
    refine wpAny_pyNext_enum_itemD (draws_str (A := X.A.in1) (I.ok.hd hc) it x t hty) q1 qi lt ne (by simp [ne]) fun y h' tk ⟨c, u, hcx, hy⟩ ho hst hT hsz hk => ?_
    subst hy
    refine ⟨_, rfl, wpAny_letOwnedTupleGo_enum (s := { s with heap := h', toks := tk + 1 }) ho fun h'' q2 sb => ?_⟩
    have hT2 : h''.get? s.heap.objs.size = some { cls := .type "tuple", data := .seq #[.int i tk, .str ⟨#[c]⟩ u] } := (sb.2 _ (Nat.ne_of_gt le)).trans hT
    have new : ObjOk X.prog X.w (upd H s.heap.objs.size (.tup [.int (i : Nat), .str ⟨#[c]⟩])) h'' s.heap.objs.size (.tup [.int (i : Nat), .str ⟨#[c]⟩]) :=
      ⟨(by decide : 2 ≤ sizeLine), [.int i tk, .str ⟨#[c]⟩ u], .cons ⟨_, rfl⟩ (.cons ⟨_, rfl⟩ .nil), ⟨_, hT2, rfl, _, rfl⟩⟩
    have I1 : Inv X pins σ (upd H s.heap.objs.size (.tup [.int (i : Nat), .str ⟨#[c]⟩])) { s with heap := h'', toks := tk + 1 } :=
      I.turnedNew (ch := [e, it]) (fun b ob hb q => (sb.2 b (fun z => hb (by simp [z]))).trans (hk b ob (fun z => hb (by simp [z])) (fun z => hb (by simp [z])) q)) hf (Nat.le_refl _) new
    refine ⟨.ref s.heap.objs.size, _, I1, rfl, ⟨_, c, rfl, I.hok.fresh (Nat.le_refl _), rfl, hcx⟩, ⟨⟨.str ⟨#[c]⟩ u, ?_⟩, ?_, ne⟩, fun b hb => ?_⟩
    · rw [show ((i + 1 : Nat) : Int) = (i : Int) + 1 by omega]
      exact q2
    · obtain ⟨o, q, r⟩ := hst
      exact ⟨o, (sb.2 it (Ne.symm ne)).trans q, r⟩
    · have lb : b < s.heap.objs.size := by
        rcases (by simpa using hb : b = e ∨ b = it) with z | z <;> (rw [z]; assumption)
      rw [upd_ne (Nat.ne_of_lt lb)]
      exact (hf b hb).1
  done := by
    intro X hP hw hK hc i pins s σ H E I hf st le
    subst hP hw hK
    obtain ⟨⟨o1, q1⟩, qi, ne⟩ := st
    obtain ⟨f0, f1, f2, f3, f4, f5⟩ := hf it (by simp)
    have le : x.cps.size ≤ i := le
    exact enumS_end (I.ok.hd hc) hty q1 qi (by simpa using le) fun h' eb => ⟨rfl, I.turned (t' := s.toks) (fun b o hb q => eb b o hb q) f0 f1 f3 f4 f5⟩
  self := fun A i s Q E st h => let ⟨⟨_, he⟩, _⟩ := st; wpAny_pyIter_enum he h
theorem strIter_ty (x : Str) : strIterType x = "str_ascii_iterator" ∨ strIterType x = "str_iterator" := by
  unfold strIterType
  split
  · exact .inl rfl
  · exact .inr rfl
/-- a list, a tuple or a text, the items numbered -/
def iEnumX (K : PySem.W.Frag) (ta : TA) : TI := fun σ H R => ta σ H fun vs H1 => (∃ a, vs = [.ref a] ∧ ((∃ xs, SqL K H1 a xs ∧ R (Ite K a) H1) ∨ ∃ xs, SqT K H1 a xs ∧ R (IteT K a) H1)) ∨ ∃ x, vs = [.str x] ∧ R (IteS x) H1
theorem pi_enumX {X : Cx} {e : Expr} {ta : TA} {p pos tpos : Pos} {elts : List Expr} {kk : Nat} (hg : Gl X "enumerate") (hm : X.mg "enumerate" = none) (ha : PA X [e] ta) (hs : starEach [e] X.env = [(false, eval e X.env)]) :
    PI X (.Tuple elts kk tpos) (.Call (.Name "enumerate" p) [e] [] pos) (iEnumX X.K ta) := by
  refine ⟨fun pins s σ H R I h => ?_⟩
  refine Call_ (ld_blt I hg hm boot_enumerate (PyProof.Rows.callWith_type1 (thn (ha.run pos pins s σ H _ I h) fun us s1 ⟨vs, H1, I1, r1, q1⟩ => ?_) hs rfl))
  have fp : ∀ b, b ∈ [s1.heap.objs.size + 1, s1.heap.objs.size] → FpOk X pins H1 b := fun b hb => by
    have le : s1.heap.objs.size ≤ b := by
      rcases (by simpa using hb : b = s1.heap.objs.size + 1 ∨ b = s1.heap.objs.size) with z | z <;> omega
    exact I1.fpOk le (I1.hok.fresh le)
  rcases q1 with ⟨a, ex, q⟩ | ⟨x, ex, q⟩
  · subst ex
    cases r1 with
    | cons r rr =>
      cases rr
      cases r
      rcases q with ⟨xs, sq, q⟩ | ⟨xs, sq, q⟩
      · obtain ⟨its, rv, pl, hz⟩ := I1.list sq
        refine call_enumerate_list pl.isList fun h' qe qi _ k => wpAny_pyIter_enum qe ?_
        exact ⟨s1.heap.objs.size + 1, [s1.heap.objs.size + 1, s1.heap.objs.size], _, _, H1, rfl, I1.kept (t' := s1.toks) k, turn_enum a _ _, ⟨⟨.none, qe⟩, qi, Nat.succ_ne_self _⟩, fp, q⟩
      · obtain ⟨its, rv, pl, hz⟩ := I1.tuple sq
        refine call_enumT pl fun h' qe qi k => wpAny_pyIter_enum qe ?_
        exact ⟨s1.heap.objs.size + 1, [s1.heap.objs.size + 1, s1.heap.objs.size], _, _, H1, rfl, I1.kept (t' := s1.toks) k, turn_enumT a _ _, ⟨⟨.none, qe⟩, qi, Nat.succ_ne_self _⟩, fp, q⟩
  · subst ex
    cases r1 with
    | cons r rr =>
      cases rr
      obtain ⟨t, rfl⟩ := r
      refine call_enumerate_str fun h' qe qi _ k => wpAny_pyIter_enum qe ?_
      exact ⟨s1.heap.objs.size + 1, [s1.heap.objs.size + 1, s1.heap.objs.size], _, _, H1, rfl, I1.kept (t' := s1.toks) k, turn_enumS x _ _ t (strIterType x) (strIter_ty x), ⟨⟨.none, qe⟩, qi, Nat.succ_ne_self _⟩, fp, q⟩
theorem walk_enumS {x : Str} : Walk (IteS x) x.cps.size (fun _ => True) (fun i H v H' => ∃ T c, v = .ref T ∧ H T = none ∧ H' = upd H T (.tup [.int (i : Nat), .str ⟨#[c]⟩]) ∧ x.cps[i]? = some c) :=
  ⟨fun i _ hi _ => hi, fun _ _ => Nat.le_refl _, fun i H v H' _ _ y => y⟩

/-- the walk J gives ds, while what is frozen stays -/
def WalkD (K : PySem.W.Frag) (J : L2.It) (ds : List PyData) (H : Hp) (Z : PS1) : Prop :=
  ∃ (G : Hp → Prop) (Y : Nat → Hp → V → Hp → Prop), Walk J ds.length G Y ∧ ∀ H1 Z1, FK H Z H1 Z1 → G H1 ∧ ∀ i x H2, i < ds.length → Y i H1 x H2 →
    ∃ d, ds[i]? = some d ∧ ((H2 = H1 ∧ Fz K H1 Z1 x d) ∨ ∃ p vs es, x = .ref p ∧ H1 p = none ∧ H2 = upd H1 p (.tup vs) ∧ d = .tuple es ∧ FzAll K H1 Z1 vs es)
def TIv (K : PySem.W.Frag) (q : Bool) (f : Rho → Option (List PyData × Rho)) : TI := fun σ H R => ∃ Z Ls ρ ds ρ', Den K H Z σ ρ Ls ∧ Own H Z Ls ∧ f ρ = some (ds, ρ') ∧
  ∀ J H' Z' Ls', Mid K σ q H Z Ls ρ' H' Z' Ls' → WalkD K J ds H' Z' → R J H'
def JI (X : Cx) (Φ : Cf) (tg iter : Expr) (it : It) : Prop := PI X tg iter (TIv X.K (it.quiet Φ) (evIt Φ it))
theorem PI.weak {X : Cx} {tg iter : Expr} {t t' : TI} (h : PI X tg iter t) (w : ∀ σ H Q, t' σ H Q → t σ H Q) : PI X tg iter t' := ⟨fun pins s σ H Q I q => h.run pins s σ H Q I (w σ H Q q)⟩
section
variable {K : PySem.W.Frag}
theorem walkD_list {a : Addr} {xs : List V} {ds : List PyData} {H : Hp} {Z : PS1} (h : FL K H Z a xs) (f : FzAll K H Z xs ds) : WalkD K (Itl K a) ds H Z := by
  refine ⟨fun H => SqL K H a xs, YAt xs, by rw [← f.length]; exact walk_list, fun H1 Z1 k => ⟨(h.keep k).sq, fun i x H2 hi ⟨e, hx⟩ => ?_⟩⟩
  obtain ⟨d, e1, e2⟩ := (f.keep k).getV hx
  exact ⟨d, e1, .inl ⟨e, e2⟩⟩
theorem walkD_tup {a : Addr} {xs : List V} {ds : List PyData} {H : Hp} {Z : PS1} (h : FT K H Z a xs) (f : FzAll K H Z xs ds) : WalkD K (Itt K a) ds H Z := by
  refine ⟨fun H => SqT K H a xs, YAt xs, by rw [← f.length]; exact walk_tup, fun H1 Z1 k => ⟨(h.keep k).sq, fun i x H2 hi ⟨e, hx⟩ => ?_⟩⟩
  obtain ⟨d, e1, e2⟩ := (f.keep k).getV hx
  exact ⟨d, e1, .inl ⟨e, e2⟩⟩
theorem rangeD_get {lo : Int} {n i : Nat} (h : i < n) : (rangeD lo n)[i]? = some (.int (lo + (i : Int))) := by
  unfold rangeD
  rw [List.getElem?_map, List.getElem?_range h]
  rfl
theorem walkD_range {lo : Int} {n : Nat} {H : Hp} {Z : PS1} : WalkD K (Itr lo n) (rangeD lo n) H Z := by
  have hl : (rangeD lo n).length = n := by unfold rangeD; simp
  refine ⟨fun _ => True, YFn fun i => .int (lo + i), by rw [hl]; exact walk_range, fun H1 Z1 k => ⟨trivial, fun i x H2 hi ⟨e, hx⟩ => ?_⟩⟩
  rw [hl] at hi
  subst hx
  exact ⟨_, rangeD_get hi, .inl ⟨e, .int _⟩⟩
theorem enum_len : ∀ (ds : List PyData) (i : Int), (enumFrom i ds).length = ds.length
  | [], _ => rfl
  | d :: ds, i => congrArg (· + 1) (enum_len ds (i + 1))
theorem enum_get : ∀ {ds : List PyData} {i : Nat} {d : PyData} (k : Int), ds[i]? = some d → (enumFrom k ds)[i]? = some (.tuple [.int (k + (i : Int)), d])
  | [], _, _, _, e => by simp at e
  | _ :: _, 0, _, k, e => by simp at e; subst e; simp [enumFrom]
  | _ :: ds, i + 1, d, k, e => by
    have := enum_get (ds := ds) (i := i) (k + 1) (by simpa using e)
    unfold enumFrom
    rw [List.getElem?_cons_succ, this, show k + 1 + (i : Int) = k + ((i + 1 : Nat) : Int) by omega]
theorem walkD_enum {a : Addr} {xs : List V} {ds : List PyData} {H : Hp} {Z : PS1} (h : FL K H Z a xs) (f : FzAll K H Z xs ds) : WalkD K (Ite K a) (enumFrom 0 ds) H Z := by
  refine ⟨fun H => SqL K H a xs, YPair (fun i => some (.int (i : Nat))) (fun i => xs[i]?), by rw [enum_len, ← f.length]; exact walk_enum, fun H1 Z1 k => ⟨(h.keep k).sq, fun i x H2 hi ⟨p, y, z, e1, e2, e3, e4, e5⟩ => ?_⟩⟩
  obtain ⟨d, e6, e7⟩ := (f.keep k).getV e5
  cases e4
  refine ⟨_, enum_get 0 e6, .inr ⟨p, _, _, e1, e2, e3, rfl, .cons ?_ (.cons e7 .nil)⟩⟩
  rw [Int.zero_add]
  exact .int _
theorem walkD_enumT {a : Addr} {xs : List V} {ds : List PyData} {H : Hp} {Z : PS1} (h : FT K H Z a xs) (f : FzAll K H Z xs ds) : WalkD K (IteT K a) (enumFrom 0 ds) H Z := by
  refine ⟨fun H => SqT K H a xs, YPair (fun i => some (.int (i : Nat))) (fun i => xs[i]?), by rw [enum_len, ← f.length]; exact walk_enumT, fun H1 Z1 k => ⟨(h.keep k).sq, fun i x H2 hi ⟨p, y, z, e1, e2, e3, e4, e5⟩ => ?_⟩⟩
  obtain ⟨d, e6, e7⟩ := (f.keep k).getV e5
  cases e4
  refine ⟨_, enum_get 0 e6, .inr ⟨p, _, _, e1, e2, e3, rfl, .cons ?_ (.cons e7 .nil)⟩⟩
  rw [Int.zero_add]
  exact .int _
theorem signs_len (x : Str) : (signsD x).length = x.cps.size := by
  unfold signsD
  rw [List.length_map, Array.length_toList]
theorem walkD_enumS {K : PySem.W.Frag} {x : Str} {H : Hp} {Z : PS1} : WalkD K (IteS x) (enumFrom 0 (signsD x)) H Z := by
  refine ⟨fun _ => True, fun i H v H' => ∃ T c, v = .ref T ∧ H T = none ∧ H' = upd H T (.tup [.int (i : Nat), .str ⟨#[c]⟩]) ∧ x.cps[i]? = some c, by rw [enum_len, signs_len]; exact walk_enumS, fun H1 Z1 k => ⟨trivial, fun i v H2 hi ⟨T, c, e1, e2, e3, e4⟩ => ?_⟩⟩
  have e6 : (signsD x)[i]? = some (.str ⟨#[c]⟩) := by
    unfold signsD
    rw [List.getElem?_map, Array.getElem?_toList, e4]
    rfl
  refine ⟨_, enum_get 0 e6, .inr ⟨T, _, _, e1, e2, e3, rfl, .cons ?_ (.cons (.str _) .nil)⟩⟩
  rw [Int.zero_add]
  exact .int _
theorem zip_len : ∀ xs ys : List PyData, (zipD xs ys).length = min xs.length ys.length
  | [], ys => by simp [zipD]
  | x :: xs, [] => by simp [zipD]
  | x :: xs, y :: ys => by simp [zipD, zip_len xs ys]
theorem zip_get : ∀ {xs ys : List PyData} {i : Nat} {x y : PyData}, xs[i]? = some x → ys[i]? = some y → (zipD xs ys)[i]? = some (.tuple [x, y])
  | [], _, _, _, _, e, _ => by simp at e
  | _ :: _, [], _, _, _, _, e => by simp at e
  | _ :: _, _ :: _, 0, _, _, e, e' => by simp at e e'; subst e e'; simp [zipD]
  | _ :: xs, _ :: ys, i + 1, x, y, e, e' => by
    unfold zipD
    rw [List.getElem?_cons_succ]
    exact zip_get (by simpa using e) (by simpa using e')
theorem walkD_zip {a b : Addr} {xs ys : List V} {ds es : List PyData} {H : Hp} {Z : PS1} (h : FL K H Z a xs) (f : FzAll K H Z xs ds) (h' : FL K H Z b ys) (f' : FzAll K H Z ys es) : WalkD K (Itz K a b) (zipD ds es) H Z := by
  refine ⟨fun H => SqL K H a xs ∧ SqL K H b ys, YPair (fun i => xs[i]?) (fun i => ys[i]?), walk_zip (by rw [zip_len, f.length, f'.length]), fun H1 Z1 k => ⟨⟨(h.keep k).sq, (h'.keep k).sq⟩, fun i x H2 hi ⟨p, y, z, e1, e2, e3, e4, e5⟩ => ?_⟩⟩
  obtain ⟨d, e6, e7⟩ := (f.keep k).getV e4
  obtain ⟨d', e8, e9⟩ := (f'.keep k).getV e5
  exact ⟨_, zip_get e6 e8, .inr ⟨p, _, _, e1, e2, e3, rfl, .cons e7 (.cons e9 .nil)⟩⟩
end
section
variable {X : Cx} {Φ : Cf} {tg a b : Expr} {ca cb : E} {p pos : Pos}
theorem fz_list {K : PySem.W.Frag} {H : Hp} {Z : PS1} {v : V} {ds : List PyData} (h : Fz K H Z v (.list ds)) : ∃ a xs, v = .ref a ∧ FL K H Z a xs ∧ FzAll K H Z xs ds := by
  cases h with
  | lst h r => exact ⟨_, _, rfl, h, r⟩
theorem fz_tuple {K : PySem.W.Frag} {H : Hp} {Z : PS1} {v : V} {ds : List PyData} (h : Fz K H Z v (.tuple ds)) : ∃ a xs, v = .ref a ∧ FT K H Z a xs ∧ FzAll K H Z xs ds := by
  cases h with
  | tup h r => exact ⟨_, _, rfl, h, r⟩
/-- a walk over a list, or a tuple -/
theorem ji_seq (h : ∀ {tl : TE}, PE X a tl → PI X tg a (fun σ H R => tl σ H fun x H1 => ∃ p, x = .ref p ∧ (((∃ xs, SqL X.K H1 p xs) ∧ R (Itl X.K p) H1) ∨ ((∃ xs, SqT X.K H1 p xs) ∧ R (Itt X.K p) H1)))) (ja : JE X Φ a ca) : JI X Φ tg a (.seq ca) := by
  refine PI.weak (h (ja false)) fun σ H R ⟨Z, Ls, ρ, ds, ρ', den, own, e, k⟩ => ?_
  simp only [evIt] at e
  obtain ⟨⟨x, ρ1⟩, ea, e⟩ := bind_some e
  obtain ⟨ds', ed, e⟩ := map_some e
  cases e
  refine ⟨Z, Ls, ρ, x, _, den, own, ea, fun v H1 ⟨Z1, P1, Ls1, m1, r1, x1⟩ => ?_⟩
  have m1' := m1.freeze (x1 rfl)
  have f1 := r1.freeze
  split at ed
  · rename_i ds0 hd
    cases ed
    rw [hd] at f1
    obtain ⟨p, xs, rfl, sq, f⟩ := fz_list f1
    exact ⟨p, rfl, .inl ⟨⟨xs, sq.sq⟩, k _ _ _ _ m1' (walkD_list sq f)⟩⟩
  · rename_i ds0 hd
    cases ed
    rw [hd] at f1
    obtain ⟨p, xs, rfl, sq, f⟩ := fz_tuple f1
    exact ⟨p, rfl, .inr ⟨⟨xs, sq.sq⟩, k _ _ _ _ m1' (walkD_tup sq f)⟩⟩
  · cases ed
theorem pi_seq {l : Expr} {tl : TE} (hl : PE X l tl) : PI X tg l (fun σ H R => tl σ H fun x H1 => ∃ p, x = .ref p ∧ (((∃ xs, SqL X.K H1 p xs) ∧ R (Itl X.K p) H1) ∨ ((∃ xs, SqT X.K H1 p xs) ∧ R (Itt X.K p) H1))) := by
  refine ⟨fun pins s σ H R I h => ?_⟩
  refine thn (hl.run pins s σ H _ I h) fun v s1 ⟨x, H1, I1, r1, q1⟩ => ?_
  obtain ⟨a, e, q1⟩ := q1
  subst e
  cases r1
  rcases q1 with ⟨⟨xs, hq⟩, q⟩ | ⟨⟨xs, hq⟩, q⟩
  · obtain ⟨its, rv, p, hz⟩ := I1.list hq
    refine wpAny_pyIter_list p.isList ?_
    refine ⟨s1.heap.objs.size, [s1.heap.objs.size], _, _, H1, rfl, I1.kept (t' := s1.toks) fun b o e => Heap.get?_push_of_some _ e, turn_list a _, ⟨_, Heap.get?_push_size _ rfl, rfl, rfl⟩, fun b hb => ?_, q⟩
    have e : b = s1.heap.objs.size := by simpa using hb
    subst e
    exact I1.fpOk (Nat.le_refl _) (I1.hok.fresh (Nat.le_refl _))
  · obtain ⟨its, rv, p, hz⟩ := I1.tuple hq
    refine wpAny_pyIter_tuple (show s1.heap.IsTuple a its.toArray from p) ?_
    refine ⟨s1.heap.objs.size, [s1.heap.objs.size], _, _, H1, rfl, I1.kept (t' := s1.toks) fun b o e => Heap.get?_push_of_some _ e, turn_tuple a _, ⟨_, Heap.get?_push_size _ rfl, rfl, rfl⟩, fun b hb => ?_, q⟩
    have e : b = s1.heap.objs.size := by simpa using hb
    subst e
    exact I1.fpOk (Nat.le_refl _) (I1.hok.fresh (Nat.le_refl _))
theorem ji_seq' (ja : JE X Φ a ca) : JI X Φ tg a (.seq ca) := ji_seq (fun h => pi_seq h) ja
/-- range, enumerate, zip -/
theorem ji_range1 (hg : Gl X "range") (hm : X.mg "range" = none) (ja : JE X Φ a ca) (hs : starEach [a] X.env = [(false, eval a X.env)]) : JI X Φ tg (.Call (.Name "range" p) [a] [] pos) (.range (.lit (.int 0)) ca) := by
  refine PI.weak (pi_range1 hg hm (pa_cons (ja true) pa_nil hs) hs) fun σ H R ⟨Z, Ls, ρ, ds, ρ', den, own, e, k⟩ => ?_
  simp only [evIt] at e
  obtain ⟨⟨x, ρ1⟩, ea, e⟩ := bind_some e
  simp only [ev] at ea
  cases ea
  obtain ⟨⟨y, ρ2⟩, eb, e⟩ := bind_some e
  refine ⟨Z, Ls, ρ, y, ρ2, den, own, eb, fun v H1 ⟨Z1, P1, Ls1, m1, r1, x1⟩ => ?_⟩
  split at e
  · rename_i i j h1 h2
    cases h1
    simp only at h2
    rw [h2] at r1
    split at e
    · rename_i hsm
      cases e
      have hj := (andq hsm).2
      unfold small62 at hj
      rw [Bool.and_eq_true, decide_eq_true_eq, decide_eq_true_eq] at hj
      refine ⟨j, by rw [rep_int r1], hj.1, hj.2, k _ _ _ _ (m1.less fun z => (andq (p := true) (q := ca.quiet Φ) z).2) ?_⟩
      have : (j - 0).toNat = j.toNat := by rw [Int.sub_zero]
      rw [this]
      exact walkD_range
    · cases e
  · cases e
theorem ji_range2 (hg : Gl X "range") (hm : X.mg "range" = none) (ja : JE X Φ a ca) (jb : JE X Φ b cb) (hs : starEach [a, b] X.env = [(false, eval a X.env), (false, eval b X.env)]) (hs2 : starEach [b] X.env = [(false, eval b X.env)]) : JI X Φ tg (.Call (.Name "range" p) [a, b] [] pos) (.range ca cb) := by
  refine PI.weak (pi_range2 hg hm (pa_cons (ja true) (pa_cons (jb true) pa_nil hs2) (by rw [hs, hs2])) hs hs2) fun σ H R ⟨Z, Ls, ρ, ds, ρ', den, own, e, k⟩ => ?_
  simp only [evIt] at e
  obtain ⟨⟨x, ρ1⟩, ea, e⟩ := bind_some e
  obtain ⟨⟨y, ρ2⟩, eb, e⟩ := bind_some e
  refine ⟨Z, Ls, ρ, x, ρ1, den, own, ea, fun v H1 ⟨Z1, P1, Ls1, m1, r1, x1⟩ => ?_⟩
  refine ⟨Z1, Ls1, ρ1, y, ρ2, m1.den, m1.own, eb, fun u H2 ⟨Z2, P2, Ls2, m2, r2, x2⟩ => ?_⟩
  split at e
  · rename_i i j h1 h2
    simp only at h1 h2
    rw [h1] at r1
    rw [h2] at r2
    split at e
    · rename_i hsm
      cases e
      have hi := (andq hsm).1
      have hj := (andq hsm).2
      unfold small62 at hi hj
      rw [Bool.and_eq_true, decide_eq_true_eq, decide_eq_true_eq] at hi hj
      exact ⟨i, j, by rw [rep_int r1, rep_int r2], ⟨hi.1, hi.2, hj.1, hj.2⟩, k _ _ _ _ (m1.trans m2 fun z => andq z) walkD_range⟩
    · cases e
  · cases e
theorem ji_enum {elts : List Expr} {kk : Nat} {tpos : Pos} (hg : Gl X "enumerate") (hm : X.mg "enumerate" = none) (ja : JE X Φ a ca) (hs : starEach [a] X.env = [(false, eval a X.env)]) : JI X Φ (.Tuple elts kk tpos) (.Call (.Name "enumerate" p) [a] [] pos) (.enum ca) := by
  refine PI.weak (pi_enumX hg hm (pa_cons (ja false) pa_nil hs) hs) fun σ H R ⟨Z, Ls, ρ, ds, ρ', den, own, e, k⟩ => ?_
  simp only [evIt] at e
  obtain ⟨⟨x, ρ1⟩, ea, e⟩ := bind_some e
  refine ⟨Z, Ls, ρ, x, ρ1, den, own, ea, fun v H1 ⟨Z1, P1, Ls1, m1, r1, x1⟩ => ?_⟩
  have m1' := m1.freeze (x1 rfl)
  have f1 := r1.freeze
  split at e
  · rename_i ds0 hd
    cases e
    simp only at hd
    rw [hd] at f1
    obtain ⟨p, xs, rfl, sq, f⟩ := fz_list f1
    exact .inl ⟨p, rfl, .inl ⟨xs, sq.sq, k _ _ _ _ m1' (walkD_enum sq f)⟩⟩
  · rename_i ds0 hd
    cases e
    simp only at hd
    rw [hd] at f1
    obtain ⟨p, xs, rfl, sq, f⟩ := fz_tuple f1
    exact .inl ⟨p, rfl, .inr ⟨xs, sq.sq, k _ _ _ _ m1' (walkD_enumT sq f)⟩⟩
  · rename_i z hd
    cases e
    simp only at hd
    rw [hd] at f1
    cases f1
    exact .inr ⟨_, rfl, k _ _ _ _ m1' walkD_enumS⟩
  · cases e
theorem ji_zip {elts : List Expr} {kk : Nat} {tpos : Pos} (hg : Gl X "zip") (hm : X.mg "zip" = none) (ja : JE X Φ a ca) (jb : JE X Φ b cb) (hs : starEach [a, b] X.env = (false, eval a X.env) :: starEach [b] X.env) (hs2 : starEach [b] X.env = [(false, eval b X.env)]) :
    JI X Φ (.Tuple elts kk tpos) (.Call (.Name "zip" p) [a, b] [] pos) (.zip ca cb) := by
  refine PI.weak (pi_zip hg hm (pa_cons (ja false) (pa_cons (jb false) pa_nil hs2) hs) hs (by rw [hs2]; rfl)) fun σ H R ⟨Z, Ls, ρ, ds, ρ', den, own, e, k⟩ => ?_
  simp only [evIt] at e
  obtain ⟨⟨x, ρ1⟩, ea, e⟩ := bind_some e
  obtain ⟨⟨y, ρ2⟩, eb, e⟩ := bind_some e
  refine ⟨Z, Ls, ρ, x, ρ1, den, own, ea, fun v H1 ⟨Z1, P1, Ls1, m1, r1, x1⟩ => ?_⟩
  have m1' := m1.freeze (x1 rfl)
  have f1 := r1.freeze
  refine ⟨_, Ls1, ρ1, y, ρ2, m1'.den, m1'.own, eb, fun u H2 ⟨Z2, P2, Ls2, m2, r2, x2⟩ => ?_⟩
  have m2' := m2.freeze (x2 rfl)
  have f2 := r2.freeze
  have f1' := m2'.fz m1'.own f1
  split at e
  · rename_i ds0 ds1 hd hd1
    cases e
    simp only at hd hd1
    rw [hd] at f1'
    rw [hd1] at f2
    obtain ⟨p, xs, rfl, sq, f⟩ := fz_list f1'
    obtain ⟨p2, ys, rfl, sq2, f2⟩ := fz_list f2
    exact ⟨p, p2, xs, ys, rfl, sq.sq, sq2.sq, k _ _ _ _ (m1'.trans m2' fun z => andq z) (walkD_zip sq f sq2 f2)⟩
  · cases e
end
/-! ### targets -/
mutual
def T.slots : T → List Nat
  | .name i => [i]
  | .tup ts => Ts.slots ts
def Ts.slots : List T → List Nat
  | [] => []
  | t :: ts => t.slots ++ Ts.slots ts
end
/-- the slots outside is stay -/
def SameOff (is : List Nat) (σ σ' : L2.St) : Prop := ∀ i, i ∉ is → σ'[i]? = σ[i]?
theorem SameOff.refl {is : List Nat} {σ : L2.St} : SameOff is σ σ := fun _ _ => rfl
theorem SameOff.trans {is : List Nat} {σ σ1 σ2 : L2.St} (a : SameOff is σ σ1) (b : SameOff is σ1 σ2) : SameOff is σ σ2 := fun i h => (b i h).trans (a i h)
theorem SameOff.mono {is js : List Nat} {σ σ1 : L2.St} (a : SameOff is σ σ1) (h : ∀ i, i ∈ is → i ∈ js) : SameOff js σ σ1 := fun i n => a i fun z => n (h i z)
theorem SameOff.set {is : List Nat} {σ : L2.St} {i : Nat} {x : Option V} (h : i ∈ is) : SameOff is σ (σ.set i x) := fun j n => List.getElem?_set_ne fun e => n (by rw [← e]; exact h)
def TGv (K : PySem.W.Frag) (is : List Nat) (f : PyData → Rho → Option Rho) : TG := fun v σ H Q => ∃ Z Ls ρ d ρ', Den K H Z σ ρ Ls ∧ Own H Z Ls ∧ Fz K H Z v d ∧ f d ρ = some ρ' ∧
  ∀ σ' Ls', Den K H Z σ' ρ' Ls' → Own H Z Ls' → (∀ a, LL Ls' a → LL Ls a) → SameOff is σ σ' → σ'.length = σ.length → Q σ' H
def TGsv (K : PySem.W.Frag) (is : List Nat) (f : List PyData → Rho → Option Rho) : TGs := fun vs σ H Q => ∃ Z Ls ρ d ρ', Den K H Z σ ρ Ls ∧ Own H Z Ls ∧ FzAll K H Z vs d ∧ f d ρ = some ρ' ∧
  ∀ σ' Ls', Den K H Z σ' ρ' Ls' → Own H Z Ls' → (∀ a, LL Ls' a → LL Ls a) → SameOff is σ σ' → σ'.length = σ.length → Q σ' H
def JG (X : Cx) (tg : Expr) (t : T) : Prop := PG X tg (TGv X.K t.slots (bindT t))
def JGs (X : Cx) (tg : List Expr) (t : List T) : Prop := PGs X tg (TGsv X.K (Ts.slots t) (bindTs t))
theorem PG.weak {X : Cx} {tg : Expr} {t t' : TG} (h : PG X tg t) (w : ∀ v σ H Q, σ.length = X.N.length → t' v σ H Q → t v σ H Q) : PG X tg t' := ⟨fun pins s σ H v u Q I r q => h.run pins s σ H v u Q I r (w v σ H Q I.len q)⟩
theorem PGs.weak {X : Cx} {tg : List Expr} {t t' : TGs} (h : PGs X tg t) (w : ∀ v σ H Q, σ.length = X.N.length → t' v σ H Q → t v σ H Q) : PGs X tg t' := ⟨fun pins s σ H v u Q I r q => h.run pins s σ H v u Q I r (w v σ H Q I.len q)⟩
/-- a slot is given a value -/
theorem Den.put {K : PySem.W.Frag} {H : Hp} {Z P : PS1} {σ : L2.St} {ρ : Rho} {Ls : Nat → PS1} {i : Nat} {v : V} {d : PyData} {o : O} (den : Den K H Z σ ρ Ls) (r : Rep K H Z P v d o) (hl : i < σ.length) : Den K H Z (σ.set i (some v)) (ρ.set i (some (d, o))) (putL Ls i P) := fun j d' o' e => by
  by_cases hj : j = i
  · subst hj
    by_cases hr : j < ρ.length
    · rw [List.getElem?_set_self hr] at e
      cases e
      exact ⟨v, List.getElem?_set_self hl, r.keep .refl (fun _ _ _ h => h) fun a p => by rw [putL_same]; exact p⟩
    · rw [List.getElem?_eq_none (by rw [List.length_set]; omega)] at e; cases e
  · rw [List.getElem?_set_ne (Ne.symm hj)] at e
    obtain ⟨u, h, q⟩ := den j d' o' e
    exact ⟨u, by rw [List.getElem?_set_ne (Ne.symm hj)]; exact h, q.keep .refl (fun _ _ _ h => h) fun a p => by rw [putL_ne hj]; exact p⟩
theorem Own.put {H : Hp} {Z P : PS1} {Ls : Nat → PS1} {i : Nat} (o : Own H Z Ls) (hz : ∀ a, P a → Z a) (ht : ∀ a, P a → ∃ u, H a = some u) (hd : ∀ a, P a → ¬ LL Ls a) : Own H Z (putL Ls i P) := by
  have sub : ∀ j a, putL Ls i P j a → (j = i ∧ P a) ∨ (j ≠ i ∧ Ls j a) := fun j a h => by
    by_cases hj : j = i
    · rw [hj, putL_same] at h; exact .inl ⟨hj, h⟩
    · rw [putL_ne hj] at h; exact .inr ⟨hj, h⟩
  refine ⟨fun j j' a h h' => ?_, fun j a h => ?_, fun j a h => ?_⟩
  · rcases sub j a h with ⟨e1, p⟩ | ⟨e1, p⟩ <;> rcases sub j' a h' with ⟨e2, p'⟩ | ⟨e2, p'⟩
    · rw [e1, e2]
    · exact absurd ⟨j', p'⟩ (hd a p)
    · exact absurd ⟨j, p⟩ (hd a p')
    · exact o.dis j j' a p p'
  · rcases sub j a h with ⟨_, p⟩ | ⟨_, p⟩
    · exact hz a p
    · exact o.z j a p
  · rcases sub j a h with ⟨_, p⟩ | ⟨_, p⟩
    · exact ht a p
    · exact o.tr j a p
theorem put_ll {Ls : Nat → PS1} {i : Nat} {P : PS1} {a : Addr} (h : LL (putL Ls i P) a) : P a ∨ LL Ls a := by
  obtain ⟨j, h⟩ := h
  by_cases hj : j = i
  · rw [hj, putL_same] at h; exact .inl h
  · rw [putL_ne hj] at h; exact .inr ⟨j, h⟩
section
variable {X : Cx} {Φ : Cf} {pos : Pos}
theorem jg_name {i : Nat} {x : Str} (hN : X.N.Nodup) (hi : X.N[i]? = some x) (hx : Loc X.env.scope x) (hf : X.fn x = true ∨ X.env.scope.names.lookup x = some .local) : JG X (.Name x pos) (.name i) := by
  refine PG.weak (pg_name hN hi hx hf) fun v σ H Q hl ⟨Z, Ls, ρ, d, ρ', den, own, f, e, k⟩ => ?_
  unfold bindT at e
  split at e
  · rename_i hlt
    cases e
    have hσ : i < σ.length := by rw [hl]; exact (List.getElem?_eq_some_iff.mp hi).1
    exact k _ _ (den.put (.fz (P := noP) f) hσ) (own.put (fun _ h => h.elim) (fun _ h => h.elim) fun _ h => h.elim) (fun a h => (put_ll h).elim (fun z => z.elim) id) (.set (by simp [T.slots])) (List.length_set ..)
  · cases e
theorem jgs_nil : JGs X [] [] := by
  refine PGs.weak pgs_nil fun v σ H Q hl ⟨Z, Ls, ρ, d, ρ', den, own, f, e, k⟩ => ?_
  unfold bindTs at e
  cases d with
  | nil =>
    cases e
    cases f
    exact ⟨rfl, k _ _ den own (fun _ h => h) .refl rfl⟩
  | cons a b => cases e
theorem jgs_cons {e : Expr} {es : List Expr} {t : T} {ts : List T} (h1 : JG X e t) (h2 : JGs X es ts) (hs : (assignEach (e :: es) X.env).map (·.2) = assign e X.env :: (assignEach es X.env).map (·.2)) : JGs X (e :: es) (t :: ts) := by
  refine PGs.weak (pgs_cons h1 h2 hs) fun v σ H Q hl ⟨Z, Ls, ρ, d, ρ', den, own, f, e, k⟩ => ?_
  unfold bindTs at e
  cases d with
  | nil => cases e
  | cons d ds =>
    obtain ⟨ρ1, e1, e2⟩ := bind_some e
    cases f with
    | cons f1 f2 =>
      refine ⟨_, _, rfl, Z, Ls, ρ, d, ρ1, den, own, f1, e1, fun σ1 Ls1 den1 own1 sub1 so1 l1 => ?_⟩
      refine ⟨Z, Ls1, ρ1, ds, ρ', den1, own1, f2, e2, fun σ2 Ls2 den2 own2 sub2 so2 l2 => ?_⟩
      exact k _ _ den2 own2 (fun a h => sub1 a (sub2 a h)) ((so1.mono fun i h => by simp [Ts.slots, h]).trans (so2.mono fun i h => by simp [Ts.slots, h])) (l2.trans l1)
theorem jg_tup {es : List Expr} {kk : Nat} {ts : List T} {n : Nat} (hc : X.calm = true) (h : JGs X es ts) (hn : (assignEach es X.env).length = n) (hst : (assignEach es X.env).findIdx? (·.1) = none) (ht : ts.length = n) : JG X (.Tuple es kk pos) (.tup ts) := by
  refine PG.weak (pg_tup hc h hn hst) fun v σ H Q hl ⟨Z, Ls, ρ, d, ρ', den, own, f, e, k⟩ => ?_
  unfold bindT at e
  have len : ∀ {ts : List T} {ds : List PyData} {ρ ρ' : Rho}, bindTs ts ds ρ = some ρ' → ds.length = ts.length := by
    intro ts
    induction ts with
    | nil => intro ds ρ ρ' e; cases ds with
      | nil => rfl
      | cons a b => unfold bindTs at e; cases e
    | cons t ts ih => intro ds ρ ρ' e; cases ds with
      | nil => unfold bindTs at e; cases e
      | cons a b =>
        unfold bindTs at e
        obtain ⟨ρ1, e1, e2⟩ := bind_some e
        exact congrArg (· + 1) (ih e2)
  cases d with
  | tuple ds =>
    obtain ⟨a, xs, rfl, sq, fa⟩ := fz_tuple f
    exact ⟨a, xs, rfl, sq.sq, by rw [fa.length, len e, ht], Z, Ls, ρ, ds, ρ', den, own, fa, e, fun σ' Ls' d o s so l => k σ' Ls' d o s (so.mono fun i h => by simpa [T.slots] using h) l⟩
  | _ => cases e
end
end Ev
/-! Ev 12: list comprehensions. -/
namespace Ev
open PySem PySem.Spec PyProof.Rows L2

section
variable {K : PySem.W.Frag} {σ σ2 : L2.St} {H0 H1 H2 H : Hp} {Z0 Z1 Z2 Z P : PS1} {Ls0 Ls1 Ls2 Ls : Nat → PS1} {ρ ρ1 ρ2 : Rho} {q : Bool}
/-- the slots change, the heap does not -/
theorem Mid.chg {σ' : L2.St} (m : Mid K σ q H Z Ls ρ1 H1 Z1 Ls1) (d : Den K H1 Z1 σ' ρ2 Ls2) (o : Own H1 Z1 Ls2) (s : ∀ a, LL Ls2 a → LL Ls1 a) : Mid K σ' q H Z Ls ρ2 H1 Z1 Ls2 := ⟨d, o, m.stp, m.same, fun a h => m.new a (s a h)⟩
theorem Mid.trans2 {σ' : L2.St} {q1 q2 : Bool} (a : Mid K σ q1 H Z Ls ρ1 H1 Z1 Ls1) (b : Mid K σ' q2 H1 Z1 Ls1 ρ2 H2 Z2 Ls2) (hq : q = true → q1 = true ∧ q2 = true) : Mid K σ' q H Z Ls ρ2 H2 Z2 Ls2 where
  den := b.den
  own := b.own
  stp := a.stp.trans b.stp fun x o h l => (a.new x l).resolve_right fun z => by rw [h] at z; cases z
  same := fun z => by
    obtain ⟨h1, h2⟩ := hq z
    exact fun x o h => b.same h2 x o (a.same h1 x o h)
  new := fun x l => by
    rcases b.new x l with h | h
    · exact a.new x h
    · refine .inr ?_
      cases e : H x with
      | none => rfl
      | some o =>
        obtain ⟨o', h'⟩ := a.stp.dom x o e
        rw [h] at h'; cases h'
theorem Exc.step (x : Exc H0 Ls0 P H1 Z1 Ls1) (m : Mid K σ q H1 Z1 Ls1 ρ2 H2 Z2 Ls2) : Exc H0 Ls0 P H2 Z2 Ls2 where
  z := fun a p => by
    obtain ⟨o, h⟩ := x.tr a p
    exact m.stp.own a o h (x.z a p) (x.dis a p)
  tr := fun a p => by
    obtain ⟨o, h⟩ := x.tr a p
    exact m.stp.dom a o h
  dis := fun a p l => by
    obtain ⟨o, h⟩ := x.tr a p
    rcases m.new a l with w | w
    · exact x.dis a p w
    · rw [h] at w; cases w
  new := x.new
theorem Exc.chg (x : Exc H0 Ls0 P H1 Z1 Ls1) (s : ∀ a, LL Ls2 a → LL Ls1 a) : Exc H0 Ls0 P H1 Z1 Ls2 := ⟨x.z, x.tr, fun a p l => x.dis a p (s a l), x.new⟩
/-- a new list that nobody's name holds is written -/
theorem Mid.upD {D : Addr} {o : HO} (m : Mid K σ q H Z Ls ρ1 H1 Z1 Ls1) (x : Exc H Ls (· = D) H1 Z1 Ls1) (hD : H D = none) : Mid K σ q H Z Ls ρ1 (upd H1 D o) Z1 Ls1 ∧ FK H1 Z1 (upd H1 D o) Z1 ∧ Exc H Ls (· = D) (upd H1 D o) Z1 Ls1 := by
  have nl : ∀ i a, Ls1 i a → a ≠ D := fun i a l e => x.dis a e ⟨i, l⟩
  have fk : FK H1 Z1 (upd H1 D o) Z1 := fun a u h n => ⟨by rw [upd_ne (fun e => n (x.z a e))]; exact h, n⟩
  have dm : ∀ a u, H1 a = some u → ∃ u', (upd H1 D o) a = some u' := fun a u h => by
    by_cases e : a = D
    · exact ⟨o, by rw [e, upd_same]⟩
    · exact ⟨u, by rw [upd_ne e]; exact h⟩
  refine ⟨⟨fun i d o' e => ?_, ⟨m.own.dis, m.own.z, fun i a l => ?_⟩, ⟨fun a u h n => ?_, m.stp.fz, m.stp.own, fun a u h => ?_⟩, fun z a u h => ?_, m.new⟩, fk, ⟨x.z, fun a e => ⟨o, by rw [e, upd_same]⟩, x.dis, x.new⟩⟩
  · obtain ⟨v, h, r⟩ := m.den i d o' e
    exact ⟨v, h, r.keep fk (fun a u p h => by rw [upd_ne (nl i a p)]; exact h) fun _ p => p⟩
  · obtain ⟨u, h⟩ := m.own.tr i a l
    exact dm a u h
  · rw [upd_ne (fun e => by rw [e, hD] at h; cases h)]
    exact m.stp.keep a u h n
  · obtain ⟨u', h'⟩ := m.stp.dom a u h
    exact dm a u' h'
  · rw [upd_ne (fun e => by rw [e, hD] at h; cases h)]
    exact m.same z a u h
theorem den_wipe : ∀ {vs : List Nat}, Den K H Z σ ρ Ls → Own H Z Ls → ∃ Ls' : Nat → PS1, Den K H Z (L2.wipe σ vs) (wipeR ρ vs) Ls' ∧ Own H Z Ls' ∧ ∀ a, LL Ls' a → LL Ls a
  | [], d, o => ⟨Ls, d, o, fun _ h => h⟩
  | i :: vs, d, o => by
    obtain ⟨L1, d1, o1, s1⟩ := den_wipe (vs := vs) d o
    refine ⟨putL L1 i noP, fun j d' o' e => ?_, o1.put (fun _ h => h.elim) (fun _ h => h.elim) fun _ h => h.elim, fun a h => s1 a ((put_ll h).elim (fun z => z.elim) id)⟩
    unfold wipeR at e
    unfold L2.wipe
    by_cases hj : j = i
    · subst hj
      by_cases hl : j < (wipeR ρ vs).length
      · rw [List.getElem?_set_self hl] at e; cases e
      · rw [List.getElem?_eq_none (by rw [List.length_set]; omega)] at e; cases e
    · rw [List.getElem?_set_ne (Ne.symm hj)] at e
      obtain ⟨v, h, r⟩ := d1 j d' o' e
      exact ⟨v, by rw [List.getElem?_set_ne (Ne.symm hj)]; exact h, r.keep .refl (fun _ _ _ h => h) fun a p => by rw [putL_ne hj]; exact p⟩
theorem Den.unwipe {vs : List Nat} (d : Den K H Z (wipe σ vs) ρ Ls) : Den K H Z σ ρ Ls := fun i d' o e => by
  obtain ⟨v, h, r⟩ := d i d' o e
  exact ⟨v, (wipe_some h).1, r⟩
theorem wipe_in {i : Nat} : ∀ {vs : List Nat}, i ∈ vs → i < σ.length → (wipe σ vs)[i]? = some none
  | v :: vs, h, hl => by
    unfold wipe
    by_cases hv : v = i
    · subst hv
      exact List.getElem?_set_self (by rw [wipe_length]; exact hl)
    · rw [List.getElem?_set_ne hv]
      rcases List.mem_cons.mp h with e | h
      · exact absurd e.symm hv
      · exact wipe_in h hl
/-- what the block's own slots hold is nothing to the rest -/
theorem wipe_off {is vs : List Nat} (h : ∀ i, i ∈ is → i ∈ vs) (so : SameOff is (wipe σ vs) σ2) (hl : σ2.length = (wipe σ vs).length) : wipe σ2 vs = wipe σ vs := by
  have l0 : σ2.length = σ.length := by rw [hl, wipe_length]
  refine List.ext_getElem? fun i => ?_
  by_cases hi : i ∈ vs
  · by_cases hs : i < σ.length
    · rw [wipe_in hi hs, wipe_in hi (by omega)]
    · rw [List.getElem?_eq_none (by rw [wipe_length]; omega), List.getElem?_eq_none (by rw [wipe_length]; omega)]
  · rw [wipe_out hi, so i fun z => hi (h i z)]
end
def JTs (X : Cx) (Φ : Cf) (ifs : List Expr) (c : E) : Prop := PTs X ifs (TTv X.K (c.quiet Φ) (ev Φ true c))
theorem jts_nil {X : Cx} {Φ : Cf} : JTs X Φ [] (.lit (.bool true)) := ⟨fun pins s σ H Q I ⟨Z, Ls, ρ, b, o, ρ', den, own, e, k⟩ => by
  simp only [ev] at e
  cases e
  exact pts_nil.run pins s σ H Q I (k _ _ _ (.refl den own))⟩
theorem jts_one {X : Cx} {Φ : Cf} {c : Expr} {cc : E} (h : JT X Φ c cc) : JTs X Φ [c] cc := pts_one h
/-- what a turn does -/
def turnR (Φ : Cf) (elt : E) (t : T) (c : E) (own : List Nat) (x : PyData) (ρ : Rho) : Option (Option PyData × Rho) := (bindT t x ρ).bind fun ρ2 => (ev Φ true c ρ2).bind fun (k, ρ3) => match k.1 with
  | .bool true => (ev Φ false elt ρ3).map fun (y, ρ4) => (some y.1, wipeR ρ4 own)
  | .bool false => some (none, wipeR ρ3 own)
  | _ => none
/-- the loop's state -/
def LcI (K : PySem.W.Frag) (σ : L2.St) (vs : List Nat) (q : Bool) (H : Hp) (Z : PS1) (Ls : Nat → PS1) (D : Addr) (body : PyData → Rho → Option (Option PyData × Rho)) (ds : List PyData) (r : List PyData × Rho) (i : Nat) (H' : Hp) : Prop :=
  ∃ Z' Ls' ρ' acc xs, Mid K (wipe σ vs) q H Z Ls ρ' H' Z' Ls' ∧ Exc H Ls (· = D) H' Z' Ls' ∧ H' D = some (.lst xs) ∧ FzAll K H' Z' xs acc ∧ compGo body (ds.drop i) acc ρ' = some r
section
variable {X : Cx} {Φ : Cf} {pos : Pos}
theorem lc_read {wi : TI} {elt : E} {t : T} {it : It} {c : E} {own : List Nat} {tt : TT} {te : TE} {g : TG} {pk : Bool} {σ : L2.St} {H : Hp} {Q : VK} (hown : ∀ i, i ∈ t.slots → i ∈ own)
    (hi : ∀ σ H R, TIv X.K (it.quiet Φ) (evIt Φ it) σ H R → wi σ H R) (hg : ∀ v σ H Q, TGv X.K t.slots (bindT t) v σ H Q → g v σ H Q) (ht : ∀ σ H Q, TTv X.K (c.quiet Φ) (ev Φ true c) σ H Q → tt σ H Q) (he : ∀ σ H Q, TEv X.K (elt.quiet Φ) false (ev Φ false elt) σ H Q → te σ H Q)
    (h : TEv X.K (E.quiet Φ (.comp elt t it c own)) pk (ev Φ pk (.comp elt t it c own)) σ H Q) : tLc wi g tt te own σ H Q := by
  obtain ⟨Z, Ls, ρ, r, ρ', den, ow, e, k⟩ := h
  simp only [ev] at e
  obtain ⟨⟨ds, ρ1⟩, ei, e⟩ := bind_some e
  obtain ⟨⟨ys, ρ5⟩, ec, e⟩ := map_some e
  cases e
  have ec : compGo (turnR Φ elt t c own) ds [] (wipeR ρ1 own) = some (ys, ρ5) := ec
  refine hi _ _ _ ⟨Z, Ls, ρ, ds, ρ1, den, ow, ei, fun J H1 Z1 Ls1 m1 wd => ?_⟩
  intro D hD
  obtain ⟨G, Y, W, hW⟩ := wd
  have hqq : ∀ z : E.quiet Φ (.comp elt t it c own) = true, it.quiet Φ = true ∧ (elt.quiet Φ && c.quiet Φ) = true := fun z => by
    have z : (elt.quiet Φ && (it.quiet Φ && c.quiet Φ)) = true := z
    simp only [Bool.and_eq_true] at z
    exact ⟨z.2.1, by rw [Bool.and_eq_true]; exact ⟨z.1, z.2.2⟩⟩
  refine lc_it (Qd := fun H => Q (.ref D) H) W (LcI X.K σ own (elt.quiet Φ && c.quiet Φ) H1 Z1 Ls1 D (turnR Φ elt t c own) ds (ys, ρ5)) ?_ ?_ ?_ ?_
  · obtain ⟨Lw, dw, ow', sw⟩ := den_wipe (vs := own) m1.den m1.own
    have m0 : Mid X.K (wipe σ own) (elt.quiet Φ && c.quiet Φ) H1 Z1 Ls1 (wipeR ρ1 own) H1 Z1 Lw := (Mid.refl (q := elt.quiet Φ && c.quiet Φ) m1.den m1.own).chg dw ow' sw
    obtain ⟨m2, x2⟩ := m0.laidO (o := .lst []) hD
    exact ⟨_, Lw, wipeR ρ1 own, [], [], m2, x2, upd_same, .nil, ec⟩
  · rintro i σ' hi ⟨Z2, Ls2, ρ2, acc, xs, m2, x2, hd, f2, eg⟩
    exact (hW _ _ (m2.stp.fk m1.own.ll)).1
  · rintro i x H2 H3 hlt ⟨Z2, Ls2, ρ2, acc, xs, m2, x2, hd, f2, eg⟩ y
    obtain ⟨d, ed, yy⟩ := (hW _ _ (m2.stp.fk m1.own.ll)).2 i x H3 hlt y
    have edrop : ds.drop i = d :: ds.drop (i + 1) := by
      obtain ⟨h1, h2⟩ := List.getElem?_eq_some_iff.mp ed
      rw [List.drop_eq_getElem_cons h1, h2]
    rw [edrop] at eg
    -- the item has come
    have item : ∃ Z3, Mid X.K (wipe σ own) (elt.quiet Φ && c.quiet Φ) H1 Z1 Ls1 ρ2 H3 Z3 Ls2 ∧ Exc H1 Ls1 (· = D) H3 Z3 Ls2 ∧ H3 D = some (.lst xs) ∧ FzAll X.K H3 Z3 xs acc ∧ Fz X.K H3 Z3 x d := by
      rcases yy with ⟨rfl, fx⟩ | ⟨p, vs, es, rfl, hp, rfl, rfl, fa⟩
      · exact ⟨Z2, m2, x2, hd, f2, fx⟩
      · have hp2 : p ≠ D := fun e => by rw [e, hd] at hp; cases hp
        have st : Mid X.K (wipe σ own) true H2 Z2 Ls2 ρ2 (upd H2 p (.tup vs)) (fun a => Z2 a ∧ a ≠ p) Ls2 := (Mid.refl m2.den m2.own).laid hp
        have fk := st.stp.fk m2.own.ll
        exact ⟨_, m2.laid hp, x2.step st, by rw [upd_ne (Ne.symm hp2)]; exact hd, f2.keep fk, .tup (.inl ⟨.inl upd_same, fun z => z.2 rfl⟩) (fa.keep fk)⟩
    obtain ⟨Z3, m3, x3, hd3, f3, fx⟩ := item
    unfold compGo at eg
    obtain ⟨⟨yo, ρt⟩, et, eg⟩ := bind_some eg
    unfold turnR at et
    obtain ⟨ρb, eb, et⟩ := bind_some et
    obtain ⟨⟨kb, ρc⟩, ek, et⟩ := bind_some et
    refine hg _ _ _ _ ⟨Z3, Ls2, ρ2, d, ρb, m3.den, m3.own, fx, eb, fun σ4 Ls4 den4 own4 sub4 so4 len4 => ⟨wipe_off hown so4 len4, ?_⟩⟩
    have hw4 : wipe σ4 own = wipe σ own := wipe_off hown so4 len4
    have m4 := m3.chg den4 own4 sub4
    have x4 := x3.chg sub4
    -- a turn's end: the state goes back
    have back : ∀ {q : Bool} {σ' : L2.St} {H' Z' Ls' ρe acc' xs'}, σ' = σ4 → Mid X.K σ' (elt.quiet Φ && c.quiet Φ) H1 Z1 Ls1 ρe H' Z' Ls' → Exc H1 Ls1 (· = D) H' Z' Ls' → H' D = some (.lst xs') → FzAll X.K H' Z' xs' acc' →
        compGo (turnR Φ elt t c own) (ds.drop (i + 1)) acc' (wipeR ρe own) = some (ys, ρ5) → LcI X.K σ own (elt.quiet Φ && c.quiet Φ) H1 Z1 Ls1 D (turnR Φ elt t c own) ds (ys, ρ5) (i + 1) H' := by
      intro q σ' H' Z' Ls' ρe acc' xs' es m x hd f eg
      subst es
      obtain ⟨Lw, dw, ow', sw⟩ := den_wipe (vs := own) m.den m.own
      rw [hw4] at dw
      exact ⟨Z', Lw, wipeR ρe own, acc', xs', m.chg dw ow' sw, x.chg sw, hd, f, eg⟩
    obtain ⟨kd, ko⟩ := kb
    have tb : ∃ b, kd = .bool b ∧ (if b = true then ∃ yv ρ4, ev Φ false elt ρc = some (yv, ρ4) ∧ yo = some yv.1 ∧ ρt = wipeR ρ4 own else yo = none ∧ ρt = wipeR ρc own) := by
      cases kd with
      | bool b =>
        cases b with
        | true =>
          obtain ⟨⟨yv, ρ4⟩, e4, et⟩ := map_some et
          cases et
          exact ⟨true, rfl, iteT ⟨yv, ρ4, e4, rfl, rfl⟩⟩
        | false =>
          cases et
          exact ⟨false, rfl, iteF ⟨rfl, rfl⟩⟩
      | _ => cases et
    obtain ⟨b, hb, tb⟩ := tb
    subst hb
    refine ht _ _ _ ⟨Z3, Ls4, ρb, b, ko, ρc, den4, own4, ek, fun H5 Z5 Ls5 m5 => ?_⟩
    have hd5 : H5 D = some (.lst xs) := m5.stp.keep D _ hd3 (x4.dis D rfl)
    have f5 := m5.fzAll own4 f3
    have x5 := x4.step m5
    have m5' := m4.trans2 (q := elt.quiet Φ && c.quiet Φ) m5 fun z => ⟨z, (andq z).2⟩
    cases b with
    | false =>
      rw [if_neg Bool.false_ne_true] at tb
      refine iteF ?_
      obtain ⟨rfl, rfl⟩ := tb
      exact back (q := true) rfl m5' x5 hd5 f5 eg
    | true =>
      rw [if_pos rfl] at tb
      refine iteT ?_
      obtain ⟨yv, ρ4, e4, rfl, rfl⟩ := tb
      refine he _ _ _ ⟨Z5, Ls5, ρc, yv, ρ4, m5.den, m5.own, e4, fun v H6 ⟨Z6, P6, Ls6, m6, r6, x6⟩ => ?_⟩
      have m6f := m6.freeze (x6 rfl)
      have hd6 : H6 D = some (.lst xs) := m6.stp.keep D _ hd5 (x5.dis D rfl)
      have f6 := m6f.fzAll m5.own f5
      have x7 := x5.step m6f
      have m7 := m5'.trans2 (q := elt.quiet Φ && c.quiet Φ) m6f fun z => ⟨z, (andq z).1⟩
      have fv := r6.freeze
      simp only at eg
      split at eg
      · rename_i hlen
        refine ⟨xs, hd6, by rw [f6.length]; exact hlen, ?_⟩
        obtain ⟨m8, fk8, x8⟩ := m7.upD (o := .lst (xs ++ [v])) x7 hD
        exact back (q := true) rfl m8 x8 upd_same ((f6.append (.cons fv .nil)).keep fk8) eg
      · cases eg
  · rintro H2 ⟨Z2, Ls2, ρ2, acc, xs, m2, x2, hd, f2, eg⟩
    rw [List.drop_length] at eg
    unfold compGo at eg
    cases eg
    refine k _ _ ⟨Z2, (· = D), Ls2, m1.trans2 (m2.chg m2.den.unwipe m2.own fun _ h => h) hqq, .l hd f2 rfl, fun _ => ⟨x2.z, x2.tr, x2.dis, fun a h => ?_⟩⟩
    rcases x2.new a h with w | w
    · exact m1.new a w
    · refine .inr ?_
      cases e : H a with
      | none => rfl
      | some o =>
        obtain ⟨o', h'⟩ := m1.stp.dom a o e
        rw [w] at h'; cases h'
theorem je_comp {elt tg iter : Expr} {ifs : List Expr} {scope : Scope} {own : List (Str × Nat)} {ce cc : E} {t : T} {it : It} (hc : X.calm = true) (hN : X.N.Nodup) (hi : JI X Φ tg iter it) (ok : BlkOk X.N X.env.scope scope own) (hown : ∀ i, i ∈ t.slots → i ∈ own.map (·.2))
    (hg : ∀ (s : Shared) (H : Hp) (C : Addr) (cl : List (Str × Addr)) (fp : List Addr), JG (X.blk s H scope (compEnvC scope cl C X.env) fp) tg t) (ht : ∀ (s : Shared) (H : Hp) (C : Addr) (cl : List (Str × Addr)) (fp : List Addr), JTs (X.blk s H scope (compEnvC scope cl C X.env) fp) Φ ifs cc)
    (he : ∀ (s : Shared) (H : Hp) (C : Addr) (cl : List (Str × Addr)) (fp : List Addr), JE (X.blk s H scope (compEnvC scope cl C X.env) fp) Φ elt ce) (hs : ∀ x, foldedSetIterable iter X.env x = pure x) :
    JE X Φ (.ListComp elt [⟨tg, iter, ifs, 0⟩] scope pos) (.comp ce t it cc (own.map (·.2))) := fun pk =>
  PE.weak (pe_lc (g := TGv X.K t.slots (bindT t)) (tt := TTv X.K (cc.quiet Φ) (ev Φ true cc)) (te := TEv X.K (ce.quiet Φ) false (ev Φ false ce)) hc hN hi ok hg ht (fun s H C cl fp => he s H C cl fp false) hs) fun σ H Q h => lc_read hown (fun _ _ _ z => z) (fun _ _ _ _ z => z) (fun _ _ _ z => z) (fun _ _ _ z => z) h
end
end Ev
/-! Ev 13: statements. -/
namespace Ev
open PySem PySem.Spec PyProof.Rows L2

/-- the caller's names stay -/
def Kept (refs : List Nat) (σ σ' : L2.St) : Prop := ∀ j, j ∈ refs → σ'[j]? = σ[j]?
theorem Kept.refl {refs : List Nat} {σ : L2.St} : Kept refs σ σ := fun _ _ => rfl
theorem Kept.trans {refs : List Nat} {σ σ1 σ2 : L2.St} (a : Kept refs σ σ1) (b : Kept refs σ1 σ2) : Kept refs σ σ2 := fun j h => (b j h).trans (a j h)
theorem noRef_ne {refs : List Nat} {i j : Nat} (h : noRef refs i = true) (hj : j ∈ refs) : j ≠ i := fun e => by
  unfold noRef at h
  rw [e] at hj
  rw [List.contains_iff_mem.mpr hj] at h
  cases h
theorem Kept.set {refs : List Nat} {σ : L2.St} {i : Nat} {x : Option V} (h : noRef refs i = true) : Kept refs σ (σ.set i x) := fun j hj => List.getElem?_set_ne (Ne.symm (noRef_ne h hj))
mutual
theorem free_slots {refs : List Nat} : ∀ {t : T}, t.free refs = true → ∀ i, i ∈ t.slots → noRef refs i = true
  | .name i, h, j, hj => by
    have e : j = i := by simpa [T.slots] using hj
    rw [e]; exact h
  | .tup ts, h, j, hj => frees_slots (ts := ts) h j hj
theorem frees_slots {refs : List Nat} : ∀ {ts : List T}, Ts.free refs ts = true → ∀ i, i ∈ Ts.slots ts → noRef refs i = true
  | [], _, j, hj => by cases hj
  | t :: ts, h, j, hj => by
    have h := andq (p := t.free refs) (q := Ts.free refs ts) h
    rcases List.mem_append.mp (show j ∈ t.slots ++ Ts.slots ts from hj) with z | z
    · exact free_slots h.1 j z
    · exact frees_slots h.2 j z
end
theorem Kept.off {refs is : List Nat} {σ σ' : L2.St} (so : SameOff is σ σ') (h : ∀ i, i ∈ is → noRef refs i = true) : Kept refs σ σ' := fun j hj => so j fun z => noRef_ne (h j z) hj rfl
/-- what is wanted behind a statement, by data -/
def SEnd (K : PySem.W.Frag) (refs : List Nat) (σ : L2.St) (H : Hp) (Z : PS1) (Ls : Nat → PS1) (ρ' : Rho) (D : Ends) : Fl → Prop
  | .nx => ∀ σ' H' Z' Ls', Mid K σ' false H Z Ls ρ' H' Z' Ls' → Kept refs σ σ' → D.nx σ' H'
  | .bk => ∀ σ' H' Z' Ls', Mid K σ' false H Z Ls ρ' H' Z' Ls' → Kept refs σ σ' → D.bk σ' H'
  | .ct => ∀ σ' H' Z' Ls', Mid K σ' false H Z Ls ρ' H' Z' Ls' → Kept refs σ σ' → D.ct σ' H'
  | .rt r => ∀ σ' v H' Z' P Ls', Mid K σ' false H Z Ls ρ' H' Z' Ls' → Kept refs σ σ' → Rep K H' Z' P v r.1 r.2 → Exc H Ls P H' Z' Ls' → D.rt v H'
def TSv (K : PySem.W.Frag) (refs : List Nat) (f : Rho → Option (Fl × Rho)) : TS := fun D σ H => ∃ Z Ls ρ fl ρ', Den K H Z σ ρ Ls ∧ Own H Z Ls ∧ f ρ = some (fl, ρ') ∧ SEnd K refs σ H Z Ls ρ' D fl
def JS (X : Cx) (Φ : Cf) (refs : List Nat) (st : Stmt) (c : S) : Prop := PS X st (TSv X.K refs (evS Φ refs c))
def JSs (X : Cx) (Φ : Cf) (refs : List Nat) (st : List Stmt) (c : List S) : Prop := PSs X st (TSv X.K refs (evSs Φ refs c))
theorem PS.weak {X : Cx} {st : Stmt} {t t' : TS} (h : PS X st t) (w : ∀ D σ H, σ.length = X.N.length → t' D σ H → t D σ H) : PS X st t' := ⟨fun pins s σ H D I q => h.run pins s σ H D I (w D σ H I.len q)⟩
theorem PSs.weak {X : Cx} {st : List Stmt} {t t' : TS} (h : PSs X st t) (w : ∀ D σ H, σ.length = X.N.length → t' D σ H → t D σ H) : PSs X st t' := ⟨fun pins s σ H D I q => h.run pins s σ H D I (w D σ H I.len q)⟩
section
variable {K : PySem.W.Frag} {σ σ1 : L2.St} {H H1 : Hp} {Z Z1 : PS1} {Ls Ls1 : Nat → PS1} {ρ1 ρ' : Rho} {q : Bool} {refs : List Nat} {D D' : Ends} {fl : Fl}
theorem SEnd.after (m : Mid K σ1 q H Z Ls ρ1 H1 Z1 Ls1) (kp : Kept refs σ σ1) (e : SEnd K refs σ H Z Ls ρ' D fl) : SEnd K refs σ1 H1 Z1 Ls1 ρ' D fl := by
  cases fl with
  | nx => exact fun σ' H' Z' Ls' m' k' => e σ' H' Z' Ls' (m.trans2 m' fun z => by cases z) (kp.trans k')
  | bk => exact fun σ' H' Z' Ls' m' k' => e σ' H' Z' Ls' (m.trans2 m' fun z => by cases z) (kp.trans k')
  | ct => exact fun σ' H' Z' Ls' m' k' => e σ' H' Z' Ls' (m.trans2 m' fun z => by cases z) (kp.trans k')
  | rt r => exact fun σ' v H' Z' P Ls' m' k' rep x => e σ' v H' Z' P Ls' (m.trans2 m' fun z => by cases z) (kp.trans k') rep (x.trans m)
/-- a name is given a value that has come -/
theorem Mid.put {P : PS1} {i : Nat} {v : V} {d : PyData} {o : O} (m : Mid K σ q H Z Ls ρ1 H1 Z1 Ls1) (x : Exc H Ls P H1 Z1 Ls1) (r : Rep K H1 Z1 P v d o) (hl : i < σ.length) : Mid K (σ.set i (some v)) q H Z Ls (ρ1.set i (some (d, o))) H1 Z1 (putL Ls1 i P) :=
  ⟨m.den.put r hl, m.own.put x.z x.tr x.dis, m.stp, m.same, fun a h => (put_ll h).elim (x.new a) (m.new a)⟩
end
section
variable {X : Cx} {Φ : Cf} {refs : List Nat} {st : Stmt} {sts : List Stmt} {c : S} {cs : List S} {e : Expr} {ce : E} {pos : Pos}
theorem jss_nil : JSs X Φ refs [] [] := PSs.weak pss_nil fun D σ H hl ⟨Z, Ls, ρ, fl, ρ', den, own, e, k⟩ => by
  simp only [evSs] at e
  cases e
  exact k _ _ _ _ (.refl den own) .refl
theorem jss_cons (h1 : JS X Φ refs st c) (h2 : JSs X Φ refs sts cs) : JSs X Φ refs (st :: sts) (c :: cs) := by
  refine PSs.weak (pss_cons h1 h2) fun D σ H hl ⟨Z, Ls, ρ, fl, ρ', den, own, e, k⟩ => ?_
  simp only [evSs] at e
  obtain ⟨⟨f, ρ1⟩, e1, e⟩ := bind_some e
  refine ⟨Z, Ls, ρ, f, ρ1, den, own, e1, ?_⟩
  cases f with
  | nx => exact fun σ' H' Z' Ls' m kp => ⟨Z', Ls', ρ1, fl, ρ', m.den, m.own, e, k.after m kp⟩
  | bk => cases e; exact k
  | ct => cases e; exact k
  | rt r => cases e; exact k
theorem js_pass : JS X Φ refs (.Pass pos) .pass := PS.weak ps_pass fun D σ H hl ⟨Z, Ls, ρ, fl, ρ', den, own, e, k⟩ => by
  simp only [evS] at e
  cases e
  exact k _ _ _ _ (.refl den own) .refl
theorem js_break : JS X Φ refs (.Break pos) .brk := PS.weak ps_break fun D σ H hl ⟨Z, Ls, ρ, fl, ρ', den, own, e, k⟩ => by
  simp only [evS] at e
  cases e
  exact k _ _ _ _ (.refl den own) .refl
theorem js_cont : JS X Φ refs (.Continue pos) .cont := PS.weak ps_continue fun D σ H hl ⟨Z, Ls, ρ, fl, ρ', den, own, e, k⟩ => by
  simp only [evS] at e
  cases e
  exact k _ _ _ _ (.refl den own) .refl
/-- a docstring -/
theorem js_doc {x j pos'} : JS X Φ refs (.Expr (.Constant (.str x) j pos) pos') .pass := PS.weak ps_doc fun D σ H hl ⟨Z, Ls, ρ, fl, ρ', den, own, e, k⟩ => by
  simp only [evS] at e
  cases e
  exact k _ _ _ _ (.refl den own) .refl
theorem js_expr (je : JE X Φ e ce) (hs : swapsWith e none pos.line X.env = pure false) : JS X Φ refs (.Expr e pos) (.expr ce) := PS.weak (ps_expr (je true) hs) fun D σ H hl ⟨Z, Ls, ρ, fl, ρ', den, own, e, k⟩ => by
  simp only [evS] at e
  obtain ⟨⟨x, ρ1⟩, e1, e⟩ := map_some e
  cases e
  exact ⟨Z, Ls, ρ, x, ρ1, den, own, e1, fun v H1 ⟨Z1, P1, Ls1, m1, _, _⟩ => k _ _ _ _ (m1.less fun z => by cases z) .refl⟩
/-- the value's reading in name = value -/
theorem set_read {K : PySem.W.Frag} {i n : Nat} {q : Bool} {D : Ends} {σ : L2.St} {H : Hp} {f : Rho → Option (DO × Rho)} (hi : i < n) (hl : σ.length = n)
    (h : TSv K refs (fun ρ => (f ρ).bind fun (x, ρ1) => if i < ρ1.length ∧ noRef refs i = true then some (.nx, ρ1.set i (some x)) else none) D σ H) : TEv K q false f σ H fun x H1 => gName i x σ H1 D.nx := by
  obtain ⟨Z, Ls, ρ, fl, ρ', den, own, e, k⟩ := h
  obtain ⟨⟨x, ρ1⟩, e1, e⟩ := bind_some e
  simp only at e
  split at e
  · rename_i hr
    cases e
    exact ⟨Z, Ls, ρ, x, ρ1, den, own, e1, fun v H1 ⟨Z1, P1, Ls1, m1, r1, x1⟩ => k _ _ _ _ ((m1.put (x1 rfl) r1 (by omega)).less fun z => by cases z) (.set hr.2)⟩
  · cases e
theorem js_set {i : Nat} {x : Str} {pos' : Pos} (hN : X.N.Nodup) (hi : X.N[i]? = some x) (hx : Loc X.env.scope x) (je : JE X Φ e ce) (hs : swapsWith e (some (.Name x pos')) pos.line X.env = pure false) (hf : X.fn x = true ∨ X.env.scope.names.lookup x = some .local) :
    JS X Φ refs (.Assign [.Name x pos'] e pos) (.set i ce) := PS.weak (ps_set hN hi hx (je false) hs hf) fun D σ H hl h => by
  exact set_read (List.getElem?_eq_some_iff.mp hi).1 hl (by simpa only [evS] using h)
theorem js_setLc {i : Nat} {y : Str} {py : Pos} {elt tg iter : Expr} {ifs : List Expr} {scope : Scope} {own : List (Str × Nat)} {spos : Pos} {ce cc : E} {t : T} {it : It} (hc : X.calm = true) (hN : X.N.Nodup) (hy : X.N[i]? = some y) (hyl : X.env.scope.names.lookup y = some .local)
    (hsw : swapsWith (.ListComp elt [⟨tg, iter, ifs, 0⟩] scope pos) (some (.Name y py)) spos.line X.env = pure true) (hi : JI X Φ tg iter it) (ok : BlkOk X.N X.env.scope scope own) (hown : ∀ i, i ∈ t.slots → i ∈ own.map (·.2))
    (hg : ∀ (s : Shared) (H : Hp) (C : Addr) (cl : List (Str × Addr)) (fp : List Addr), JG (X.blk s H scope (compEnvC scope cl C X.env) fp) tg t) (ht : ∀ (s : Shared) (H : Hp) (C : Addr) (cl : List (Str × Addr)) (fp : List Addr), JTs (X.blk s H scope (compEnvC scope cl C X.env) fp) Φ ifs cc)
    (he : ∀ (s : Shared) (H : Hp) (C : Addr) (cl : List (Str × Addr)) (fp : List Addr), JE (X.blk s H scope (compEnvC scope cl C X.env) fp) Φ elt ce) (hs : ∀ x, foldedSetIterable iter X.env x = pure x) :
    JS X Φ refs (.Assign [.Name y py] (.ListComp elt [⟨tg, iter, ifs, 0⟩] scope pos) spos) (.set i (.comp ce t it cc (own.map (·.2)))) :=
  PS.weak (ps_setLc (g := TGv X.K t.slots (bindT t)) (tt := TTv X.K (cc.quiet Φ) (ev Φ true cc)) (te := TEv X.K (ce.quiet Φ) false (ev Φ false ce)) hc hN hy hyl hsw hi ok hg ht (fun s H C cl fp => he s H C cl fp false) hs) fun D σ H hl h => by
    have h : TEv X.K (E.quiet Φ (.comp ce t it cc (own.map (·.2)))) false (ev Φ false (.comp ce t it cc (own.map (·.2)))) σ H (fun x H1 => gName i x σ H1 D.nx) := set_read (List.getElem?_eq_some_iff.mp hy).1 hl (by simpa only [evS] using h)
    exact lc_read hown (fun _ _ _ z => z) (fun _ _ _ _ z => z) (fun _ _ _ z => z) (fun _ _ _ z => z) h
theorem js_setT {tg : Expr} {t : T} (je : JE X Φ e ce) (jg : JG X tg t) (hs : swapsWithSole [tg] e pos.line X.env = pure false) (hw : swappedStores [tg] e X.env = pure none) (h1 : (assignEach [tg] X.env).map (·.2) = [assign tg X.env]) :
    JS X Φ refs (.Assign [tg] e pos) (.setT t ce) := PS.weak (ps_asg (je false) jg hs hw h1) fun D σ H hl ⟨Z, Ls, ρ, fl, ρ', den, own, e, k⟩ => by
  simp only [evS] at e
  obtain ⟨⟨x, ρ1⟩, e1, e⟩ := bind_some e
  simp only at e
  split at e
  · rename_i hfree
    obtain ⟨ρ2, e2, e⟩ := map_some e
    cases e
    refine ⟨Z, Ls, ρ, x, ρ1, den, own, e1, fun v H1 ⟨Z1, P1, Ls1, m1, r1, x1⟩ => ?_⟩
    have m1' := m1.freeze (x1 rfl)
    refine ⟨_, Ls1, ρ1, x.1, _, m1'.den, m1'.own, r1.freeze, e2, fun σ2 Ls2 d2 o2 s2 so2 l2 => ?_⟩
    exact k _ _ _ _ ((m1'.chg d2 o2 s2).less fun z => by cases z) (.off so2 (free_slots hfree))
  · cases e
theorem js_ret (je : JE X Φ e ce) : JS X Φ refs (.Return (some e) pos) (.ret ce) := PS.weak (ps_ret (je false)) fun D σ H hl ⟨Z, Ls, ρ, fl, ρ', den, own, e, k⟩ => by
  simp only [evS] at e
  obtain ⟨⟨x, ρ1⟩, e1, e⟩ := map_some e
  cases e
  exact ⟨Z, Ls, ρ, x, ρ1, den, own, e1, fun v H1 ⟨Z1, P1, Ls1, m1, r1, x1⟩ => k _ _ _ _ _ _ (m1.less fun z => by cases z) .refl r1 (x1 rfl)⟩
theorem js_retN : JS X Φ refs (.Return none pos) .retN := PS.weak ps_retN fun D σ H hl ⟨Z, Ls, ρ, fl, ρ', den, own, e, k⟩ => by
  simp only [evS] at e
  cases e
  exact k _ _ _ _ noP _ (.refl den own) .refl (.fz .non) .none
theorem js_retv {i : Nat} {x : Str} {p : Pos} (hN : X.N[i]? = some x) (hv : Vis X.env.scope x) (hd : (x == ("__debug__" : Str)) = false) (hcd : (x == ("__classdict__" : Str)) = false) : JS X Φ refs (.Return (some (.Name x p)) pos) (.retv i) :=
  PS.weak (ps_ret (pe_var hN hv hd hcd)) fun D σ H hl ⟨Z, Ls, ρ, fl, ρ', den, own, e, k⟩ => by
    simp only [evS] at e
    split at e
    · rename_i x hx
      split at e
      · cases e
        obtain ⟨d, o⟩ := x
        obtain ⟨v, hv, r⟩ := den i d o (at_some hx)
        refine ⟨v, hv, k _ _ _ _ (Ls i) (putL Ls i noP) ((Mid.refl (q := false) den own).chg den.drop own.drop fun a h => (put_ll h).elim (fun z => z.elim) id) .refl r ⟨fun a => own.z i a, fun a => own.tr i a, fun a h l => ?_, fun a h => .inl ⟨i, h⟩⟩⟩
        obtain ⟨j, l⟩ := l
        by_cases hj : j = i
        · rw [hj, putL_same] at l; exact l
        · rw [putL_ne hj] at l; exact hj (own.dis j i a l h)
      · cases e
    · cases e
theorem js_if {t : Expr} {ct : E} {a b : List Stmt} {ca cb : List S} (jt : JT X Φ t ct) (ja : JSs X Φ refs a ca) (jb : JSs X Φ refs b cb) : JS X Φ refs (.If t a b pos) (.ite ct ca cb) := PS.weak (ps_if jt ja jb) fun D σ H hl ⟨Z, Ls, ρ, fl, ρ', den, own, e, k⟩ => by
  simp only [evS] at e
  obtain ⟨⟨⟨d, o⟩, ρ1⟩, e1, e⟩ := bind_some e
  cases d with
  | bool y =>
    refine ⟨Z, Ls, ρ, y, o, ρ1, den, own, e1, fun H1 Z1 Ls1 m1 => ?_⟩
    cases y with
    | true => exact iteT ⟨Z1, Ls1, ρ1, fl, ρ', m1.den, m1.own, e, k.after m1 .refl⟩
    | false => exact iteF ⟨Z1, Ls1, ρ1, fl, ρ', m1.den, m1.own, e, k.after m1 .refl⟩
  | _ => cases e
/-- x[i] = v -/
theorem js_setI {x : Nat} {n : Str} {p sp : Pos} {i : Expr} {ci : E} (hN : X.N[x]? = some n) (hv : Vis X.env.scope n) (hd : (n == ("__debug__" : Str)) = false) (hcd : (n == ("__classdict__" : Str)) = false) (ji : JE X Φ i ci) (je : JE X Φ e ce)
    (ha : ∀ v, assign (.Subscript (.Name n p) i sp) X.env v = (do
      let ov ← holding [v] (eval (.Name n p) X.env)
      let iv ← holding [v, ov] (eval i X.env)
      standAt sp
      holding [v, ov, iv] (setItem ov iv v)
      release [v, ov, iv] []))
    (hs : swapsWithSole [.Subscript (.Name n p) i sp] e pos.line X.env = pure false) (hw : swappedStores [.Subscript (.Name n p) i sp] e X.env = pure none) (h1 : (assignEach [.Subscript (.Name n p) i sp] X.env).map (·.2) = [assign (.Subscript (.Name n p) i sp) X.env]) :
    JS X Φ refs (.Assign [.Subscript (.Name n p) i sp] e pos) (.setI x ci ce) := PS.weak (ps_asg (je false) (pg_sub (pe_var hN hv hd hcd) (ji true) set_list ha) hs hw h1) fun D σ H hl ⟨Z, Ls, ρ, fl, ρ', den, own, e, k⟩ => by
  simp only [evS] at e
  obtain ⟨⟨y, ρ1⟩, e1, e⟩ := bind_some e
  simp only at e
  split at e
  · cases e
  · rename_i hown
    obtain ⟨⟨kk, ρ2⟩, e2, e⟩ := bind_some e
    have hsome : ∃ d o, ρ1.at x = some (d, o) := by
      have hown : (ownL (ρ1.at x) || ownG (ρ1.at x)) = true := by
        cases hq : (ownL (ρ1.at x) || ownG (ρ1.at x)) with
        | true => rfl
        | false => exact absurd hq hown
      rcases (Bool.or_eq_true _ _).mp hown with h | h
      · obtain ⟨ds0, h0⟩ := ownL_some (by rw [h]; decide)
        exact ⟨_, _, h0⟩
      · obtain ⟨ds0, n0, h0⟩ := ownG_some (by rw [h]; decide)
        exact ⟨_, _, h0⟩
    obtain ⟨d0, o0, hx0⟩ := hsome
    refine ⟨Z, Ls, ρ, y, ρ1, den, own, e1, fun v H1 ⟨Z1, P1, Ls1, m1, r1, x1⟩ => ?_⟩
    have m1' := m1.freeze (x1 rfl)
    obtain ⟨u0, hu0, _⟩ := m1'.den x _ _ (at_some hx0)
    refine ⟨u0, hu0, ?_⟩
    refine ⟨_, Ls1, ρ1, kk, ρ2, m1'.den, m1'.own, e2, fun w H2 ⟨Z2, P2, Ls2, m2, r2, _⟩ => ?_⟩
    have m12 := m1'.trans2 (q := false) m2 fun z => by cases z
    have fv := m2.fz m1'.own r1.freeze
    simp only at e
    split at e
    · rename_i ds n hx hk
      obtain ⟨j, ej, e⟩ := map_some e
      cases e
      obtain ⟨u, hu, rep⟩ := m2.den x _ _ (at_some hx)
      rw [hu0] at hu
      cases hu
      rw [hk] at r2
      cases rep with
      | @l a xs _ hl hf hp =>
        refine ⟨a, xs, n, j, rfl, rep_int r2, hl, by rw [hf.length]; exact ej, ?_⟩
        obtain ⟨m3, fk⟩ := m12.write (xs' := xs.set j v) (ds' := ds.set j y.1) (at_some hx) hu0 hl hp (hf.set j fv)
        exact k _ _ _ _ m3 .refl
    · rename_i ds m n hx hk
      split at e
      · rename_i nv hy
        split at e
        · rename_i h1
          subst h1
          cases e
          obtain ⟨u, hu, rep⟩ := m2.den x _ _ (at_some hx)
          rw [hu0] at hu
          cases hu
          rw [hk] at r2
          rw [hy] at fv
          cases fv
          cases rep with
          | @g a b _ ns ha hb hab pa pb =>
            refine ⟨a, _, 1, 1, rfl, rep_int r2, ha, rfl, ?_⟩
            obtain ⟨m3, fk⟩ := m12.upL (o := .lst [.ref b, .int nv]) (d' := .list [.list (ns.map PyData.int), .int nv]) (w' := .g) (at_some hx) hu0 ⟨_, ha⟩ pa (fun fk => .g upd_same (by rw [upd_ne (Ne.symm hab)]; exact hb) hab pa pb)
            exact k _ _ _ _ m3 .refl
        · cases e
      · cases e
    · cases e
end
/-! ### loops -/
section
variable {X : Cx} {Φ : Cf} {refs : List Nat} {pos : Pos}
theorem js_while {t : Expr} {ct : E} {b : List Stmt} {cb : List S} (hp : PassesOwn (model X.prog X.w) X.A X.env X.xe) (jt : JT X Φ t ct) (jb : JSs X Φ refs b cb) : JS X Φ refs (.While t b [] pos) (.while_ ct cb) := PS.weak (ps_while hp jt jb) fun D σ H hl ⟨Z, Ls, ρ, fl, ρ', den, own, e, k⟩ => by
  simp only [evS] at e
  generalize hbody : (fun ρ => (ev Φ true ct ρ).bind fun (x, ρ1) => match x.1 with
    | .bool true => (evSs Φ refs cb ρ1).map fun (f, ρ2) => (some f, ρ2)
    | .bool false => some (none, ρ1)
    | _ => none) = body at e
  refine ⟨fun m σm Hm => ∃ Zm Lm ρm, Mid X.K σm false H Z Ls ρm Hm Zm Lm ∧ Kept refs σ σm ∧ whileGo body m ρm = some (fl, ρ'), ⟨Φ.W, Z, Ls, ρ, .refl den own, .refl, e⟩, ?_⟩
  rintro m σm Hm ⟨Zm, Lm, ρm, mm, km, em⟩
  cases m with
  | zero => cases em
  | succ m =>
    unfold whileGo at em
    obtain ⟨⟨f, ρn⟩, e1, em⟩ := bind_some em
    rw [← hbody] at e1
    obtain ⟨⟨⟨d, o⟩, ρ1⟩, e0, e1⟩ := bind_some e1
    cases d with
    | bool y =>
      refine ⟨Zm, Lm, ρm, y, o, ρ1, mm.den, mm.own, e0, fun H1 Z1 Ls1 m1 => ?_⟩
      have m01 := mm.trans2 (q := false) m1 fun z => by cases z
      cases y with
      | true =>
        obtain ⟨⟨g, ρ2⟩, e2, e1⟩ := map_some e1
        cases e1
        refine iteT ⟨fun σ' H' => ∃ Zm Lm ρm, Mid X.K σ' false H Z Ls ρm H' Zm Lm ∧ Kept refs σ σ' ∧ whileGo body m ρm = some (fl, ρ'), fun σ' H' w => ⟨m, Nat.lt_succ_self m, w⟩, ?_⟩
        refine ⟨Z1, Ls1, ρ1, g, ρn, m1.den, m1.own, e2, ?_⟩
        cases g with
        | nx => exact fun σ' H' Z' Ls' m' k' => ⟨Z', Ls', ρn, m01.trans2 m' (fun z => by cases z), km.trans k', em⟩
        | ct => exact fun σ' H' Z' Ls' m' k' => ⟨Z', Ls', ρn, m01.trans2 m' (fun z => by cases z), km.trans k', em⟩
        | bk => cases em; exact fun σ' H' Z' Ls' m' k' => k _ _ _ _ (m01.trans2 m' (fun z => by cases z)) (km.trans k')
        | rt r => cases em; exact fun σ' v H' Z' P Ls' m' k' rep x => k _ _ _ _ _ _ (m01.trans2 m' (fun z => by cases z)) (km.trans k') rep (x.trans m01)
      | false =>
        cases e1
        cases em
        exact iteF (k _ _ _ _ m01 km)
    | _ => cases e1
theorem js_for {tg iter : Expr} {t : T} {it : It} {b : List Stmt} {cb : List S} (hp : PassesOwn (model X.prog X.w) X.A X.env X.xe) (hc : X.calm = true) (ji : JI X Φ tg iter it) (jg : JG X tg t) (jb : JSs X Φ refs b cb) (hs : ∀ x, foldedSetIterable iter X.env x = pure x) :
    JS X Φ refs (.For tg iter b [] pos) (.for_ t it cb) := PS.weak (ps_for hp hc ji jg jb hs) fun D σ H hl ⟨Z, Ls, ρ, fl, ρ', den, own, e, k⟩ => by
  simp only [evS] at e
  obtain ⟨⟨ds, ρ1⟩, ei, e⟩ := bind_some e
  simp only at e
  split at e
  · rename_i hfree
    refine ⟨Z, Ls, ρ, ds, ρ1, den, own, ei, fun J H1 Z1 Ls1 m1 ⟨G, Y, W, hW⟩ => ?_⟩
    have go : forGo (fun x ρ => (bindT t x ρ).bind fun ρ2 => evSs Φ refs cb ρ2) ds ρ1 = some (fl, ρ') := e
    generalize hbody : (fun x ρ => (bindT t x ρ).bind fun ρ2 => evSs Φ refs cb ρ2) = body at go
    have fk0 : ∀ {σ' : L2.St} {q : Bool} {ρ2 H2 Z2 Ls2}, Mid X.K σ' q H1 Z1 Ls1 ρ2 H2 Z2 Ls2 → FK H1 Z1 H2 Z2 := fun m => m.stp.fk m1.own.ll
    refine for_it W (fun i σi Hi => ∃ Zi Li ρi, Mid X.K σi false H1 Z1 Ls1 ρi Hi Zi Li ∧ Kept refs σ σi ∧ forGo body (ds.drop i) ρi = some (fl, ρ')) ?_ ?_ ?_ ?_
    · exact ⟨Z1, Ls1, ρ1, .refl m1.den m1.own, .refl, by rw [List.drop_zero]; exact go⟩
    · rintro i σi Hi hi ⟨Zi, Li, ρi, mi, ki, gi⟩
      exact (hW _ _ (fk0 mi)).1
    · rintro i x σi H2 H3 hlt ⟨Z2, Ls2, ρ2, m2, k2, g2⟩ y
      obtain ⟨d, ed, yy⟩ := (hW _ _ (fk0 m2)).2 i x H3 hlt y
      have edrop : ds.drop i = d :: ds.drop (i + 1) := by
        obtain ⟨h1, h2⟩ := List.getElem?_eq_some_iff.mp ed
        rw [List.drop_eq_getElem_cons h1, h2]
      rw [edrop] at g2
      have item : ∃ Z3, Mid X.K σi false H1 Z1 Ls1 ρ2 H3 Z3 Ls2 ∧ Fz X.K H3 Z3 x d := by
        rcases yy with ⟨rfl, fx⟩ | ⟨p, vs, es, rfl, hp, rfl, rfl, fa⟩
        · exact ⟨Z2, m2, fx⟩
        · have st : Mid X.K σi true H2 Z2 Ls2 ρ2 (upd H2 p (.tup vs)) (fun a => Z2 a ∧ a ≠ p) Ls2 := (Mid.refl m2.den m2.own).laid hp
          exact ⟨_, m2.laid hp, .tup (.inl ⟨.inl upd_same, fun z => z.2 rfl⟩) (fa.keep (st.stp.fk m2.own.ll))⟩
      obtain ⟨Z3, m3, fx⟩ := item
      unfold forGo at g2
      obtain ⟨⟨g, ρn⟩, eb, g2⟩ := bind_some g2
      rw [← hbody] at eb
      obtain ⟨ρb, eb, es⟩ := bind_some eb
      refine ⟨Z3, Ls2, ρ2, d, ρb, m3.den, m3.own, fx, eb, fun σ4 Ls4 den4 own4 sub4 so4 len4 => ?_⟩
      have m4 := m3.chg den4 own4 sub4
      have k4 : Kept refs σ σ4 := k2.trans (.off so4 (free_slots hfree))
      refine ⟨Z3, Ls4, ρb, g, ρn, den4, own4, es, ?_⟩
      have m14 := m1.trans2 (q := false) m4 fun z => by cases z
      cases g with
      | nx => exact fun σ' H' Z' Ls' m' k' => ⟨Z', Ls', ρn, m4.trans2 m' (fun z => by cases z), k4.trans k', g2⟩
      | ct => exact fun σ' H' Z' Ls' m' k' => ⟨Z', Ls', ρn, m4.trans2 m' (fun z => by cases z), k4.trans k', g2⟩
      | bk => cases g2; exact fun σ' H' Z' Ls' m' k' => k _ _ _ _ (m14.trans2 m' (fun z => by cases z)) (k4.trans k')
      | rt r => cases g2; exact fun σ' v H' Z' P Ls' m' k' rep x => k _ _ _ _ _ _ (m14.trans2 m' (fun z => by cases z)) (k4.trans k') rep (x.trans m14)
    · rintro σi Hi ⟨Zi, Li, ρi, mi, ki, gi⟩
      rw [List.drop_length] at gi
      unfold forGo at gi
      cases gi
      exact k _ _ _ _ (m1.trans2 mi fun z => by cases z) ki
  · cases e
end
end Ev
/-! Ev 14: several names at once. -/
namespace Ev
open PySem PySem.Spec PyProof.Rows L2

/-- values that have come, each with what it owns -/
inductive Held (K : PySem.W.Frag) (H0 : Hp) (Ls0 : Nat → PS1) (H : Hp) (Z : PS1) (Ls : Nat → PS1) : List V → List DO → PS1 → Prop
  | nil : Held K H0 Ls0 H Z Ls [] [] noP
  | cons {v : V} {x : DO} {vs : List V} {xs : List DO} {P U : PS1} : Rep K H Z P v x.1 x.2 → Exc H0 Ls0 P H Z Ls → Held K H0 Ls0 H Z Ls vs xs U → (∀ a, P a → ¬ U a) → Held K H0 Ls0 H Z Ls (v :: vs) (x :: xs) (fun a => P a ∨ U a)
section
variable {K : PySem.W.Frag} {σ : L2.St} {H0 H H1 : Hp} {Z Z1 : PS1} {Ls0 Ls Ls1 : Nat → PS1} {vs : List V} {xs : List DO} {U : PS1} {ρ1 : Rho} {q : Bool}
theorem Held.new (h : Held K H0 Ls0 H Z Ls vs xs U) : ∀ a, U a → LL Ls0 a ∨ H0 a = none := by
  induction h with
  | nil => exact fun a h => h.elim
  | cons r x _ _ ih => exact fun a h => h.elim (x.new a) (ih a)
theorem Held.len (h : Held K H0 Ls0 H Z Ls vs xs U) : vs.length = xs.length := by
  induction h with
  | nil => rfl
  | cons r x _ _ ih => exact congrArg (· + 1) ih
theorem Held.back (m : Mid K σ q H0 Z Ls0 ρ1 H1 Z1 Ls1) {H2 : Hp} {Z2 : PS1} {Ls2 : Nat → PS1} (h : Held K H1 Ls1 H2 Z2 Ls2 vs xs U) : Held K H0 Ls0 H2 Z2 Ls2 vs xs U := by
  induction h with
  | nil => exact .nil
  | cons r x _ d ih => exact .cons r (x.trans m) ih d
theorem Held.put {i : Nat} {P : PS1} (h : Held K H0 Ls0 H Z Ls vs xs U) (d : ∀ a, P a → ¬ U a) : Held K H0 Ls0 H Z (putL Ls i P) vs xs U := by
  induction h with
  | nil => exact .nil
  | cons r x _ d' ih => exact .cons r ⟨x.z, x.tr, fun a p l => (put_ll l).elim (fun z => d a z (.inl p)) (x.dis a p), x.new⟩ (ih fun a p u => d a p (.inr u)) d'
/-- the names' slots, one after another -/
def setAll : L2.St → List Nat → List V → L2.St
  | σ, i :: is, v :: vs => setAll (σ.set i (some v)) is vs
  | σ, _, _ => σ
theorem setAll_len : ∀ (is : List Nat) (vs : List V) (σ : L2.St), (setAll σ is vs).length = σ.length
  | [], _, _ => rfl
  | _ :: _, [], _ => rfl
  | i :: is, v :: vs, σ => (setAll_len is vs _).trans (List.length_set ..)
theorem put_all {refs : List Nat} (h : Held K H0 Ls0 H1 Z1 Ls1 vs xs U) : ∀ {is : List Nat} {σ : L2.St} {ρ1 ρ' : Rho} {Ls2 : Nat → PS1}, Held K H0 Ls0 H1 Z1 Ls2 vs xs U → Mid K σ q H0 Z Ls0 ρ1 H1 Z1 Ls2 → setParR is xs ρ1 = some ρ' → (∀ i ∈ is, i < σ.length) → (∀ i ∈ is, noRef refs i = true) →
    ∃ Ls', Mid K (setAll σ is vs) q H0 Z Ls0 ρ' H1 Z1 Ls' ∧ Kept refs σ (setAll σ is vs) := by
  clear h
  induction xs generalizing vs U with
  | nil =>
    intro is σ ρ1 ρ' Ls2 h m e hl hr
    cases h
    cases is with
    | nil => cases e; exact ⟨Ls2, m, .refl⟩
    | cons i is => cases e
  | cons x xs ih =>
    intro is σ ρ1 ρ' Ls2 h m e hl hr
    cases is with
    | nil => cases h with
      | cons => cases e
    | cons i is =>
      cases h with
      | @cons v _ vs _ P U r xx hh d =>
        unfold setParR at e
        split at e
        · obtain ⟨d', o⟩ := x
          have m2 := m.put xx r (hl i (by simp))
          obtain ⟨L, m3, k3⟩ := ih (is := is) (hh.put d) m2 e (fun j hj => by rw [List.length_set]; exact hl j (by simp [hj])) fun j hj => hr j (by simp [hj])
          exact ⟨L, m3, (Kept.set (hr i (by simp))).trans k3⟩
        · cases e
end
def TAm (K : PySem.W.Frag) (q : Bool) (f : Rho → Option (List DO × Rho)) : TA := fun σ H Q => ∃ Z Ls ρ xs ρ', Den K H Z σ ρ Ls ∧ Own H Z Ls ∧ f ρ = some (xs, ρ') ∧
  ∀ vs H' Z' Ls' U, Mid K σ q H Z Ls ρ' H' Z' Ls' → Held K H Ls H' Z' Ls' vs xs U → Q vs H'
def JM (X : Cx) (Φ : Cf) (es : List Expr) (cs : List E) : Prop := PA X es (TAm X.K (quiets Φ cs) (evm Φ cs))
section
variable {X : Cx} {Φ : Cf} {refs : List Nat} {pos : Pos}
theorem jm_nil : JM X Φ [] [] := PA.weak pa_nil fun σ H Q ⟨Z, Ls, ρ, r, ρ', den, own, e, k⟩ => by
  cases e
  exact k _ _ _ _ _ (.refl den own) .nil
theorem Held.step {K : PySem.W.Frag} {σ : L2.St} {H0 H1 H2 : Hp} {Z1 Z2 P : PS1} {Ls0 Ls1 Ls2 : Nat → PS1} {q : Bool} {ρ2 : Rho} {v : V} {d : PyData} {o : O} (x : Exc H0 Ls0 P H1 Z1 Ls1) (r : Rep K H1 Z1 P v d o) (own : Own H1 Z1 Ls1) (m : Mid K σ q H1 Z1 Ls1 ρ2 H2 Z2 Ls2) : Rep K H2 Z2 P v d o ∧ Exc H0 Ls0 P H2 Z2 Ls2 := ⟨m.rep own r (.inr x), x.step m⟩
theorem jm_cons {e : Expr} {es : List Expr} {c : E} {cs : List E} (hs : NoStar e) (je : JE X Φ e c) (js : JM X Φ es cs) : JM X Φ (e :: es) (c :: cs) := by
  refine PA.weak (pa_cons (je false) js (hs _ _)) fun σ H Q ⟨Z, Ls, ρ, r, ρ', den, own, e, k⟩ => ?_
  simp only [evm] at e
  obtain ⟨⟨x, ρ1⟩, ea, e⟩ := bind_some e
  obtain ⟨⟨xs, ρ2⟩, eb, e⟩ := map_some e
  cases e
  refine ⟨Z, Ls, ρ, x, ρ1, den, own, ea, fun v H1 ⟨Z1, P1, Ls1, m1, r1, x1⟩ => ?_⟩
  have x1 := x1 rfl
  refine ⟨_, Ls1, ρ1, xs, ρ2, m1.den, m1.own, eb, fun vs H2 Z2 Ls2 U m2 h2 => ?_⟩
  obtain ⟨r2, x2⟩ := Held.step x1 r1 m1.own m2
  refine k _ _ _ _ _ (m1.trans m2 fun z => andq z) (.cons r2 x2 (h2.back m1) fun a p u => ?_)
  rcases h2.new a u with w | w
  · exact x1.dis a p w
  · obtain ⟨o, ho⟩ := x1.tr a p
    rw [ho] at w; cases w
theorem par_read {is : List Nat} {cs : List E} {D : Ends} {σ : L2.St} {H : Hp} {K : PySem.W.Frag} (hl : ∀ i ∈ is, i < σ.length) (h : TSv K refs (evS Φ refs (.par is cs)) D σ H) : TAm K (quiets Φ cs) (evm Φ cs) σ H fun vs H1 => vs.length = is.length ∧ D.nx (setAll σ is vs) H1 := by
  obtain ⟨Z, Ls, ρ, fl, ρ', den, own, e, k⟩ := h
  simp only [evS] at e
  obtain ⟨⟨xs, ρ1⟩, ea, e⟩ := bind_some e
  simp only at e
  split at e
  · rename_i hfree
    obtain ⟨ρ2, e2, e⟩ := map_some e
    cases e
    refine ⟨Z, Ls, ρ, xs, ρ1, den, own, ea, fun vs H1 Z1 Ls1 U m1 h1 => ⟨?_, ?_⟩⟩
    · have sp : ∀ {is : List Nat} {xs : List DO} {ρ ρ' : Rho}, setParR is xs ρ = some ρ' → xs.length = is.length := by
        intro is
        induction is with
        | nil => intro xs ρ ρ' e; cases xs with
          | nil => rfl
          | cons a b => cases e
        | cons i is ih => intro xs ρ ρ' e; cases xs with
          | nil => cases e
          | cons a b =>
            unfold setParR at e
            split at e
            · exact congrArg (· + 1) (ih e)
            · cases e
      rw [h1.len, sp e2]
    · obtain ⟨L, m2, kp⟩ := put_all (refs := refs) h1 h1 m1 e2 hl fun i hi => List.all_eq_true.mp hfree i hi
      exact k _ _ _ _ (m2.less fun z => by cases z) kp
  · cases e
theorem js_par2 {i j : Nat} {x y : Str} {a b : Expr} {ca cb : E} {px py pt : Pos} {kt k2 pt2} (hc : X.calm = true) (hN : X.N.Nodup) (hi : X.N[i]? = some x) (hj : X.N[j]? = some y) (hij : i ≠ j)
    (hx : X.env.scope.names.lookup x = some .local) (hy : X.env.scope.names.lookup y = some .local) (ja : JM X Φ [a, b] [ca, cb])
    (hw : swappedStores [.Tuple [.Name x px, .Name y py] kt pt] (.Tuple [a, b] k2 pt2) X.env = pure (some [x, y]))
    (hs : swapsWithSole [.Tuple [.Name x px, .Name y py] kt pt] (.Tuple [a, b] k2 pt2) pos.line X.env = pure false) :
    JS X Φ refs (.Assign [.Tuple [.Name x px, .Name y py] kt pt] (.Tuple [a, b] k2 pt2) pos) (.par [i, j] [ca, cb]) := PS.weak (ps_par hc hN hi hj hij hx hy ja hw hs) fun D σ H hl h => by
  have li : ∀ k ∈ [i, j], k < σ.length := fun k hk => by
    rw [hl]
    rcases List.mem_cons.mp hk with rfl | hk
    · exact (List.getElem?_eq_some_iff.mp hi).1
    · rcases List.mem_cons.mp hk with rfl | hk
      · exact (List.getElem?_eq_some_iff.mp hj).1
      · cases hk
  obtain ⟨Z, Ls, ρ, xs, ρ', den, own, e, k⟩ := par_read li h
  refine ⟨Z, Ls, ρ, xs, ρ', den, own, e, fun vs H' Z' Ls' U m hh => ?_⟩
  obtain ⟨hlen, q⟩ := k vs H' Z' Ls' U m hh
  match vs, hlen with
  | [v, w], _ => exact ⟨v, w, rfl, q⟩
theorem js_par3 {i j l : Nat} {x y z : Str} {a b c : Expr} {ca cb cc : E} {px py pz pt : Pos} {kt k2 pt2} (hc : X.calm = true) (hN : X.N.Nodup) (hi : X.N[i]? = some x) (hj : X.N[j]? = some y) (hk : X.N[l]? = some z) (hij : i ≠ j) (hil : i ≠ l) (hjl : j ≠ l)
    (hx : X.env.scope.names.lookup x = some .local) (hy : X.env.scope.names.lookup y = some .local) (hz : X.env.scope.names.lookup z = some .local) (ja : JM X Φ [a, b, c] [ca, cb, cc])
    (hw : swappedStores [.Tuple [.Name x px, .Name y py, .Name z pz] kt pt] (.Tuple [a, b, c] k2 pt2) X.env = pure (some [x, y, z]))
    (hs : swapsWithSole [.Tuple [.Name x px, .Name y py, .Name z pz] kt pt] (.Tuple [a, b, c] k2 pt2) pos.line X.env = pure false) :
    JS X Φ refs (.Assign [.Tuple [.Name x px, .Name y py, .Name z pz] kt pt] (.Tuple [a, b, c] k2 pt2) pos) (.par [i, j, l] [ca, cb, cc]) := PS.weak (ps_par3 hc hN hi hj hk hij hil hjl hx hy hz ja hw hs) fun D σ H hl h => by
  have li : ∀ k ∈ [i, j, l], k < σ.length := fun k hm => by
    rw [hl]
    rcases List.mem_cons.mp hm with rfl | hm
    · exact (List.getElem?_eq_some_iff.mp hi).1
    · rcases List.mem_cons.mp hm with rfl | hm
      · exact (List.getElem?_eq_some_iff.mp hj).1
      · rcases List.mem_cons.mp hm with rfl | hm
        · exact (List.getElem?_eq_some_iff.mp hk).1
        · cases hm
  obtain ⟨Z, Ls, ρ, xs, ρ', den, own, e, k⟩ := par_read li h
  refine ⟨Z, Ls, ρ, xs, ρ', den, own, e, fun vs H' Z' Ls' U m hh => ?_⟩
  obtain ⟨hlen, q⟩ := k vs H' Z' Ls' U m hh
  match vs, hlen with
  | [u, v, w], _ => exact ⟨u, v, w, rfl, q⟩
end
end Ev
/-! Ev 15: a def keeps its promise by data, by its code's run. -/
namespace Ev
open PySem PySem.Spec PyProof.Rows L2

theorem refsOf_mem : ∀ {bs : List Bool} {k j : Nat}, bs[j]? = some true → k + j ∈ refsOf k bs
  | [], _, _, h => by simp at h
  | true :: bs, k, 0, _ => by simp [refsOf]
  | false :: bs, k, 0, h => by simp at h
  | true :: bs, k, j + 1, h => by
    have := refsOf_mem (bs := bs) (k := k + 1) (j := j) (by simpa using h)
    rw [show k + (j + 1) = k + 1 + j by omega]
    exact List.mem_cons_of_mem _ this
  | false :: bs, k, j + 1, h => by
    have := refsOf_mem (bs := bs) (k := k + 1) (j := j) (by simpa using h)
    rw [show k + (j + 1) = k + 1 + j by omega]
    exact this
theorem outs_get : ∀ {bs : List Bool} {ρ : Rho} {j : Nat} {y : DO}, (outsOf bs ρ)[j]? = some (some y) → bs[j]? = some true ∧ ρ[j]? = some (some y)
  | [], ρ, j, y, h => by simp [outsOf] at h
  | true :: bs, s :: ρ, 0, y, h => by
    simp [outsOf] at h
    exact ⟨rfl, by simp [h]⟩
  | true :: bs, s :: ρ, j + 1, y, h => by
    obtain ⟨h1, h2⟩ := outs_get (bs := bs) (ρ := ρ) (j := j) (y := y) (by simpa [outsOf] using h)
    exact ⟨by simpa using h1, by simpa using h2⟩
  | false :: bs, s :: ρ, 0, y, h => by simp [outsOf] at h
  | false :: bs, s :: ρ, j + 1, y, h => by
    obtain ⟨h1, h2⟩ := outs_get (bs := bs) (ρ := ρ) (j := j) (y := y) (by simpa [outsOf] using h)
    exact ⟨by simpa using h1, by simpa using h2⟩
  | b :: bs, [], 0, y, h => by cases b <;> simp [outsOf] at h
  | b :: bs, [], j + 1, y, h => by
    have : (outsOf bs [])[j]? = some (some y) := by cases b <;> simpa [outsOf] using h
    obtain ⟨h1, h2⟩ := outs_get this
    simp at h2
/-- what holds of a body's context -/
structure BodyCx (P : Program) (w : World) (K : PySem.W.Frag) (mg : Str → Option Value) (base : Heap) (N : List Str) (sc : Scope) (k : Nat) (X : Cx) : Prop where
  prog : X.prog = P
  w : X.w = w
  K : X.K = K
  mg : X.mg = mg
  base : X.base = base
  N : X.N = N
  nd : X.N.Nodup
  sc : X.env.scope = sc
  calm : X.calm = true
  room : Room k X.A
  gd : X.A.guards = some []
  xe : X.xe = fun _ _ => False
  fnAll : ∀ x, X.fn x = true
theorem fnG_of {P : Program} {w : World} {K : PySem.W.Frag} {mg : Str → Option Value} {base : Heap} {x qual : Str} {st : Stmt} {f : Addr} {fd : FuncData} {N ps : List Str} {k : Nat} {F' : FS} {c : Code} {Φ : Cf} (F : C8.Fun K x qual st f fd) (S : FnScope N ps (C8.fnScope st))
    (hps : ps.length = F'.ref.length) (href : c.ref = F'.ref) (hnp : c.np = ps.length) (hnl : c.nl = N.length) (hrun : ∀ xs r, xs.length = c.np → F'.run xs = some r → c.run Φ xs = some r)
    (hbody : ∀ X : Cx, BodyCx P w K mg base N (C8.fnScope st) k X → JSs X Φ (refsOf 0 c.ref) (C8.fnBody st) c.body) : FnG P w K mg base CX0 (k + 1) f fd ps (spOf K F') := by
  obtain ⟨oc, od, dV, kV, doc, pm, an, cdv, ct, osl, rfl, lk, hcd⟩ := F.ex
  refine ⟨fun vs H Q E h => h.1.trans hps.symm, fun A outer s H args us vs Q E hr hgd e0 hb r hsp => ?_⟩
  have hl : vs.length = ps.length := hsp.1.trans hps.symm
  have KX : K.In s.heap := e0.mod.kin.keeps fun b o e => (e0.bs b o e).1
  have lim : s.heap.NoLimit := e0.mod.nolimit.keeps fun b o e => (e0.bs b o e).1
  have hkind : ∀ y ∈ ps.zip us, (C8.fnScope st).names.lookup y.1 = some .local ∨ ((C8.fnScope st).names.lookup y.1 = some .cell ∧ ((cellsFrom (s.heap.objs.size + 1) (C8.fnScope st).names []).lookup y.1).isSome = true) := fun ⟨n, v⟩ hy => by
    rcases S.par n (List.of_mem_zip hy).1 with q | q
    · exact .inl q
    · exact .inr ⟨q, PySem.W.cellsFrom_some _ _ _ (.inl q)⟩
  refine codeAny_call_function hr.depth (KX _ _ lk) rfl S.co S.gen rfl (PySem.W.codeRec_of KX hcd) (hb _ _ _ _ ?_)
  refine wpAny_newFunctionEnv_cells S.kind hkind fun env he s1 x => ?_
  subst he
  refine ⟨lim.keeps x.toInCall.keep, codeAny_func ?_⟩
  have I : Inv (cxOf CX0 P w K mg base N qual (C8.fnScope st) f cdv A outer s H E) [] (L2.start N vs) H s1 := inv_start S hr.hd e0 hl r x
  have J := hbody (cxOf CX0 P w K mg base N qual (C8.fnScope st) f cdv A outer s H E).nox ⟨rfl, rfl, rfl, rfl, rfl, rfl, S.nd, rfl, rfl, hr.deeper _, hgd, rfl, fun _ => rfl⟩
  have J := PSs.nox J
  obtain ⟨_, Z, Pa, xs, ro, os, hxl, reps, own, erun, kk⟩ := hsp
  have hxl' : xs.length = c.np := by rw [hxl, hl, hnp]
  have ec := hrun xs _ hxl' erun
  unfold Code.run at ec
  obtain ⟨⟨fl, ρ'⟩, eb, ec⟩ := bind_some ec
  have den : Den K H Z (L2.start N vs) (xs.map some ++ List.replicate (c.nl - c.np) none) Pa := fun i d o e => by
    have hi : i < xs.length := by
      by_cases hi : i < xs.length
      · exact hi
      · rw [List.getElem?_append_right (by simpa using hi), List.getElem?_replicate] at e
        split at e <;> cases e
    rw [List.getElem?_append_left (by simpa using hi), List.getElem?_map] at e
    have hv : i < vs.length := by omega
    cases ex : xs[i]? with
    | none => rw [ex] at e; cases e
    | some y =>
      rw [ex] at e
      cases e
      refine ⟨vs[i], ?_, reps i _ _ (List.getElem?_eq_getElem hv) ex⟩
      unfold L2.start
      rw [List.getElem?_append_left (by simpa using hv), List.getElem?_map, List.getElem?_eq_getElem hv]
      rfl
  -- what the references hold behind
  have outs : ∀ {σ' : L2.St} {H' : Hp} {Z' : PS1} {Ls' : Nat → PS1}, Den K H' Z' σ' ρ' Ls' → Kept (refsOf 0 c.ref) (L2.start N vs) σ' → ∀ (j : Nat) u y, vs[j]? = some u → (outsOf c.ref ρ')[j]? = some (some y) → Rep K H' Z' (Ls' j) u y.1 y.2 := by
    intro σ' H' Z' Ls' den' kp j u y hu hy
    obtain ⟨h1, h2⟩ := outs_get hy
    obtain ⟨d, o⟩ := y
    obtain ⟨v, hv, r⟩ := den' j d o h2
    have hj : 0 + j ∈ refsOf 0 c.ref := refsOf_mem h1
    rw [Nat.zero_add] at hj
    rw [kp j hj] at hv
    have hjl : j < vs.length := (List.getElem?_eq_some_iff.mp hu).1
    unfold L2.start at hv
    rw [List.getElem?_append_left (by simpa using hjl), List.getElem?_map, hu] at hv
    cases hv
    exact r
  have fin : ∀ {σ' : L2.St} {H' : Hp} {v : V} {u : Value} {s' : Shared}, Inv (cxOf CX0 P w K mg base N qual (C8.fnScope st) f cdv A outer s H E) [] σ' H' s' → RelV v u → Q v H' → CE outer P w H s Q u s' :=
    fun {σ' H' v u s'} J rv q => ⟨v, H', J.os, J.bare, J.base, J.hok, rv, q⟩
  have stp : ∀ {σ' : L2.St} {ρ'' : Rho} {H' : Hp} {Z' : PS1} {Ls' : Nat → PS1}, Mid K σ' false H Z Pa ρ'' H' Z' Ls' → Stp H Z (LL Pa) H' Z' := fun m => m.stp
  refine wpAny_mono (J.run [] s1 (L2.start N vs) H { nx := fun _ H' => Q .non H', rt := Q } I ⟨Z, Pa, _, fl, ρ', den, own, eb, ?_⟩) (fun fl s' hs => ?_) fun e s' hs => hs
  · cases fl with
    | nx =>
      cases ec
      exact fun σ' H' Z' Ls' m kp => kk _ _ _ noP Ls' (.fz .non) .none (outs m.den kp) m.own m.stp m.new
    | bk => cases ec
    | ct => cases ec
    | rt r =>
      cases ec
      exact fun σ' v H' Z' P Ls' m kp rep ex => kk _ _ _ P Ls' rep ex (outs m.den kp) m.own m.stp m.new
  · cases fl with
    | ret u =>
      obtain ⟨v, σ', H', J, rv, q⟩ := hs
      exact fin J rv q
    | next =>
      obtain ⟨σ', H', J, q⟩ := hs
      exact fin (v := V.non) (u := Value.none) J rfl q
    | brk =>
      obtain ⟨_, _, _, q⟩ := hs
      exact False.elim q
    | cont =>
      obtain ⟨_, _, _, q⟩ := hs
      exact False.elim q
end Ev
/-! Ev 16: the end of a law. -/
namespace Ev
open PySem PySem.Spec PyProof.Rows L2

/-- the law's promise at the script, by data -/
theorem sp_script {K : PySem.W.Frag} {F : FS} {H : Hp} {a : Addr} {ns : List Int} {o : O} {os : List Slot} {E : XK} (href : F.ref = [false]) (hrun : F.run [(.list (ns.map PyData.int), .f)] = some ((.bool true, o), os)) (hS : SqL K H a (ns.map V.int)) :
    spOf K F [.ref a] H (fun v _ => v = .bl true) E := by
  have fl : FL K H (fun _ => False) a (ns.map V.int) := by
    rcases hS with h | h
    · exact .inl ⟨h, fun z => z⟩
    · exact .inr h
  refine ⟨by rw [href]; rfl, fun _ => False, fun _ => noP, [(.list (ns.map PyData.int), .f)], (.bool true, o), os, rfl, fun j v x h1 h2 => ?_, ⟨fun _ _ _ h => h.elim, fun _ _ h => h.elim, fun _ _ h => h.elim⟩, hrun, fun v H' Z' P Po rep _ _ _ _ _ => rep_bool rep⟩
  cases j with
  | zero =>
    simp at h1 h2
    subst h1 h2
    exact .fz (.lst fl (FzAll.ofInts ns))
  | succ j => simp at h1
section
variable {P : Program} {w : World} {K : PySem.W.Frag} {mg mb : Str → Option Value} {k : Nat} {fa a : Addr} {fd : FuncData} {x : Str} {F : FS} {s : Shared} {vs : List Value} {ns : List Int}
/-- the call of law, with H what is tracked of the script -/
theorem law_core (H : Hp) (hH : ∀ b u, H b = some u → b = a ∧ K.lookup a = none ∧ ∃ o xs, u = .frz o (.lst xs)) (hS : SqL K H a (ns.map V.int)) (hok : HOk P w H s.heap)
    (KX : K.In s.heap) (hns : s.heap.Ns mainGlobals mg) (hb : s.heap.Ns builtinsNs mb) (hbb : ∀ x : Str, x ≠ "__name__" → mb x = bootBuiltins x) (hlim : s.heap.NoLimit) (hg : s.gens = #[]) (ha : s.heap.get? a = some { cls := .type "list", data := .seq vs.toArray }) (hr : Room k callerA)
    (G : ∀ base : Heap, K.In base → base.Ns mainGlobals mg → FnG P w K mg base CX0 k fa fd [x] (spOf K F)) (hbind : ∀ (s : Shared) (u : Value), BindsTo s fd ⟨[u], []⟩ [(x, u)]) (href : F.ref = [false]) {o : O} {os : List Slot} (hrun : F.run [(.list (ns.map PyData.int), .f)] = some ((.bool true, o), os)) :
    codeAny (model P w) callerA (.call (.ref fa) ⟨[.ref a], []⟩) (fun r s' => r = .ok (.ret (.bool true)) ∧ OldK s.heap s'.heap ∧ s'.os = s.os ∧ AllBare s'.gens) s := by
  -- an object that is not the script's is the base's
  have stays : ∀ {b : Addr} {u : Obj}, s.heap.get? b = some u → H b = none → (hidT s.heap H).get? b = some u := fun e n => hidT_get e n
  have free : ∀ {b : Addr}, (K.lookup b ≠ none ∨ ∃ (u : Obj) (es : Array DictEntry) (ep : Nat), s.heap.get? b = some u ∧ u.data = .dict es ep) → H b = none := fun {b} hd => by
    cases q : H b with
    | none => rfl
    | some u =>
      obtain ⟨rfl, hk, _⟩ := hH b u q
      rcases hd with hd | ⟨u', es, ep, e, d⟩
      · exact absurd hk hd
      · rw [ha] at e
        cases e
        cases d
  have dictsStay : ∀ {b : Addr} {m : Str → Option Value}, s.heap.Ns b m → (hidT s.heap H).Ns b m := fun {b m} ⟨u, es, ep, e, d, r⟩ => ⟨u, es, ep, stays e (free (.inr ⟨u, es, ep, e, d⟩)), d, r⟩
  have inBase : K.In (hidT s.heap H) := fun b u e => stays (KX b u e) (free (.inl (by rw [e]; exact fun z => nomatch z)))
  have noLimit : (hidT s.heap H).NoLimit := let ⟨mc, h1, h2⟩ := hlim; ⟨mc, dictsStay h1, h2⟩
  have start0 : Env0 P w K mg (hidT s.heap H) callerA [] s H :=
    ⟨rfl, ⟨inBase, dictsStay hns, ⟨mb, dictsStay hb, hbb⟩, noLimit⟩, fun b u e => of_hidT e, Nat.le_of_eq (hidT_size _ _), trivial, fun b hb => (nomatch hb), hok, .of_eq hg⟩
  have run := (G _ inBase (dictsStay hns)).run callerA [] s H ⟨[.ref a], []⟩ [.ref a] [.ref a] (fun v _ => v = .bl true) E0 hr rfl start0 (hbind s (.ref a)) (.cons rfl .nil) (sp_script href hrun hS)
  refine codeAny_mono run fun r s' h => ?_
  match r, h with
  | .error e, h => exact h.elim
  | .ok (.ret u), ⟨v, H', os', bare, un, hok', rv, q⟩ =>
    cases q
    cases rv
    refine ⟨rfl, OldK.of_keep fun b u e => ?_, os', bare⟩
    cases q : H b with
    | none => exact un.keep b u e q (fun z => nomatch z) (by simp)
    | some v =>
      obtain ⟨_, _, o1, xs, rfl⟩ := hH b v q
      have e1 := (hok b _ q).1
      have e2 := (hok' b _ (un.frzs b o1 _ q)).1
      rw [e] at e1
      cases e1
      exact e2
theorem law_callG (KX : K.In s.heap) (hns : s.heap.Ns mainGlobals mg) (hb : s.heap.Ns builtinsNs mb) (hbb : ∀ x : Str, x ≠ "__name__" → mb x = bootBuiltins x) (hlim : s.heap.NoLimit) (hg : s.gens = #[]) (ha : s.heap.get? a = some { cls := .type "list", data := .seq vs.toArray })
    (hi : IntsAre vs ns) (hl : ns.length ≤ sizeLine) (hr : Room k callerA) (G : ∀ base : Heap, K.In base → base.Ns mainGlobals mg → FnG P w K mg base CX0 k fa fd [x] (spOf K F)) (hbind : ∀ (s : Shared) (u : Value), BindsTo s fd ⟨[u], []⟩ [(x, u)]) (href : F.ref = [false])
    {o : O} {os : List Slot} (hrun : F.run [(.list (ns.map PyData.int), .f)] = some ((.bool true, o), os)) :
    codeAny (model P w) callerA (.call (.ref fa) ⟨[.ref a], []⟩) (fun r s' => r = .ok (.ret (.bool true)) ∧ OldK s.heap s'.heap ∧ s'.os = s.os ∧ AllBare s'.gens) s := by
  have rv := vals_ints hi
  cases hk : K.lookup a with
  | some u =>
    have e := KX a u hk
    rw [ha] at e
    cases e
    refine law_core (fun _ => none) (fun b u h => nomatch h) (.inr ⟨_, vs.toArray, _, hk, rfl, rfl, rfl, ?_, by simpa using rv⟩) (fun b u h => nomatch h) KX hns hb hbb hlim hg ha hr G hbind href hrun
    rw [List.size_toArray, hi.length]
    exact hl
  | none =>
    have eq : ∀ {b : Addr} {u : HO}, (if b = a then some (HO.frz { cls := .type "list", data := .seq vs.toArray } (.lst (ns.map V.int))) else none) = some u → b = a ∧ u = .frz { cls := .type "list", data := .seq vs.toArray } (.lst (ns.map V.int)) := fun {b u} h => by
      split at h
      · cases h; exact ⟨by assumption, rfl⟩
      · cases h
    refine law_core (fun b => if b = a then some (.frz { cls := .type "list", data := .seq vs.toArray } (.lst (ns.map V.int))) else none) (fun b u h => ?_) (.inl (.inr ⟨_, if_pos rfl⟩)) (fun b u h => ?_) KX hns hb hbb hlim hg ha hr G hbind href hrun
    · obtain ⟨rfl, rfl⟩ := eq h
      exact ⟨rfl, hk, _, _, rfl⟩
    · obtain ⟨rfl, rfl⟩ := eq h
      exact ⟨ha, by rw [List.length_map]; exact hl, vs, _, rv, ha⟩
end
theorem walk_G {l : PySem.W.OpenLaw} {n k : Nat} {q : Program} {loose : List Str} {XP : (Str → Option Value) → Heap → Prop} {YP : World → Heap → Prop} {d : DefRec} {K : Params → PySem.W.Frag} {F : FS} {x : Str} (hn : l.most = some n) (hn2 : n ≤ sizeLine) (hdf : d.params.defaults = []) (hr : Room k callerA)
    (hY : ∀ (w : World) (h : Heap), YP w h → (K w.params).In h) (href : F.ref = [false]) (hrun : ∀ ns : List Int, ns.length ≤ n → (∀ z ∈ ns, Builtin.Int.intBits z ≤ 1048576) → ∃ o os, F.run [(.list (ns.map PyData.int), .f)] = some ((.bool true, o), os))
    (G : ∀ (w : World) (mg : Str → Option Value) (fa : Addr) (h : Heap), (K w.params).In h → h.Ns mainGlobals mg → mg d.name = some (.ref fa) → ∃ fd : FuncData, (∀ (s : Shared) (u : Value), BindsTo s fd ⟨[u], []⟩ [(x, u)]) ∧
      ∀ base : Heap, (K w.params).In base → base.Ns mainGlobals mg → FnG l.prog w (K w.params) mg base CX0 k fa fd [x] (spOf (K w.params) F)) :
    PySem.W.WalkO q loose XP YP l.row.toRowW d [] (fun f vs => PySem.call f vs) := by
  refine Att.attach_callB hn hdf fun w s₀ s₁ mg mb fa o pm cd doc a vs ns T Y ho hd hcd hmg hobj hints hlen hbits hg => ?_
  obtain ⟨fd, hb, hG⟩ := G w mg fa _ (hY w _ Y) T.T.g hmg
  obtain ⟨o', os', hr'⟩ := hrun ns hlen hbits
  exact law_callG (hY w _ Y) T.T.g T.T.b T.T.builtins T.T.nolimit hg hobj hints (Nat.le_trans hlen hn2) hr hG hb href hr'
end Ev
/-! Ev 17: from the text to the small language; tables, small facts. -/
namespace Ev
open PySem PySem.Spec PyProof.Rows L2

/-- a def in the table: its parameters, which of them by reference, the room it wants; calls by keywords: how many by place, the names, for each parameter the place of its value -/
structure FnI where
  name : Str
  ps : List Str
  ref : List Bool
  lv : Nat
  sigs : List (Nat × List Str × List Nat)
structure Tb where
  N : List Str
  sc : Scope
  fn : Str → Bool
  dl : Bool
  k : Nat
  fns : List FnI
  cs : List Str
  blt : List Str
def ix : List Str → Str → Option Nat
  | [], _ => none
  | y :: r, x => if y = x then some 0 else (ix r x).map (· + 1)
theorem ix_get : ∀ {l : List Str} {x : Str} {i : Nat}, ix l x = some i → l[i]? = some x
  | y :: r, x, i, h => by
    unfold ix at h
    split at h
    · rename_i e
      cases h
      simp [e]
    · obtain ⟨j, e, rfl⟩ := map_some h
      simpa using ix_get e
def fnIx : List FnI → Str → Option (Nat × FnI)
  | [], _ => none
  | f :: r, x => if f.name = x then some (0, f) else (fnIx r x).map fun (i, g) => (i + 1, g)
theorem fnIx_get : ∀ {l : List FnI} {x : Str} {i : Nat} {f : FnI}, fnIx l x = some (i, f) → l[i]? = some f ∧ f.name = x
  | y :: r, x, i, f, h => by
    unfold fnIx at h
    split at h
    · rename_i e
      cases h
      exact ⟨rfl, e⟩
    · obtain ⟨⟨j, g⟩, e, e2⟩ := map_some h
      cases e2
      obtain ⟨h1, h2⟩ := fnIx_get e
      exact ⟨by simpa using h1, h2⟩
def visB (sc : Scope) (x : Str) : Bool := match sc.names.lookup x with
  | some .local => true
  | some .cell => true
  | some .free => true
  | _ => false
theorem visB_ok {sc : Scope} {x : Str} (h : visB sc x = true) : Vis sc x := by
  unfold visB at h
  split at h
  · exact .inl (by assumption)
  · exact .inr (.inl (by assumption))
  · exact .inr (.inr (by assumption))
  · cases h
def glB (sc : Scope) (x : Str) : Bool := match sc.names.lookup x with
  | some .globalImplicit => true
  | _ => false
theorem glB_ok {sc : Scope} {x : Str} (h : glB sc x = true) : sc.names.lookup x = some .globalImplicit := by
  unfold glB at h
  split at h
  · assumption
  · cases h
/-- a name's place for a store -/
def locB (tb : Tb) (x : Str) : Bool := match tb.sc.names.lookup x with
  | some .local => true
  | some .cell => tb.fn x
  | _ => false
def nmB (x : Str) : Bool := !(x == ("__debug__" : Str)) && !(x == ("__classdict__" : Str))
theorem nmB_ok {x : Str} (h : nmB x = true) : (x == ("__debug__" : Str)) = false ∧ (x == ("__classdict__" : Str)) = false := by
  unfold nmB at h
  simpa using h
/-- a def of the table as it stands -/
structure FnFact (P : Program) (w : World) (K : PySem.W.Frag) (mg : Str → Option Value) (base : Heap) (Φ : Cf) (i : Nat) (e : FnI) : Prop where
  ex : ∃ (F : FS) (f : Addr) (fd : FuncData), Φ.fn[i]? = some F ∧ F.ref = e.ref ∧ e.ps.length = e.ref.length ∧ mg e.name = some (.ref f) ∧ PySem.W.keepIn K (.ref f) = true ∧ FnG P w K mg base CX0 e.lv f fd e.ps (spOf K F) ∧ Binds K fd e.ps [] ∧
    (∀ s ∈ e.sigs, KwOk K fd e.ps s.1 s.2.1 s.2.2)
structure CsFact (K : PySem.W.Frag) (mg : Str → Option Value) (Φ : Cf) (i : Nat) (x : Str) : Prop where
  ex : ∃ (u : Value) (v : V) (d : PyData), mg x = some u ∧ RelV v u ∧ Φ.cs[i]? = some d ∧ ∀ H Z, Fz K H Z v d
/-- what holds of a context -/
structure Cok (P : Program) (w : World) (K : PySem.W.Frag) (mg : Str → Option Value) (base : Heap) (Φ : Cf) (tb : Tb) (X : Cx) : Prop where
  hprog : X.prog = P
  hw : X.w = w
  hK : X.K = K
  hmg : X.mg = mg
  hbase : X.base = base
  N : X.N = tb.N
  nd : X.N.Nodup
  sc : X.env.scope = tb.sc
  calm : X.calm = true
  room : Room tb.k X.A
  gd : X.A.guards = some []
  xe : X.xe = fun _ _ => False
  fn : ∀ x, tb.fn x = true → X.fn x = true
  fns : ∀ (i : Nat) e, tb.fns[i]? = some e → FnFact P w K mg base Φ i e
  cs : ∀ (i : Nat) x, tb.cs[i]? = some x → CsFact K mg Φ i x
  blt : ∀ x ∈ tb.blt, mg x = none
section
variable {P : Program} {w : World} {K : PySem.W.Frag} {mg : Str → Option Value} {base : Heap} {Φ : Cf} {tb : Tb} {X : Cx}
theorem Cok.gl (C : Cok P w K mg base Φ tb X) {x : Str} (h : glB tb.sc x = true) : Gl X x := by
  show X.env.scope.names.lookup x = some .globalImplicit
  rw [C.sc]
  exact glB_ok h
theorem Cok.vis (C : Cok P w K mg base Φ tb X) {x : Str} (h : visB tb.sc x = true) : Vis X.env.scope x := by
  rw [C.sc]
  exact visB_ok h
theorem Cok.loc (C : Cok P w K mg base Φ tb X) {x : Str} (h : locB tb x = true) : L2.Loc X.env.scope x ∧ (X.fn x = true ∨ X.env.scope.names.lookup x = some .local) := by
  rw [C.sc]
  unfold locB at h
  split at h
  · rename_i e
    exact ⟨.inl e, .inr e⟩
  · rename_i e
    exact ⟨.inr e, .inl (C.fn x h)⟩
  · cases h
theorem Cok.none (C : Cok P w K mg base Φ tb X) {x : Str} (h : tb.blt.contains x = true) : X.mg x = none := by
  rw [C.hmg]
  exact C.blt x (List.contains_iff_mem.mp h)
end
/-! ### small facts of the text -/
def starB : Expr → Bool
  | .Starred .. => true
  | _ => false
theorem starB_ok {e : Expr} (h : starB e = false) : NoStar e := fun es env => by
  cases e <;> first
    | rfl
    | cases h
def compB : Expr → Bool
  | .ListComp .. => true
  | .SetComp .. => true
  | .DictComp .. => true
  | _ => false
theorem compB_ok {e : Expr} (h : compB e = false) (t : Option Expr) (n : Nat) (env : Env) : swapsWith e t n env = pure false := by
  cases e <;> first
    | rfl
    | cases h
def sliceB : Expr → Bool
  | .Slice .. => true
  | _ => false
theorem sliceB_ok {e : Expr} (h : sliceB e = false) : PlainIx e := fun o i => by
  cases e <;> first
    | rfl
    | cases h
def setB : Expr → Bool
  | .Set .. => true
  | _ => false
theorem setB_ok {e : Expr} (h : setB e = false) (env : Env) (x : Value) : foldedSetIterable e env x = pure x := by
  cases e <;> first
    | rfl
    | cases h
theorem setB_mark {e : Expr} {op : CmpOp} (h : setB e = false) : behindInMarks op e = false := by
  cases e <;> first
    | rfl
    | cases h
def tupB : Expr → Bool
  | .Tuple .. => true
  | .List .. => true
  | _ => false
theorem asgEach {t : Expr} {ts : List Expr} {env : Env} (h : starB t = false) : assignEach (t :: ts) env = (false, assign t env) :: assignEach ts env := by
  cases t <;> first
    | rfl
    | cases h
theorem asg_none : ∀ {ts : List Expr} {env : Env}, (∀ t ∈ ts, starB t = false) → (assignEach ts env).findIdx? (·.1) = none ∧ (assignEach ts env).length = ts.length
  | [], env, _ => ⟨rfl, rfl⟩
  | t :: ts, env, h => by
    obtain ⟨h1, h2⟩ := asg_none (ts := ts) (env := env) fun t ht => h t (List.mem_cons_of_mem _ ht)
    rw [asgEach (h t List.mem_cons_self)]
    exact ⟨by rw [List.findIdx?_cons, h1]; rfl, congrArg (· + 1) h2⟩
/-- an expression whose truth is asked of its value -/
def plainT : Expr → Bool
  | .Name .. => true
  | .Call .. => true
  | .Subscript .. => true
  | .Constant .. => true
  | .BinOp .. => true
  | .Tuple .. => true
  | .List .. => true
  | .ListComp .. => true
  | _ => false
theorem plainT_ok {e : Expr} (h : plainT e = true) (env : Env) (whole : Sem Value) : isTrue e env whole = (do let v ← whole; standAt e.pos; holding [v] (truthy v)) := by
  cases e <;> first
    | rfl
    | cases h
def baseB : Expr → Bool
  | .Name .. => true
  | .Constant .. => true
  | .Subscript .. => true
  | _ => false
theorem baseB_ok {e : Expr} (h : baseB e = true) (n : Str) (env : Env) (whole : Sem Value) : attributeBase e n env whole = whole := by
  cases e <;> first
    | rfl
    | cases h
/-- a type's name -/
theorem pe_tyname {X : Cx} {x : Str} {t : String} {p : Pos} (hg : Gl X x) (hm : X.mg x = none) (hv : bootBuiltins x = some (.type t)) (hn : x ≠ "__name__") (hd : (x == ("__debug__" : Str)) = false) : PE X (.Name x p) (tC (.ty t)) :=
  ⟨fun pins s σ H Q I h => ld_blt I hg hm hv ⟨.ty t, H, I, rfl, h⟩ hn hd⟩
end Ev
/-! Ev 18: expressions to the small language. -/
namespace Ev
open PySem PySem.Spec PyProof.Rows L2

def biE (x : Str) (n : Nat) : Option Bi :=
  if x = "len" then (if n = 1 then some .len else none)
  else if x = "abs" then (if n = 1 then some .abs else none)
  else if x = "int" then (if n = 1 then some .int1 else none)
  else if x = "str" then (if n = 1 then some .str1 else none)
  else if x = "list" then (if n = 1 then some .list1 else none)
  else if x = "tuple" then (if n = 1 then some .tuple1 else none)
  else if x = "all" then (if n = 1 then some .all else none)
  else if x = "any" then (if n = 1 then some .any else none)
  else if x = "sum" then (if n = 1 then some .sum else none)
  else if x = "sorted" then (if n = 1 then some .sorted else none)
  else if x = "repr" then (if n = 1 then some .repr else none)
  else if x = "max" then (if n = 1 then some .max1 else if n = 2 then some .max2 else none)
  else if x = "min" then (if n = 1 then some .min1 else if n = 2 then some .min2 else none)
  else none
def boE : Operator → Option BO
  | .Add => some .add | .Sub => some .sub | .Mult => some .mul | .FloorDiv => some .fdiv | .Mod => some .mod | .LShift => some .shl | .RShift => some .shr | .Pow => some .pow
  | .BitAnd => some .band | .BitOr => some .bor | .BitXor => some .bxor
  | _ => none
def isBoolC : Expr → Bool
  | .Constant (.bool _) _ _ => true
  | _ => false
def coE (op : CmpOp) (b : Expr) : Option CO := match op with
  | .Eq => some .eq | .NotEq => some .ne | .Lt => some .lt | .LtE => some .le | .Gt => some .gt | .GtE => some .ge
  | .Is => some (if isBoolC b then .isB else .isN) | .IsNot => some (if isBoolC b then .notB else .notN) | .In => some .mem | .NotIn => some .nmem
def muE (m : Str) (n : Nat) : Option Mu :=
  if m = "append" then (if n = 1 then some .append else none)
  else if m = "pop" then (if n = 0 then some .pop else if n = 1 then some .popAt else none)
  else if m = "extend" then (if n = 1 then some .extend else none)
  else none
def litE : Const → Option PyData
  | .none => some .none | .bool b => some (.bool b) | .int i => some (.int i) | .str s => some (.str s)
  | _ => none
def tyE (tb : Tb) : Expr → Option String
  | .Name x _ => if glB tb.sc x && tb.blt.contains x then (if x = "int" then some "int" else if x = "bool" then some "bool" else if x = "str" then some "str" else if x = "list" then some "list" else if x = "tuple" then some "tuple" else none) else none
  | _ => none
def tysE (tb : Tb) : List Expr → Option (List String)
  | [] => some []
  | e :: es => (tyE tb e).bind fun t => (tysE tb es).map fun ts => t :: ts
def clsE (tb : Tb) : Expr → Option (List String)
  | .Tuple es _ _ => (tysE tb es).bind fun ts => if ts.length ≤ 5 then some ts else none
  | e => (tyE tb e).map fun t => [t]
def cEs (f : Expr → Option E) : List Expr → Option (List E)
  | [] => some []
  | e :: es => if starB e then none else (f e).bind fun c => (cEs f es).map fun cs => c :: cs
def cKs (f : Expr → Option E) : List Keyword → Option (List Str × List E)
  | [] => some ([], [])
  | ⟨some x, e, _⟩ :: ks => (f e).bind fun c => (cKs f ks).map fun (xs, cs) => (x :: xs, c :: cs)
  | _ => none
/-- a call's arguments, some by reference -/
def cCl (f : Expr → Option E) (tb : Tb) : List Bool → List Expr → Option (List E)
  | [], [] => some []
  | true :: bs, .Name x _ :: es => (ix tb.N x).bind fun i => if visB tb.sc x && nmB x then (cCl f tb bs es).map fun cs => .var i :: cs else none
  | false :: bs, e :: es => if starB e then none else (f e).bind fun c => (cCl f tb bs es).map fun cs => c :: cs
  | _, _ => none
def cG : Nat → Tb → Expr → Option T
  | 0, _, _ => none
  | n + 1, tb, .Name x _ => (ix tb.N x).bind fun i => if locB tb x then some (.name i) else none
  | n + 1, tb, .Tuple es _ _ => if es.any starB then none else (es.mapM (cG n tb)).map .tup
  | _, _, _ => none
/-- a comprehension's own names -/
def ownE (N : List Str) : List (Str × NameKind) → Option (List (Str × Nat))
  | [] => some []
  | (x, .local) :: r => (ownE N r).map fun o => match ix N x with
    | some i => (x, i) :: o
    | none => o
  | (x, .cell) :: r => (ownE N r).map fun o => match ix N x with
    | some i => (x, i) :: o
    | none => o
  | _ :: r => ownE N r
def relS (scope sc : Scope) : Scope := { scope with names := scope.names.map fun (n, k) => if (k == .free && sc.kind == .function && sc.names.lookup n == some .cell) then (n, .cell) else (n, k) }
def Tb.blk (tb : Tb) (scope : Scope) : Tb := { tb with sc := relS scope tb.sc, fn := fun x => scope.names.lookup x == some .cell }
def dealE : List E → Option E
  | [a, b] => some (.deal a b)
  | _ => none
def noneL : E → Bool
  | .lit .none => true
  | _ => false
/-- range(a), set(a): the one argument -/
def rgE (f : Str) (tb : Tb) : List Expr → Option Expr
  | [.Call (.Name y _) [a] [] _] => if glB tb.sc y && (tb.blt.contains y && (decide (y = f) && !starB a)) then some a else none
  | _ => none
mutual
def cE : Nat → Tb → Expr → Option E
  | 0, _, _ => none
  | n + 1, tb, .Name x _ => if nmB x = false then none else if visB tb.sc x then (ix tb.N x).map .var else if glB tb.sc x then (ix tb.cs x).map .cst else none
  | _ + 1, _, .Constant c _ _ => (litE c).map .lit
  | n + 1, tb, .BinOp a op b _ => (boE op).bind fun o => (cE n tb a).bind fun ca => (cE n tb b).map fun cb => .bin o ca cb
  | n + 1, tb, .UnaryOp .USub a _ => (cE n tb a).map .neg
  | n + 1, tb, .UnaryOp .Not a _ => (cE n tb a).map .not_
  | n + 1, tb, .Compare a [op] [b] _ => if setB b then none else (coE op b).bind fun o => (cE n tb a).bind fun ca => (cE n tb b).map fun cb => .cmp o ca cb
  | n + 1, tb, .Compare a [op, op'] [b, c] _ => if setB c then none else (coE op b).bind fun o => (coE op' c).bind fun o' => (cE n tb a).bind fun ca => (cE n tb b).bind fun cb => (cE n tb c).map fun cc => .cmp2 o o' ca cb cc
  | n + 1, tb, .BoolOp .And [a] _ => cE n tb a
  | n + 1, tb, .BoolOp .Or [a] _ => cE n tb a
  | n + 1, tb, .BoolOp .And (a :: b :: r) p => (cE n tb a).bind fun ca => (cE n tb (.BoolOp .And (b :: r) p)).map fun cb => .and_ ca cb
  | n + 1, tb, .BoolOp .Or (a :: b :: r) p => (cE n tb a).bind fun ca => (cE n tb (.BoolOp .Or (b :: r) p)).map fun cb => .or_ ca cb
  | n + 1, tb, .IfExp c a b _ => (cT n tb c).bind fun cc => (cE n tb a).bind fun ca => (cE n tb b).map fun cb => .ite cc ca cb
  | n + 1, tb, .Tuple es _ _ => (cEs (cE n tb) es).map .tup
  | n + 1, tb, .List es _ => if tb.dl && decide (es.length = 2) then (cEs (cE n tb) es).bind dealE else (cEs (cE n tb) es).map .lst
  | n + 1, tb, .Subscript a (.Slice lo hi st _) _ => (cE n tb a).bind fun ca => match lo, hi, st with
    | none, none, some (.UnaryOp .USub (.Constant (.int 1) _ _) _) => some (.rev ca)
    | lo, hi, none => (cO n tb lo).bind fun cl => (cO n tb hi).map fun ch => .slice ca cl ch
    | _, _, _ => none
  | n + 1, tb, .Subscript a i _ => if sliceB i then none else (cE n tb a).bind fun ca => (cE n tb i).map fun ci => .idx ca ci
  | n + 1, tb, .Call (.Name x _) args kws _ => if glB tb.sc x = false || nmB x = false then none else match fnIx tb.fns x with
    | some (j, f) => if tb.k < f.lv then none else (match kws with
      | [] => (cCl (cE n tb) tb f.ref args).map fun cs => .call j cs
      | kws => (cEs (cE n tb) args).bind fun cs => (cKs (cE n tb) kws).bind fun (ks, ds) => (f.sigs.find? fun s => s.1 == cs.length && s.2.1 == ks).bind fun s => if s.2.2.length = f.ref.length then some (.callK j s.2.2 cs ds) else none)
    | none => if tb.blt.contains x = false then none else (match kws with
      | [] => if x = "isinstance" then (match args with
          | [a, e] => if starB a || starB e then none else (clsE tb e).bind fun ts => (cE n tb a).map fun ca => .bi (.isi ts) [ca]
          | _ => none)
        else (match (if x = "list" then rgE "range" tb args else none) with
          | some a => (cE n tb a).map fun ca => .bi .range2 [ca]
          | none => match (if x = "sorted" then rgE "set" tb args else none) with
          | some a => (cE n tb a).map fun ca => .bi .set0 [ca]
          | none => match args with
          | [] => none
          | a :: as => (biE x (as.length + 1)).bind fun b => (cEs (cE n tb) (a :: as)).map fun cs => .bi b cs)
      | _ => none)
  | n + 1, tb, .Call (.Attribute o m ap) args [] cp => if (ap.endLine == cp.line) = false || decide (20 ≤ args.length) then none else
      if m = "join" then (if baseB o = false then none else match args with
        | [a] => (cE n tb o).bind fun co => (cEs (cE n tb) [a]).map fun cs => .meth .join co cs
        | _ => none)
      else if m = "upper" then (if baseB o = false then none else match args with
        | [] => (cE n tb o).map fun co => .meth .upper co []
        | _ => none)
      else (muE m args.length).bind fun mu => match o with
        | .Name x _ => if visB tb.sc x && nmB x then (ix tb.N x).bind fun i => (cEs (cE n tb) args).map fun cs => .mut mu i cs else none
        | .Subscript (.Name x _) (.Constant (.int 0) _ _) _ => if visB tb.sc x && nmB x then (ix tb.N x).bind fun i => (cEs (cE n tb) args).map fun cs => .gmut mu i cs else none
        | _ => none
  | n + 1, tb, .ListComp elt [⟨tg, iter, ifs, asy⟩] scope _ => if asy ≠ 0 then none else (cI n tb tg iter).bind fun it => (ownE tb.N scope.names).bind fun (own : List (Str × Nat)) => if setB iter || !blkC tb.N tb.sc scope own then none else
      (cG n (tb.blk scope) tg).bind fun t => if t.slots.all (fun i => (own.map fun (p : Str × Nat) => p.2).contains i) = false then none else
      (match ifs with
        | [] => (some (.lit (.bool true)) : Option E)
        | [c] => cT n (tb.blk scope) c
        | _ => none).bind fun cc => (cE n (tb.blk scope) elt).map fun ce => .comp ce t it cc (own.map fun (p : Str × Nat) => p.2)
  | _ + 1, _, _ => none
def cO : Nat → Tb → Option Expr → Option E
  | _, _, none => some (.lit .none)
  | n + 1, tb, some e => (cE n tb e).bind fun c => if noneL c then none else some c
  | 0, _, some _ => none
def cT : Nat → Tb → Expr → Option E
  | 0, _, _ => none
  | n + 1, tb, .UnaryOp .Not a _ => (cT n tb a).map .not_
  | n + 1, tb, .Compare a [op] [b] _ => if setB b then none else (coE op b).bind fun o => (cE n tb a).bind fun ca => (cE n tb b).map fun cb => .cmp o ca cb
  | n + 1, tb, .Compare a [op, op'] [b, c] _ => if setB c then none else (coE op b).bind fun o => (coE op' c).bind fun o' => (cE n tb a).bind fun ca => (cE n tb b).bind fun cb => (cE n tb c).map fun cc => .cmp2 o o' ca cb cc
  | n + 1, tb, .BoolOp .And [a] _ => cT n tb a
  | n + 1, tb, .BoolOp .Or [a] _ => cT n tb a
  | n + 1, tb, .BoolOp .And (a :: b :: r) p => (cT n tb a).bind fun ca => (cT n tb (.BoolOp .And (b :: r) p)).map fun cb => .and_ ca cb
  | n + 1, tb, .BoolOp .Or (a :: b :: r) p => (cT n tb a).bind fun ca => (cT n tb (.BoolOp .Or (b :: r) p)).map fun cb => .or_ ca cb
  | n + 1, tb, e => if plainT e then (cE n tb e).map .truth else none
def cI : Nat → Tb → Expr → Expr → Option It
  | 0, _, _, _ => none
  | n + 1, tb, tg, .Call (.Name x p) args kws pos => if glB tb.sc x && tb.blt.contains x && decide (x = "range") then (match kws, args with
      | [], [a] => if starB a then none else (cE n tb a).map fun ca => .range (.lit (.int 0)) ca
      | [], [a, b] => if starB a || starB b then none else (cE n tb a).bind fun ca => (cE n tb b).map fun cb => .range ca cb
      | _, _ => none)
    else if glB tb.sc x && tb.blt.contains x && decide (x = "enumerate") then (match tg, kws, args with
      | .Tuple .., [], [a] => if starB a then none else (cE n tb a).map .enum
      | _, _, _ => none)
    else if glB tb.sc x && tb.blt.contains x && decide (x = "zip") then (match tg, kws, args with
      | .Tuple .., [], [a, b] => if starB a || starB b then none else (cE n tb a).bind fun ca => (cE n tb b).map fun cb => .zip ca cb
      | _, _, _ => none)
    else (cE n tb (.Call (.Name x p) args kws pos)).map .seq
  | n + 1, tb, _, e => (cE n tb e).map .seq
end
end Ev
/-! Ev 19: what the small language's expression does is what the text's does. -/
namespace Ev
open PySem PySem.Spec PyProof.Rows L2

theorem any_star : ∀ {es : List Expr}, es.any starB = false → ∀ e ∈ es, starB e = false
  | [], _, e, h => by cases h
  | a :: es, h, e, he => by
    simp only [List.any_cons, Bool.or_eq_false_iff] at h
    rcases List.mem_cons.mp he with rfl | he
    · exact h.1
    · exact any_star h.2 e he
section
variable {P : Program} {w : World} {K : PySem.W.Frag} {mg : Str → Option Value} {base : Heap} {Φ : Cf} {tb : Tb} {X : Cx}
/-! ### lists -/
theorem cEs_cons {f : Expr → Option E} {e : Expr} {es : List Expr} {cs : List E} (h : cEs f (e :: es) = some cs) : ∃ c cs', starB e = false ∧ f e = some c ∧ cEs f es = some cs' ∧ cs = c :: cs' := by
  unfold cEs at h
  split at h
  · cases h
  · rename_i hs
    obtain ⟨c, e1, h⟩ := bind_some h
    obtain ⟨cs', e2, rfl⟩ := map_some h
    exact ⟨c, cs', by simpa using hs, e1, e2, rfl⟩
theorem cEs_ok {f : Expr → Option E} (hf : ∀ e c, f e = some c → JE X Φ e c) : ∀ {es : List Expr} {cs : List E}, cEs f es = some cs → JA X Φ es cs ∧ JP X Φ es cs ∧ JM X Φ es cs ∧ NoStars es ∧ cs.length = es.length
  | [], cs, h => by
    cases h
    exact ⟨ja_nil, jp_nil, jm_nil, .nil, rfl⟩
  | e :: es, cs, h => by
    obtain ⟨c, cs', hs, e1, e2, rfl⟩ := cEs_cons h
    obtain ⟨a1, a2, a3, a4, a5⟩ := cEs_ok hf e2
    have s := starB_ok hs
    exact ⟨ja_cons s (hf _ _ e1) a1, jp_cons s (hf _ _ e1) a2, jm_cons s (hf _ _ e1) a3, .cons s a4, congrArg (· + 1) a5⟩
theorem cKs_ok {f : Expr → Option E} (hf : ∀ e c, f e = some c → JE X Φ e c) : ∀ {kws : List Keyword} {ks : List Str} {cs : List E}, cKs f kws = some (ks, cs) → JK X Φ kws cs ∧ ks.length = cs.length ∧
    ∀ pos env, (backToKw pos (keywordEach kws env)).all (·.1.isSome) = true ∧ (backToKw pos (keywordEach kws env)).filterMap (·.1) = ks ∧ (backToKw pos (keywordEach kws env)).any (·.1.isNone) = false
  | [], ks, cs, h => by
    cases h
    exact ⟨jk_nil, rfl, fun _ _ => ⟨rfl, rfl, rfl⟩⟩
  | ⟨some x, e, p⟩ :: kws, ks, cs, h => by
    unfold cKs at h
    obtain ⟨c, e1, h⟩ := bind_some h
    obtain ⟨⟨xs, cs'⟩, e2, h⟩ := map_some h
    cases h
    obtain ⟨a1, a2, a3⟩ := cKs_ok hf e2
    refine ⟨jk_cons (hf _ _ e1) a1, congrArg (· + 1) a2, fun pos env => ?_⟩
    obtain ⟨b1, b2, b3⟩ := a3 pos env
    refine ⟨?_, ?_, ?_⟩
    · show (true && (backToKw pos (keywordEach kws env)).all (·.1.isSome)) = true
      rw [b1]
      rfl
    · show x :: (backToKw pos (keywordEach kws env)).filterMap (·.1) = x :: xs
      rw [b2]
    · show (false || (backToKw pos (keywordEach kws env)).any (·.1.isNone)) = false
      rw [b3]
      rfl
  | ⟨none, e, p⟩ :: kws, ks, cs, h => by
    unfold cKs at h
    cases h
theorem cCl_ok (C : Cok P w K mg base Φ tb X) {f : Expr → Option E} (hf : ∀ e c, f e = some c → JE X Φ e c) : ∀ {bs : List Bool} {es : List Expr} {cs : List E}, cCl f tb bs es = some cs → JCl X Φ bs es cs ∧ NoStars es ∧ es.length = bs.length ∧ ∀ e r, es = e :: r → NoStar e
  | [], [], cs, h => by
    cases h
    exact ⟨jcl_nil, .nil, rfl, fun _ _ h => nomatch h⟩
  | false :: bs, e :: es, cs, h => by
    unfold cCl at h
    split at h
    · cases h
    · rename_i hs
      obtain ⟨c, e1, h⟩ := bind_some h
      obtain ⟨cs', e2, rfl⟩ := map_some h
      obtain ⟨a1, a2, a3, _⟩ := cCl_ok C hf e2
      have s := starB_ok (by simpa using hs)
      exact ⟨jcl_val s (hf _ _ e1) a1, .cons s a2, congrArg (· + 1) a3, fun e' r h => by cases h; exact s⟩
  | true :: bs, e :: es, cs, h => by
    cases e with
    | Name x p =>
      unfold cCl at h
      obtain ⟨i, e1, h⟩ := bind_some h
      split at h
      · rename_i hv
        obtain ⟨h1, h2⟩ := andq hv
        obtain ⟨cs', e2, rfl⟩ := map_some h
        obtain ⟨a1, a2, a3, _⟩ := cCl_ok C hf e2
        have s : NoStar (.Name x p) := fun _ _ => rfl
        obtain ⟨n1, n2⟩ := nmB_ok h2
        exact ⟨jcl_ref (by rw [C.N]; exact ix_get e1) (C.vis h1) n1 n2 a1, .cons s a2, congrArg (· + 1) a3, fun e' r h => by cases h; exact s⟩
      · cases h
    | _ => unfold cCl at h; cases h
  | [], e :: es, cs, h => by unfold cCl at h; cases h
  | true :: bs, [], cs, h => by unfold cCl at h; cases h
  | false :: bs, [], cs, h => by unfold cCl at h; cases h
/-! ### targets -/
theorem cG_ok : ∀ (n : Nat) {tb : Tb} {X : Cx} (C : Cok P w K mg base Φ tb X) {e : Expr} {t : T}, cG n tb e = some t → JG X e t
  | 0, _, _, _, _, _, h => by cases h
  | n + 1, tb, X, C, e, t, h => by
    cases e with
    | Name x p =>
      unfold cG at h
      obtain ⟨i, e1, h⟩ := bind_some h
      split at h
      · rename_i hl
        cases h
        obtain ⟨l1, l2⟩ := C.loc hl
        exact jg_name C.nd (by rw [C.N]; exact ix_get e1) l1 l2
      · cases h
    | Tuple es kk p =>
      unfold cG at h
      split at h
      · cases h
      · rename_i hs
        obtain ⟨ts, e1, rfl⟩ := map_some h
        have hs := any_star (by simpa using hs)
        have go : ∀ {es : List Expr} {ts : List T}, (∀ e ∈ es, starB e = false) → es.mapM (cG n tb) = some ts → JGs X es ts ∧ ts.length = es.length := by
          intro es
          induction es with
          | nil => intro ts _ e; cases e; exact ⟨jgs_nil, rfl⟩
          | cons a es ih =>
            intro ts hs e
            rw [List.mapM_cons] at e
            obtain ⟨t, e1, e⟩ := bind_some e
            obtain ⟨ts', e2, e⟩ := bind_some e
            cases e
            obtain ⟨b1, b2⟩ := ih (fun e he => hs e (List.mem_cons_of_mem _ he)) e2
            refine ⟨jgs_cons (cG_ok n C e1) b1 ?_, congrArg (· + 1) b2⟩
            rw [asgEach (hs a List.mem_cons_self)]
            rfl
        obtain ⟨g1, g2⟩ := go hs e1
        obtain ⟨n1, n2⟩ := asg_none (env := X.env) hs
        exact jg_tup C.calm g1 n2 n1 g2
    | _ => unfold cG at h; cases h
/-! ### a comprehension's block -/
theorem Cok.blk (C : Cok P w K mg base Φ tb X) (scope : Scope) (s : Shared) (H : Hp) (Ca : Addr) (cl : List (Str × Addr)) (fp : List Addr) : Cok P w K mg base Φ (tb.blk scope) (X.blk s H scope (compEnvC scope cl Ca X.env) fp) where
  hprog := C.hprog
  hw := C.hw
  hK := C.hK
  hmg := C.hmg
  hbase := C.hbase
  N := C.N
  nd := C.nd
  sc := by
    show relabel scope X.env = relS scope tb.sc
    rw [← C.sc]
    rfl
  calm := C.calm
  room := C.room
  gd := C.gd
  xe := rfl
  fn := fun _ h => h
  fns := C.fns
  cs := C.cs
  blt := C.blt
theorem boE_ok {op : Operator} {o : BO} (h : boE op = some o) {a b : Expr} {ca cb : E} {pos : Pos} (ja : JE X Φ a ca) (jb : JE X Φ b cb) : JE X Φ (.BinOp a op b pos) (.bin o ca cb) := by
  cases op <;> first
    | (cases h; exact je_add ja jb)
    | (cases h; exact je_sub ja jb)
    | (cases h; exact je_mul ja jb)
    | (cases h; exact je_fdiv ja jb)
    | (cases h; exact je_mod ja jb)
    | (cases h; exact je_shl ja jb)
    | (cases h; exact je_shr ja jb)
    | (cases h; exact je_pow ja jb)
    | (cases h; exact je_band ja jb)
    | (cases h; exact je_bor ja jb)
    | (cases h; exact je_bxor ja jb)
    | cases h
theorem coE_ok {op : CmpOp} {b : Expr} {o : CO} (hu : X.A.units + 65 < cLine) (h : coE op b = some o) : JC X Φ op o := by
  unfold coE at h
  cases op with
  | Eq => cases h; exact jc_eq (by omega)
  | NotEq => cases h; exact jc_ne (by omega)
  | Lt => cases h; exact jc_lt
  | LtE => cases h; exact jc_le
  | Gt => cases h; exact jc_gt
  | GtE => cases h; exact jc_ge
  | Is =>
    cases hb : isBoolC b with
    | true => rw [hb] at h; cases h; exact jc_isB
    | false => rw [hb] at h; cases h; exact jc_isN
  | IsNot =>
    cases hb : isBoolC b with
    | true => rw [hb] at h; cases h; exact jc_notB
    | false => rw [hb] at h; cases h; exact jc_notN
  | In => cases h; exact jc_in hu
  | NotIn => cases h; exact jc_notin hu
theorem litE_ok {c : Const} {d : PyData} {j : Nat} {pos : Pos} (h : litE c = some d) : JE X Φ (.Constant c j pos) (.lit d) := by
  cases c <;> first
    | (cases h; exact je_none)
    | (cases h; exact je_bool)
    | (cases h; exact je_int)
    | (cases h; exact je_str)
    | cases h
theorem ite_some {α : Type} {p : Prop} [Decidable p] {a b : Option α} {r : α} (h : (if p then a else b) = some r) : (p ∧ a = some r) ∨ (¬ p ∧ b = some r) := by
  by_cases hp : p
  · rw [if_pos hp] at h
    exact .inl ⟨hp, h⟩
  · rw [if_neg hp] at h
    exact .inr ⟨hp, h⟩
theorem ite_one {α : Type} {p : Prop} [Decidable p] {a : α} {r : α} (h : (if p then some a else none) = some r) : a = r := by
  rcases ite_some h with ⟨_, h⟩ | ⟨_, h⟩
  · exact Option.some.inj h
  · cases h
theorem biE_ok (C : Cok P w K mg base Φ tb X) {x : Str} {e : Expr} {es : List Expr} {cs : List E} {b : Bi} {p pos : Pos} (h : biE x (es.length + 1) = some b) (hg : Gl X x) (hm : X.mg x = none) (ha : JP X Φ (e :: es) cs) (s1 : NoStar e) (s2 : NoStars es) : JE X Φ (.Call (.Name x p) (e :: es) [] pos) (.bi b cs) := by
  have hu := C.room.units
  have hc := C.calm
  unfold biE at h
  rcases ite_some h with ⟨ex, g1⟩ | ⟨_, h1⟩
  · subst ex
    cases ite_one g1
    exact je_bi cr_len len_ok hg hm PySem.boot_len (by decide +kernel) (by decide +kernel) ha s1 s2
  rcases ite_some h1 with ⟨ex, g2⟩ | ⟨_, h2⟩
  · subst ex
    cases ite_one g2
    exact je_bi cr_abs abs_ok hg hm PyProof.Rows.boot_abs (by decide +kernel) (by decide +kernel) ha s1 s2
  rcases ite_some h2 with ⟨ex, g3⟩ | ⟨_, h3⟩
  · subst ex
    cases ite_one g3
    exact je_biT cr_int int_ok hg hm PyProof.Rows.boot_int (by decide +kernel) (by decide +kernel) ha s1 s2
  rcases ite_some h3 with ⟨ex, g4⟩ | ⟨_, h4⟩
  · subst ex
    cases ite_one g4
    exact je_biT cr_str str_ok hg hm PyProof.Rows.boot_str (by decide +kernel) (by decide +kernel) ha s1 s2
  rcases ite_some h4 with ⟨ex, g5⟩ | ⟨_, h5⟩
  · subst ex
    cases ite_one g5
    exact je_biT cr_list list_ok hg hm PyProof.Rows.boot_list (by decide +kernel) (by decide +kernel) ha s1 s2
  rcases ite_some h5 with ⟨ex, g6⟩ | ⟨_, h6⟩
  · subst ex
    cases ite_one g6
    exact je_biT cr_tuple tuple_ok hg hm PyProof.Rows.boot_tuple (by decide +kernel) (by decide +kernel) ha s1 s2
  rcases ite_some h6 with ⟨ex, g7⟩ | ⟨_, h7⟩
  · subst ex
    cases ite_one g7
    exact je_bi (cr_allE hc) all_ok hg hm PyProof.Rows.boot_all (by decide +kernel) (by decide +kernel) ha s1 s2
  rcases ite_some h7 with ⟨ex, g8⟩ | ⟨_, h8⟩
  · subst ex
    cases ite_one g8
    exact je_bi (cr_anyE hc) any_ok hg hm PyProof.Rows.boot_any (by decide +kernel) (by decide +kernel) ha s1 s2
  rcases ite_some h8 with ⟨ex, g9⟩ | ⟨_, h9⟩
  · subst ex
    cases ite_one g9
    exact je_bi (cr_sumE hc) sum_ok hg hm PyProof.Rows.boot_sum (by decide +kernel) (by decide +kernel) ha s1 s2
  rcases ite_some h9 with ⟨ex, g10⟩ | ⟨_, h10⟩
  · subst ex
    cases ite_one g10
    exact je_bi cr_sortedE sorted_ok hg hm PyProof.Rows.boot_sorted (by decide +kernel) (by decide +kernel) ha s1 s2
  rcases ite_some h10 with ⟨ex, g11⟩ | ⟨_, h11⟩
  · subst ex
    cases ite_one g11
    exact je_bi (cr_repr C.gd hu) repr_ok hg hm PyProof.Rows.boot_repr (by decide +kernel) (by decide +kernel) ha s1 s2
  rcases ite_some h11 with ⟨ex, g12⟩ | ⟨_, h12⟩
  · subst ex
    rcases ite_some g12 with ⟨_, k1⟩ | ⟨_, k1⟩
    · cases k1
      exact je_bi (cr_maxE hc) max_ok hg hm PyProof.Rows.boot_max (by decide +kernel) (by decide +kernel) ha s1 s2
    · cases ite_one k1
      exact je_bi (cr_max2 hc) max2_ok hg hm PyProof.Rows.boot_max (by decide +kernel) (by decide +kernel) ha s1 s2
  rcases ite_some h12 with ⟨ex, g13⟩ | ⟨_, h13⟩
  · subst ex
    rcases ite_some g13 with ⟨_, k1⟩ | ⟨_, k1⟩
    · cases k1
      exact je_bi (cr_minE hc) min_ok hg hm PyProof.Rows.boot_min (by decide +kernel) (by decide +kernel) ha s1 s2
    · cases ite_one k1
      exact je_bi (cr_min2 hc) min2_ok hg hm PyProof.Rows.boot_min (by decide +kernel) (by decide +kernel) ha s1 s2
  cases h13
theorem tyE_ok (C : Cok P w K mg base Φ tb X) {e : Expr} {t : String} (h : tyE tb e = some t) : PE X e (tC (.ty t)) ∧ isTy t = true ∧ NoStar e := by
  cases e with
  | Name x p =>
    have h : (if (glB tb.sc x && tb.blt.contains x) = true then (if x = "int" then some "int" else if x = "bool" then some "bool" else if x = "str" then some "str" else if x = "list" then some "list" else if x = "tuple" then some "tuple" else none) else none) = some t := h
    rcases ite_some h with ⟨hg, h⟩ | ⟨_, h⟩
    · obtain ⟨h1, h2⟩ := andq hg
      have hg := C.gl h1
      have hm := C.none h2
      rcases ite_some h with ⟨ex, h⟩ | ⟨_, h⟩
      · subst ex
        cases h
        exact ⟨pe_tyname hg hm (by decide +kernel) (by decide +kernel) (by decide +kernel), by decide +kernel, fun _ _ => rfl⟩
      rcases ite_some h with ⟨ex, h⟩ | ⟨_, h⟩
      · subst ex
        cases h
        exact ⟨pe_tyname hg hm (by decide +kernel) (by decide +kernel) (by decide +kernel), by decide +kernel, fun _ _ => rfl⟩
      rcases ite_some h with ⟨ex, h⟩ | ⟨_, h⟩
      · subst ex
        cases h
        exact ⟨pe_tyname hg hm (by decide +kernel) (by decide +kernel) (by decide +kernel), by decide +kernel, fun _ _ => rfl⟩
      rcases ite_some h with ⟨ex, h⟩ | ⟨_, h⟩
      · subst ex
        cases h
        exact ⟨pe_tyname hg hm (by decide +kernel) (by decide +kernel) (by decide +kernel), by decide +kernel, fun _ _ => rfl⟩
      rcases ite_some h with ⟨ex, h⟩ | ⟨_, h⟩
      · subst ex
        cases h
        exact ⟨pe_tyname hg hm (by decide +kernel) (by decide +kernel) (by decide +kernel), by decide +kernel, fun _ _ => rfl⟩
      cases h
    · cases h
  | _ => cases h
theorem tysE_ok (C : Cok P w K mg base Φ tb X) : ∀ {es : List Expr} {ts : List String}, tysE tb es = some ts → PA X es (fun σ H Q => Q (ts.map V.ty) H) ∧ ∀ t ∈ ts, isTy t = true
  | [], ts, h => by
    cases h
    exact ⟨PA.weak pa_nil fun _ _ _ h => h, fun t ht => by cases ht⟩
  | e :: es, ts, h => by
    unfold tysE at h
    obtain ⟨t, e1, h⟩ := bind_some h
    obtain ⟨ts', e2, rfl⟩ := map_some h
    obtain ⟨a1, a2, a3⟩ := tyE_ok C e1
    obtain ⟨b1, b2⟩ := tysE_ok C e2
    refine ⟨PA.weak (pa_cons a1 b1 (a3 _ _)) fun _ _ _ h => h, fun t ht => ?_⟩
    rcases List.mem_cons.mp ht with rfl | ht
    · exact a2
    · exact b2 t ht
theorem clsE_ok (C : Cok P w K mg base Φ tb X) {e : Expr} {ts : List String} (h : clsE tb e = some ts) : ∃ tu, ClsE X e ts tu ∧ ∀ t ∈ ts, isTy t = true := by
  cases e with
  | Tuple es kk p =>
    unfold clsE at h
    obtain ⟨ts', e1, h⟩ := bind_some h
    split at h
    · rename_i hl
      cases h
      obtain ⟨a, b⟩ := tysE_ok C e1
      exact ⟨true, .tup a (fun _ _ => rfl) hl, b⟩
    · cases h
  | Name x p =>
    unfold clsE at h
    obtain ⟨t, e1, rfl⟩ := map_some h
    obtain ⟨a1, a2, a3⟩ := tyE_ok C e1
    exact ⟨false, .one a1 a3, fun t' ht => by
      have : t' = t := by simpa using ht
      rw [this]; exact a2⟩
  | _ => (unfold clsE at h; obtain ⟨t, e1, _⟩ := map_some h; cases e1)
/-- f() -/
theorem je_call0 {F : FS} {n k : Nat} {f : Addr} {fd : FuncData} {ps : List Str} {x : Str} {p pos : Pos} (hF : Φ.fn[n]? = some F) (hr0 : F.ref = []) (G : FnG X.prog X.w X.K X.mg X.base CX0 k f fd ps (spOf X.K F)) (hr : Room k X.A) (hgd : X.A.guards = some []) (hg : Gl X x)
    (hm : X.mg x = some (.ref f)) (hk : PySem.W.keepIn X.K (.ref f) = true) (hb : Binds X.K fd ps []) (hdb : (x == ("__debug__" : Str)) = false) : JE X Φ (.Call (.Name x p) [] [] pos) (.call n []) := by
  intro pk
  refine PE.weak (pe_callG0 (E := E0) G hr hgd hg hm hk hb pass0 hdb) fun σ H Q ⟨Z, Ls, ρ, r, ρ', den, own, e, k⟩ => ?_
  have hmask : Φ.mask n = F.ref := by unfold Cf.mask; rw [hF]
  have hpure : Φ.pure n = F.ref.all (!·) := by unfold Cf.pure; rw [hF]
  simp only [ev, hmask, hr0] at e
  obtain ⟨⟨ds, ρ1⟩, ea, e⟩ := bind_some e
  simp only [evc] at ea
  cases ea
  unfold callSem at e
  rw [hF] at e
  simp only [hr0] at e
  obtain ⟨⟨xs, ρt⟩, et, e⟩ := bind_some e
  obtain ⟨⟨r', os⟩, er, e⟩ := bind_some e
  obtain ⟨ρ2, eg, e⟩ := map_some e
  cases e
  refine call_post (E := E0) (F := F) (es := []) (vs := []) (q0 := true) (pk := pk) (.refl den own) (by rw [hr0]; exact .nil) (by rw [hr0]; exact et) er (by rw [hr0]; exact eg) fun w H' po => k w H' ?_
  have hq : E.quiet Φ (.call n []) = (F.ref.all (!·) && true) := by rw [← hpure]; rfl
  rw [hq]
  exact po
theorem fz_map {α : Type} {K : PySem.W.Frag} {H : Hp} {Z : PS1} {f : α → V} {g : α → PyData} (h : ∀ a, Fz K H Z (f a) (g a)) : ∀ l : List α, FzAll K H Z (l.map f) (l.map g)
  | [] => .nil
  | a :: l => .cons (h a) (fz_map h l)
/-- list(range(n)) -/
theorem je_listRg {a : Expr} {ca : E} {p p2 pos pos2 : Pos} (hc : X.calm = true) (hg : Gl X "list") (hm : X.mg "list" = none) (hg2 : Gl X "range") (hm2 : X.mg "range" = none) (s1 : NoStar a) (ja : JE X Φ a ca) : JE X Φ (.Call (.Name "list" p) [.Call (.Name "range" p2) [a] [] pos2] [] pos) (.bi .range2 [ca]) := by
  intro pk
  refine PE.weak (pe_listRg hc hg hm (prg_1 hg2 hm2 (ja true) (s1 _ _)) rfl) fun σ H Q ⟨Z, Ls, ρ, r, ρ', den, own, e, k⟩ => ?_
  simp only [ev, evp, quiets] at e
  obtain ⟨⟨xs, ρ1⟩, eq1, e⟩ := bind_some e
  obtain ⟨⟨x, ρ2⟩, ea, eb⟩ := bind_some eq1
  cases eb
  obtain ⟨w, ew, e⟩ := map_some e
  cases e
  refine ⟨Z, Ls, ρ, x, _, den, own, ea, fun v H1 ⟨Z1, P1, Ls1, m1, r1, _⟩ => ?_⟩
  have ew : (intD x.1).bind (fun n => chk (-(2 ^ 62) ≤ n ∧ n ≤ 2 ^ 24) ((.list (rangeD 0 n.toNat), .l) : DO)) = some r := ew
  obtain ⟨n, en, ew⟩ := bind_some ew
  obtain ⟨⟨b1, b2⟩, rfl⟩ := chk_some ew
  rw [intD_some en] at r1
  refine ⟨n, rep_int r1, ⟨by decide, by decide, b1, by omega, by omega⟩, fun q hq => k _ _ (post_lst (m1.less fun z => (andq z).1) ?_ hq)⟩
  have : (n - 0).toNat = n.toNat := by rw [Int.sub_zero]
  unfold rgV rangeD
  rw [this]
  exact fz_map (fun i => .int _) _
theorem insU_mem (x : Int) : ∀ (l : List Int) (k : Int), k ∈ insU x l ↔ k = x ∨ k ∈ l
  | [], k => by simp [insU]
  | y :: r, k => by
    unfold insU
    split
    · simp
    · split
      · rename_i h
        subst h
        simp
      · have := insU_mem x r k
        simp only [List.mem_cons, this]
        constructor
        · rintro (h | h | h)
          · exact .inr (.inl h)
          · exact .inl h
          · exact .inr (.inr h)
        · rintro (h | h | h)
          · exact .inr (.inl h)
          · exact .inl h
          · exact .inr (.inr h)
theorem insU_sorted (x : Int) : ∀ l : List Int, l.Pairwise (· < ·) → (insU x l).Pairwise (· < ·)
  | [], _ => by simp [insU]
  | y :: r, h => by
    unfold insU
    have h1 := List.pairwise_cons.mp h
    split
    · rename_i hx
      refine List.pairwise_cons.mpr ⟨fun k hk => ?_, h⟩
      rcases List.mem_cons.mp hk with e | hk
      · rw [e]; exact hx
      · exact Int.lt_trans hx (h1.1 k hk)
    · split
      · exact h
      · rename_i hx hxy
        refine List.pairwise_cons.mpr ⟨fun k hk => ?_, insU_sorted x r h1.2⟩
        rcases (insU_mem x r k).mp hk with e | hk
        · rw [e]; omega
        · exact h1.1 k hk
theorem sortU_mem : ∀ (l : List Int) (k : Int), k ∈ sortU l ↔ k ∈ l
  | [], k => by simp [sortU]
  | x :: r, k => by
    unfold sortU
    rw [insU_mem, sortU_mem r k, List.mem_cons]
theorem sortU_sorted : ∀ l : List Int, (sortU l).Pairwise (· < ·)
  | [] => .nil
  | x :: r => insU_sorted x _ (sortU_sorted r)
theorem lt_uniq : ∀ {a b : List Int}, a.Pairwise (· < ·) → b.Pairwise (· < ·) → (∀ k, k ∈ a ↔ k ∈ b) → a = b
  | [], [], _, _, _ => rfl
  | [], y :: _, _, _, h => by have := (h y).mpr List.mem_cons_self; cases this
  | x :: _, [], _, _, h => by have := (h x).mp List.mem_cons_self; cases this
  | x :: a, y :: b, ha, hb, h => by
    have ha' := List.pairwise_cons.mp ha
    have hb' := List.pairwise_cons.mp hb
    have e : x = y := by
      have h1 : y ≤ x := by
        rcases List.mem_cons.mp ((h x).mp List.mem_cons_self) with e | e
        · omega
        · have := hb'.1 x e; omega
      have h2 : x ≤ y := by
        rcases List.mem_cons.mp ((h y).mpr List.mem_cons_self) with e | e
        · omega
        · have := ha'.1 y e; omega
      omega
    subst e
    refine congrArg (x :: ·) (lt_uniq ha'.2 hb'.2 fun k => ⟨fun hk => ?_, fun hk => ?_⟩)
    · rcases List.mem_cons.mp ((h k).mp (List.mem_cons_of_mem _ hk)) with e | e
      · have := ha'.1 k hk; omega
      · exact e
    · rcases List.mem_cons.mp ((h k).mpr (List.mem_cons_of_mem _ hk)) with e | e
      · have := hb'.1 k hk; omega
      · exact e
/-- sorted(set(t)), t a tuple of ints -/
def tSortSet (K : PySem.W.Frag) (ta : TE) : TE := fun σ H Q => ta σ H fun x H1 => ∃ p ns, x = .ref p ∧ SqT K H1 p (ns.map V.int) ∧ ns.length < 64 ∧ ∀ q, H1 q = none → Q (.ref q) (upd H1 q (.lst ((sortU ns).map V.int)))
theorem pe_sortSet {a : Expr} {ta : TE} {p p2 pos pos2 : Pos} (hc : X.calm = true) (hg : Gl X "sorted") (hm : X.mg "sorted" = none) (hg2 : Gl X "set") (hm2 : X.mg "set" = none) (s1 : NoStar a) (ha : PE X a ta) : PE X (.Call (.Name "sorted" p) [.Call (.Name "set" p2) [a] [] pos2] [] pos) (tSortSet X.K ta) := by
  refine ⟨fun pins s σ H Q I h => ?_⟩
  have na : starEach [a] X.env = (false, eval a X.env) :: starEach [] X.env := s1 _ _
  refine wpAny_Call_Name_kw (ld_blt I hg hm PyProof.Rows.boot_sorted ?_ (by decide +kernel) (by decide +kernel))
  refine PyProof.Rows.callWith_builtin1 ?_ rfl rfl
  show wpAny _ _ (spliced ((false, eval (.Call (.Name "set" p2) [a] [] pos2) X.env) :: [])) _ _ s
  refine Calls.spliced_cons ?_
  refine Call_ (ld_blt I hg2 hm2 PyProof.Rows.boot_set (PyProof.Rows.callWith_type1 (one_arg ha I h (fun v s2 x H2 I2 r q => ?_) na) na))
  obtain ⟨l, ns, rfl, hq, h64, q⟩ := q
  cases r
  obtain ⟨its, rv, pt, hz⟩ := I2.tuple hq
  have hi : IntsAre its.toArray.toList ns := ints_of_vals rv
  have hd := I2.ok.hd hc
  refine call_set_tupI ns hd (show s2.heap.IsTuple l its.toArray from pt) hi (by unfold scanBound; omega) fun h' tk c R1 hcn kk => ?_
  refine Calls.spliced_nil ?_
  have I3 : Inv X pins σ H2 { s2 with heap := h', toks := tk } := I2.kept kk
  have R2 : SetR X.w ({ s2 with heap := h', toks := tk } : Shared).heap s2.heap.objs.size (fun j => decide (j ∈ ns)) c := R1
  generalize ({ s2 with heap := h', toks := tk } : Shared) = s3 at I3 R2 ⊢
  refine sorted_set R2 hd (by omega) fun s' q1 out c1 ns' k1 g o hp hgq hi' hs hmm hl => ?_
  have e1 : ns' = sortU ns := lt_uniq hs (sortU_sorted ns) fun k => by rw [hmm, decide_eq_true_eq, sortU_mem]
  have hlen : (ns'.map V.int).length ≤ sizeLine := by rw [List.length_map, hl, sizeLine_eq]; omega
  have hn : H2 q1 = none := I3.hok.fresh hp
  have J : Inv X pins σ (upd H2 q1 (.lst (ns'.map V.int))) { s3 with heap := s'.heap, gens := s'.gens, drawn := s'.drawn, toks := s'.toks } :=
    I3.call (ch := []) (Un.laid k1 hp hn) (I3.hok.laid k1 hp ⟨hlen, out.toList, c1, vals_of_ints hi', hgq⟩) (by rw [g]; exact I3.bare) (fun _ z => nomatch z)
  have e : s' = { s3 with heap := s'.heap, gens := s'.gens, drawn := s'.drawn, toks := s'.toks } := by
    cases s'
    cases s3
    cases o
    rfl
  rw [e]
  refine ⟨.ref q1, _, J, rfl, ?_⟩
  rw [e1]
  exact q q1 hn
theorem je_sortSet {a : Expr} {ca : E} {p p2 pos pos2 : Pos} (hc : X.calm = true) (hg : Gl X "sorted") (hm : X.mg "sorted" = none) (hg2 : Gl X "set") (hm2 : X.mg "set" = none) (s1 : NoStar a) (ja : JE X Φ a ca) : JE X Φ (.Call (.Name "sorted" p) [.Call (.Name "set" p2) [a] [] pos2] [] pos) (.bi .set0 [ca]) := by
  intro pk
  refine PE.weak (pe_sortSet hc hg hm hg2 hm2 s1 (ja true)) fun σ H Q ⟨Z, Ls, ρ, r, ρ', den, own, e, k⟩ => ?_
  simp only [ev, evp, quiets] at e
  obtain ⟨⟨xs, ρ1⟩, eq1, e⟩ := bind_some e
  obtain ⟨⟨x, ρ2⟩, ea, eb⟩ := bind_some eq1
  cases eb
  obtain ⟨w, ew, e⟩ := map_some e
  cases e
  refine ⟨Z, Ls, ρ, x, _, den, own, ea, fun v H1 ⟨Z1, P1, Ls1, m1, r1, _⟩ => ?_⟩
  have ew : (tupD x.1).bind (fun ds => (intsOf ds).bind fun ns => chk (ns.length < 64) ((.list ((sortU ns).map PyData.int), .l) : DO)) = some r := ew
  obtain ⟨ds, e1, ew⟩ := bind_some ew
  obtain ⟨ns, e2, ew⟩ := bind_some ew
  obtain ⟨hz, rfl⟩ := chk_some ew
  have e3 := intsOf_eq e2
  subst e3
  have ex : x.1 = .tuple (ns.map PyData.int) := by
    cases hx : x.1 with
    | tuple es => rw [hx] at e1; cases e1; rfl
    | _ => rw [hx] at e1; cases e1
  rw [ex] at r1
  obtain ⟨p, xs, rfl, sq, f⟩ := r1.titems
  have := f.ints
  subst this
  exact ⟨p, ns, rfl, sq, hz, fun q hq => k _ _ (post_lst (m1.less fun z => (andq z).1) (FzAll.ofInts _) hq)⟩
end
end Ev
/-! Ev 20: the induction over the expressions. -/
namespace Ev
open PySem PySem.Spec PyProof.Rows L2

structure Snd (P : Program) (w : World) (K : PySem.W.Frag) (mg : Str → Option Value) (base : Heap) (Φ : Cf) (n : Nat) : Prop where
  e : ∀ {tb : Tb} {X : Cx}, Cok P w K mg base Φ tb X → ∀ {e : Expr} {c : E}, cE n tb e = some c → JE X Φ e c
  o : ∀ {tb : Tb} {X : Cx}, Cok P w K mg base Φ tb X → ∀ {e : Option Expr} {c : E}, cO n tb e = some c → JO X Φ e c
  t : ∀ {tb : Tb} {X : Cx}, Cok P w K mg base Φ tb X → ∀ {e : Expr} {c : E}, cT n tb e = some c → JT X Φ e c ∧ (∀ op vs p, e = .BoolOp op vs p → JW X Φ e c)
  i : ∀ {tb : Tb} {X : Cx}, Cok P w K mg base Φ tb X → ∀ {tg e : Expr} {it : It}, cI n tb tg e = some it → JI X Φ tg e it
section
variable {P : Program} {w : World} {K : PySem.W.Frag} {mg : Str → Option Value} {base : Heap} {Φ : Cf} {n : Nat} {tb : Tb} {X : Cx}
theorem rgE_ok (C : Cok P w K mg base Φ tb X) {f : Str} {args : List Expr} {a : Expr} (h : rgE f tb args = some a) : ∃ (y : Str) (yp pos2 : Pos), args = [.Call (.Name y yp) [a] [] pos2] ∧ Gl X y ∧ X.mg y = none ∧ y = f ∧ NoStar a := by
  unfold rgE at h
  split at h
  · rename_i y yp a0 pos2
    rcases ite_some h with ⟨hy, h⟩ | ⟨_, h⟩
    · cases h
      obtain ⟨y1, hy⟩ := andq hy
      obtain ⟨y2, hy⟩ := andq hy
      obtain ⟨y3, y4⟩ := andq hy
      exact ⟨y, yp, pos2, rfl, C.gl y1, C.none y2, of_decide_eq_true y3, starB_ok (by simpa using y4)⟩
    · cases h
  · cases h
theorem snd_call (S : Snd P w K mg base Φ n) (C : Cok P w K mg base Φ tb X) {x : Str} {p pos : Pos} {args : List Expr} {kws : List Keyword} {c : E} (h : cE (n + 1) tb (.Call (.Name x p) args kws pos) = some c) : JE X Φ (.Call (.Name x p) args kws pos) c := by
  have hf : ∀ e c, cE n tb e = some c → JE X Φ e c := fun e c h => S.e C h
  unfold cE at h
  rcases ite_some h with ⟨_, h⟩ | ⟨h0, h⟩
  · cases h
  have h0 : glB tb.sc x = true ∧ nmB x = true := by
    simp only [Bool.or_eq_true, decide_eq_true_eq, not_or, Bool.not_eq_false] at h0
    exact h0
  have hg := C.gl h0.1
  have hdb := (nmB_ok h0.2).1
  split at h
  · rename_i j f hix
    obtain ⟨hj, hname⟩ := fnIx_get hix
    rcases ite_some h with ⟨_, h⟩ | ⟨hk, h⟩
    · cases h
    obtain ⟨F, fa, fd, hF, href, hpl, hm, hkp, G, hb, hsig⟩ := (C.fns j f hj).ex
    rw [hname] at hm
    rw [← C.hmg] at hm
    rw [← C.hK] at hkp G hb hsig
    rw [← C.hprog, ← C.hw, ← C.hmg, ← C.hbase] at G
    have hr : Room f.lv X.A := C.room.mono (by omega)
    split at h
    · obtain ⟨cs, e1, rfl⟩ := map_some h
      obtain ⟨a1, a2, a3, a4⟩ := cCl_ok C hf e1
      rw [← href] at a1
      cases args with
      | nil =>
        have hr0 : F.ref = [] := by
          rw [href]
          cases hq : f.ref with
          | nil => rfl
          | cons a b => rw [hq] at a3; cases a3
        have : cs = [] := by
          cases hq : f.ref with
          | nil => rw [hq] at e1; unfold cCl at e1; cases e1; rfl
          | cons a b => rw [hq] at a3; cases a3
        subst this
        exact je_call0 hF hr0 G hr C.gd hg hm hkp hb hdb
      | cons e es =>
        have s2 : NoStars es := fun pos env => by
          have := a2 pos env
          rw [a4 e es rfl] at this
          have t : (false || (backTo pos (starEach es env)).any (·.1)) = false := this
          simpa using t
        exact je_call hF G hr C.gd hg hm hkp hb a1 hdb (a4 e es rfl) s2
    · obtain ⟨cs, e1, h⟩ := bind_some h
      obtain ⟨⟨ks, ds⟩, e2, h⟩ := bind_some h
      obtain ⟨s, e3, h⟩ := bind_some h
      rcases ite_some h with ⟨hord, h⟩ | ⟨_, h⟩
      · cases h
        obtain ⟨a1, a2, a3, a4, a5⟩ := cEs_ok hf e1
        obtain ⟨b1, b2, b3⟩ := cKs_ok hf e2
        obtain ⟨c1, c2, c3⟩ := b3 pos X.env
        have hs := List.find?_some e3
        have hmem := List.mem_of_find?_eq_some e3
        simp only [Bool.and_eq_true, beq_iff_eq] at hs
        have hkw := hsig s hmem
        rw [hs.1, hs.2] at hkw
        have hord : s.2.2.length = F.ref.length := by rw [hord, href]
        cases args with
        | nil =>
          have : cs = [] := by cases e1; rfl
          subst this
          exact je_callK0 hF hord G hr C.gd hg hm hkp hkw b1 b2 c1 c2 c3 hdb
        | cons e es =>
          obtain ⟨c0, cs', hst, _, e5, _⟩ := cEs_cons e1
          obtain ⟨_, _, _, d4, _⟩ := cEs_ok hf e5
          exact je_callK hF hord G hr C.gd hg hm hkp hkw a1 b1 b2 c1 c2 c3 hdb (starB_ok hst) d4
      · cases h
  · rcases ite_some h with ⟨_, h⟩ | ⟨hbl, h⟩
    · cases h
    have hm := C.none (by simpa using hbl)
    split at h
    · rcases ite_some h with ⟨ex, h'⟩ | ⟨_, h'⟩
      · match args, h' with
        | [a, e], h' =>
          rcases ite_some h' with ⟨_, h'⟩ | ⟨hst, h'⟩
          · cases h'
          obtain ⟨ts, e1, h'⟩ := bind_some h'
          obtain ⟨ca, e2, h'⟩ := map_some h'
          subst h'
          obtain ⟨tu, d1, d2⟩ := clsE_ok C e1
          have hst : starB a = false := by
            simp only [Bool.or_eq_true, not_or, Bool.not_eq_true] at hst
            exact hst.1
          subst ex
          exact je_isi (hf _ _ e2) (starB_ok hst) d1 d2 hg hm
        | [], h' => cases h'
        | [_], h' => cases h'
        | _ :: _ :: _ :: _, h' => cases h'
      · split at h'
        · rename_i ar hr
          obtain ⟨ca, e1, h'⟩ := map_some h'
          subst h'
          rcases ite_some hr with ⟨ex, hr⟩ | ⟨_, hr⟩
          · obtain ⟨y, yp, pos2, rfl, g2, m2, ey, hs⟩ := rgE_ok C hr
            subst ey
            subst ex
            exact je_listRg C.calm hg hm g2 m2 hs (hf _ _ e1)
          · cases hr
        split at h'
        · rename_i ar hr
          obtain ⟨ca, e1, h'⟩ := map_some h'
          subst h'
          rcases ite_some hr with ⟨ex, hr⟩ | ⟨_, hr⟩
          · obtain ⟨y, yp, pos2, rfl, g2, m2, ey, hs⟩ := rgE_ok C hr
            subst ey
            subst ex
            exact je_sortSet C.calm hg hm g2 m2 hs (hf _ _ e1)
          · cases hr
        · match args, h' with
          | [], h' => cases h'
          | a :: as, h' =>
            obtain ⟨b, e1, h'⟩ := bind_some h'
            obtain ⟨cs, e2, h'⟩ := map_some h'
            subst h'
            obtain ⟨c0, cs', hst, _, e5, _⟩ := cEs_cons e2
            obtain ⟨_, a2, _⟩ := cEs_ok hf e2
            obtain ⟨_, _, _, d4, _⟩ := cEs_ok hf e5
            exact biE_ok C e1 hg hm a2 (starB_ok hst) d4
    · cases h
theorem muE_one {m : Str} {mu : Mu} {k : Nat} (h : muE m k = some mu) : (k = 1 ∧ ((m = "append" ∧ mu = .append) ∨ (m = "pop" ∧ mu = .popAt) ∨ (m = "extend" ∧ mu = .extend))) ∨ (k = 0 ∧ m = "pop" ∧ mu = .pop) := by
  unfold muE at h
  rcases ite_some h with ⟨e, h1⟩ | ⟨_, h1⟩
  · rcases ite_some h1 with ⟨e2, h2⟩ | ⟨_, h2⟩
    · cases h2; exact .inl ⟨e2, .inl ⟨e, rfl⟩⟩
    · cases h2
  rcases ite_some h1 with ⟨e, h2⟩ | ⟨_, h2⟩
  · rcases ite_some h2 with ⟨e2, h3⟩ | ⟨_, h3⟩
    · cases h3; exact .inr ⟨e2, e, rfl⟩
    · rcases ite_some h3 with ⟨e3, h4⟩ | ⟨_, h4⟩
      · cases h4; exact .inl ⟨e3, .inr (.inl ⟨e, rfl⟩)⟩
      · cases h4
  rcases ite_some h2 with ⟨e, h3⟩ | ⟨_, h3⟩
  · rcases ite_some h3 with ⟨e2, h4⟩ | ⟨_, h4⟩
    · cases h4; exact .inl ⟨e2, .inr (.inr ⟨e, rfl⟩)⟩
    · cases h4
  · cases h3
theorem snd_meth (S : Snd P w K mg base Φ n) (C : Cok P w K mg base Φ tb X) {o : Expr} {m : Str} {ap cp : Pos} {args : List Expr} {c : E} (h : cE (n + 1) tb (.Call (.Attribute o m ap) args [] cp) = some c) : JE X Φ (.Call (.Attribute o m ap) args [] cp) c := by
  have hf : ∀ e c, cE n tb e = some c → JE X Φ e c := fun e c h => S.e C h
  unfold cE at h
  rcases ite_some h with ⟨_, h⟩ | ⟨h0, h⟩
  · cases h
  have h0 : (ap.endLine == cp.line) = true ∧ args.length < 20 := by
    simp only [Bool.or_eq_true, decide_eq_true_eq, not_or, Bool.not_eq_false, Nat.not_le] at h0
    exact h0
  rcases ite_some h with ⟨ex, h'⟩ | ⟨_, h'⟩
  · subst ex
    rcases ite_some h' with ⟨_, h2⟩ | ⟨hb, h2⟩
    · cases h2
    split at h2
    · rename_i a
      obtain ⟨co, e1, h2⟩ := bind_some h2
      obtain ⟨cs, e2, rfl⟩ := map_some h2
      obtain ⟨c0, cs', hst, _, e5, _⟩ := cEs_cons e2
      obtain ⟨_, a2, _⟩ := cEs_ok hf e2
      exact je_meth PySem.F.slot_str_join PySem.F.type_str_join mt_join join_ok (hf _ _ e1) (baseB_ok (by simpa using hb) _ _ _) h0.1 a2 (starB_ok hst) .nil (by decide)
    · cases h2
  rcases ite_some h' with ⟨ex, h3⟩ | ⟨_, h3⟩
  · clear h'
    subst ex
    rcases ite_some h3 with ⟨_, h2⟩ | ⟨hb, h2⟩
    · cases h2
    split at h2
    · obtain ⟨co, e1, rfl⟩ := map_some h2
      exact je_meth0 PySem.F.slot_str_upper PySem.F.type_str_upper mt_upper upper_ok (hf _ _ e1) (baseB_ok (by simpa using hb) _ _ _) h0.1
    · cases h2
  · obtain ⟨mu, e1, h2⟩ := bind_some h3
    have few : ∀ {e : Expr} {es : List Expr}, (e :: es).length = 1 → es.length < 20 := fun {e es} hl => by
      simp at hl
      simp [hl]
    split at h2
    · rename_i x xp hh
      rcases ite_some h2 with ⟨hv, h2⟩ | ⟨_, h2⟩
      · obtain ⟨i, e2, h2⟩ := bind_some h2
        obtain ⟨cs, e3, rfl⟩ := map_some h2
        obtain ⟨v1, v2⟩ := andq hv
        obtain ⟨n1, n2⟩ := nmB_ok v2
        have hN : X.N[i]? = some x := by rw [C.N]; exact ix_get e2
        rcases muE_one e1 with ⟨hl, hc⟩ | ⟨hl, em, rfl⟩
        · cases args with
          | nil => cases hl
          | cons e es =>
            obtain ⟨c0, cs', hst, _, e5, _⟩ := cEs_cons e3
            obtain ⟨a1, _⟩ := cEs_ok hf e3
            obtain ⟨_, _, _, d4, _⟩ := cEs_ok hf e5
            have hl := few hl
            rcases hc with ⟨em, rfl⟩ | ⟨em, rfl⟩ | ⟨em, rfl⟩
            · subst em
              exact je_mu PySem.F.slot_list_append PySem.F.type_list_append mt_app append_ok hN (C.vis v1) n1 n2 h0.1 a1 (starB_ok hst) d4 hl
            · subst em
              exact je_mu PySem.F.slot_list_pop PySem.F.type_list_pop mt_pop1 popAt_ok hN (C.vis v1) n1 n2 h0.1 a1 (starB_ok hst) d4 hl
            · subst em
              exact je_mu PySem.F.slot_list_extend PySem.F.type_list_extend mt_ext1 extend_ok hN (C.vis v1) n1 n2 h0.1 a1 (starB_ok hst) d4 hl
        · subst em
          cases args with
          | cons e es => cases hl
          | nil =>
            cases e3
            exact je_mu0 PySem.F.slot_list_pop PySem.F.type_list_pop mt_pop pop_ok hN (C.vis v1) n1 n2 h0.1
      · cases h2
    · rename_i x xp jj zp sp hh
      rcases ite_some h2 with ⟨hv, h2⟩ | ⟨_, h2⟩
      · obtain ⟨i, e2, h2⟩ := bind_some h2
        obtain ⟨cs, e3, rfl⟩ := map_some h2
        obtain ⟨v1, v2⟩ := andq hv
        obtain ⟨n1, n2⟩ := nmB_ok v2
        have hN : X.N[i]? = some x := by rw [C.N]; exact ix_get e2
        rcases muE_one e1 with ⟨hl, hc⟩ | ⟨hl, em, rfl⟩
        · cases args with
          | nil => cases hl
          | cons e es =>
            obtain ⟨c0, cs', hst, _, e5, _⟩ := cEs_cons e3
            obtain ⟨a1, _⟩ := cEs_ok hf e3
            obtain ⟨_, _, _, d4, _⟩ := cEs_ok hf e5
            have hl := few hl
            rcases hc with ⟨em, rfl⟩ | ⟨em, rfl⟩ | ⟨em, rfl⟩
            · subst em
              exact je_gmut PySem.F.slot_list_append PySem.F.type_list_append mt_app append_ok hN (C.vis v1) n1 n2 h0.1 a1 (starB_ok hst) d4 hl
            · subst em
              exact je_gmut PySem.F.slot_list_pop PySem.F.type_list_pop mt_pop1 popAt_ok hN (C.vis v1) n1 n2 h0.1 a1 (starB_ok hst) d4 hl
            · subst em
              exact je_gmut PySem.F.slot_list_extend PySem.F.type_list_extend mt_ext1 extend_ok hN (C.vis v1) n1 n2 h0.1 a1 (starB_ok hst) d4 hl
        · subst em
          cases args with
          | cons e es => cases hl
          | nil =>
            cases e3
            exact je_gmut0 PySem.F.slot_list_pop PySem.F.type_list_pop mt_pop pop_ok hN (C.vis v1) n1 n2 h0.1
      · cases h2
    · cases h2
theorem ownE_slots {N : List Str} : ∀ {names : List (Str × NameKind)} {own : List (Str × Nat)}, ownE N names = some own → True := fun _ => trivial
theorem snd_comp (S : Snd P w K mg base Φ n) (C : Cok P w K mg base Φ tb X) {elt tg iter : Expr} {ifs : List Expr} {scope : Scope} {pos : Pos} {c : E} (h : cE (n + 1) tb (.ListComp elt [⟨tg, iter, ifs, 0⟩] scope pos) = some c) :
    ∃ (own : List (Str × Nat)) (ce cc : E) (t : T) (it : It), c = .comp ce t it cc (own.map (·.2)) ∧ JI X Φ tg iter it ∧ BlkOk X.N X.env.scope scope own ∧ (∀ i, i ∈ t.slots → i ∈ own.map (·.2)) ∧ (∀ x, foldedSetIterable iter X.env x = pure x) ∧
      (∀ (s : Shared) (H : Hp) (Ca : Addr) (cl : List (Str × Addr)) (fp : List Addr), JG (X.blk s H scope (compEnvC scope cl Ca X.env) fp) tg t) ∧ (∀ (s : Shared) (H : Hp) (Ca : Addr) (cl : List (Str × Addr)) (fp : List Addr), JTs (X.blk s H scope (compEnvC scope cl Ca X.env) fp) Φ ifs cc) ∧
      ∀ (s : Shared) (H : Hp) (Ca : Addr) (cl : List (Str × Addr)) (fp : List Addr), JE (X.blk s H scope (compEnvC scope cl Ca X.env) fp) Φ elt ce := by
  unfold cE at h
  rw [if_neg (by decide)] at h
  obtain ⟨it, e1, h⟩ := bind_some h
  obtain ⟨own, e2, h⟩ := bind_some h
  rcases ite_some h with ⟨_, h⟩ | ⟨h0, h⟩
  · cases h
  obtain ⟨t, e3, h⟩ := bind_some h
  rcases ite_some h with ⟨_, h⟩ | ⟨h1, h⟩
  · cases h
  obtain ⟨cc, e4, h⟩ := bind_some h
  obtain ⟨ce, e5, rfl⟩ := map_some h
  have h0 : setB iter = false ∧ blkC tb.N tb.sc scope own = true := by
    simp only [Bool.or_eq_true, not_or, Bool.not_eq_true, Bool.not_eq_true', Bool.not_eq_false] at h0
    exact h0
  refine ⟨own, ce, cc, t, it, rfl, S.i C e1, by rw [C.N, C.sc]; exact blkOk_by h0.2, fun i hi => ?_, setB_ok h0.1 _, fun s H Ca cl fp => cG_ok n (C.blk scope s H Ca cl fp) e3, fun s H Ca cl fp => ?_, fun s H Ca cl fp => S.e (C.blk scope s H Ca cl fp) e5⟩
  · have h1 : t.slots.all (fun i => (own.map fun (p : Str × Nat) => p.2).contains i) = true := by simpa using h1
    exact List.contains_iff_mem.mp (List.all_eq_true.mp h1 i hi)
  · split at e4
    · cases e4
      exact jts_nil
    · exact jts_one (S.t (C.blk scope s H Ca cl fp) e4).1
    · cases e4
end
end Ev
/-! Ev 21: the induction. -/
namespace Ev
open PySem PySem.Spec PyProof.Rows L2
section
variable {P : Program} {w : World} {K : PySem.W.Frag} {mg : Str → Option Value} {base : Heap} {Φ : Cf} {n : Nat}
theorem coE_map {op : CmpOp} {b : Expr} {ca cb : E} {o : CO} : True := trivial
theorem snd_e (S : Snd P w K mg base Φ n) {tb : Tb} {X : Cx} (C : Cok P w K mg base Φ tb X) {e : Expr} {c : E} (h : cE (n + 1) tb e = some c) : JE X Φ e c := by
  have hf : ∀ e c, cE n tb e = some c → JE X Φ e c := fun e c h => S.e C h
  have hu : X.A.units + 65 < cLine := by have := C.room.un; omega
  cases e with
  | Name x p =>
    unfold cE at h
    rcases ite_some h with ⟨_, h⟩ | ⟨h0, h⟩
    · cases h
    obtain ⟨n1, n2⟩ := nmB_ok (by simpa using h0)
    rcases ite_some h with ⟨hv, h⟩ | ⟨_, h⟩
    · obtain ⟨i, e1, rfl⟩ := map_some h
      exact je_var (by rw [C.N]; exact ix_get e1) (C.vis hv) n1 n2
    · rcases ite_some h with ⟨hg, h⟩ | ⟨_, h⟩
      · obtain ⟨i, e1, rfl⟩ := map_some h
        obtain ⟨u, v, d, q1, q2, q3, q4⟩ := (C.cs i x (ix_get e1)).ex
        rw [← C.hmg] at q1
        rw [← C.hK] at q4
        exact je_cst (C.gl hg) q1 q2 n1 q3 q4
      · cases h
  | Constant k j p =>
    unfold cE at h
    obtain ⟨d, e1, rfl⟩ := map_some h
    exact litE_ok e1
  | BinOp a op b p =>
    unfold cE at h
    obtain ⟨o, e1, h⟩ := bind_some h
    obtain ⟨ca, e2, h⟩ := bind_some h
    obtain ⟨cb, e3, rfl⟩ := map_some h
    exact boE_ok e1 (hf _ _ e2) (hf _ _ e3)
  | UnaryOp op a p =>
    cases op with
    | USub =>
      unfold cE at h
      obtain ⟨ca, e2, rfl⟩ := map_some h
      exact je_neg (hf _ _ e2)
    | Not =>
      unfold cE at h
      obtain ⟨ca, e2, rfl⟩ := map_some h
      exact je_not (hf _ _ e2)
    | _ => (unfold cE at h; cases h)
  | Compare a ops bs p =>
    match ops, bs, h with
    | [op], [b], h =>
      unfold cE at h
      rcases ite_some h with ⟨_, h⟩ | ⟨hs, h⟩
      · cases h
      obtain ⟨o, e1, h⟩ := bind_some h
      obtain ⟨ca, e2, h⟩ := bind_some h
      obtain ⟨cb, e3, rfl⟩ := map_some h
      exact je_cmp (coE_ok hu e1) (hf _ _ e2) (hf _ _ e3) (setB_mark (by simpa using hs))
    | [op, op'], [b, c], h =>
      unfold cE at h
      rcases ite_some h with ⟨_, h⟩ | ⟨hs, h⟩
      · cases h
      obtain ⟨o, e1, h⟩ := bind_some h
      obtain ⟨o', e1', h⟩ := bind_some h
      obtain ⟨ca, e2, h⟩ := bind_some h
      obtain ⟨cb, e3, h⟩ := bind_some h
      obtain ⟨cc, e4, rfl⟩ := map_some h
      exact je_cmp2 (coE_ok hu e1) (coE_ok hu e1') (hf _ _ e2) (hf _ _ e3) (hf _ _ e4) (setB_mark (by simpa using hs))
    | [], _, h => unfold cE at h; cases h
    | [_], [], h => unfold cE at h; cases h
    | [_], _ :: _ :: _, h => unfold cE at h; cases h
    | [_, _], [], h => unfold cE at h; cases h
    | [_, _], [_], h => unfold cE at h; cases h
    | [_, _], _ :: _ :: _ :: _, h => unfold cE at h; cases h
    | _ :: _ :: _ :: _, _, h => unfold cE at h; cases h
  | BoolOp op vs p =>
    match op, vs, h with
    | .And, [a], h => unfold cE at h; exact je_one (hf _ _ h)
    | .Or, [a], h => unfold cE at h; exact je_one (hf _ _ h)
    | .And, a :: b :: r, h =>
      unfold cE at h
      obtain ⟨ca, e2, h⟩ := bind_some h
      obtain ⟨cb, e3, rfl⟩ := map_some h
      exact je_and (hf _ _ e2) (hf _ _ e3)
    | .Or, a :: b :: r, h =>
      unfold cE at h
      obtain ⟨ca, e2, h⟩ := bind_some h
      obtain ⟨cb, e3, rfl⟩ := map_some h
      exact je_or (hf _ _ e2) (hf _ _ e3)
    | .And, [], h => unfold cE at h; cases h
    | .Or, [], h => unfold cE at h; cases h
  | IfExp t a b p =>
    unfold cE at h
    obtain ⟨cc, e1, h⟩ := bind_some h
    obtain ⟨ca, e2, h⟩ := bind_some h
    obtain ⟨cb, e3, rfl⟩ := map_some h
    exact je_ite (S.t C e1).1 (hf _ _ e2) (hf _ _ e3)
  | Tuple es k p =>
    unfold cE at h
    obtain ⟨cs, e1, rfl⟩ := map_some h
    exact je_tup (cEs_ok hf e1).1
  | List es p =>
    unfold cE at h
    rcases ite_some h with ⟨_, h⟩ | ⟨_, h⟩
    · obtain ⟨cs, e1, h⟩ := bind_some h
      match es, e1 with
      | [], e1 => cases e1; cases h
      | [a], e1 =>
        obtain ⟨c1, cs1, s1, f1, e2, rfl⟩ := cEs_cons e1
        cases e2
        cases h
      | [a, b], e1 =>
        obtain ⟨c1, cs1, s1, f1, e2, rfl⟩ := cEs_cons e1
        obtain ⟨c2, cs2, s2, f2, e3, rfl⟩ := cEs_cons e2
        cases e3
        cases h
        exact je_deal (starB_ok s1) (starB_ok s2) (hf _ _ f1) (hf _ _ f2)
      | a :: b :: d :: r, e1 =>
        obtain ⟨c1, cs1, s1, f1, e2, rfl⟩ := cEs_cons e1
        obtain ⟨c2, cs2, s2, f2, e3, rfl⟩ := cEs_cons e2
        obtain ⟨c3, cs3, s3, f3, e4, rfl⟩ := cEs_cons e3
        cases h
    obtain ⟨cs, e1, rfl⟩ := map_some h
    exact je_lst (cEs_ok hf e1).1
  | Subscript a i p =>
    have plain : sliceB i = false → (cE n tb a).bind (fun ca => (cE n tb i).map fun ci => E.idx ca ci) = some c → JE X Φ (.Subscript a i p) c := fun hs h => by
      obtain ⟨ca, e2, h⟩ := bind_some h
      obtain ⟨ci, e3, rfl⟩ := map_some h
      exact je_idx (hf _ _ e2) (hf _ _ e3) (sliceB_ok hs)
    cases i with
    | Slice lo hi st p2 =>
      unfold cE at h
      obtain ⟨ca, e1, h⟩ := bind_some h
      split at h
      · cases h
        exact je_rev (hf _ _ e1)
      · obtain ⟨cl, e2, h⟩ := bind_some h
        obtain ⟨ch, e3, rfl⟩ := map_some h
        exact je_slice (hf _ _ e1) (S.o C e2) (S.o C e3)
      · cases h
    | _ =>
      unfold cE at h
      rcases ite_some h with ⟨hs, h⟩ | ⟨hs, h⟩
      · cases hs
      · exact plain rfl h
  | Call f args kws p =>
    cases f with
    | Name x xp => exact snd_call S C h
    | Attribute o m ap =>
      cases kws with
      | nil => exact snd_meth S C h
      | cons _ _ => unfold cE at h; cases h
    | _ => (unfold cE at h; cases h)
  | ListComp elt gens scope p =>
    match gens, h with
    | [⟨tg, iter, ifs, asy⟩], h =>
      by_cases ha : asy = 0
      rotate_left
      · unfold cE at h
        rw [if_pos ha] at h
        cases h
      subst ha
      obtain ⟨own, ce, cc, t, it, rfl, h1, h2, h3, h4, h5, h6, h7⟩ := snd_comp S C h
      exact je_comp C.calm C.nd h1 h2 h3 h5 h6 h7 h4
    | [], h => unfold cE at h; cases h
    | ⟨_, _, _, _⟩ :: _ :: _, h => unfold cE at h; cases h
  | _ => (unfold cE at h; cases h)
theorem snd_o (S : Snd P w K mg base Φ n) {tb : Tb} {X : Cx} (C : Cok P w K mg base Φ tb X) {e : Option Expr} {c : E} (h : cO (n + 1) tb e = some c) : JO X Φ e c := by
  cases e with
  | none =>
    unfold cO at h
    cases h
    exact jo_none
  | some e =>
    unfold cO at h
    obtain ⟨c', e1, h⟩ := bind_some h
    rcases ite_some h with ⟨_, h⟩ | ⟨hn, h⟩
    · cases h
    cases h
    exact jo_some (fun e => hn (by rw [e]; rfl)) (S.e C e1)
theorem jw_bool {X : Cx} {op : BoolOp} {vs : List Expr} {p : Pos} {c : E} (h : JW X Φ (.BoolOp op vs p) c) : JT X Φ (.BoolOp op vs p) c ∧ (∀ op' vs' p', (.BoolOp op vs p : Expr) = .BoolOp op' vs' p' → JW X Φ (.BoolOp op vs p) c) := ⟨jt_of_jw h, fun _ _ _ _ => h⟩
theorem snd_t (S : Snd P w K mg base Φ n) {tb : Tb} {X : Cx} (C : Cok P w K mg base Φ tb X) {e : Expr} {c : E} (h : cT (n + 1) tb e = some c) : JT X Φ e c ∧ (∀ op vs p, e = .BoolOp op vs p → JW X Φ e c) := by
  have hf : ∀ e c, cE n tb e = some c → JE X Φ e c := fun e c h => S.e C h
  have hu : X.A.units + 65 < cLine := by have := C.room.un; omega
  have plain : (if plainT e = true then (cE n tb e).map E.truth else none) = some c → (∀ op vs p, e ≠ .BoolOp op vs p) → JT X Φ e c ∧ (∀ op vs p, e = .BoolOp op vs p → JW X Φ e c) := fun h hb => by
    rcases ite_some h with ⟨hp, h⟩ | ⟨_, h⟩
    · obtain ⟨c', e1, rfl⟩ := map_some h
      exact ⟨jt_truth (hf _ _ e1) (plainT_ok hp _), fun op vs p e => absurd e (hb op vs p)⟩
    · cases h
  cases e with
  | UnaryOp op a p =>
    cases op with
    | Not =>
      unfold cT at h
      obtain ⟨ca, e2, rfl⟩ := map_some h
      exact ⟨jt_not (S.t C e2).1, fun _ _ _ e => nomatch e⟩
    | _ => (unfold cT at h; exact plain h fun _ _ _ e => nomatch e)
  | Compare a ops bs p =>
    match ops, bs, h, plain with
    | [op], [b], h, _ =>
      unfold cT at h
      rcases ite_some h with ⟨_, h⟩ | ⟨hs, h⟩
      · cases h
      obtain ⟨o, e1, h⟩ := bind_some h
      obtain ⟨ca, e2, h⟩ := bind_some h
      obtain ⟨cb, e3, rfl⟩ := map_some h
      exact ⟨jt_cmp (coE_ok hu e1) (hf _ _ e2) (hf _ _ e3) (setB_mark (by simpa using hs)), fun _ _ _ e => nomatch e⟩
    | [op, op'], [b, c], h, _ =>
      unfold cT at h
      rcases ite_some h with ⟨_, h⟩ | ⟨hs, h⟩
      · cases h
      obtain ⟨o, e1, h⟩ := bind_some h
      obtain ⟨o', e1', h⟩ := bind_some h
      obtain ⟨ca, e2, h⟩ := bind_some h
      obtain ⟨cb, e3, h⟩ := bind_some h
      obtain ⟨cc, e4, rfl⟩ := map_some h
      exact ⟨jt_cmp2 (coE_ok hu e1) (coE_ok hu e1') (hf _ _ e2) (hf _ _ e3) (hf _ _ e4) (setB_mark (by simpa using hs)), fun _ _ _ e => nomatch e⟩
    | [], _, h, plain => unfold cT at h; exact plain h fun _ _ _ e => nomatch e
    | [_], [], h, plain => unfold cT at h; exact plain h fun _ _ _ e => nomatch e
    | [_], _ :: _ :: _, h, plain => unfold cT at h; exact plain h fun _ _ _ e => nomatch e
    | [_, _], [], h, plain => unfold cT at h; exact plain h fun _ _ _ e => nomatch e
    | [_, _], [_], h, plain => unfold cT at h; exact plain h fun _ _ _ e => nomatch e
    | [_, _], _ :: _ :: _ :: _, h, plain => unfold cT at h; exact plain h fun _ _ _ e => nomatch e
    | _ :: _ :: _ :: _, _, h, plain => unfold cT at h; exact plain h fun _ _ _ e => nomatch e
  | BoolOp op vs p =>
    match op, vs, h with
    | .And, [a], h => unfold cT at h; exact jw_bool (jw_one_and (S.t C h).1)
    | .Or, [a], h => unfold cT at h; exact jw_bool (jw_one_or (S.t C h).1)
    | .And, a :: b :: r, h =>
      unfold cT at h
      obtain ⟨ca, e2, h⟩ := bind_some h
      obtain ⟨cb, e3, rfl⟩ := map_some h
      exact jw_bool (jw_and (S.t C e2).1 ((S.t C e3).2 _ _ _ rfl))
    | .Or, a :: b :: r, h =>
      unfold cT at h
      obtain ⟨ca, e2, h⟩ := bind_some h
      obtain ⟨cb, e3, rfl⟩ := map_some h
      exact jw_bool (jw_or (S.t C e2).1 ((S.t C e3).2 _ _ _ rfl))
    | .And, [], h => unfold cT at h; cases h
    | .Or, [], h => unfold cT at h; cases h
  | _ => (unfold cT at h; exact plain h fun _ _ _ e => nomatch e)
theorem snd_i (S : Snd P w K mg base Φ n) {tb : Tb} {X : Cx} (C : Cok P w K mg base Φ tb X) {tg e : Expr} {it : It} (h : cI (n + 1) tb tg e = some it) : JI X Φ tg e it := by
  have hf : ∀ e c, cE n tb e = some c → JE X Φ e c := fun e c h => S.e C h
  have seq : (cE n tb e).map It.seq = some it → JI X Φ tg e it := fun h => by
    obtain ⟨c, e1, rfl⟩ := map_some h
    exact ji_seq' (hf _ _ e1)
  have and3 : ∀ {p q r : Bool}, (p && q && r) = true → p = true ∧ q = true ∧ r = true := fun {p q r} h => ⟨(andq (andq h).1).1, (andq (andq h).1).2, (andq h).2⟩
  have star2 : ∀ {a b : Expr}, ¬ (starB a || starB b) = true → starB a = false ∧ starB b = false := fun {a b} h => by
    simp only [Bool.or_eq_true, not_or, Bool.not_eq_true] at h
    exact h
  have s1 : ∀ {a : Expr}, starB a = false → starEach [a] X.env = [(false, eval a X.env)] := fun h => starB_ok h [] _
  have s2 : ∀ {a b : Expr}, starB a = false → starB b = false → starEach [a, b] X.env = [(false, eval a X.env), (false, eval b X.env)] := fun ha hb => by rw [starB_ok ha [_] _, s1 hb]
  cases e with
  | Call f args kws pos =>
    cases f with
    | Name x p =>
      unfold cI at h
      rcases ite_some h with ⟨hx, h1⟩ | ⟨_, h1⟩
      · obtain ⟨x1, x2, x3⟩ := and3 hx
        have hg := C.gl x1
        have hm := C.none x2
        have x3 := of_decide_eq_true x3
        match kws, args, h1 with
        | [], [a], h1 =>
          rcases ite_some h1 with ⟨_, h2⟩ | ⟨hs, h2⟩
          · cases h2
          obtain ⟨ca, e1, h2⟩ := map_some h2
          subst h2 x3
          exact ji_range1 hg hm (hf _ _ e1) (s1 (by simpa using hs))
        | [], [a, b], h1 =>
          rcases ite_some h1 with ⟨_, h2⟩ | ⟨hs, h2⟩
          · cases h2
          obtain ⟨q1, q2⟩ := star2 hs
          obtain ⟨ca, e1, h2⟩ := bind_some h2
          obtain ⟨cb, e2, h2⟩ := map_some h2
          subst h2 x3
          exact ji_range2 hg hm (hf _ _ e1) (hf _ _ e2) (s2 q1 q2) (s1 q2)
        | [], [], h1 => cases h1
        | [], _ :: _ :: _ :: _, h1 => cases h1
        | _ :: _, _, h1 => cases h1
      rcases ite_some h1 with ⟨hx, h2⟩ | ⟨_, h2⟩
      · obtain ⟨x1, x2, x3⟩ := and3 hx
        have hg := C.gl x1
        have hm := C.none x2
        have x3 := of_decide_eq_true x3
        cases tg with
        | Tuple elts kk tp =>
          match kws, args, h2 with
          | [], [a], h2 =>
            rcases ite_some h2 with ⟨_, h3⟩ | ⟨hs, h3⟩
            · cases h3
            obtain ⟨ca, e1, h3⟩ := map_some h3
            subst h3 x3
            exact ji_enum hg hm (hf _ _ e1) (s1 (by simpa using hs))
          | [], [], h2 => cases h2
          | [], _ :: _ :: _, h2 => cases h2
          | _ :: _, _, h2 => cases h2
        | _ => cases h2
      rcases ite_some h2 with ⟨hx, h3⟩ | ⟨_, h3⟩
      · obtain ⟨x1, x2, x3⟩ := and3 hx
        have hg := C.gl x1
        have hm := C.none x2
        have x3 := of_decide_eq_true x3
        cases tg with
        | Tuple elts kk tp =>
          match kws, args, h3 with
          | [], [a, b], h3 =>
            rcases ite_some h3 with ⟨_, h4⟩ | ⟨hs, h4⟩
            · cases h4
            obtain ⟨q1, q2⟩ := star2 hs
            obtain ⟨ca, e1, h4⟩ := bind_some h4
            obtain ⟨cb, e2, h4⟩ := map_some h4
            subst h4 x3
            exact ji_zip hg hm (hf _ _ e1) (hf _ _ e2) (starB_ok q1 [b] _) (s1 q2)
          | [], [], h3 => cases h3
          | [], [_], h3 => cases h3
          | [], _ :: _ :: _ :: _, h3 => cases h3
          | _ :: _, _, h3 => cases h3
        | _ => cases h3
      · exact seq h3
    | _ => (unfold cI at h; exact seq h)
  | _ => (unfold cI at h; exact seq h)
theorem snd_zero : Snd P w K mg base Φ 0 := by
  refine ⟨?_, ?_, ?_, ?_⟩
  · intro tb X C e c h
    unfold cE at h
    cases h
  · intro tb X C e c h
    cases e with
    | none => unfold cO at h; cases h; exact jo_none
    | some e => unfold cO at h; cases h
  · intro tb X C e c h
    unfold cT at h
    cases h
  · intro tb X C tg e it h
    unfold cI at h
    cases h
theorem snd_all : ∀ n : Nat, Snd P w K mg base Φ n
  | 0 => snd_zero
  | n + 1 => by
    have S := snd_all n
    refine ⟨?_, ?_, ?_, ?_⟩
    · intro tb X C e c h
      exact snd_e S C h
    · intro tb X C e c h
      exact snd_o S C h
    · intro tb X C e c h
      exact snd_t S C h
    · intro tb X C tg e it h
      exact snd_i S C h
end
end Ev
/-! Ev 22: statements to the small language. -/
namespace Ev
open PySem PySem.Spec PyProof.Rows L2

/-- the names that a tuple's stores are exchanged for: known, or not told -/
def swB (sc : Scope) (ts vs : List Expr) : Option (Option (List Str)) :=
  if (!(ts.length == 2 || ts.length == 3) || vs.length != ts.length) = true then some none
  else if (vs.any fun | .Starred .. => true | _ => false) = true then some none
  else
    let line := (ts.head?.map (·.pos.line)).getD 0
    let names := ts.filterMap fun
      | .Name id pos => if sc.names.lookup id == some .local && pos.line == line then some id else none
      | _ => none
    if (names.length != ts.length || names.eraseDups.length != names.length) = true then some none
    else if vs.all (foldedForSure 8) = true then some none
    else if vs.all (constantsAlone 8) = true then none
    else some (some names)
theorem swB_ok {env : Env} {ts vs : List Expr} {k k2 : Nat} {p p2 : Pos} {r : Option (List Str)} (hb : env.blockKind = .function) (h : swB env.scope ts vs = some r) : swappedStores [.Tuple ts k p] (.Tuple vs k2 p2) env = pure r := by
  unfold swB at h
  unfold swappedStores
  have hbk : (env.blockKind != ScopeKind.function) = false := by rw [hb]; rfl
  simp only [hbk, Bool.or_false]
  rcases ite_some h with ⟨e1, h1⟩ | ⟨e1, h1⟩
  · cases h1
    exact (if_pos e1).trans rfl
  refine (if_neg e1).trans ?_
  rcases ite_some h1 with ⟨e2, h2⟩ | ⟨e2, h2⟩
  · cases h2
    exact (if_pos e2).trans rfl
  refine (if_neg e2).trans ?_
  rcases ite_some h2 with ⟨e3, h3⟩ | ⟨e3, h3⟩
  · cases h3
    exact (if_pos e3).trans rfl
  refine (if_neg e3).trans ?_
  rcases ite_some h3 with ⟨e4, h4⟩ | ⟨e4, h4⟩
  · cases h4
    exact (if_pos e4).trans rfl
  refine (if_neg e4).trans ?_
  rcases ite_some h4 with ⟨e5, h5⟩ | ⟨e5, h5⟩
  · cases h5
  cases h5
  exact (if_neg e5).trans rfl
def tupleB : Expr → Bool
  | .Tuple .. => true
  | _ => false
theorem tupleB_ok {ts : List Expr} {k : Nat} {p : Pos} {e : Expr} (h : tupleB e = false) (env : Env) : swappedStores [.Tuple ts k p] e env = pure none := by
  cases e <;> first
    | rfl
    | cases h
theorem sub_sw {o i : Expr} {p : Pos} {e : Expr} (env : Env) : swappedStores [.Subscript o i p] e env = pure none := rfl
theorem sub_asg {o i : Expr} {p : Pos} (h : sliceB i = false) (env : Env) (v : Value) : assign (.Subscript o i p) env v = (do
      let ov ← holding [v] (eval o env)
      let iv ← holding [v, ov] (eval i env)
      standAt p
      holding [v, ov, iv] (setItem ov iv v)
      release [v, ov, iv] []) := by
  cases i <;> first
    | rfl
    | cases h
/-- name = [..] exchanges the stores -/
def lcSw (sc : Scope) (x : Str) (xp lp : Pos) (scope : Scope) : Bool := sc.names.lookup x == some .local && xp.line == lp.line && !(scope.names.any fun (n, k) => n == x && (k == .local || k == .cell))
theorem lcSw_ok {env : Env} {x : Str} {xp lp : Pos} {scope : Scope} {elt : Expr} {gens : List Comprehension} {n : Nat} (hb : env.blockKind = .function) : swapsWith (.ListComp elt gens scope lp) (some (.Name x xp)) n env = pure (lcSw env.scope x xp lp scope) := by
  show (pure (env.blockKind == .function && env.kindOf x == some .local && xp.line == lp.line && !(scope.names.any fun (n, k) => n == x && (k == .local || k == .cell))) : Sem Bool) = _
  rw [hb]
  rfl
def lcB : Expr → Bool
  | .ListComp .. => true
  | _ => false
def cNm (n : Nat) (tb : Tb) (x : Str) (e : Expr) : Option S := if locB tb x then (ix tb.N x).bind fun i => if compB e && !lcB e then none else (cE n tb e).map (.set i) else none
def cPar (n : Nat) (tb : Tb) : List Expr → List Expr → Option S
  | [.Name x xp, .Name y yp], [a, b] => if swB tb.sc [.Name x xp, .Name y yp] [a, b] = some (some [x, y]) ∧ tb.sc.names.lookup x = some .local ∧ tb.sc.names.lookup y = some .local then
      (ix tb.N x).bind fun i => (ix tb.N y).bind fun j => if i = j then none else (cEs (cE n tb) [a, b]).map (.par [i, j]) else none
  | [.Name x xp, .Name y yp, .Name z zp], [a, b, c] => if swB tb.sc [.Name x xp, .Name y yp, .Name z zp] [a, b, c] = some (some [x, y, z]) ∧ tb.sc.names.lookup x = some .local ∧ tb.sc.names.lookup y = some .local ∧ tb.sc.names.lookup z = some .local then
      (ix tb.N x).bind fun i => (ix tb.N y).bind fun j => (ix tb.N z).bind fun l => if i = j ∨ i = l ∨ j = l then none else (cEs (cE n tb) [a, b, c]).map (.par [i, j, l]) else none
  | _, _ => none
def cTT (n : Nat) (tb : Tb) (t : Expr) (e : Expr) : Option S := (cG n tb t).bind fun t => (cE n tb e).map (.setT t)
def cTup (n : Nat) (tb : Tb) (ts : List Expr) (k : Nat) (p : Pos) (vs : List Expr) (k2 : Nat) (p2 : Pos) : Option S :=
  if swB tb.sc ts vs = some none then cTT n tb (.Tuple ts k p) (.Tuple vs k2 p2) else cPar n tb ts vs
def cSub (n : Nat) (tb : Tb) (x : Str) (i e : Expr) : Option S := if compB e || sliceB i || !visB tb.sc x || !nmB x then none else (ix tb.N x).bind fun j => (cE n tb i).bind fun ci => (cE n tb e).map fun ce => .setI j ci ce
def cS1 (n : Nat) (tb : Tb) : List Expr → Expr → Option S
  | [.Name x _], e => cNm n tb x e
  | [.Tuple ts k p], .Tuple vs k2 p2 => cTup n tb ts k p vs k2 p2
  | [.Tuple ts k p], e => if compB e || tupleB e then none else cTT n tb (.Tuple ts k p) e
  | [.Subscript (.Name x _) i _], e => cSub n tb x i e
  | _, _ => none
mutual
def cS (refs : List Nat) : Nat → Tb → Stmt → Option S
  | 0, _, _ => none
  | n + 1, tb, .Assign ts e _ => cS1 n tb ts e
  | n + 1, tb, .Expr (.Constant (.str _) _ _) _ => some .pass
  | n + 1, tb, .Expr e _ => if compB e then none else (cE n tb e).map .expr
  | n + 1, tb, .If t a b _ => (cT n tb t).bind fun ct => (cSs refs n tb a).bind fun ca => (cSs refs n tb b).map fun cb => .ite ct ca cb
  | n + 1, tb, .While t b [] _ => (cT n tb t).bind fun ct => (cSs refs n tb b).map fun cb => .while_ ct cb
  | n + 1, tb, .For tg iter b [] _ => if setB iter then none else (cI n tb tg iter).bind fun it => (cG n tb tg).bind fun t => (cSs refs n tb b).map fun cb => .for_ t it cb
  | _ + 1, _, .Return none _ => some .retN
  | n + 1, tb, .Return (some (.Name x p)) _ => match (if visB tb.sc x && nmB x then ix tb.N x else none) with
    | some i => some (if refs.contains i then .ret (.var i) else .retv i)
    | none => (cE n tb (.Name x p)).map .ret
  | n + 1, tb, .Return (some e) _ => (cE n tb e).map .ret
  | _ + 1, _, .Pass _ => some .pass
  | _ + 1, _, .Break _ => some .brk
  | _ + 1, _, .Continue _ => some .cont
  | _ + 1, _, _ => none
def cSs (refs : List Nat) : Nat → Tb → List Stmt → Option (List S)
  | _, _, [] => some []
  | 0, _, _ :: _ => none
  | n + 1, tb, s :: ss => (cS refs n tb s).bind fun c => (cSs refs n tb ss).map fun cs => c :: cs
end
section
variable {P : Program} {w : World} {K : PySem.W.Frag} {mg : Str → Option Value} {base : Heap} {Φ : Cf} {n : Nat} {tb : Tb} {X : Cx} {refs : List Nat}
theorem sole_ok {t e : Expr} {n : Nat} {env : Env} (h : compB e = false) : swapsWithSole [t] e n env = pure false := by
  show swapsWith e (some t) n env = _
  exact compB_ok h _ _ _
theorem cTT_ok (C : Cok P w K mg base Φ tb X) {ts : List Expr} {k : Nat} {p pos : Pos} {e : Expr} {c : Ev.S} (hc : compB e = false) (hw : swappedStores [.Tuple ts k p] e X.env = pure none) (h : cTT n tb (.Tuple ts k p) e = some c) : JS X Φ refs (.Assign [.Tuple ts k p] e pos) c := by
  unfold cTT at h
  obtain ⟨t, e1, h⟩ := bind_some h
  obtain ⟨ce, e2, rfl⟩ := map_some h
  exact js_setT ((snd_all n).e C e2) (cG_ok n C e1) (sole_ok hc) hw rfl
theorem cNm_ok (C : Cok P w K mg base Φ tb X) (hb : X.env.blockKind = .function) {x : Str} {xp pos : Pos} {e : Expr} {c : Ev.S} (h : cNm n tb x e = some c) : JS X Φ refs (.Assign [.Name x xp] e pos) c := by
  have hf : ∀ e c, cE n tb e = some c → JE X Φ e c := fun e c h => (snd_all (P := P) (w := w) (K := K) (mg := mg) (base := base) (Φ := Φ) n).e C h
  unfold cNm at h
  rcases ite_some h with ⟨hl, h1⟩ | ⟨_, h1⟩
  · obtain ⟨i, e1, h1⟩ := bind_some h1
    obtain ⟨l1, l2⟩ := C.loc hl
    have hN : X.N[i]? = some x := by rw [C.N]; exact ix_get e1
    rcases ite_some h1 with ⟨_, h2⟩ | ⟨hc, h2⟩
    · cases h2
    obtain ⟨ce, e2, rfl⟩ := map_some h2
    cases hlc : lcB e with
    | false =>
      have hc : compB e = false := by
        rw [hlc] at hc
        simpa using hc
      exact js_set C.nd hN l1 (hf _ _ e2) (compB_ok hc _ _ _) l2
    | true =>
      cases e with
      | ListComp elt gens scope lp =>
        cases hsw : lcSw X.env.scope x xp lp scope with
        | false => exact js_set C.nd hN l1 (hf _ _ e2) (by rw [lcSw_ok hb, hsw]) l2
        | true =>
          have hloc : X.env.scope.names.lookup x = some .local := by
            unfold lcSw at hsw
            simp only [Bool.and_eq_true, beq_iff_eq] at hsw
            exact hsw.1.1
          match n, gens, e2 with
          | 0, _, e2 => unfold cE at e2; cases e2
          | n + 1, [⟨tg, iter, ifs, asy⟩], e2 =>
            by_cases ha : asy = 0
            rotate_left
            · unfold cE at e2
              rw [if_pos ha] at e2
              cases e2
            subst ha
            obtain ⟨own, ce', cc, t, it, rfl, h1, h2, h3, h4, h5, h6, h7⟩ := snd_comp (snd_all n) C e2
            exact js_setLc C.calm C.nd hN hloc (by rw [lcSw_ok hb, hsw]) h1 h2 h3 h5 h6 h7 h4
          | n + 1, [], e2 => unfold cE at e2; cases e2
          | n + 1, ⟨_, _, _, _⟩ :: _ :: _, e2 => unfold cE at e2; cases e2
      | _ => cases hlc
  · cases h1
theorem cPar_ok (C : Cok P w K mg base Φ tb X) (hb : X.env.blockKind = .function) {ts vs : List Expr} {k k2 : Nat} {p p2 pos : Pos} {c : Ev.S} (h : cPar n tb ts vs = some c) : JS X Φ refs (.Assign [.Tuple ts k p] (.Tuple vs k2 p2) pos) c := by
  have hf : ∀ e c, cE n tb e = some c → JE X Φ e c := fun e c h => (snd_all (P := P) (w := w) (K := K) (mg := mg) (base := base) (Φ := Φ) n).e C h
  unfold cPar at h
  split at h
  · rename_i x xp y yp a b
    rcases ite_some h with ⟨⟨q1, q2, q3⟩, h⟩ | ⟨_, h⟩
    · obtain ⟨i, e1, h⟩ := bind_some h
      obtain ⟨j, e2, h⟩ := bind_some h
      rcases ite_some h with ⟨_, h⟩ | ⟨hij, h⟩
      · cases h
      obtain ⟨cs, e3, rfl⟩ := map_some h
      obtain ⟨c1, cs1, s1, f1, e4, rfl⟩ := cEs_cons e3
      obtain ⟨c2, cs2, s2, f2, e5, rfl⟩ := cEs_cons e4
      cases e5
      rw [← C.sc] at q1 q2 q3
      exact js_par2 C.calm C.nd (by rw [C.N]; exact ix_get e1) (by rw [C.N]; exact ix_get e2) hij q2 q3 (cEs_ok hf e3).2.2.1 (swB_ok hb q1) (sole_ok rfl)
    · cases h
  · rename_i x xp y yp z zp a b d
    rcases ite_some h with ⟨⟨q1, q2, q3, q4⟩, h⟩ | ⟨_, h⟩
    · obtain ⟨i, e1, h⟩ := bind_some h
      obtain ⟨j, e2, h⟩ := bind_some h
      obtain ⟨l, e2', h⟩ := bind_some h
      rcases ite_some h with ⟨_, h⟩ | ⟨hij, h⟩
      · cases h
      simp only [not_or] at hij
      obtain ⟨cs, e3, rfl⟩ := map_some h
      obtain ⟨c1, cs1, s1, f1, e4, rfl⟩ := cEs_cons e3
      obtain ⟨c2, cs2, s2, f2, e5, rfl⟩ := cEs_cons e4
      obtain ⟨c3, cs3, s3, f3, e6, rfl⟩ := cEs_cons e5
      cases e6
      rw [← C.sc] at q1 q2 q3 q4
      exact js_par3 C.calm C.nd (by rw [C.N]; exact ix_get e1) (by rw [C.N]; exact ix_get e2) (by rw [C.N]; exact ix_get e2') hij.1 hij.2.1 hij.2.2 q2 q3 q4 (cEs_ok hf e3).2.2.1 (swB_ok hb q1) (sole_ok rfl)
    · cases h
  · cases h
theorem cSub_ok (C : Cok P w K mg base Φ tb X) {x : Str} {i e : Expr} {p sp pos : Pos} {c : Ev.S} (h : cSub n tb x i e = some c) : JS X Φ refs (.Assign [.Subscript (.Name x p) i sp] e pos) c := by
  have hf : ∀ e c, cE n tb e = some c → JE X Φ e c := fun e c h => (snd_all (P := P) (w := w) (K := K) (mg := mg) (base := base) (Φ := Φ) n).e C h
  unfold cSub at h
  rcases ite_some h with ⟨_, h⟩ | ⟨hc, h⟩
  · cases h
  simp only [Bool.or_eq_true, not_or, Bool.not_eq_true, Bool.not_eq_true', Bool.not_eq_false] at hc
  obtain ⟨⟨⟨c1, c2⟩, c3⟩, c4⟩ := hc
  obtain ⟨j, e1, h⟩ := bind_some h
  obtain ⟨ci, e2, h⟩ := bind_some h
  obtain ⟨ce, e3, rfl⟩ := map_some h
  obtain ⟨n1, n2⟩ := nmB_ok c4
  exact js_setI (by rw [C.N]; exact ix_get e1) (C.vis c3) n1 n2 (hf _ _ e2) (hf _ _ e3) (sub_asg c2 _) (sole_ok c1) (sub_sw _) rfl
theorem cS1_ok (C : Cok P w K mg base Φ tb X) (hk : tb.sc.kind = .function) {ts : List Expr} {e : Expr} {pos : Pos} {c : Ev.S} (h : cS1 n tb ts e = some c) : JS X Φ refs (.Assign ts e pos) c := by
  have hb : X.env.blockKind = .function := by
    unfold Env.blockKind
    rw [C.sc, hk]
    rfl
  unfold cS1 at h
  split at h
  · exact cNm_ok C hb h
  · unfold cTup at h
    rcases ite_some h with ⟨hsw, h⟩ | ⟨_, h⟩
    · exact cTT_ok C rfl (swB_ok hb (by rw [C.sc]; exact hsw)) h
    · exact cPar_ok C hb h
  · rcases ite_some h with ⟨_, h⟩ | ⟨hc, h⟩
    · cases h
    simp only [Bool.or_eq_true, not_or, Bool.not_eq_true] at hc
    exact cTT_ok C hc.1 (tupleB_ok hc.2 _) h
  · exact cSub_ok C h
  · cases h
end
end Ev
/-! Ev 23: the induction over the statements; a def of the text by its code. -/
namespace Ev
open PySem PySem.Spec PyProof.Rows L2

section
variable {P : Program} {w : World} {K : PySem.W.Frag} {mg : Str → Option Value} {base : Heap} {Φ : Cf} {tb : Tb} {X : Cx} {refs : List Nat}
structure SndS (Φ : Cf) (tb : Tb) (X : Cx) (refs : List Nat) (n : Nat) : Prop where
  s : ∀ {s : Stmt} {c : Ev.S}, cS refs n tb s = some c → JS X Φ refs s c
  ss : ∀ {s : List Stmt} {c : List Ev.S}, cSs refs n tb s = some c → JSs X Φ refs s c
theorem cSs_ok {n : Nat} (S : SndS Φ tb X refs n) : ∀ {s : List Stmt} {c : List Ev.S}, cSs refs (n + 1) tb s = some c → JSs X Φ refs s c := fun {s c} h => by
  cases s with
  | nil => unfold cSs at h; cases h; exact jss_nil
  | cons s ss =>
    unfold cSs at h
    obtain ⟨c1, e1, h⟩ := bind_some h
    obtain ⟨cs, e2, rfl⟩ := map_some h
    exact jss_cons (S.s e1) (S.ss e2)
theorem cS_ok (C : Cok P w K mg base Φ tb X) (hk : tb.sc.kind = .function) {n : Nat} (S : SndS Φ tb X refs n) {s : Stmt} {c : Ev.S} (h : cS refs (n + 1) tb s = some c) : JS X Φ refs s c := by
  have Sn := snd_all (P := P) (w := w) (K := K) (mg := mg) (base := base) (Φ := Φ) n
  have hp : PassesOwn (model X.prog X.w) X.A X.env X.xe := by rw [C.xe]; exact PassesOwn.never
  cases s with
  | Assign ts e pos => unfold cS at h; exact cS1_ok C hk h
  | Expr e pos =>
    have plain : (if compB e = true then none else (cE n tb e).map Ev.S.expr) = some c → JS X Φ refs (.Expr e pos) c := fun h => by
      rcases ite_some h with ⟨_, h⟩ | ⟨hc, h⟩
      · cases h
      obtain ⟨ce, e1, rfl⟩ := map_some h
      exact js_expr (Sn.e C e1) (compB_ok (by simpa using hc) _ _ _)
    cases e with
    | Constant k j p =>
      cases k with
      | str x => unfold cS at h; cases h; exact js_doc
      | _ => (unfold cS at h; exact plain h)
    | _ => (unfold cS at h; exact plain h)
  | If t a b pos =>
    unfold cS at h
    obtain ⟨ct, e1, h⟩ := bind_some h
    obtain ⟨ca, e2, h⟩ := bind_some h
    obtain ⟨cb, e3, rfl⟩ := map_some h
    exact js_if (Sn.t C e1).1 (S.ss e2) (S.ss e3)
  | While t b o pos =>
    cases o with
    | nil =>
      unfold cS at h
      obtain ⟨ct, e1, h⟩ := bind_some h
      obtain ⟨cb, e3, rfl⟩ := map_some h
      exact js_while hp (Sn.t C e1).1 (S.ss e3)
    | cons _ _ => unfold cS at h; cases h
  | For tg iter b o pos =>
    cases o with
    | nil =>
      unfold cS at h
      rcases ite_some h with ⟨_, h⟩ | ⟨hs, h⟩
      · cases h
      obtain ⟨it, e1, h⟩ := bind_some h
      obtain ⟨t, e2, h⟩ := bind_some h
      obtain ⟨cb, e3, rfl⟩ := map_some h
      exact js_for hp C.calm (Sn.i C e1) (cG_ok n C e2) (S.ss e3) (setB_ok (by simpa using hs) _)
    | cons _ _ => unfold cS at h; cases h
  | Return e pos =>
    cases e with
    | none => unfold cS at h; cases h; exact js_retN
    | some e =>
      cases e with
      | Name x p =>
        unfold cS at h
        split at h
        · rename_i i hi
          cases h
          rcases ite_some hi with ⟨hv, hi⟩ | ⟨_, hi⟩
          · obtain ⟨h1, h2⟩ := andq hv
            obtain ⟨n1, n2⟩ := nmB_ok h2
            have hN : X.N[i]? = some x := by rw [C.N]; exact ix_get hi
            cases hr : refs.contains i with
            | true => exact js_ret (je_var hN (C.vis h1) n1 n2)
            | false => exact js_retv hN (C.vis h1) n1 n2
          · cases hi
        · obtain ⟨ce, e1, rfl⟩ := map_some h
          exact js_ret (Sn.e C e1)
      | _ =>
        unfold cS at h
        obtain ⟨ce, e1, rfl⟩ := map_some h
        exact js_ret (Sn.e C e1)
  | Pass pos => unfold cS at h; cases h; exact js_pass
  | Break pos => unfold cS at h; cases h; exact js_break
  | Continue pos => unfold cS at h; cases h; exact js_cont
  | _ => (unfold cS at h; cases h)
theorem sndS_all (C : Cok P w K mg base Φ tb X) (hk : tb.sc.kind = .function) : ∀ n : Nat, SndS Φ tb X refs n
  | 0 => by
    refine ⟨?_, ?_⟩
    · intro s c h
      unfold cS at h
      cases h
    · intro s c h
      cases s with
      | nil => unfold cSs at h; cases h; exact jss_nil
      | cons s ss => unfold cSs at h; cases h
  | n + 1 => by
    have S := sndS_all C hk n
    refine ⟨?_, ?_⟩
    · intro s c h
      exact cS_ok C hk S h
    · intro s c h
      exact cSs_ok S h
end
/-- a def of the text: compiled to this code, its promise by what the code does -/
theorem def_ok {P : Program} {w : World} {K : PySem.W.Frag} {mg : Str → Option Value} {base : Heap} {x : Str} {st : Stmt} {f : Addr} {fd : FuncData} {N ps : List Str} {k n : Nat} {F' : FS} {c : Code} {Φ : Cf} {dl : Bool} {fns : List FnI} {cs blt : List Str} (F : C8.Fun K x x st f fd)
    (S : C8.scC N ps (C8.fnScope st) = true) (hps : ps.length = F'.ref.length) (href : c.ref = F'.ref) (hnp : c.np = ps.length) (hnl : c.nl = N.length) (hrun : ∀ xs r, xs.length = c.np → F'.run xs = some r → c.run Φ xs = some r)
    (hfns : ∀ (i : Nat) e, fns[i]? = some e → FnFact P w K mg base Φ i e) (hcs : ∀ (i : Nat) x, cs[i]? = some x → CsFact K mg Φ i x) (hblt : ∀ x ∈ blt, mg x = none)
    (hc : cSs (refsOf 0 c.ref) n ⟨N, C8.fnScope st, fun _ => true, dl, k, fns, cs, blt⟩ (C8.fnBody st) = some c.body) : FnG P w K mg base CX0 (k + 1) f fd ps (spOf K F') := by
  have S := C8.fnScope_by S
  refine fnG_of F S hps href hnp hnl hrun fun X B => ?_
  have C : Cok P w K mg base Φ ⟨N, C8.fnScope st, fun _ => true, dl, k, fns, cs, blt⟩ X := ⟨B.prog, B.w, B.K, B.mg, B.base, B.N, B.nd, B.sc, B.calm, B.room, B.gd, B.xe, fun x _ => ?_, hfns, hcs, hblt⟩
  · exact (sndS_all C S.kind n).ss hc
  · exact B.fnAll x
end Ev
/-! Ev 24: def after def. -/
namespace Ev
open PySem PySem.Spec PyProof.Rows L2

def Cf.add (Φ : Cf) (F : FS) : Cf := ⟨Φ.fn ++ [F], Φ.cs, Φ.W⟩
/-- the defs so far -/
structure Ok (P : Program) (w : World) (K : PySem.W.Frag) (mg : Str → Option Value) (base : Heap) (Φ : Cf) (l : List FnI) (cs blt : List Str) : Prop where
  len : Φ.fn.length = l.length
  fns : ∀ (i : Nat) e, l[i]? = some e → FnFact P w K mg base Φ i e
  cs : ∀ (i : Nat) x, cs[i]? = some x → CsFact K mg Φ i x
  blt : ∀ x ∈ blt, mg x = none
section
variable {P : Program} {w : World} {K : PySem.W.Frag} {mg : Str → Option Value} {base : Heap} {Φ : Cf} {l : List FnI} {cs blt : List Str}
theorem Ok.nil (hc : ∀ (i : Nat) x, cs[i]? = some x → CsFact K mg Φ i x) (hb : ∀ x ∈ blt, mg x = none) (h0 : Φ.fn = []) : Ok P w K mg base Φ [] cs blt := ⟨by rw [h0]; rfl, fun i e h => by simp at h, hc, hb⟩
/-- how a def is entered -/
structure Ent (K : PySem.W.Frag) (mg : Str → Option Value) (e : FnI) (st : Stmt) (f : Addr) (fd : FuncData) : Prop where
  fn : C8.Fun K e.name e.name st f fd
  mgf : mg e.name = some (.ref f)
  kp : PySem.W.keepIn K (.ref f) = true
  binds : Binds K fd e.ps []
  sigs : ∀ s ∈ e.sigs, KwOk K fd e.ps s.1 s.2.1 s.2.2
theorem Ok.step (O : Ok P w K mg base Φ l cs blt) {e : FnI} {st : Stmt} {f : Addr} {fd : FuncData} {N : List Str} {c : Code} {dl : Bool} {k n : Nat} (F : Ent K mg e st f fd) (S : C8.scC N e.ps (C8.fnScope st) = true) (hps : e.ps.length = e.ref.length) (href : c.ref = e.ref) (hnp : c.np = e.ps.length) (hnl : c.nl = N.length)
    (hlv : e.lv = k + 1) (hc : cSs (refsOf 0 c.ref) n ⟨N, C8.fnScope st, fun _ => true, dl, k, l, cs, blt⟩ (C8.fnBody st) = some c.body) : Ok P w K mg base (Φ.add ⟨e.ref, c.run Φ⟩) (l ++ [e]) cs blt := by
  have G : FnG P w K mg base CX0 e.lv f fd e.ps (spOf K ⟨e.ref, c.run Φ⟩) := by
    rw [hlv]
    exact def_ok (F' := ⟨e.ref, c.run Φ⟩) F.fn S hps href hnp hnl (fun xs r _ h => h) O.fns O.cs O.blt hc
  refine ⟨?_, fun i e' h => ?_, fun i x h => ?_, O.blt⟩
  · show (Φ.fn ++ [_]).length = _
    rw [List.length_append, List.length_append, O.len]
    rfl
  · by_cases hi : i < l.length
    · rw [List.getElem?_append_left hi] at h
      obtain ⟨F1, f1, fd1, q1, q2⟩ := (O.fns i e' h).ex
      refine ⟨F1, f1, fd1, ?_, q2⟩
      show (Φ.fn ++ [_])[i]? = _
      rw [List.getElem?_append_left (by rw [O.len]; exact hi)]
      exact q1
    · rw [List.getElem?_append_right (by omega)] at h
      have hi0 : i = l.length := by
        cases hq : i - l.length with
        | zero => omega
        | succ j => rw [hq] at h; simp at h
      subst hi0
      rw [Nat.sub_self] at h
      cases h
      refine ⟨⟨e.ref, c.run Φ⟩, f, fd, ?_, rfl, hps, F.mgf, F.kp, G, F.binds, F.sigs⟩
      show (Φ.fn ++ [_])[l.length]? = _
      rw [← O.len, List.getElem?_append_right (Nat.le_refl _), Nat.sub_self]
      rfl
  · obtain ⟨u, v, d, q1, q2, q3, q4⟩ := (O.cs i x h).ex
    exact ⟨u, v, d, q1, q2, q3, q4⟩
theorem Ok.last (O : Ok P w K mg base Φ l cs blt) {e : FnI} {st : Stmt} {f : Addr} {fd : FuncData} {N : List Str} {c : Code} {dl : Bool} {k n : Nat} (F : Ent K mg e st f fd) (S : C8.scC N e.ps (C8.fnScope st) = true) (hps : e.ps.length = e.ref.length) (href : c.ref = e.ref) (hnp : c.np = e.ps.length) (hnl : c.nl = N.length)
    (hc : cSs (refsOf 0 c.ref) n ⟨N, C8.fnScope st, fun _ => true, dl, k, l, cs, blt⟩ (C8.fnBody st) = some c.body) : FnG P w K mg base CX0 (k + 1) f fd e.ps (spOf K ⟨e.ref, c.run Φ⟩) :=
  def_ok (F' := ⟨e.ref, c.run Φ⟩) F.fn S hps href hnp hnl (fun xs r _ h => h) O.fns O.cs O.blt hc
end
end Ev
/-! Ev 25: plain facts of runs. -/
namespace Ev
open PySem PySem.Spec L2

theorem compGo_pure {body : PyData → Rho → Option (Option PyData × Rho)} {ρ : Rho} {f : PyData → Option PyData} : ∀ (xs acc : List PyData), (∀ x ∈ xs, body x ρ = some (f x, ρ)) → acc.length + xs.length ≤ sizeLine → compGo body xs acc ρ = some (acc ++ xs.filterMap f, ρ)
  | [], acc, _, _ => by simp [compGo]
  | x :: xs, acc, hb, hl => by
    unfold compGo
    rw [hb x List.mem_cons_self]
    have hl' : acc.length + xs.length + 1 ≤ sizeLine := by simpa [Nat.add_assoc] using hl
    cases hf : f x with
    | none =>
      show compGo body xs acc ρ = _
      rw [compGo_pure xs acc (fun y hy => hb y (List.mem_cons_of_mem _ hy)) (by omega), List.filterMap_cons, hf]
    | some d =>
      show (if acc.length < sizeLine then compGo body xs (acc ++ [d]) ρ else none) = _
      rw [if_pos (by omega), compGo_pure xs (acc ++ [d]) (fun y hy => hb y (List.mem_cons_of_mem _ hy)) (by rw [List.length_append, List.length_singleton]; omega), List.filterMap_cons, hf]
      simp
/-- a comprehension whose turns leave the names as they are -/
theorem ev_comp {Φ : Cf} {pk : Bool} {elt : E} {t : T} {it : It} {c : E} {own : List Nat} {ρ ρ1 ρ2 : Rho} {xs : List PyData} (f : PyData → Option PyData) (hi : evIt Φ it ρ = some (xs, ρ1)) (hw : wipeR ρ1 own = ρ2) (hb : ∀ x ∈ xs, turnR Φ elt t c own x ρ2 = some (f x, ρ2)) (hl : xs.length ≤ sizeLine) :
    ev Φ pk (.comp elt t it c own) ρ = some ((.list (xs.filterMap f), .l), ρ2) := by
  simp only [ev]
  rw [hi]
  show (compGo (turnR Φ elt t c own) xs [] (wipeR ρ1 own)).map _ = _
  rw [hw, compGo_pure xs [] hb (by simpa using hl)]
  simp
/-- .. with a state: S is told by the turns so far -/
theorem compGo_inv {body : PyData → Rho → Option (Option PyData × Rho)} (I : List PyData → List PyData → Rho → Prop) : ∀ (xs acc : List PyData) (ρ : Rho), I xs acc ρ → acc.length + xs.length ≤ sizeLine →
    (∀ x xs acc ρ, I (x :: xs) acc ρ → ∃ y ρ', body x ρ = some (y, ρ') ∧ I xs (acc ++ y.toList) ρ') → ∃ acc' ρ', compGo body xs acc ρ = some (acc', ρ') ∧ I [] acc' ρ'
  | [], acc, ρ, h, _, _ => ⟨acc, ρ, rfl, h⟩
  | x :: xs, acc, ρ, h, hl, hs => by
    obtain ⟨y, ρ1, e, h1⟩ := hs x xs acc ρ h
    have hl' : acc.length + xs.length + 1 ≤ sizeLine := by simpa [Nat.add_assoc] using hl
    unfold compGo
    rw [e]
    cases y with
    | none => exact compGo_inv I xs acc ρ1 (by simpa using h1) (by omega) hs
    | some d =>
      show ∃ acc' ρ', (if acc.length < sizeLine then compGo body xs (acc ++ [d]) ρ1 else none) = _ ∧ _
      rw [if_pos (by omega)]
      exact compGo_inv I xs (acc ++ [d]) ρ1 (by simpa using h1) (by rw [List.length_append, List.length_singleton]; omega) hs
theorem ev_comp_inv {Φ : Cf} {pk : Bool} {elt : E} {t : T} {it : It} {c : E} {own : List Nat} {ρ ρ1 : Rho} {xs : List PyData} (I : List PyData → List PyData → Rho → Prop) (hi : evIt Φ it ρ = some (xs, ρ1)) (h0 : I xs [] (wipeR ρ1 own)) (hl : xs.length ≤ sizeLine)
    (hs : ∀ x xs acc ρ, I (x :: xs) acc ρ → ∃ y ρ', turnR Φ elt t c own x ρ = some (y, ρ') ∧ I xs (acc ++ y.toList) ρ') : ∃ ys ρ', ev Φ pk (.comp elt t it c own) ρ = some ((.list ys, .l), ρ') ∧ I [] ys ρ' := by
  obtain ⟨ys, ρ', e, h⟩ := compGo_inv I xs [] (wipeR ρ1 own) h0 (by simpa using hl) hs
  refine ⟨ys, ρ', ?_, h⟩
  simp only [ev]
  rw [hi]
  show (compGo (turnR Φ elt t c own) xs [] (wipeR ρ1 own)).map _ = _
  rw [e]
  rfl
theorem forGo_inv {body : PyData → Rho → Option (Fl × Rho)} (I : List PyData → Rho → Prop) : ∀ (xs : List PyData) (ρ : Rho), I xs ρ → (∀ x xs ρ, I (x :: xs) ρ → ∃ ρ', body x ρ = some (.nx, ρ') ∧ I xs ρ') → ∃ ρ', forGo body xs ρ = some (.nx, ρ') ∧ I [] ρ'
  | [], ρ, h, _ => ⟨ρ, rfl, h⟩
  | x :: xs, ρ, h, hs => by
    obtain ⟨ρ1, e, h1⟩ := hs x xs ρ h
    unfold forGo
    rw [e]
    exact forGo_inv I xs ρ1 h1 hs
/-- a while with a measure -/
theorem whileGo_inv {body : Rho → Option (Option Fl × Rho)} (I : Nat → Rho → Prop) : ∀ (n W : Nat) (ρ : Rho), n < W → I n ρ → (∀ n ρ, I n ρ → (∃ ρ', body ρ = some (none, ρ') ∧ I 0 ρ') ∨ ∃ m ρ', m < n ∧ body ρ = some (some .nx, ρ') ∧ I m ρ') → ∃ ρ' ρ0 k, whileGo body W ρ = some (.nx, ρ') ∧ I k ρ0 ∧ body ρ0 = some (none, ρ') ∧ I 0 ρ' := by
  intro n
  induction n using Nat.strongRecOn with
  | _ n ih =>
    intro W ρ hW h hs
    cases W with
    | zero => omega
    | succ W =>
      unfold whileGo
      rcases hs n ρ h with ⟨ρ', e, h'⟩ | ⟨m, ρ', hm, e, h'⟩
      · rw [e]
        exact ⟨ρ', ρ, n, rfl, h, e, h'⟩
      · rw [e]
        exact ih m hm W ρ' (by omega) h' hs
/-! ### data -/
theorem canLay_ints : ∀ ns : List Int, PyData.canLayAll0 (ns.map PyData.int) = true
  | [] => by simp [PyData.canLayAll0]
  | n :: ns => by simp [PyData.canLayAll0, PyData.canLay0, canLay_ints ns]
theorem eqv_ints : ∀ a b : List Int, PyData.eqvAll (a.map PyData.int) (b.map PyData.int) = decide (a = b)
  | [], [] => by simp [PyData.eqvAll]
  | [], y :: b => by simp [PyData.eqvAll]
  | x :: a, [] => by simp [PyData.eqvAll]
  | x :: a, y :: b => by
    simp only [List.map_cons, PyData.eqvAll, PyData.eqv, eqv_ints a b, List.cons.injEq]
    by_cases h : x = y <;> by_cases h2 : a = b <;> simp [h, h2]
theorem any_int (x : Int) : ∀ ns : List Int, (ns.map PyData.int).any (fun z => PyData.eqv z (.int x)) = decide (x ∈ ns)
  | [] => by simp
  | n :: ns => by
    rw [List.map_cons, List.any_cons, any_int x ns, PyData.eqv]
    by_cases h : n = x
    · simp [h]
    · have h2 : ¬ x = n := fun e => h e.symm
      by_cases h3 : x ∈ ns <;> simp [h, h2, h3]
end Ev
/-! Ev 26: sources of draws. -/
namespace Ev
open PySem PySem.Spec L2

theorem depth_ints : ∀ ns : List Int, PyData.depthAll (ns.map PyData.int) = 0
  | [] => by simp [PyData.depthAll]
  | n :: ns => by simp [PyData.depthAll, PyData.depth, depth_ints ns]
theorem sh_ints (ns : List Int) : SeqAt.shaped (.list (ns.map PyData.int)) = true := by
  simp [SeqAt.shaped, PyData.canLay0, canLay_ints, PyData.depth, depth_ints]
theorem sh_tints (ns : List Int) : SeqAt.shaped (.tuple (ns.map PyData.int)) = true := by
  simp [SeqAt.shaped, PyData.canLay0, canLay_ints, PyData.depth, depth_ints]
theorem sh_int (n : Int) : SeqAt.shaped (.int n) = true := by simp [SeqAt.shaped, PyData.canLay0, PyData.depth]
theorem sh_bool (n : Bool) : SeqAt.shaped (.bool n) = true := by simp [SeqAt.shaped, PyData.canLay0, PyData.depth]
theorem sh_nil : SeqAt.shaped (.list []) = true := sh_ints []
theorem sh_tnil : SeqAt.shaped (.tuple []) = true := sh_tints []
theorem eqv_int (i j : Int) : PyData.eqv (.int i) (.int j) = (i == j) := by simp [PyData.eqv]
theorem eqv_nil (ns : List Int) : PyData.eqv (.list (ns.map PyData.int)) (.list []) = decide (ns = []) := by
  have := eqv_ints ns []
  simpa [PyData.eqv] using this
theorem atI_last {α : Type} (l : List α) (x : α) : atI (l ++ [x]) (-1) = some x := by
  have e : ixN (l ++ [x]).length (-1) = some l.length := by
    unfold ixN
    rw [List.length_append, List.length_singleton, if_neg (by omega), if_pos (by omega)]
    exact congrArg some (by omega)
  unfold atI
  rw [e]
  simp
/-- a source of draws -/
def dl (ns : List Int) (n : Int) : DO := (.list [.list (ns.map PyData.int), .int n], .g)
structure Good (ns : List Int) (n : Int) : Prop where
  len : ns.length ≤ 48
  pos : ∀ x ∈ ns, 0 ≤ x
  n0 : 0 ≤ n
  n1 : n < 2 ^ 40
def anyC : Ev.Code := ⟨2, 3, [true, false],
    [.while_ (.and_ (.cmp .ne (.idx (.var 0) (.lit (.int 0))) (.lst [])) (.cmp .eq (.idx (.idx (.var 0) (.lit (.int 0))) (.neg (.lit (.int 1)))) (.lit (.int 0)))) [.expr (.gmut .pop 0 [])],
    .ite (.cmp .ne (.idx (.var 0) (.lit (.int 0))) (.lst [])) [.set 2 (.bi .int1 [(.gmut .pop 0 [])]), .expr (.gmut .append 0 [(.bin .fdiv (.var 2) (.var 1))]), .ret (.bin .mod (.var 2) (.var 1))] [],
    .setI 0 (.lit (.int 1)) (.bin .mod (.bi .int1 [(.bin .add (.bin .mul (.idx (.var 0) (.lit (.int 1))) (.lit (.int 40693))) (.lit (.int 71)))]) (.lit (.int 2147483647))),
    .ret (.bin .mod (.bi .int1 [(.bin .fdiv (.idx (.var 0) (.lit (.int 1))) (.lit (.int 64)))]) (.var 1))]⟩
section
variable {Φ : Cf} {ns : List Int} {n b : Int} {r : Slot}
def rhoA (ns : List Int) (n b : Int) (r : Slot) : Rho := [some (dl ns n), some (.int b, .f), r]
theorem any_ne : ev Φ true (.cmp .ne (.idx (.var 0) (.lit (.int 0))) (.lst [])) (rhoA ns n b r) = some ((.bool (!decide (ns = [])), .f), rhoA ns n b r) := by
  have h := eqv_nil ns
  simp [ev, evs, E.quiet, quiets, rhoA, dl, Rho.at, idxSem, idxG, cmpSem, chk, sh_ints, sh_nil, h]
theorem any_last {x : Int} : ev Φ true (.cmp .eq (.idx (.idx (.var 0) (.lit (.int 0))) (.neg (.lit (.int 1)))) (.lit (.int 0))) (rhoA (ns ++ [x]) n b r) = some ((.bool (decide (x = 0)), .f), rhoA (ns ++ [x]) n b r) := by
  have h : atI (ns.map PyData.int ++ [.int x]) (-1) = some (.int x) := atI_last _ _
  simp [ev, evs, E.quiet, quiets, rhoA, dl, Rho.at, idxSem, idxG, cmpSem, chk, sh_int, eqv_int, h, fz]
  exact (decide_eq_decide.mpr Iff.rfl)
theorem any_pop {pk : Bool} {x : Int} : ev Φ pk (.gmut .pop 0 []) (rhoA (ns ++ [x]) n b r) = some ((.int x, .f), rhoA ns n b r) := by
  simp [ev, evs, E.quiet, quiets, rhoA, dl, Rho.at, ownG, muSem, mu0, intsOf_map]
theorem snoc_of {ns : List Int} (h : ns ≠ []) : ∃ a x, ns = a ++ [x] := ⟨ns.dropLast, ns.getLast h, (List.dropLast_concat_getLast h).symm⟩
theorem Good.front {x : Int} (g : Good (ns ++ [x]) n) : Good ns n ∧ 0 ≤ x := by
  have := g.len
  rw [List.length_append, List.length_singleton] at this
  exact ⟨⟨by omega, fun y hy => g.pos y (List.mem_append_left _ hy), g.n0, g.n1⟩, g.pos x (by simp)⟩
theorem ev_and_t {pk : Bool} {a b : E} {ρ ρ1 : Rho} {o : O} (h : ev Φ true a ρ = some ((.bool true, o), ρ1)) : ev Φ pk (.and_ a b) ρ = ev Φ pk b ρ1 := by
  show (ev Φ true a ρ).bind _ = _
  rw [h]
  rfl
theorem ev_and_f {pk : Bool} {a b : E} {ρ ρ1 : Rho} {o : O} (h : ev Φ true a ρ = some ((.bool false, o), ρ1)) : ev Φ pk (.and_ a b) ρ = some ((.bool false, .f), ρ1) := by
  show (ev Φ true a ρ).bind _ = _
  rw [h]
  rfl
def anyCond : E := .and_ (.cmp .ne (.idx (.var 0) (.lit (.int 0))) (.lst [])) (.cmp .eq (.idx (.idx (.var 0) (.lit (.int 0))) (.neg (.lit (.int 1)))) (.lit (.int 0)))
theorem any_cond0 : ev Φ true anyCond (rhoA [] n b r) = some ((.bool false, .f), rhoA [] n b r) := ev_and_f (o := .f) (by rw [any_ne]; rfl)
theorem any_cond {x : Int} : ev Φ true anyCond (rhoA (ns ++ [x]) n b r) = some ((.bool (decide (x = 0)), .f), rhoA (ns ++ [x]) n b r) := by
  have h : ev Φ true (.cmp .ne (.idx (.var 0) (.lit (.int 0))) (.lst [])) (rhoA (ns ++ [x]) n b r) = some ((.bool true, .f), rhoA (ns ++ [x]) n b r) := by
    rw [any_ne]
    simp
  unfold anyCond
  rw [ev_and_t h, any_last]
def whB (Φ : Cf) (refs : List Nat) (c : E) (bd : List S) : Rho → Option (Option Fl × Rho) := fun ρ => (ev Φ true c ρ).bind fun (x, ρ1) => match x.1 with
    | .bool true => (evSs Φ refs bd ρ1).map fun (f, ρ2) => (some f, ρ2)
    | .bool false => some (none, ρ1)
    | _ => none
theorem whB_f {refs : List Nat} {c : E} {bd : List S} {ρ ρ1 : Rho} {o : O} (h : ev Φ true c ρ = some ((.bool false, o), ρ1)) : whB Φ refs c bd ρ = some (none, ρ1) := by
  unfold whB
  rw [h]
  rfl
theorem whB_t {refs : List Nat} {c : E} {bd : List S} {ρ ρ1 ρ2 : Rho} {o : O} {f : Fl} (h : ev Φ true c ρ = some ((.bool true, o), ρ1)) (h2 : evSs Φ refs bd ρ1 = some (f, ρ2)) : whB Φ refs c bd ρ = some (some f, ρ2) := by
  unfold whB
  rw [h]
  show (evSs Φ refs bd ρ1).map _ = _
  rw [h2]
  rfl
theorem any_loop {refs : List Nat} : ∀ (k W : Nat) (ns : List Int), ns.length ≤ k → k < W → Good ns n → ∃ ns', Good ns' n ∧ (ns' = [] ∨ ∃ a x, ns' = a ++ [x] ∧ x ≠ 0) ∧ whileGo (whB Φ refs anyCond [.expr (.gmut .pop 0 [])]) W (rhoA ns n b none) = some (.nx, rhoA ns' n b none)
  | k, 0, ns, _, hW, _ => by omega
  | k, W + 1, ns, hl, hW, g => by
    by_cases hn : ns = []
    · subst hn
      refine ⟨[], g, .inl rfl, ?_⟩
      unfold whileGo
      rw [whB_f any_cond0]
      rfl
    · obtain ⟨a, x, rfl⟩ := snoc_of hn
      by_cases hx : x = 0
      · subst hx
        cases k with
        | zero => simp at hl
        | succ k =>
          obtain ⟨ns', g', q, e⟩ := any_loop k W a (by simpa using hl) (by omega) g.front.1
          refine ⟨ns', g', q, ?_⟩
          unfold whileGo
          rw [whB_t (o := .f) (ρ1 := rhoA (a ++ [0]) n b none) (ρ2 := rhoA a n b none) (f := .nx) (by rw [any_cond]; rfl) (by simp [evSs, evS, any_pop])]
          exact e
      · refine ⟨a ++ [x], g, .inr ⟨a, x, rfl, hx⟩, ?_⟩
        unfold whileGo
        rw [whB_f (o := .f) (ρ1 := rhoA (a ++ [x]) n b none) (by rw [any_cond]; simp [hx])]
        rfl
theorem log2_bound {i : Int} {k : Nat} (h0 : 0 ≤ i) (h1 : i < 2 ^ k) (hk : 0 < k) : i.natAbs.log2 < k := by
  by_cases hz : i.natAbs = 0
  · rw [hz]
    simpa using hk
  · rw [Nat.log2_lt hz]
    have : ((i.natAbs : Nat) : Int) < ((2 ^ k : Nat) : Int) := by
      rw [Int.natAbs_of_nonneg h0]
      simpa using h1
    exact_mod_cast this
theorem any_run (hW : 60 ≤ Φ.W) (g : Good ns n) (hb : 0 < b) (hb2 : b.natAbs.log2 < 9000) : ∃ v ns' n', 0 ≤ v ∧ v < b ∧ Good ns' n' ∧ anyC.run Φ [dl ns n, (.int b, .f)] = some ((.int v, .f), [some (dl ns' n'), none]) := by
  obtain ⟨ns1, g1, q, e⟩ := any_loop (Φ := Φ) (b := b) (refs := [0]) 48 Φ.W ns g.len (by omega) g
  have e0 : evS Φ [0] (.while_ anyCond [.expr (.gmut .pop 0 [])]) (rhoA ns n b none) = some (.nx, rhoA ns1 n b none) := e
  have hne : decide (ns1 = []) = true ∨ decide (ns1 = []) = false := by cases decide (ns1 = []) <;> simp
  have start : anyC.run Φ [dl ns n, (.int b, .f)] = (evSs Φ [0] (anyC.body.drop 1) (rhoA ns1 n b none)).bind fun (f, ρ) => match f with
    | .rt r => some (r, outsOf anyC.ref ρ)
    | .nx => some ((.none, .f), outsOf anyC.ref ρ)
    | _ => none := by
    show (evSs Φ [0] anyC.body (rhoA ns n b none)).bind _ = _
    show ((evS Φ [0] (.while_ anyCond [.expr (.gmut .pop 0 [])]) (rhoA ns n b none)).bind _).bind _ = _
    rw [e0]
    rfl
  rw [start]
  rcases q with rfl | ⟨a, x, rfl, hx⟩
  · -- the mixed number
    have hm : (n * 40693 + 71) % 2147483647 < 2147483647 := Int.emod_lt_of_pos _ (by decide)
    have hm0 : 0 ≤ (n * 40693 + 71) % 2147483647 := Int.emod_nonneg _ (by decide)
    refine ⟨((n * 40693 + 71) % 2147483647) / 64 % b, [], (n * 40693 + 71) % 2147483647, Int.emod_nonneg _ (by omega), Int.emod_lt_of_pos _ hb, ⟨by simp, fun x hx => (nomatch hx), hm0, by omega⟩, ?_⟩
    have hmul : n.natAbs.log2 + (40693 : Int).natAbs.log2 < 1000000 := by
      have h1 := log2_bound g1.n0 g1.n1 (by decide)
      have h2 : (40693 : Int).natAbs.log2 < 16 := by decide
      omega
    have h64 : (64 : Int).natAbs.log2 < 9000 := by decide
    have hmul' : n.natAbs.log2 + Nat.log2 40693 < 1000000 := hmul
    have h64' : Nat.log2 64 < 9000 := h64
    have s1 : evS Φ [0] (.ite (.cmp .ne (.idx (.var 0) (.lit (.int 0))) (.lst [])) [.set 2 (.bi .int1 [(.gmut .pop 0 [])]), .expr (.gmut .append 0 [(.bin .fdiv (.var 2) (.var 1))]), .ret (.bin .mod (.var 2) (.var 1))] []) (rhoA [] n b none) = some (.nx, rhoA [] n b none) := by
      simp only [evS, any_ne]
      rfl
    have s2 : evS Φ [0] (.setI 0 (.lit (.int 1)) (.bin .mod (.bi .int1 [(.bin .add (.bin .mul (.idx (.var 0) (.lit (.int 1))) (.lit (.int 40693))) (.lit (.int 71)))]) (.lit (.int 2147483647)))) (rhoA [] n b none) = some (.nx, rhoA [] ((n * 40693 + 71) % 2147483647) b none) := by
      simp [evS, ev, evs, evp, E.quiet, quiets, rhoA, dl, Rho.at, idxSem, idxG, binSem, mulSem, addSem, chk, fz, bi1, biSem, intSem, ownL, ownG, hmul']
    have s3 : evS Φ [0] (.ret (.bin .mod (.bi .int1 [(.bin .fdiv (.idx (.var 0) (.lit (.int 1))) (.lit (.int 64)))]) (.var 1))) (rhoA [] ((n * 40693 + 71) % 2147483647) b none) = some (.rt (.int (((n * 40693 + 71) % 2147483647) / 64 % b), .f), rhoA [] ((n * 40693 + 71) % 2147483647) b none) := by
      simp [evS, ev, evs, evp, E.quiet, quiets, rhoA, dl, Rho.at, idxSem, idxG, binSem, mulSem, addSem, chk, fz, bi1, biSem, intSem, ownL, ownG, h64', hb]
    show (((evS Φ [0] (.ite _ _ _) _).bind _).bind _) = _
    rw [s1]
    show (((evS Φ [0] (.setI _ _ _) _).bind _).bind _) = _
    rw [s2]
    show (((evS Φ [0] (.ret _) _).bind _).bind _) = _
    rw [s3]
    rfl
  · obtain ⟨ga, hx0⟩ := g1.front
    have hdiv : 0 ≤ x / b := Int.ediv_nonneg hx0 (by omega)
    refine ⟨x % b, a ++ [x / b], n, Int.emod_nonneg _ (by omega), Int.emod_lt_of_pos _ hb, ⟨?_, fun y hy => ?_, g1.n0, g1.n1⟩, ?_⟩
    · have := g1.len
      rw [List.length_append, List.length_singleton] at this ⊢
      exact this
    · rcases List.mem_append.mp hy with hy | hy
      · exact ga.pos y hy
      · rw [List.mem_singleton.mp hy]
        exact hdiv
    have hcond : ev Φ true (.cmp .ne (.idx (.var 0) (.lit (.int 0))) (.lst [])) (rhoA (a ++ [x]) n b none) = some ((.bool true, .f), rhoA (a ++ [x]) n b none) := by
      rw [any_ne]
      simp
    have hset : evS Φ [0] (.set 2 (.bi .int1 [(.gmut .pop 0 [])])) (rhoA (a ++ [x]) n b none) = some (.nx, rhoA a n b (some (.int x, .f))) := by
      have h1 := any_pop (Φ := Φ) (pk := true) (ns := a) (x := x) (n := n) (b := b) (r := none)
      have h2 : evp Φ [.gmut .pop 0 []] (rhoA (a ++ [x]) n b none) = some ([(.int x, .f)], rhoA a n b none) := by
        show (ev Φ true (.gmut .pop 0 []) (rhoA (a ++ [x]) n b none)).bind _ = _
        rw [h1]
        rfl
      show (((evp Φ [.gmut .pop 0 []] (rhoA (a ++ [x]) n b none)).bind _).bind _) = _
      rw [h2]
      rfl
    have happ : evS Φ [0] (.expr (.gmut .append 0 [(.bin .fdiv (.var 2) (.var 1))])) (rhoA a n b (some (.int x, .f))) = some (.nx, rhoA (a ++ [x / b]) n b (some (.int x, .f))) := by
      have hlen : a.length < sizeLine := by
        have := ga.len
        rw [sizeLine_eq]
        omega
      have hi : intsOf (a.map PyData.int ++ [PyData.int (x / b)]) = some (a ++ [x / b]) := by
        have := intsOf_map (a ++ [x / b])
        simpa using this
      simp [evS, ev, evs, E.quiet, quiets, rhoA, dl, Rho.at, ownG, muSem, mu1, binSem, chk, hb, hb2, fz, hlen, hi]
    have hret : evS Φ [0] (.ret (.bin .mod (.var 2) (.var 1))) (rhoA (a ++ [x / b]) n b (some (.int x, .f))) = some (.rt (.int (x % b), .f), rhoA (a ++ [x / b]) n b (some (.int x, .f))) := by
      simp [evS, ev, E.quiet, rhoA, Rho.at, binSem, chk, hb, fz]
    have s1 : evS Φ [0] (.ite (.cmp .ne (.idx (.var 0) (.lit (.int 0))) (.lst [])) [.set 2 (.bi .int1 [(.gmut .pop 0 [])]), .expr (.gmut .append 0 [(.bin .fdiv (.var 2) (.var 1))]), .ret (.bin .mod (.var 2) (.var 1))] []) (rhoA (a ++ [x]) n b none) = some (.rt (.int (x % b), .f), rhoA (a ++ [x / b]) n b (some (.int x, .f))) := by
      simp only [evS, hcond]
      show evSs Φ [0] [.set 2 (.bi .int1 [(.gmut .pop 0 [])]), .expr (.gmut .append 0 [(.bin .fdiv (.var 2) (.var 1))]), .ret (.bin .mod (.var 2) (.var 1))] (rhoA (a ++ [x]) n b none) = _
      show ((evS Φ [0] (.set _ _) _).bind _) = _
      rw [hset]
      show ((evS Φ [0] (.expr _) _).bind _) = _
      rw [happ]
      show ((evS Φ [0] (.ret _) _).bind _) = _
      rw [hret]
      rfl
    show (((evS Φ [0] (.ite _ _ _) _).bind _).bind _) = _
    rw [s1]
    rfl
end
end Ev
/-! Ev 27: the source is made. -/
namespace Ev
open PySem PySem.Spec L2
def drawC : Ev.Code := ⟨2, 5, [false, false],
    [.set 2 (.comp (.bi .abs [(.bi .int1 [(.var 4)])]) (.name 4) (.seq (.slice (.var 0) (.lit .none) (.lit (.int 48)))) (.lit (.bool true)) [4]),
    .set 3 (.bin .add (.lit (.int 7919)) (.bin .mul (.lit (.int 104729)) (.var 1))),
    .for_ (.name 4) (.seq (.var 2)) [.set 3 (.bin .mod (.bi .int1 [(.bin .add (.bin .add (.bin .mul (.var 3) (.lit (.int 48271))) (.bin .mod (.var 4) (.lit (.int 2147483549)))) (.lit (.int 11)))]) (.lit (.int 2147483647)))],
    .ret (.deal (.rev (.comp (.var 4) (.name 4) (.seq (.var 2)) (.cmp .ge (.var 4) (.bin .pow (.lit (.int 10)) (.lit (.int 18)))) [4])) (.var 3))]⟩
section
variable {Φ : Cf}
theorem cut_ints (ns : List Int) (lo hi : Option Int) : ∃ ms : List Int, cutD (ns.map PyData.int) lo hi = ms.map PyData.int ∧ ms.length ≤ HT.sIx ns.length ns.length hi := by
  refine ⟨(ns.drop (HT.sIx ns.length 0 lo)).take (HT.sIx ns.length ns.length hi - HT.sIx ns.length 0 lo), ?_, ?_⟩
  · unfold cutD
    rw [List.length_map, ← List.map_drop, ← List.map_take]
  · rw [List.length_take]
    omega
theorem sIx48 (n : Nat) : HT.sIx n n (some 48) ≤ 48 := by
  show (if (48 : Int) < 0 then ((48 : Int) + (n : Int)).toNat else min (48 : Int).toNat n) ≤ 48
  rw [if_neg (by decide)]
  exact Nat.min_le_left _ _
theorem evS_for {refs : List Nat} {t : T} {it : It} {bd : List S} {ρ ρ1 : Rho} {xs : List PyData} (h : evIt Φ it ρ = some (xs, ρ1)) (hf : t.free refs = true) : evS Φ refs (.for_ t it bd) ρ = forGo (fun x ρ => (bindT t x ρ).bind fun ρ2 => evSs Φ refs bd ρ2) xs ρ1 := by
  simp only [evS]
  rw [h]
  show (if t.free refs then _ else none) = _
  rw [if_pos hf]
def rhoD (s : DO) (salt : Int) (c b x : Slot) : Rho := [some s, some (.int salt, .f), c, b, x]
theorem filterMap_int (ms : List Int) (g : Int → Int) : (ms.map PyData.int).filterMap (fun d => match d with | .int i => some (PyData.int (g i)) | _ => none) = (ms.map g).map PyData.int := by
  induction ms with
  | nil => rfl
  | cons m ms ih => simp only [List.map_cons, List.filterMap_cons, ih]
theorem filterMap_ge (ms : List Int) (k : Int) : (ms.map PyData.int).filterMap (fun d => match d with | .int i => if k ≤ i then some (PyData.int i) else none | _ => none) = (ms.filter fun i => decide (k ≤ i)).map PyData.int := by
  induction ms with
  | nil => rfl
  | cons m ms ih =>
    simp only [List.map_cons, List.filterMap_cons, List.filter_cons]
    by_cases h : k ≤ m
    · simp [h, ih]
    · simp [h, ih]
theorem draw_run {ns : List Int} {salt : Int} (h0 : 0 ≤ salt) (h1 : salt < 1000) : ∃ ks n, Good ks n ∧ drawC.run Φ [(.list (ns.map PyData.int), .f), (.int salt, .f)] = some (dl ks n, [none, none]) := by
  obtain ⟨ms, hm, hml⟩ := cut_ints ns none (some 48)
  have hml := Nat.le_trans hml (sIx48 ns.length)
  have hline : (64 : Nat) ≤ sizeLine := by rw [sizeLine_eq]; decide
  -- the cells
  have s1 : evS Φ [] (.set 2 (.comp (.bi .abs [(.bi .int1 [(.var 4)])]) (.name 4) (.seq (.slice (.var 0) (.lit .none) (.lit (.int 48)))) (.lit (.bool true)) [4])) (rhoD (.list (ns.map PyData.int), .f) salt none none none) =
      some (.nx, rhoD (.list (ns.map PyData.int), .f) salt (some (.list ((ms.map fun i => if i < 0 then -i else i).map PyData.int), .l)) none none) := by
    have hc : ev Φ false (.comp (.bi .abs [(.bi .int1 [(.var 4)])]) (.name 4) (.seq (.slice (.var 0) (.lit .none) (.lit (.int 48)))) (.lit (.bool true)) [4]) (rhoD (.list (ns.map PyData.int), .f) salt none none none) =
        some ((.list ((ms.map PyData.int).filterMap (fun d => match d with | .int i => some (PyData.int (if i < 0 then -i else i)) | _ => none)), .l), rhoD (.list (ns.map PyData.int), .f) salt none none none) := by
      refine ev_comp _ (ρ1 := rhoD (.list (ns.map PyData.int), .f) salt none none none) ?_ rfl ?_ (by rw [List.length_map]; omega)
      · simp [evIt, ev, E.quiet, rhoD, Rho.at, partE, sliceSem, hm]
      · intro x hx
        obtain ⟨i, _, rfl⟩ := List.mem_map.mp hx
        simp [turnR, bindT, ev, evp, quiets, rhoD, Rho.at, biSem, bi1, intSem, absSem, fz, wipeR]
    show ((ev Φ false _ _).bind _) = _
    rw [hc, filterMap_int]
    rfl
  have s2 : ∀ c, evS Φ [] (.set 3 (.bin .add (.lit (.int 7919)) (.bin .mul (.lit (.int 104729)) (.var 1)))) (rhoD (.list (ns.map PyData.int), .f) salt c none none) = some (.nx, rhoD (.list (ns.map PyData.int), .f) salt c (some (.int (7919 + 104729 * salt), .f)) none) := by
    intro c
    have hmul : Nat.log2 104729 + salt.natAbs.log2 < 1000000 := by
      have a1 := log2_bound (k := 10) h0 (by omega) (by decide)
      have a2 : Nat.log2 104729 < 17 := by decide
      omega
    simp [evS, ev, E.quiet, rhoD, Rho.at, binSem, mulSem, addSem, chk, fz, hmul, noRef]
  generalize hcs : (ms.map fun i => if i < 0 then -i else i) = cs at s1
  have hcl : cs.length ≤ 48 := by rw [← hcs, List.length_map]; exact hml
  have hcp : ∀ x ∈ cs, 0 ≤ x := by
    intro x hx
    rw [← hcs] at hx
    obtain ⟨i, _, rfl⟩ := List.mem_map.mp hx
    split <;> omega
  -- the blend
  have s3 : ∃ bl y, 0 ≤ bl ∧ bl < 2 ^ 40 ∧ evS Φ [] (.for_ (.name 4) (.seq (.var 2)) [.set 3 (.bin .mod (.bi .int1 [(.bin .add (.bin .add (.bin .mul (.var 3) (.lit (.int 48271))) (.bin .mod (.var 4) (.lit (.int 2147483549)))) (.lit (.int 11)))]) (.lit (.int 2147483647)))])
      (rhoD (.list (ns.map PyData.int), .f) salt (some (.list (cs.map PyData.int), .l)) (some (.int (7919 + 104729 * salt), .f)) none) = some (.nx, rhoD (.list (ns.map PyData.int), .f) salt (some (.list (cs.map PyData.int), .f)) (some (.int bl, .f)) y) := by
    obtain ⟨ρ', e, hi⟩ := forGo_inv (body := fun x ρ => (bindT (.name 4) x ρ).bind fun ρ2 => evSs Φ [] [.set 3 (.bin .mod (.bi .int1 [(.bin .add (.bin .add (.bin .mul (.var 3) (.lit (.int 48271))) (.bin .mod (.var 4) (.lit (.int 2147483549)))) (.lit (.int 11)))]) (.lit (.int 2147483647)))] ρ2)
      (fun xs ρ => (∃ zs : List Int, xs = zs.map PyData.int) ∧ ∃ bl y, 0 ≤ bl ∧ bl < 2 ^ 40 ∧ ρ = rhoD (.list (ns.map PyData.int), .f) salt (some (.list (cs.map PyData.int), .f)) (some (.int bl, .f)) y) (cs.map PyData.int)
      (rhoD (.list (ns.map PyData.int), .f) salt (some (.list (cs.map PyData.int), .f)) (some (.int (7919 + 104729 * salt), .f)) none) ⟨⟨cs, rfl⟩, _, _, by omega, by omega, rfl⟩ (by
        rintro x xs ρ ⟨⟨zs, hz⟩, bl, y, b0, b1, rfl⟩
        cases zs with
        | nil => cases hz
        | cons z zs =>
          cases hz
          have hmul : bl.natAbs.log2 + Nat.log2 48271 < 1000000 := by
            have a1 := log2_bound (k := 40) b0 b1 (by decide)
            have a2 : Nat.log2 48271 < 17 := by decide
            omega
          refine ⟨rhoD (.list (ns.map PyData.int), .f) salt (some (.list (cs.map PyData.int), .f)) (some (.int ((bl * 48271 + z % 2147483549 + 11) % 2147483647), .f)) (some (.int z, .f)), ?_, ⟨zs, rfl⟩, _, _, Int.emod_nonneg _ (by decide), ?_, rfl⟩
          · simp [bindT, evSs, evS, ev, evp, quiets, E.quiet, rhoD, Rho.at, binSem, mulSem, addSem, biSem, bi1, intSem, chk, fz, hmul, noRef]
          · have := Int.emod_lt_of_pos (bl * 48271 + z % 2147483549 + 11) (show (0 : Int) < 2147483647 by decide)
            omega)
    obtain ⟨_, bl, y, b0, b1, rfl⟩ := hi
    refine ⟨bl, y, b0, b1, ?_⟩
    have ei : evIt Φ (.seq (.var 2)) (rhoD (.list (ns.map PyData.int), .f) salt (some (.list (cs.map PyData.int), .l)) (some (.int (7919 + 104729 * salt), .f)) none) = some (cs.map PyData.int, rhoD (.list (ns.map PyData.int), .f) salt (some (.list (cs.map PyData.int), .f)) (some (.int (7919 + 104729 * salt), .f)) none) := by
      simp [evIt, ev, rhoD, Rho.at]
    rw [evS_for ei rfl]
    exact e
  obtain ⟨bl, y, b0, b1, s3⟩ := s3
  refine ⟨(cs.filter fun i => decide (10 ^ 18 ≤ i)).reverse, bl, ⟨?_, fun x hx => ?_, b0, b1⟩, ?_⟩
  · rw [List.length_reverse]
    exact Nat.le_trans (List.length_filter_le _ _) hcl
  · rw [List.mem_reverse] at hx
    exact hcp x (List.mem_filter.mp hx).1
  have s4 : evS Φ [] (.ret (.deal (.rev (.comp (.var 4) (.name 4) (.seq (.var 2)) (.cmp .ge (.var 4) (.bin .pow (.lit (.int 10)) (.lit (.int 18)))) [4])) (.var 3))) (rhoD (.list (ns.map PyData.int), .f) salt (some (.list (cs.map PyData.int), .f)) (some (.int bl, .f)) y) =
      some (.rt (dl (cs.filter fun i => decide (10 ^ 18 ≤ i)).reverse bl), rhoD (.list (ns.map PyData.int), .f) salt (some (.list (cs.map PyData.int), .f)) (some (.int bl, .f)) none) := by
    have hc : ev Φ true (.comp (.var 4) (.name 4) (.seq (.var 2)) (.cmp .ge (.var 4) (.bin .pow (.lit (.int 10)) (.lit (.int 18)))) [4]) (rhoD (.list (ns.map PyData.int), .f) salt (some (.list (cs.map PyData.int), .f)) (some (.int bl, .f)) y) =
        some ((.list ((cs.map PyData.int).filterMap (fun d => match d with | .int i => if (10 : Int) ^ 18 ≤ i then some (PyData.int i) else none | _ => none)), .l), rhoD (.list (ns.map PyData.int), .f) salt (some (.list (cs.map PyData.int), .f)) (some (.int bl, .f)) none) := by
      refine ev_comp _ (ρ1 := rhoD (.list (ns.map PyData.int), .f) salt (some (.list (cs.map PyData.int), .f)) (some (.int bl, .f)) y) ?_ rfl ?_ (by rw [List.length_map]; omega)
      · simp [evIt, ev, rhoD, Rho.at]
      · intro x hx
        obtain ⟨i, _, rfl⟩ := List.mem_map.mp hx
        by_cases hi : (10 : Int) ^ 18 ≤ i
        · have hi' : (1000000000000000000 : Int) ≤ i := by simpa using hi
          simp [turnR, bindT, ev, E.quiet, rhoD, Rho.at, cmpSem, binSem, chk, fz, wipeR, hi']
        · have hi' : ¬ (1000000000000000000 : Int) ≤ i := by simpa using hi
          simp [turnR, bindT, ev, E.quiet, rhoD, Rho.at, cmpSem, binSem, chk, fz, wipeR, hi']
    rw [filterMap_ge] at hc
    generalize (cs.filter fun i => decide ((10 : Int) ^ 18 ≤ i)) = gs at hc ⊢
    have hint : intsOf (gs.map PyData.int).reverse = some gs.reverse := by
      rw [← List.map_reverse]
      exact intsOf_map _
    have hd : ev Φ false (.deal (.rev (.comp (.var 4) (.name 4) (.seq (.var 2)) (.cmp .ge (.var 4) (.bin .pow (.lit (.int 10)) (.lit (.int 18)))) [4])) (.var 3)) (rhoD (.list (ns.map PyData.int), .f) salt (some (.list (cs.map PyData.int), .f)) (some (.int bl, .f)) y) =
        some (dl gs.reverse bl, rhoD (.list (ns.map PyData.int), .f) salt (some (.list (cs.map PyData.int), .f)) (some (.int bl, .f)) none) := by
      show (((ev Φ true (.comp _ _ _ _ _) _).bind _).bind _) = _
      rw [hc]
      show ((some _).bind _) = _
      simp [ev, rhoD, Rho.at, revSem, dl, hint]
    show ((ev Φ false (.deal _ _) _).map _) = _
    rw [hd]
    rfl
  show (((evS Φ [] (.set 2 _) (rhoD (.list (ns.map PyData.int), .f) salt none none none)).bind _).bind _) = _
  rw [s1]
  show (((evS Φ [] (.set 3 _) _).bind _).bind _) = _
  rw [s2]
  show (((evS Φ [] (.for_ _ _ _) _).bind _).bind _) = _
  rw [s3]
  show (((evS Φ [] (.ret _) _).bind _).bind _) = _
  rw [s4]
  rfl
end
end Ev
/-! Ev 28: draws in use. -/
namespace Ev
open PySem PySem.Spec L2
def HasAny (Φ : Cf) (a : Nat) : Prop := ∃ F : List DO → Option (DO × List Slot), Φ.fn[a]? = some ⟨[true, false], F⟩ ∧ ∀ ns n b, Good ns n → 0 < b → b.natAbs.log2 < 9000 →
  ∃ v ns' n', 0 ≤ v ∧ v < b ∧ Good ns' n' ∧ F [dl ns n, (.int b, .f)] = some ((.int v, .f), [some (dl ns' n'), none])
section
variable {Φ : Cf}
/-- a call of f(x, e), x by reference -/
theorem ev_call_r {a s : Nat} {e : E} {ρ ρ1 : Rho} {F : List DO → Option (DO × List Slot)} {x d : DO} {r : DO} {o : Slot} (hF : Φ.fn[a]? = some ⟨[true, false], F⟩) (hs : ρ.at s = some x) (he : ev Φ false e ρ = some (d, ρ1)) (hs1 : ρ1.at s = some x) (hr : F [x, (d.1, .f)] = some (r, [o, none])) (pk : Bool) :
    ev Φ pk (.call a [.var s, e]) ρ = some (r, ρ1.set s o) := by
  have hm : Φ.mask a = [true, false] := by unfold Cf.mask; rw [hF]
  have h1 : evc Φ [true, false] [.var s, e] ρ = some ([(.none, .f), (d.1, .f)], ρ1) := by
    simp [evc, isVar, hs, he]
  show ((evc Φ (Φ.mask a) [.var s, e] ρ).bind _) = _
  rw [hm, h1]
  show callSem Φ a [.var s, e] [(.none, .f), (d.1, .f)] ρ1 = _
  unfold callSem
  rw [hF]
  simp [takeRefs, hs1, hr, giveRefs]
theorem ev_any {a s : Nat} (h : HasAny Φ a) {e : E} {ρ : Rho} {ns : List Int} {n b : Int} {o : O} (hs : ρ.at s = some (dl ns n)) (g : Good ns n) (he : ev Φ false e ρ = some ((.int b, o), ρ)) (hb : 0 < b) (hb2 : b.natAbs.log2 < 9000) :
    ∃ v ns' n', 0 ≤ v ∧ v < b ∧ Good ns' n' ∧ ∀ pk, ev Φ pk (.call a [.var s, e]) ρ = some ((.int v, .f), ρ.set s (some (dl ns' n'))) := by
  obtain ⟨F, hF, hr⟩ := h
  obtain ⟨v, ns', n', v0, v1, g', e'⟩ := hr ns n b g hb hb2
  exact ⟨v, ns', n', v0, v1, g', fun pk => ev_call_r hF hs he hs e' pk⟩
/-- a call without references -/
theorem evc_pure : ∀ {bs : List Bool} {es : List E} {ρ : Rho}, (∀ b ∈ bs, b = false) → bs.length = es.length → evc Φ bs es ρ = evs Φ es ρ
  | [], [], ρ, _, _ => rfl
  | b :: bs, e :: es, ρ, hb, hl => by
    have : b = false := hb b List.mem_cons_self
    subst this
    simp only [evc, evs, List.headD_cons, Bool.false_eq_true, if_false, List.tail_cons]
    cases h : ev Φ false e ρ with
    | none => rfl
    | some q =>
      obtain ⟨x, ρ1⟩ := q
      show (evc Φ bs es ρ1).map _ = (evs Φ es ρ1).map _
      rw [evc_pure (fun b hb' => hb b (List.mem_cons_of_mem _ hb')) (by simpa using hl)]
theorem take_pure : ∀ {bs : List Bool} {es : List E} {ds : List DO} {ρ : Rho}, (∀ b ∈ bs, b = false) → bs.length = es.length → es.length = ds.length → takeRefs bs es ds ρ = some (ds, ρ)
  | [], [], [], ρ, _, _, _ => rfl
  | b :: bs, e :: es, d :: ds, ρ, hb, hl, hl2 => by
    have : b = false := hb b List.mem_cons_self
    subst this
    unfold takeRefs
    rw [take_pure (fun b hb' => hb b (List.mem_cons_of_mem _ hb')) (by simpa using hl) (by simpa using hl2)]
    rfl
theorem give_pure : ∀ {bs : List Bool} {es : List E} {os : List Slot} {ρ : Rho}, (∀ b ∈ bs, b = false) → bs.length = es.length → es.length = os.length → giveRefs bs es os ρ = some ρ
  | [], [], [], ρ, _, _, _ => rfl
  | b :: bs, e :: es, d :: ds, ρ, hb, hl, hl2 => by
    have : b = false := hb b List.mem_cons_self
    subst this
    unfold giveRefs
    exact give_pure (fun b hb' => hb b (List.mem_cons_of_mem _ hb')) (by simpa using hl) (by simpa using hl2)
theorem ev_call_p {a : Nat} {bs : List Bool} {es : List E} {ρ ρ1 : Rho} {F : List DO → Option (DO × List Slot)} {ds : List DO} {r : DO} {os : List Slot} (hF : Φ.fn[a]? = some ⟨bs, F⟩) (hb : ∀ b ∈ bs, b = false) (hl : bs.length = es.length) (he : evs Φ es ρ = some (ds, ρ1)) (hr : F ds = some (r, os)) (ho : os.length = es.length) (pk : Bool) :
    ev Φ pk (.call a es) ρ = some (r, ρ1) := by
  have hm : Φ.mask a = bs := by unfold Cf.mask; rw [hF]
  show ((evc Φ (Φ.mask a) es ρ).bind _) = _
  rw [hm, evc_pure hb hl, he]
  show callSem Φ a es ds ρ1 = _
  unfold callSem
  rw [hF]
  show ((takeRefs bs es ds ρ1).bind _) = _
  rw [take_pure hb hl (evs_len he).symm]
  show ((F ds).bind _) = _
  rw [hr]
  show ((giveRefs bs es os ρ1).map _) = _
  rw [give_pure hb hl ho.symm]
  rfl
theorem ev_callK_p {a : Nat} {ord : List Nat} {bs : List Bool} {es ks : List E} {ρ ρ1 ρ2 : Rho} {F : List DO → Option (DO × List Slot)} {ds zs qs : List DO} {r : DO} {os : List Slot} (hF : Φ.fn[a]? = some ⟨bs, F⟩) (hb : bs.all (!·) = true) (he : evs Φ es ρ = some (ds, ρ1)) (hk : evs Φ ks ρ1 = some (zs, ρ2)) (hp : permV ord (ds ++ zs) = some qs) (hr : F qs = some (r, os)) (pk : Bool) :
    ev Φ pk (.callK a ord es ks) ρ = some (r, ρ2) := by
  show ((evs Φ es ρ).bind _) = _
  rw [he]
  show ((evs Φ ks ρ1).bind _) = _
  rw [hk]
  show ((permV ord (ds ++ zs)).bind _) = _
  rw [hp]
  show ((callPure Φ a qs).map _) = _
  unfold callPure
  rw [hF]
  show ((if bs.all (!·) = true then (F qs).map (·.1) else none).map _) = _
  rw [if_pos hb, hr]
  rfl
end
theorem rangeD_succ (lo : Int) (k : Nat) : rangeD lo (k + 1) = .int lo :: rangeD (lo + 1) k := by
  unfold rangeD
  rw [List.range_succ_eq_map, List.map_cons, List.map_map]
  refine congr (congrArg _ ?_) (List.map_congr_left fun j _ => ?_)
  · simp
  · show PyData.int (lo + ((j + 1 : Nat) : Int)) = .int (lo + 1 + (j : Int))
    exact congrArg _ (by omega)
theorem rangeD_ints (lo : Int) (k : Nat) : rangeD lo k = ((List.range k).map fun (j : Nat) => lo + (j : Int)).map PyData.int := by
  unfold rangeD
  rw [List.map_map]
  rfl
/-- the ints lo, lo + 1, .. -/
def rgI (lo : Int) (k : Nat) : List Int := (List.range k).map fun (j : Nat) => lo + (j : Int)
theorem rgI_mem {lo : Int} {k : Nat} {x : Int} : x ∈ rgI lo k ↔ lo ≤ x ∧ x < lo + k := by
  unfold rgI
  rw [List.mem_map]
  constructor
  · rintro ⟨j, hj, rfl⟩
    have := List.mem_range.mp hj
    omega
  · rintro ⟨h1, h2⟩
    exact ⟨(x - lo).toNat, List.mem_range.mpr (by omega), by omega⟩
theorem rgI_sorted (lo : Int) (k : Nat) : (rgI lo k).Pairwise (· < ·) := by
  unfold rgI
  rw [List.pairwise_map]
  exact List.pairwise_lt_range.imp fun h => by omega
theorem rgI_len (lo : Int) (k : Nat) : (rgI lo k).length = k := by unfold rgI; simp
theorem filterMap_p (ms : List Int) (p : Int → Bool) : (ms.map PyData.int).filterMap (fun d => match d with | .int i => if p i then some (PyData.int i) else none | _ => none) = (ms.filter p).map PyData.int := by
  induction ms with
  | nil => rfl
  | cons m ms ih =>
    simp only [List.map_cons, List.filterMap_cons, List.filter_cons]
    by_cases h : p m = true
    · simp [h, ih]
    · simp [h, ih]
theorem filterMap_b (ms : List Int) (p : Int → Bool) : (ms.map PyData.int).filterMap (fun d => match d with | .int i => some (PyData.bool (p i)) | _ => none) = (ms.map p).map PyData.bool := by
  induction ms with
  | nil => rfl
  | cons m ms ih => simp only [List.map_cons, List.filterMap_cons, ih]
end Ev
/-! Ev 29: runs told by what holds behind them. -/
namespace Ev
open PySem PySem.Spec L2
def W {α : Type} (x : Option (α × Rho)) (Q : α → Rho → Prop) : Prop := ∃ a ρ', x = some (a, ρ') ∧ Q a ρ'
def oK {α : Type} (x : Option α) (P : α → Prop) : Prop := ∃ a, x = some a ∧ P a
theorem W_congr {α : Type} {x y : Option (α × Rho)} {Q : α → Rho → Prop} (h : x = y) : W x Q = W y Q := by rw [h]
theorem oK_congr {α : Type} {x y : Option α} {Q : α → Prop} (h : x = y) : oK x Q = oK y Q := by rw [h]
section
variable {α β γ : Type}
theorem W_some {a : α} {ρ : Rho} {Q : α → Rho → Prop} : W (some (a, ρ)) Q ↔ Q a ρ :=
  ⟨fun ⟨_, _, e, q⟩ => by cases e; exact q, fun q => ⟨_, _, rfl, q⟩⟩
theorem W_none {Q : α → Rho → Prop} : W none Q ↔ False := ⟨fun ⟨_, _, e, _⟩ => (nomatch e), False.elim⟩
theorem W_bind {x : Option (α × Rho)} {f : α × Rho → Option (β × Rho)} {Q : β → Rho → Prop} : W (x.bind f) Q ↔ W x fun a ρ => W (f (a, ρ)) Q := by
  cases x with
  | none => exact ⟨fun ⟨_, _, e, _⟩ => (nomatch e), fun ⟨_, _, e, _⟩ => (nomatch e)⟩
  | some p => exact ⟨fun h => ⟨p.1, p.2, rfl, h⟩, fun ⟨a, ρ, e, h⟩ => by cases e; exact h⟩
theorem W_map {x : Option (α × Rho)} {f : α × Rho → β × Rho} {Q : β → Rho → Prop} : W (x.map f) Q ↔ W x fun a ρ => Q (f (a, ρ)).1 (f (a, ρ)).2 := by
  cases x with
  | none => exact ⟨fun ⟨_, _, e, _⟩ => (nomatch e), fun ⟨_, _, e, _⟩ => (nomatch e)⟩
  | some p =>
    obtain ⟨a, ρ⟩ := p
    constructor
    · rintro ⟨b, ρ1, e, h⟩
      have e : f (a, ρ) = (b, ρ1) := Option.some.inj e
      refine ⟨a, ρ, rfl, ?_⟩
      show Q (f (a, ρ)).1 (f (a, ρ)).2
      rw [e]
      exact h
    · rintro ⟨b, ρ1, e, h⟩
      cases e
      exact ⟨_, _, rfl, h⟩
theorem W_iff {x : Option (α × Rho)} {P Q : α → Rho → Prop} (h : ∀ a ρ, P a ρ ↔ Q a ρ) : W x P ↔ W x Q :=
  ⟨fun ⟨a, ρ, e, p⟩ => ⟨a, ρ, e, (h a ρ).mp p⟩, fun ⟨a, ρ, e, p⟩ => ⟨a, ρ, e, (h a ρ).mpr p⟩⟩
theorem W.mono {x : Option (α × Rho)} {P Q : α → Rho → Prop} (w : W x P) (h : ∀ a ρ, P a ρ → Q a ρ) : W x Q := let ⟨a, ρ, e, p⟩ := w; ⟨a, ρ, e, h a ρ p⟩
theorem W.of {x : Option (α × Rho)} {Q : α → Rho → Prop} {a : α} {ρ : Rho} (e : x = some (a, ρ)) (h : Q a ρ) : W x Q := ⟨a, ρ, e, h⟩
theorem W.eq {x : Option (α × Rho)} {a : α} {ρ : Rho} (w : W x fun b ρ1 => b = a ∧ ρ1 = ρ) : x = some (a, ρ) := by
  obtain ⟨b, ρ1, e, rfl, rfl⟩ := w
  exact e
theorem oK_some {a : α} {P : α → Prop} : oK (some a) P ↔ P a := ⟨fun ⟨_, e, q⟩ => by cases e; exact q, fun q => ⟨_, rfl, q⟩⟩
theorem oK_none {P : α → Prop} : oK none P ↔ False := ⟨fun ⟨_, e, _⟩ => (nomatch e), False.elim⟩
theorem oK_map {x : Option α} {f : α → β} {P : β → Prop} : oK (x.map f) P ↔ oK x fun a => P (f a) := by
  cases x with
  | none => exact ⟨fun ⟨_, e, _⟩ => (nomatch e), fun ⟨_, e, _⟩ => (nomatch e)⟩
  | some p => exact ⟨fun ⟨a, e, h⟩ => ⟨p, rfl, by cases Option.some.inj e; exact h⟩, fun ⟨a, e, h⟩ => by cases e; exact ⟨_, rfl, h⟩⟩
theorem oK_bind {x : Option α} {f : α → Option β} {P : β → Prop} : oK (x.bind f) P ↔ oK x fun a => oK (f a) P := by
  cases x with
  | none => exact ⟨fun ⟨_, e, _⟩ => (nomatch e), fun ⟨_, e, _⟩ => (nomatch e)⟩
  | some p => exact ⟨fun h => ⟨p, rfl, h⟩, fun ⟨a, e, h⟩ => by cases e; exact h⟩
theorem oK_chk {p : Prop} [Decidable p] {x : α} {P : α → Prop} : oK (chk p x) P ↔ p ∧ P x := by
  unfold chk
  by_cases h : p
  · rw [if_pos h, oK_some]; exact ⟨fun q => ⟨h, q⟩, fun q => q.2⟩
  · rw [if_neg h, oK_none]; exact ⟨False.elim, fun q => h q.1⟩
theorem W_omap {x : Option γ} {g : γ → α × Rho} {Q : α → Rho → Prop} : W (x.map g) Q ↔ oK x fun z => Q (g z).1 (g z).2 := by
  cases x with
  | none => exact ⟨fun ⟨_, _, e, _⟩ => (nomatch e), fun ⟨_, e, _⟩ => (nomatch e)⟩
  | some p => exact ⟨fun ⟨a, ρ, e, h⟩ => ⟨p, rfl, by have := Option.some.inj e; show Q (g p).1 (g p).2; rw [this]; exact h⟩, fun ⟨a, e, h⟩ => by cases e; exact ⟨_, _, rfl, h⟩⟩
theorem W_obind {x : Option γ} {g : γ → Option (α × Rho)} {Q : α → Rho → Prop} : W (x.bind g) Q ↔ oK x fun z => W (g z) Q := by
  cases x with
  | none => exact ⟨fun ⟨_, _, e, _⟩ => (nomatch e), fun ⟨_, e, _⟩ => (nomatch e)⟩
  | some p => exact ⟨fun h => ⟨p, rfl, h⟩, fun ⟨a, e, h⟩ => by cases e; exact h⟩
theorem W_chk {p : Prop} [Decidable p] {a : α} {ρ : Rho} {Q : α → Rho → Prop} : W (chk p (a, ρ)) Q ↔ p ∧ Q a ρ := by
  unfold chk
  by_cases h : p
  · rw [if_pos h, W_some]; exact ⟨fun q => ⟨h, q⟩, fun q => q.2⟩
  · rw [if_neg h, W_none]; exact ⟨False.elim, fun q => h q.1⟩
theorem W_if {p : Prop} [Decidable p] {x : Option (α × Rho)} {Q : α → Rho → Prop} : W (if p then x else none) Q ↔ p ∧ W x Q := by
  by_cases h : p
  · rw [if_pos h]; exact ⟨fun q => ⟨h, q⟩, fun q => q.2⟩
  · rw [if_neg h, W_none]; exact ⟨False.elim, fun q => h q.1⟩
end
/-! ### what hangs on a value -/
def varK (pk : Bool) (i : Nat) (ρ : Rho) (Q : DO → Rho → Prop) : Slot → Prop
  | some (d, .f) => Q (d, .f) ρ
  | some (d, o) => if pk then Q (d, o) ρ else Q (d, .f) (ρ.set i (some (d, .f)))
  | none => False
def boolK (P R : Prop) : PyData → Prop
  | .bool true => P
  | .bool false => R
  | _ => False
def intK (P : Int → Prop) : PyData → Prop
  | .int i => P i
  | _ => False
def idxK (pk : Bool) (P : Prop) : DO → Prop
  | (_, .f) => P
  | _ => pk = true ∧ P
def lstK (P : List PyData → Prop) : Slot → Prop
  | some (.list ds, .l) => P ds
  | _ => False
def dlK (P : List PyData → Int → Prop) : Slot → Prop
  | some (.list [.list ds, .int n], .g) => P ds n
  | _ => False
def slK (P : DO → Prop) : Slot → Prop
  | some x => P x
  | none => False
def seqK (P : List PyData → Prop) : PyData → Prop
  | .list ds => P ds
  | .tuple ds => P ds
  | _ => False
def enumK (P : List PyData → Prop) : PyData → Prop
  | .list ds => P ds
  | .tuple ds => P ds
  | .str x => P (signsD x)
  | _ => False
def liK (P : List PyData → Prop) : PyData → Prop
  | .list ds => P ds
  | _ => False
def flK (P : Prop) (R : Fl → Prop) : Fl → Prop
  | .nx => P
  | f => R f
section
variable {pk : Bool} {i : Nat} {ρ : Rho} {Q : DO → Rho → Prop} {d : PyData} {P R : Prop} {b : Bool} {o : O} {ds : List PyData} {n : Int}
theorem varK_f : varK pk i ρ Q (some (d, .f)) ↔ Q (d, .f) ρ := Iff.rfl
theorem varK_t : varK true i ρ Q (some (d, o)) ↔ Q (d, o) ρ := by cases o <;> exact Iff.rfl
theorem varK_l : varK false i ρ Q (some (d, .l)) ↔ Q (d, .f) (ρ.set i (some (d, .f))) := Iff.rfl
theorem varK_g : varK false i ρ Q (some (d, .g)) ↔ Q (d, .f) (ρ.set i (some (d, .f))) := Iff.rfl
theorem boolK_b : boolK P R (.bool b) ↔ ((b = true → P) ∧ (b = false → R)) := by
  cases b with
  | true => exact ⟨fun h => ⟨fun _ => h, fun e => (nomatch e)⟩, fun h => h.1 rfl⟩
  | false => exact ⟨fun h => ⟨fun e => (nomatch e), fun _ => h⟩, fun h => h.2 rfl⟩
theorem boolK_t : boolK P R (.bool true) ↔ P := Iff.rfl
theorem boolK_f : boolK P R (.bool false) ↔ R := Iff.rfl
theorem intK_i {P : Int → Prop} : intK P (.int n) ↔ P n := Iff.rfl
theorem idxK_f : idxK pk P (d, .f) ↔ P := Iff.rfl
theorem idxK_t {x : DO} : idxK true P x ↔ P := by
  obtain ⟨d, o⟩ := x
  cases o with
  | f => exact Iff.rfl
  | _ => exact ⟨fun h => h.2, fun h => ⟨rfl, h⟩⟩
theorem lstK_l {P : List PyData → Prop} : lstK P (some (.list ds, .l)) ↔ P ds := Iff.rfl
theorem dlK_g {P : List PyData → Int → Prop} : dlK P (some (.list [.list ds, .int n], .g)) ↔ P ds n := Iff.rfl
theorem slK_s {P : DO → Prop} {x : DO} : slK P (some x) ↔ P x := Iff.rfl
theorem seqK_l {P : List PyData → Prop} : seqK P (.list ds) ↔ P ds := Iff.rfl
theorem seqK_t {P : List PyData → Prop} : seqK P (.tuple ds) ↔ P ds := Iff.rfl
theorem enumK_l {P : List PyData → Prop} : enumK P (.list ds) ↔ P ds := Iff.rfl
theorem enumK_t {P : List PyData → Prop} : enumK P (.tuple ds) ↔ P ds := Iff.rfl
theorem enumK_s {P : List PyData → Prop} {x : Str} : enumK P (.str x) ↔ P (signsD x) := Iff.rfl
theorem liK_l {P : List PyData → Prop} : liK P (.list ds) ↔ P ds := Iff.rfl
theorem flK_nx {R : Fl → Prop} : flK P R .nx ↔ P := Iff.rfl
theorem flK_rt {R : Fl → Prop} {x : DO} : flK P R (.rt x) ↔ R (.rt x) := Iff.rfl
theorem flK_bk {R : Fl → Prop} : flK P R .bk ↔ R .bk := Iff.rfl
theorem flK_ct {R : Fl → Prop} : flK P R .ct ↔ R .ct := Iff.rfl
theorem flK_congr {R : Fl → Prop} {f g : Fl} (h : f = g) : flK P R f = flK P R g := by rw [h]
theorem boolK_congr {f g : PyData} (h : f = g) : boolK P R f = boolK P R g := by rw [h]
end
/-! ### expressions -/
section
variable {Φ : Cf} {ρ : Rho} {pk : Bool} {a b c : E} {Q : DO → Rho → Prop} {QS : List DO → Rho → Prop} {es : List E}
theorem w_var {i : Nat} : W (ev Φ pk (.var i) ρ) Q ↔ varK pk i ρ Q (ρ.at i) := by
  simp only [ev]
  cases h : ρ.at i with
  | none => exact W_none
  | some x =>
    obtain ⟨d, o⟩ := x
    cases pk with
    | true => exact W_some.trans varK_t.symm
    | false => cases o with
      | f =>
        have e : ρ.set i (some (d, .f)) = ρ := by
          refine List.ext_getElem? fun j => ?_
          by_cases hj : i = j
          · subst hj
            unfold Rho.at at h
            cases h2 : ρ[i]? with
            | none => rw [h2] at h; cases h
            | some s =>
              rw [h2] at h
              have hs : s = some (d, .f) := h
              rw [List.getElem?_set_self (List.getElem?_eq_some_iff.mp h2).1, hs]
          · rw [List.getElem?_set_ne hj]
        show W (some ((d, .f), ρ.set i (some (d, .f)))) Q ↔ Q (d, .f) ρ
        rw [W_some, e]
      | l => exact W_some
      | g => exact W_some
theorem w_lit {d : PyData} : W (ev Φ pk (.lit d) ρ) Q ↔ Q (d, .f) ρ := by simp only [ev]; exact W_some
theorem w_cst {i : Nat} : W (ev Φ pk (.cst i) ρ) Q ↔ oK (Φ.cs[i]?) fun d => Q (d, .f) ρ := by simp only [ev]; exact W_omap
theorem w_bin {o : BO} : W (ev Φ pk (.bin o a b) ρ) Q ↔ W (ev Φ (b.quiet Φ) a ρ) fun x ρ1 => W (ev Φ true b ρ1) fun y ρ2 => oK (binSem o x y) fun z => Q z ρ2 := by
  simp only [ev, W_bind, W_omap]
theorem w_neg : W (ev Φ pk (.neg a) ρ) Q ↔ W (ev Φ true a ρ) fun x ρ1 => intK (fun i => Q (.int (-i), .f) ρ1) x.1 := by
  simp only [ev, W_bind]
  refine W_iff fun x ρ1 => ?_
  obtain ⟨d, o⟩ := x
  cases d <;> first
    | exact W_some
    | exact W_none
theorem w_cmp {o : CO} : W (ev Φ pk (.cmp o a b) ρ) Q ↔ W (ev Φ (b.quiet Φ) a ρ) fun x ρ1 => W (ev Φ true b ρ1) fun y ρ2 => oK (cmpSem o x y) fun z => Q (.bool z, .f) ρ2 := by
  simp only [ev, W_bind, W_omap]
theorem w_not : W (ev Φ pk (.not_ a) ρ) Q ↔ W (ev Φ true a ρ) fun x ρ1 => boolK (Q (.bool false, .f) ρ1) (Q (.bool true, .f) ρ1) x.1 := by
  simp only [ev, W_bind]
  refine W_iff fun x ρ1 => ?_
  obtain ⟨d, o⟩ := x
  cases d with
  | bool b => cases b <;> exact W_some
  | _ => exact W_none
theorem w_and : W (ev Φ pk (.and_ a b) ρ) Q ↔ W (ev Φ true a ρ) fun x ρ1 => boolK (W (ev Φ pk b ρ1) Q) (Q (.bool false, .f) ρ1) x.1 := by
  simp only [ev, W_bind]
  refine W_iff fun x ρ1 => ?_
  obtain ⟨d, o⟩ := x
  cases d with
  | bool b => cases b with
    | true => exact Iff.rfl
    | false => exact W_some
  | _ => exact W_none
theorem w_or : W (ev Φ pk (.or_ a b) ρ) Q ↔ W (ev Φ true a ρ) fun x ρ1 => boolK (Q (.bool true, .f) ρ1) (W (ev Φ pk b ρ1) Q) x.1 := by
  simp only [ev, W_bind]
  refine W_iff fun x ρ1 => ?_
  obtain ⟨d, o⟩ := x
  cases d with
  | bool b => cases b with
    | false => exact Iff.rfl
    | true => exact W_some
  | _ => exact W_none
theorem w_ite : W (ev Φ pk (.ite c a b) ρ) Q ↔ W (ev Φ true c ρ) fun x ρ1 => boolK (W (ev Φ pk a ρ1) Q) (W (ev Φ pk b ρ1) Q) x.1 := by
  simp only [ev, W_bind]
  refine W_iff fun x ρ1 => ?_
  obtain ⟨d, o⟩ := x
  cases d with
  | bool b => cases b <;> exact Iff.rfl
  | _ => exact W_none
theorem w_truth : W (ev Φ pk (.truth a) ρ) Q ↔ W (ev Φ true a ρ) fun x ρ1 => oK (truthSem x.1) fun z => Q (.bool z, .f) ρ1 := by
  simp only [ev, W_bind, W_omap]
theorem w_tup : W (ev Φ pk (.tup es) ρ) Q ↔ W (evs Φ es ρ) fun xs ρ1 => xs.length ≤ sizeLine ∧ Q (.tuple (xs.map (·.1)), .f) ρ1 := by
  simp only [ev, W_bind, W_chk]
theorem w_lst : W (ev Φ pk (.lst es) ρ) Q ↔ W (evs Φ es ρ) fun xs ρ1 => xs.length ≤ sizeLine ∧ Q (.list (xs.map (·.1)), .l) ρ1 := by
  simp only [ev, W_bind, W_chk]
theorem w_idx : W (ev Φ pk (.idx a b) ρ) Q ↔ W (ev Φ (b.quiet Φ) a ρ) fun x ρ1 => W (ev Φ true b ρ1) fun y ρ2 => oK (idxSem x y) fun z => idxK pk (Q z ρ2) z := by
  simp only [ev]
  rw [W_bind]
  refine W_iff fun x ρ1 => ?_
  rw [W_bind]
  refine W_iff fun y ρ2 => ?_
  rw [W_obind]
  refine ⟨fun ⟨z, e, h⟩ => ⟨z, e, ?_⟩, fun ⟨z, e, h⟩ => ⟨z, e, ?_⟩⟩
  · obtain ⟨d, o⟩ := z
    cases pk with
    | true => exact idxK_t.mpr (W_some.mp h)
    | false => cases o with
      | f => exact W_some.mp h
      | _ => exact absurd h W_none.mp
  · obtain ⟨d, o⟩ := z
    cases pk with
    | true => exact W_some.mpr (idxK_t.mp h)
    | false => cases o with
      | f => exact W_some.mpr h
      | _ => cases h.1
theorem w_slice {lo hi : E} : W (ev Φ pk (.slice a lo hi) ρ) Q ↔ W (ev Φ (lo.quiet Φ && hi.quiet Φ) a ρ) fun x ρ1 => W (ev Φ true lo ρ1) fun y ρ2 => W (ev Φ true hi ρ2) fun z ρ3 => oK (partE lo y.1) fun l => oK (partE hi z.1) fun h => oK (sliceSem x l h) fun w => Q w ρ3 := by
  simp only [ev]
  rw [W_bind]
  refine W_iff fun x ρ1 => ?_
  rw [W_bind]
  refine W_iff fun y ρ2 => ?_
  rw [W_bind]
  refine W_iff fun z ρ3 => ?_
  simp only [W_obind, W_omap]
theorem w_rev : W (ev Φ pk (.rev a) ρ) Q ↔ W (ev Φ true a ρ) fun x ρ1 => oK (revSem x) fun w => Q w ρ1 := by
  simp only [ev, W_bind, W_omap]
theorem w_bi {o : Bi} : W (ev Φ pk (.bi o es) ρ) Q ↔ W (evp Φ es ρ) fun xs ρ1 => oK (biSem o xs) fun w => Q w ρ1 := by
  simp only [ev, W_bind, W_omap]
theorem w_meth {m : Me} : W (ev Φ pk (.meth m a es) ρ) Q ↔ W (ev Φ (quiets Φ es) a ρ) fun x ρ1 => W (evp Φ es ρ1) fun xs ρ2 => oK (meSem m x xs) fun w => Q w ρ2 := by
  simp only [ev, W_bind, W_omap]
theorem w_mut {m : Mu} {i : Nat} : W (ev Φ pk (.mut m i es) ρ) Q ↔ ownL (ρ.at i) = true ∧ W (evs Φ es ρ) fun xs ρ1 => lstK (fun ds => oK (muSem m ds (xs.map (·.1))) fun r => Q (r.1, .f) (ρ1.set i (some (.list r.2, .l)))) (ρ1.at i) := by
  simp only [ev]
  cases h : ownL (ρ.at i) with
  | false =>
    rw [if_pos rfl, W_none]
    exact ⟨False.elim, fun h => (nomatch h.1)⟩
  | true =>
    rw [if_neg (by decide), W_bind]
    refine ⟨fun h => ⟨rfl, ?_⟩, fun h => ?_⟩
    · refine h.mono fun xs ρ1 h => ?_
      revert h
      cases h2 : ρ1.at i with
      | none => exact fun h => absurd h W_none.mp
      | some x =>
        obtain ⟨d, o⟩ := x
        cases d with
        | list ds => cases o with
          | l => exact fun h => W_omap.mp h
          | _ => exact fun h => absurd h W_none.mp
        | _ => exact fun h => absurd h W_none.mp
    · refine h.2.mono fun xs ρ1 h => ?_
      revert h
      cases h2 : ρ1.at i with
      | none => exact fun h => h.elim
      | some x =>
        obtain ⟨d, o⟩ := x
        cases d with
        | list ds => cases o with
          | l => exact fun h => W_omap.mpr h
          | _ => exact fun h => h.elim
        | _ => exact fun h => h.elim
theorem w_evs_nil : W (evs Φ [] ρ) QS ↔ QS [] ρ := by simp only [evs, W_some]
theorem w_evs_cons {e : E} : W (evs Φ (e :: es) ρ) QS ↔ W (ev Φ false e ρ) fun x ρ1 => W (evs Φ es ρ1) fun xs ρ2 => QS ((x.1, .f) :: xs) ρ2 := by
  simp only [evs, W_bind, W_map]
theorem w_evp_nil : W (evp Φ [] ρ) QS ↔ QS [] ρ := by simp only [evp, W_some]
theorem w_evp_cons {e : E} : W (evp Φ (e :: es) ρ) QS ↔ W (ev Φ (quiets Φ es) e ρ) fun x ρ1 => W (evp Φ es ρ1) fun xs ρ2 => QS (x :: xs) ρ2 := by
  simp only [evp, W_bind, W_map]
theorem w_evm_nil : W (evm Φ [] ρ) QS ↔ QS [] ρ := by simp only [evm, W_some]
theorem w_evm_cons {e : E} : W (evm Φ (e :: es) ρ) QS ↔ W (ev Φ false e ρ) fun x ρ1 => W (evm Φ es ρ1) fun xs ρ2 => QS (x :: xs) ρ2 := by
  simp only [evm, W_bind, W_map]
/-! what is walked -/
variable {QL : List PyData → Rho → Prop}
theorem w_seq : W (evIt Φ (.seq a) ρ) QL ↔ W (ev Φ false a ρ) fun x ρ1 => seqK (fun ds => QL ds ρ1) x.1 := by
  simp only [evIt, W_bind, W_omap]
  refine W_iff fun x ρ1 => ?_
  obtain ⟨d, o⟩ := x
  cases d <;> first
    | exact oK_some
    | exact oK_none
def rgK (P : List PyData → Prop) : PyData → PyData → Prop
  | .int i, .int j => (small62 i = true ∧ small62 j = true) ∧ P (rangeD i (j - i).toNat)
  | _, _ => False
theorem rgK_i {P : List PyData → Prop} {i j : Int} : rgK P (.int i) (.int j) ↔ (small62 i = true ∧ small62 j = true) ∧ P (rangeD i (j - i).toNat) := Iff.rfl
theorem w_range : W (evIt Φ (.range a b) ρ) QL ↔ W (ev Φ true a ρ) fun x ρ1 => W (ev Φ true b ρ1) fun y ρ2 => rgK (fun ds => QL ds ρ2) x.1 y.1 := by
  simp only [evIt, W_bind]
  refine W_iff fun x ρ1 => W_iff fun y ρ2 => ?_
  obtain ⟨d, o⟩ := x
  obtain ⟨d2, o2⟩ := y
  cases d with
  | int i => cases d2 with
    | int j =>
      show W (if (small62 i && small62 j) = true then some (rangeD i (j - i).toNat, ρ2) else none) QL ↔ _
      rw [W_if, Bool.and_eq_true, W_some]
      exact Iff.rfl
    | _ => exact W_none
  | _ => exact W_none
theorem w_enum : W (evIt Φ (.enum a) ρ) QL ↔ W (ev Φ false a ρ) fun x ρ1 => enumK (fun ds => QL (enumFrom 0 ds) ρ1) x.1 := by
  simp only [evIt, W_bind]
  refine W_iff fun x ρ1 => ?_
  obtain ⟨d, o⟩ := x
  cases d <;> first
    | exact W_some
    | exact W_none
def zipK (P : List PyData → Prop) : PyData → PyData → Prop
  | .list xs, .list ys => P (zipD xs ys)
  | _, _ => False
theorem zipK_l {P : List PyData → Prop} {xs ys : List PyData} : zipK P (.list xs) (.list ys) ↔ P (zipD xs ys) := Iff.rfl
theorem w_zip : W (evIt Φ (.zip a b) ρ) QL ↔ W (ev Φ false a ρ) fun x ρ1 => W (ev Φ false b ρ1) fun y ρ2 => zipK (fun ds => QL ds ρ2) x.1 y.1 := by
  simp only [evIt, W_bind]
  refine W_iff fun x ρ1 => W_iff fun y ρ2 => ?_
  obtain ⟨d, o⟩ := x
  obtain ⟨d2, o2⟩ := y
  cases d with
  | list i => cases d2 with
    | list j => exact W_some
    | _ => exact W_none
  | _ => exact W_none
end
/-! ### calls -/
def rK (x : Option (DO × List Slot)) (P : DO → List Slot → Prop) : Prop := ∃ r os, x = some (r, os) ∧ P r os
theorem rK_some {r : DO} {os : List Slot} {P : DO → List Slot → Prop} : rK (some (r, os)) P ↔ P r os := ⟨fun ⟨_, _, e, q⟩ => by cases e; exact q, fun q => ⟨_, _, rfl, q⟩⟩
theorem rK_congr {x y : Option (DO × List Slot)} {Q : DO → List Slot → Prop} (h : x = y) : rK x Q = rK y Q := by rw [h]
theorem outs_len : ∀ (bs : List Bool) (ρ : Rho), (outsOf bs ρ).length = bs.length
  | [], _ => rfl
  | true :: bs, s :: ρ => congrArg (· + 1) (outs_len bs ρ)
  | false :: bs, s :: ρ => congrArg (· + 1) (outs_len bs ρ)
  | true :: bs, [] => congrArg (· + 1) (outs_len bs [])
  | false :: bs, [] => congrArg (· + 1) (outs_len bs [])
theorem run_len {Φ : Cf} {c : Code} {xs : List DO} {r : DO} {os : List Slot} (h : c.run Φ xs = some (r, os)) : os.length = c.ref.length := by
  unfold Code.run at h
  cases e : evSs Φ (refsOf 0 c.ref) c.body (xs.map some ++ List.replicate (c.nl - c.np) none) with
  | none => rw [e] at h; cases h
  | some p =>
    rw [e] at h
    obtain ⟨f, ρ⟩ := p
    cases f <;> first
      | (cases h; exact outs_len _ _)
      | cases h
section
variable {Φ Ψ : Cf} {ρ : Rho} {pk : Bool} {Q : DO → Rho → Prop} {es : List E} {k : Nat} {c : Code}
theorem give_len : ∀ {bs : List Bool} {es : List E} {os : List Slot} {ρ ρ' : Rho}, (∀ b ∈ bs, b = false) → bs.length = es.length → os.length = bs.length → giveRefs bs es os ρ = some ρ' → ρ' = ρ
  | [], [], [], ρ, ρ', _, _, _, e => by cases e; rfl
  | b :: bs, e :: es, d :: ds, ρ, ρ', hb, hl, hl2, h => by
    have : b = false := hb b List.mem_cons_self
    subst this
    unfold giveRefs at h
    exact give_len (fun b hb' => hb b (List.mem_cons_of_mem _ hb')) (by simpa using hl) (by simpa using hl2) h
/-- a call without references -/
theorem w_call (hF : Φ.fn[k]? = some ⟨c.ref, c.run Ψ⟩) (hb : ∀ b ∈ c.ref, b = false) (hl : c.ref.length = es.length) : W (ev Φ pk (.call k es) ρ) Q ↔ W (evs Φ es ρ) fun xs ρ1 => rK (c.run Ψ xs) fun r _ => Q r ρ1 := by
  have hm : Φ.mask k = c.ref := by unfold Cf.mask; rw [hF]
  constructor
  · intro h
    simp only [ev] at h
    rw [hm, evc_pure hb hl, W_bind] at h
    obtain ⟨xs, ρ1, e, h⟩ := h
    refine ⟨xs, ρ1, e, ?_⟩
    obtain ⟨r, ρ2, e2, q⟩ := h
    have e2 : callSem Φ k es xs ρ1 = some (r, ρ2) := e2
    unfold callSem at e2
    rw [hF] at e2
    have e3 : ((takeRefs c.ref es xs ρ1).bind fun (xs, ρ1) => (c.run Ψ xs).bind fun (r, os) => (giveRefs c.ref es os ρ1).map fun ρ2 => (r, ρ2)) = some (r, ρ2) := e2
    rw [take_pure hb hl (evs_len e).symm] at e3
    have e4 : ((c.run Ψ xs).bind fun (r, os) => (giveRefs c.ref es os ρ1).map fun ρ2 => (r, ρ2)) = some (r, ρ2) := e3
    cases hr : c.run Ψ xs with
    | none => rw [hr] at e4; cases e4
    | some p =>
      obtain ⟨r', os⟩ := p
      rw [hr] at e4
      have e5 : ((giveRefs c.ref es os ρ1).map fun ρ2 => (r', ρ2)) = some (r, ρ2) := e4
      cases hg : giveRefs c.ref es os ρ1 with
      | none => rw [hg] at e5; cases e5
      | some ρ3 =>
        rw [hg] at e5
        cases e5
        have := give_len hb hl (run_len hr) hg
        subst this
        exact ⟨_, _, rfl, q⟩
  · rintro ⟨xs, ρ1, e, r, os, e2, q⟩
    exact ⟨r, ρ1, ev_call_p hF hb hl e e2 ((run_len e2).trans hl) pk, q⟩
theorem w_callK {ord : List Nat} {ks : List E} (hF : Φ.fn[k]? = some ⟨c.ref, c.run Ψ⟩) (hb : c.ref.all (!·) = true) : W (ev Φ pk (.callK k ord es ks) ρ) Q ↔ W (evs Φ es ρ) fun xs ρ1 => W (evs Φ ks ρ1) fun ys ρ2 => oK (permV ord (xs ++ ys)) fun zs => rK (c.run Ψ zs) fun r _ => Q r ρ2 := by
  simp only [ev]
  rw [W_bind]
  refine W_iff fun xs ρ1 => ?_
  rw [W_bind]
  refine W_iff fun ys ρ2 => ?_
  simp only [W_obind, W_omap]
  refine ⟨fun ⟨zs, e, h⟩ => ⟨zs, e, ?_⟩, fun ⟨zs, e, h⟩ => ⟨zs, e, ?_⟩⟩
  · obtain ⟨r, e2, q⟩ := h
    unfold callPure at e2
    rw [hF] at e2
    have e3 : (if c.ref.all (!·) = true then (c.run Ψ zs).map (·.1) else none) = some r := e2
    rw [if_pos hb] at e3
    cases hr : c.run Ψ zs with
    | none => rw [hr] at e3; cases e3
    | some p =>
      rw [hr] at e3
      cases e3
      exact ⟨_, _, rfl, q⟩
  · obtain ⟨r, os, e2, q⟩ := h
    refine ⟨r, ?_, q⟩
    unfold callPure
    rw [hF]
    show (if c.ref.all (!·) = true then (c.run Ψ zs).map (·.1) else none) = some r
    rw [if_pos hb, e2]
    rfl
/-- a call whose first argument is handed on by reference, and another one -/
theorem W.call_r {s : Nat} {e : E} (hF : Φ.fn[k]? = some ⟨c.ref, c.run Ψ⟩) (hm : c.ref = [true, false]) (h : W (ev Φ false e ρ) fun x ρ1 => slK (fun y => ρ.at s = some y ∧ rK (c.run Ψ [y, (x.1, .f)]) fun r os => slK (fun z => Q r (ρ1.set s (some z))) (os.headD none)) (ρ1.at s)) : W (ev Φ pk (.call k [.var s, e]) ρ) Q := by
  obtain ⟨x, ρ1, e1, h⟩ := h
  cases hs : ρ1.at s with
  | none => rw [hs] at h; exact h.elim
  | some y =>
    rw [hs] at h
    obtain ⟨h0, r, os, e2, q⟩ := h
    have hl := run_len e2
    rw [hm] at hl
    match os, hl, e2, q with
    | [o, o2], _, e2, q =>
      cases o with
      | none => exact q.elim
      | some z =>
        have hF' : Φ.fn[k]? = some ⟨[true, false], c.run Ψ⟩ := by rw [hF, hm]
        have ho2 : o2 = none := by
          unfold Code.run at e2
          cases e' : evSs Ψ (refsOf 0 c.ref) c.body ([y, (x.1, .f)].map some ++ List.replicate (c.nl - c.np) none) with
          | none => rw [e'] at e2; cases e2
          | some p =>
            rw [e'] at e2
            obtain ⟨f, ρ'⟩ := p
            have aux : ∀ {r' : DO}, some (r', outsOf c.ref ρ') = some (r, [some z, o2]) → o2 = none := by
              intro r' h
              rw [hm] at h
              match ρ', h with
              | [], h => cases h
              | [s1], h => cases h; rfl
              | s1 :: s2 :: ρ3, h => cases h; rfl
            cases f <;> first
              | exact aux e2
              | cases e2
        subst ho2
        exact ⟨r, ρ1.set s (some z), ev_call_r hF' h0 e1 hs e2 pk, q⟩
theorem ev_call_r1' {s : Nat} {F : List DO → Option (DO × List Slot)} {x : DO} {r : DO} {o : Slot} (hF : Φ.fn[k]? = some ⟨[true], F⟩) (hs : ρ.at s = some x) (hr : F [x] = some (r, [o])) (pk : Bool) :
    ev Φ pk (.call k [.var s]) ρ = some (r, ρ.set s o) := by
  have hm : Φ.mask k = [true] := by unfold Cf.mask; rw [hF]
  have h1 : evc Φ [true] [.var s] ρ = some ([(.none, .f)], ρ) := by
    simp [evc, isVar, hs]
  show ((evc Φ (Φ.mask k) [.var s] ρ).bind _) = _
  rw [hm, h1]
  show callSem Φ k [.var s] [(.none, .f)] ρ = _
  unfold callSem
  rw [hF]
  simp [takeRefs, hs, hr, giveRefs]
/-- a draw -/
theorem W.any {s : Nat} {e : E} (hA : HasAny Φ k) (h : W (ev Φ false e ρ) fun x ρ1 => ρ1 = ρ ∧ intK (fun b => ∃ ns n, ρ.at s = some (dl ns n) ∧ Good ns n ∧ (0 < b ∧ b < 2 ^ 40) ∧ ∀ v ns' n', 0 ≤ v → v < b → Good ns' n' → Q (.int v, .f) (ρ.set s (some (dl ns' n')))) x.1) : W (ev Φ pk (.call k [.var s, e]) ρ) Q := by
  obtain ⟨⟨d, o⟩, ρ1, e1, rfl, h⟩ := h
  cases d with
  | int b =>
    obtain ⟨ns, n, hs, g, hb, hq⟩ := h
    have hl : b.natAbs.log2 < 9000 := by
      have := log2_bound (k := 40) (Int.le_of_lt hb.1) hb.2 (by decide)
      omega
    obtain ⟨v, ns', n', v0, v1, g', e'⟩ := ev_any hA hs g e1 hb.1 hl
    exact ⟨_, _, e' pk, hq v ns' n' v0 v1 g'⟩
  | _ => exact h.elim
end
/-! ### comprehensions -/
section
variable {Φ : Cf} {ρ : Rho} {pk : Bool} {Q : DO → Rho → Prop} {elt c : E} {t : T} {it : It} {own : List Nat}
theorem w_turn {x : PyData} {R : Option PyData → Rho → Prop} : W (turnR Φ elt t c own x ρ) R ↔ oK (bindT t x ρ) fun ρ2 => W (ev Φ true c ρ2) fun k ρ3 => boolK (W (ev Φ false elt ρ3) fun y ρ4 => R (some y.1) (wipeR ρ4 own)) (R none (wipeR ρ3 own)) k.1 := by
  unfold turnR
  rw [W_obind]
  refine ⟨fun ⟨ρ2, e, h⟩ => ⟨ρ2, e, ?_⟩, fun ⟨ρ2, e, h⟩ => ⟨ρ2, e, ?_⟩⟩
  · have h := W_bind.mp h
    refine h.mono fun k ρ3 h => ?_
    obtain ⟨d, o⟩ := k
    cases d with
    | bool b => cases b with
      | true => exact W_map.mp h
      | false => exact W_some.mp h
    | _ => exact absurd h W_none.mp
  · refine W_bind.mpr ?_
    refine h.mono fun k ρ3 h => ?_
    obtain ⟨d, o⟩ := k
    cases d with
    | bool b => cases b with
      | true => exact W_map.mpr h
      | false => exact W_some.mpr h
    | _ => exact h.elim
/-- a comprehension whose turns leave the names as they are: of things a, put as enc a, those that p takes, each as g tells -/
theorem W.comp {α : Type} (enc : α → PyData) (p : α → Bool) (g : α → PyData) (h : W (evIt Φ it ρ) fun xs ρ1 => ∃ l : List α, xs = l.map enc ∧ l.length ≤ sizeLine ∧ (∀ a ∈ l, W (turnR Φ elt t c own (enc a) (wipeR ρ1 own)) fun y ρ' => y = (if p a then some (g a) else none) ∧ ρ' = wipeR ρ1 own) ∧ Q (.list ((l.filter p).map g), .l) (wipeR ρ1 own)) : W (ev Φ pk (.comp elt t it c own) ρ) Q := by
  obtain ⟨xs, ρ1, e, l, rfl, hl, ht, q⟩ := h
  have go : ∀ (l : List α) (acc : List PyData), (∀ a ∈ l, W (turnR Φ elt t c own (enc a) (wipeR ρ1 own)) fun y ρ' => y = (if p a then some (g a) else none) ∧ ρ' = wipeR ρ1 own) → acc.length + l.length ≤ sizeLine → compGo (turnR Φ elt t c own) (l.map enc) acc (wipeR ρ1 own) = some (acc ++ (l.filter p).map g, wipeR ρ1 own) := by
    intro l
    induction l with
    | nil => intro acc _ _; simp [compGo]
    | cons a l ih =>
      intro acc ht hl
      have ha := (ht a List.mem_cons_self).eq
      rw [List.length_cons] at hl
      rw [List.map_cons]
      unfold compGo
      rw [ha]
      cases hp : p a with
      | false =>
        show compGo (turnR Φ elt t c own) (l.map enc) acc (wipeR ρ1 own) = _
        rw [ih acc (fun b hb => ht b (List.mem_cons_of_mem _ hb)) (by omega), List.filter_cons, hp]
        rfl
      | true =>
        show (if acc.length < sizeLine then compGo (turnR Φ elt t c own) (l.map enc) (acc ++ [g a]) (wipeR ρ1 own) else none) = _
        rw [if_pos (by omega), ih (acc ++ [g a]) (fun b hb => ht b (List.mem_cons_of_mem _ hb)) (by rw [List.length_append, List.length_singleton]; omega), List.filter_cons, hp, List.append_assoc]
        rfl
  refine ⟨_, _, ?_, q⟩
  simp only [ev]
  rw [e]
  show (compGo (turnR Φ elt t c own) (l.map enc) [] (wipeR ρ1 own)).map _ = _
  rw [go l [] ht (by simpa using hl)]
  simp
/-- a comprehension with a state -/
theorem W.compI (I : List PyData → List PyData → Rho → Prop) (h : W (evIt Φ it ρ) fun xs ρ1 => I xs [] (wipeR ρ1 own) ∧ xs.length ≤ sizeLine ∧ (∀ x xs acc ρ, I (x :: xs) acc ρ → W (turnR Φ elt t c own x ρ) fun y ρ' => I xs (acc ++ y.toList) ρ') ∧ ∀ ys ρ', I [] ys ρ' → Q (.list ys, .l) ρ') : W (ev Φ pk (.comp elt t it c own) ρ) Q := by
  obtain ⟨xs, ρ1, e, h0, hl, hs, hq⟩ := h
  obtain ⟨ys, ρ', e', h'⟩ := ev_comp_inv (pk := pk) I e h0 hl (fun x xs acc ρ h => hs x xs acc ρ h)
  exact ⟨_, _, e', hq ys ρ' h'⟩
end
/-! ### statements -/
section
variable {Φ : Cf} {ρ : Rho} {refs : List Nat} {Q : Fl → Rho → Prop} {e c : E} {a b : List S} {s : S} {ss : List S}
theorem w_nil : W (evSs Φ refs [] ρ) Q ↔ Q .nx ρ := by simp only [evSs, W_some]
theorem w_cons : W (evSs Φ refs (s :: ss) ρ) Q ↔ W (evS Φ refs s ρ) fun f ρ1 => flK (W (evSs Φ refs ss ρ1) Q) (fun f => Q f ρ1) f := by
  simp only [evSs, W_bind]
  refine W_iff fun f ρ1 => ?_
  cases f <;> first
    | exact Iff.rfl
    | exact W_some
theorem w_expr : W (evS Φ refs (.expr e) ρ) Q ↔ W (ev Φ true e ρ) fun _ ρ1 => Q .nx ρ1 := by simp only [evS, W_map]
theorem w_set {i : Nat} : W (evS Φ refs (.set i e) ρ) Q ↔ W (ev Φ false e ρ) fun x ρ1 => (i < ρ1.length ∧ noRef refs i = true) ∧ Q .nx (ρ1.set i (some x)) := by
  simp only [evS, W_bind, W_if, W_some]
theorem w_setT {t : T} : W (evS Φ refs (.setT t e) ρ) Q ↔ W (ev Φ false e ρ) fun x ρ1 => t.free refs = true ∧ oK (bindT t x.1 ρ1) fun ρ2 => Q .nx ρ2 := by
  simp only [evS, W_bind, W_if, W_omap]
theorem w_par {is : List Nat} {es : List E} : W (evS Φ refs (.par is es) ρ) Q ↔ W (evm Φ es ρ) fun xs ρ1 => is.all (noRef refs) = true ∧ oK (setParR is xs ρ1) fun ρ2 => Q .nx ρ2 := by
  simp only [evS, W_bind, W_if, W_omap]
theorem w_ret : W (evS Φ refs (.ret e) ρ) Q ↔ W (ev Φ false e ρ) fun x ρ1 => Q (.rt x) ρ1 := by simp only [evS, W_map]
theorem w_retN : W (evS Φ refs .retN ρ) Q ↔ Q (.rt (.none, .f)) ρ := by simp only [evS, W_some]
theorem w_retv {i : Nat} : W (evS Φ refs (.retv i) ρ) Q ↔ noRef refs i = true ∧ slK (fun x => Q (.rt x) (ρ.set i none)) (ρ.at i) := by
  simp only [evS]
  cases h : ρ.at i with
  | none => exact ⟨fun h => absurd h W_none.mp, fun h => h.2.elim⟩
  | some x =>
    show W (if noRef refs i = true then some (Fl.rt x, ρ.set i none) else none) Q ↔ _
    rw [W_if, W_some]
    exact Iff.rfl
theorem w_if : W (evS Φ refs (.ite c a b) ρ) Q ↔ W (ev Φ true c ρ) fun x ρ1 => boolK (W (evSs Φ refs a ρ1) Q) (W (evSs Φ refs b ρ1) Q) x.1 := by
  simp only [evS, W_bind]
  refine W_iff fun x ρ1 => ?_
  obtain ⟨d, o⟩ := x
  cases d with
  | bool b => cases b <;> exact Iff.rfl
  | _ => exact W_none
theorem w_pass : W (evS Φ refs .pass ρ) Q ↔ Q .nx ρ := by simp only [evS, W_some]
theorem w_brk : W (evS Φ refs .brk ρ) Q ↔ Q .bk ρ := by simp only [evS, W_some]
theorem w_cont : W (evS Φ refs .cont ρ) Q ↔ Q .ct ρ := by simp only [evS, W_some]
/-- x[i] = e of an own list -/
theorem W.setI {x : Nat} {i : E} (h : W (ev Φ false e ρ) fun y ρ1 => ownL (ρ1.at x) = true ∧ W (ev Φ true i ρ1) fun k ρ2 => lstK (fun ds => intK (fun n => oK (ixN ds.length n) fun j => Q .nx (ρ2.set x (some (.list (ds.set j y.1), .l)))) k.1) (ρ2.at x)) : W (evS Φ refs (.setI x i e) ρ) Q := by
  simp only [evS, W_bind]
  refine h.mono fun y ρ1 h => ?_
  rw [if_neg (by rw [h.1]; simp), W_bind]
  refine h.2.mono fun k ρ2 h => ?_
  revert h
  cases h2 : ρ2.at x with
  | none => exact fun h => h.elim
  | some z =>
    obtain ⟨d, o⟩ := z
    obtain ⟨k, ko⟩ := k
    cases d with
    | list ds => cases o with
      | l => cases k with
        | int n => exact fun h => W_omap.mpr h
        | _ => exact fun h => h.elim
      | _ => exact fun h => h.elim
    | _ => exact fun h => h.elim
/-- a loop's turn goes on, leaves or answers -/
def lpK (I : Prop) (E : Prop) (R : DO → Prop) : Fl → Prop
  | .nx => I
  | .ct => I
  | .bk => E
  | .rt x => R x
theorem lpK_nx {I E : Prop} {R : DO → Prop} : lpK I E R .nx ↔ I := Iff.rfl
theorem lpK_ct {I E : Prop} {R : DO → Prop} : lpK I E R .ct ↔ I := Iff.rfl
theorem lpK_bk {I E : Prop} {R : DO → Prop} : lpK I E R .bk ↔ E := Iff.rfl
theorem lpK_rt {I E : Prop} {R : DO → Prop} {x : DO} : lpK I E R (.rt x) ↔ R x := Iff.rfl
theorem forGo_W {body : PyData → Rho → Option (Fl × Rho)} (I : List PyData → Rho → Prop) (hs : ∀ x xs ρ, I (x :: xs) ρ → W (body x ρ) fun f ρ' => lpK (I xs ρ') (Q .nx ρ') (fun r => Q (.rt r) ρ') f) (hq : ∀ ρ', I [] ρ' → Q .nx ρ') : ∀ (xs : List PyData) (ρ : Rho), I xs ρ → W (forGo body xs ρ) Q
  | [], ρ, h => W_some.mpr (hq ρ h)
  | x :: xs, ρ, h => by
    obtain ⟨f, ρ1, e, h1⟩ := hs x xs ρ h
    unfold forGo
    rw [e]
    cases f with
    | nx => exact forGo_W I hs hq xs ρ1 h1
    | ct => exact forGo_W I hs hq xs ρ1 h1
    | bk => exact W_some.mpr h1
    | rt r => exact W_some.mpr h1
theorem W.for_ {t : T} {it : It} (I : List PyData → Rho → Prop) (h : W (evIt Φ it ρ) fun xs ρ1 => t.free refs = true ∧ I xs ρ1 ∧ (∀ x xs ρ, I (x :: xs) ρ → oK (bindT t x ρ) fun ρ2 => W (evSs Φ refs b ρ2) fun f ρ' => lpK (I xs ρ') (Q .nx ρ') (fun r => Q (.rt r) ρ') f) ∧ ∀ ρ', I [] ρ' → Q .nx ρ') : W (evS Φ refs (.for_ t it b) ρ) Q := by
  obtain ⟨xs, ρ1, e, hf, h0, hs, hq⟩ := h
  rw [evS_for e hf]
  exact forGo_W I (fun x xs ρ h => W_obind.mpr (hs x xs ρ h)) hq xs ρ1 h0
/-- a while with a measure -/
theorem W.while_ (I : Nat → Rho → Prop) {n : Nat} (hn : n < Φ.W) (h0 : I n ρ) (hs : ∀ n ρ, I n ρ → W (ev Φ true c ρ) fun x ρ1 => boolK (W (evSs Φ refs b ρ1) fun f ρ' => lpK (∃ m, m < n ∧ I m ρ') (Q .nx ρ') (fun r => Q (.rt r) ρ') f) (Q .nx ρ1) x.1) : W (evS Φ refs (.while_ c b) ρ) Q := by
  have go : ∀ (n : Nat) (k : Nat) (ρ : Rho), n < k → I n ρ → W (whileGo (whB Φ refs c b) k ρ) Q := by
    intro n
    induction n using Nat.strongRecOn with
    | _ n ih =>
      intro k ρ hk h
      cases k with
      | zero => omega
      | succ k =>
        obtain ⟨⟨d, o⟩, ρ1, e, h1⟩ := hs n ρ h
        unfold whileGo
        cases d with
        | bool v => cases v with
          | false =>
            rw [whB_f e]
            exact W_some.mpr h1
          | true =>
            obtain ⟨f, ρ2, e2, h2⟩ := h1
            rw [whB_t e e2]
            cases f with
            | nx => obtain ⟨m, hm, h3⟩ := h2; exact ih m hm k ρ2 (by omega) h3
            | ct => obtain ⟨m, hm, h3⟩ := h2; exact ih m hm k ρ2 (by omega) h3
            | bk => exact W_some.mpr h2
            | rt r => exact W_some.mpr h2
        | _ => exact h1.elim
  exact go n Φ.W ρ hn h0
end
/-! ### a def -/
theorem run_W {Φ : Cf} {c : Code} {args : List DO} {r : DO} {os : List Slot} (h : W (evSs Φ (refsOf 0 c.ref) c.body (args.map some ++ List.replicate (c.nl - c.np) none)) fun f ρ => f = .rt r ∧ outsOf c.ref ρ = os) : c.run Φ args = some (r, os) := by
  obtain ⟨f, ρ, e, rfl, rfl⟩ := h
  unfold Code.run
  rw [e]
  rfl
theorem run_rK {Φ : Cf} {c : Code} {args : List DO} {P : DO → List Slot → Prop} (h : W (evSs Φ (refsOf 0 c.ref) c.body (args.map some ++ List.replicate (c.nl - c.np) none)) fun f ρ => ∃ r, f = .rt r ∧ P r (outsOf c.ref ρ)) : rK (c.run Φ args) P := by
  obtain ⟨f, ρ, e, r, rfl, h⟩ := h
  refine ⟨r, _, ?_, h⟩
  unfold Code.run
  rw [e]
  rfl
end Ev
/-! Ev 30: tame data: what it is shown as, when it is equal. -/
namespace Ev
open PySem PySem.Spec L2
mutual
def nice : PyData → Bool
  | .none | .bool _ => true
  | .int i => decide (i.natAbs < 10 ^ 12)
  | .str x => PyData.strOk x && PyData.strOk (PyData.shown (.str x))
  | .list xs | .tuple xs => niceAll xs
  | .dict _ => false
def niceAll : List PyData → Bool
  | [] => true
  | x :: xs => nice x && niceAll xs
end
theorem niceAll_iff : ∀ ds : List PyData, niceAll ds = true ↔ ∀ d ∈ ds, nice d = true
  | [] => by simp [niceAll]
  | d :: ds => by simp [niceAll, niceAll_iff ds]
mutual
theorem nice_lay : ∀ d : PyData, nice d = true → d.canLay0 = true
  | .none, _ => rfl
  | .bool _, _ => rfl
  | .int _, _ => rfl
  | .str x, h => by
    simp only [nice, Bool.and_eq_true] at h
    simpa only [PyData.canLay0] using h.1
  | .list xs, h => by
    simp only [nice] at h
    simpa only [PyData.canLay0] using niceAll_lay xs h
  | .tuple xs, h => by
    simp only [nice] at h
    simpa only [PyData.canLay0] using niceAll_lay xs h
  | .dict _, h => by simp [nice] at h
theorem niceAll_lay : ∀ ds : List PyData, niceAll ds = true → PyData.canLayAll0 ds = true
  | [], _ => rfl
  | d :: ds, h => by
    simp only [niceAll, Bool.and_eq_true] at h
    simp only [PyData.canLayAll0, Bool.and_eq_true]
    exact ⟨nice_lay d h.1, niceAll_lay ds h.2⟩
end
theorem log2_12 {n : Nat} (h : n < 10 ^ 12) : n.log2 < 1920 := by
  by_cases hz : n = 0
  · subst hz; decide
  · rw [Nat.log2_lt hz]
    exact Nat.lt_of_lt_of_le h (Nat.le_trans (show 10 ^ 12 ≤ 2 ^ 40 by decide) (Nat.pow_le_pow_right (n := 2) (i := 40) (j := 1920) (by decide) (by decide)))
mutual
theorem nice_showable : ∀ d : PyData, nice d = true → d.showable = true
  | .none, _ => rfl
  | .bool _, _ => rfl
  | .int i, h => by
    simp only [nice, decide_eq_true_eq] at h
    simp only [PyData.showable, decide_eq_true_eq]
    exact log2_12 h
  | .str x, h => rfl
  | .list xs, h => by
    simp only [nice] at h
    simpa only [PyData.showable] using niceAll_showable xs h
  | .tuple xs, h => by
    simp only [nice] at h
    simpa only [PyData.showable] using niceAll_showable xs h
  | .dict _, h => by simp [nice] at h
theorem niceAll_showable : ∀ ds : List PyData, niceAll ds = true → PyData.showableAll ds = true
  | [], _ => rfl
  | d :: ds, h => by
    simp only [niceAll, Bool.and_eq_true] at h
    simp only [PyData.showableAll, Bool.and_eq_true]
    exact ⟨nice_showable d h.1, niceAll_showable ds h.2⟩
end
mutual
theorem nice_short : ∀ d : PyData, nice d = true → d.intsShort 13 = true
  | .none, _ => rfl
  | .bool _, _ => rfl
  | .int i, h => by
    simp only [nice, decide_eq_true_eq] at h
    simp only [PyData.intsShort, decide_eq_true_eq]
    exact PyData.shown_int_le h
  | .str x, h => rfl
  | .list xs, h => by
    simp only [nice] at h
    simpa only [PyData.intsShort] using niceAll_short xs h
  | .tuple xs, h => by
    simp only [nice] at h
    simpa only [PyData.intsShort] using niceAll_short xs h
  | .dict _, h => by simp [nice] at h
theorem niceAll_short : ∀ ds : List PyData, niceAll ds = true → PyData.intsShortAll 13 ds = true
  | [], _ => rfl
  | d :: ds, h => by
    simp only [niceAll, Bool.and_eq_true] at h
    simp only [PyData.intsShortAll, Bool.and_eq_true]
    exact ⟨nice_short d h.1, niceAll_short ds h.2⟩
end
/-! ### texts of proper signs -/
theorem strOk_of (s : String) : PyData.strOk (Str.ofString s) = true := by
  rw [Str.ofString_eq_toList]
  unfold PyData.strOk
  rw [Array.all_eq_true']
  intro x hx
  rw [List.mem_toArray, List.mem_map] at hx
  obtain ⟨c, _, rfl⟩ := hx
  rw [decide_eq_true_eq]
  have := c.valid
  have h2 : c.toNat.isValidChar := this
  unfold Nat.isValidChar at h2
  omega
theorem strOk_append {a b : Str} (ha : PyData.strOk a = true) (hb : PyData.strOk b = true) : PyData.strOk (a ++ b) = true := by
  unfold PyData.strOk at *
  show (a.cps ++ b.cps).all _ = true
  rw [Array.all_append, ha, hb]
  rfl
theorem strOk_join {sep : Str} (hs : PyData.strOk sep = true) : ∀ ts : List Str, (∀ t ∈ ts, PyData.strOk t = true) → PyData.strOk (Str.join sep ts) = true
  | [], _ => (show PyData.strOk Str.empty = true by decide +kernel)
  | [x], h => h x List.mem_cons_self
  | x :: y :: r, h => by
    unfold Str.join
    exact strOk_append (strOk_append (h x List.mem_cons_self) hs) (strOk_join hs (y :: r) fun t ht => h t (List.mem_cons_of_mem _ ht))
mutual
theorem nice_shownOk : ∀ d : PyData, nice d = true → PyData.strOk d.shown = true
  | .none, _ => strOk_of _
  | .bool b, _ => by cases b <;> exact strOk_of _
  | .int i, _ => strOk_of _
  | .str x, h => by
    simp only [nice, Bool.and_eq_true] at h
    exact h.2
  | .list xs, h => by
    simp only [nice] at h
    have := niceAll_shownOk xs h
    show PyData.strOk (listText (PyData.shownAll xs)) = true
    rw [listText_eq_join]
    exact strOk_append (strOk_append (strOk_of _) (strOk_join (strOk_of _) _ this)) (strOk_of _)
  | .tuple xs, h => by
    simp only [nice] at h
    have := niceAll_shownOk xs h
    show PyData.strOk (tupleText (PyData.shownAll xs)) = true
    unfold tupleText
    exact strOk_append (strOk_append (strOk_of _) (strOk_join (strOk_of _) _ this)) (strOk_of _)
  | .dict _, h => by simp [nice] at h
theorem niceAll_shownOk : ∀ ds : List PyData, niceAll ds = true → ∀ t ∈ PyData.shownAll ds, PyData.strOk t = true
  | [], _ => fun t ht => by simp [PyData.shownAll] at ht
  | d :: ds, h => fun t ht => by
    simp only [niceAll, Bool.and_eq_true] at h
    simp only [PyData.shownAll, List.mem_cons] at ht
    rcases ht with rfl | ht
    · exact nice_shownOk d h.1
    · exact niceAll_shownOk ds h.2 t ht
end
/-- tame and small -/
structure Tame (d : PyData) : Prop where
  nice : nice d = true
  depth : d.depth ≤ 60
  weight : d.weight ≤ 2 ^ 20
theorem Tame.shaped {d : PyData} (h : Tame d) : SeqAt.shaped d = true := by
  unfold SeqAt.shaped
  rw [nice_lay d h.nice, Bool.true_and, decide_eq_true_eq]
  exact Nat.le_trans h.depth (by decide)
theorem Tame.repr {d : PyData} (h : Tame d) : reprSem d = some (.str d.shown) := by
  unfold reprSem chk
  have h1 := PyData.shown_fits (B := 13) (by decide) (by decide) (PyData.leavesShort_of_canLay0 13 d (nice_lay d h.nice) (nice_short d h.nice)) h.weight
  rw [if_pos ⟨nice_showable d h.nice, PyData.hasDict_of_canLay d (nice_lay d h.nice), h.depth, h1⟩]
theorem Tame.shownOk {d : PyData} (h : Tame d) : SeqAt.shaped (.str d.shown) = true := by
  unfold SeqAt.shaped
  have : (PyData.str d.shown).canLay0 = true := nice_shownOk d h.nice
  rw [this]
  simp [PyData.depth]
mutual
theorem eqv_refl : ∀ d : PyData, nice d = true → PyData.eqv d d = true
  | .none, _ => rfl
  | .bool b, _ => by simp [PyData.eqv]
  | .int i, _ => by simp [PyData.eqv]
  | .str x, _ => by simp [PyData.eqv]
  | .list xs, h => by
    simp only [nice] at h
    simpa only [PyData.eqv] using eqvAll_refl xs h
  | .tuple xs, h => by
    simp only [nice] at h
    simpa only [PyData.eqv] using eqvAll_refl xs h
  | .dict _, h => by simp [nice] at h
theorem eqvAll_refl : ∀ ds : List PyData, niceAll ds = true → PyData.eqvAll ds ds = true
  | [], _ => rfl
  | d :: ds, h => by
    simp only [niceAll, Bool.and_eq_true] at h
    simp only [PyData.eqvAll, Bool.and_eq_true]
    exact ⟨eqv_refl d h.1, eqvAll_refl ds h.2⟩
end
theorem ne_self {d : PyData} (h : Tame d) (o o2 : O) : cmpSem .ne (d, o) (d, o2) = some false := by
  show chk (SeqAt.shaped d = true ∧ SeqAt.shaped d = true) (!PyData.eqv d d) = _
  unfold chk
  rw [if_pos ⟨h.shaped, h.shaped⟩, eqv_refl d h.nice]
  rfl
theorem eq_self {d : PyData} (h : Tame d) (o o2 : O) : cmpSem .eq (d, o) (d, o2) = some true := by
  show chk (SeqAt.shaped d = true ∧ SeqAt.shaped d = true) (PyData.eqv d d) = _
  unfold chk
  rw [if_pos ⟨h.shaped, h.shaped⟩, eqv_refl d h.nice]
theorem ne_text {d : PyData} (h : Tame d) (o o2 : O) : cmpSem .ne (.str d.shown, o) (.str d.shown, o2) = some false := by
  show chk (SeqAt.shaped (.str d.shown) = true ∧ SeqAt.shaped (.str d.shown) = true) (!PyData.eqv (.str d.shown) (.str d.shown)) = _
  unfold chk
  rw [if_pos ⟨h.shownOk, h.shownOk⟩]
  simp [PyData.eqv]
/-- repr(a) != repr(b) where both are the same -/
theorem W.same {Φ : Cf} {pk : Bool} {a b : E} {ρ : Rho} {Q : DO → Rho → Prop} (h : W (ev Φ true a ρ) fun x ρ1 => W (ev Φ true b ρ1) fun y ρ2 => Tame x.1 ∧ y.1 = x.1 ∧ Q (.bool false, .f) ρ2) : W (ev Φ pk (.cmp .ne (.bi .repr [a]) (.bi .repr [b])) ρ) Q := by
  obtain ⟨⟨d, o⟩, ρ1, e1, ⟨d2, o2⟩, ρ2, e2, ht, hd, q⟩ := h
  have hd : d2 = d := hd
  subst hd
  have ea : ∀ q, ev Φ q (.bi .repr [a]) ρ = some (fz (.str d2.shown), ρ1) := fun q => W.eq (by
    rw [w_bi, w_evp_cons]
    refine W.of e1 ?_
    rw [w_evp_nil]
    exact ⟨_, by show (reprSem d2).map fz = _; rw [Tame.repr ht]; rfl, rfl, rfl⟩)
  have eb : ∀ q, ev Φ q (.bi .repr [b]) ρ1 = some (fz (.str d2.shown), ρ2) := fun q => W.eq (by
    rw [w_bi, w_evp_cons]
    refine W.of e2 ?_
    rw [w_evp_nil]
    exact ⟨_, by show (reprSem d2).map fz = _; rw [Tame.repr ht]; rfl, rfl, rfl⟩)
  rw [w_cmp]
  refine W.of (ea _) (W.of (eb _) ?_)
  exact ⟨false, ne_text ht _ _, q⟩
/-! ### how big -/
theorem depthAll_le {k : Nat} : ∀ ds : List PyData, (∀ d ∈ ds, d.depth ≤ k) → PyData.depthAll ds ≤ k
  | [], _ => Nat.zero_le _
  | d :: ds, h => by
    simp only [PyData.depthAll]
    exact Nat.max_le.mpr ⟨h d List.mem_cons_self, depthAll_le ds fun e he => h e (List.mem_cons_of_mem _ he)⟩
theorem weightAll_le {k : Nat} : ∀ ds : List PyData, (∀ d ∈ ds, d.weight ≤ k) → PyData.weightAll ds ≤ ds.length * (k + 1)
  | [], _ => Nat.zero_le _
  | d :: ds, h => by
    simp only [PyData.weightAll, List.length_cons]
    have h1 := h d List.mem_cons_self
    have h2 := weightAll_le ds fun e he => h e (List.mem_cons_of_mem _ he)
    have h3 : (ds.length + 1) * (k + 1) = ds.length * (k + 1) + (k + 1) := Nat.succ_mul ..
    omega
/-- bounds of a kind of data: nice, depth, weight -/
structure Sz (k w : Nat) (d : PyData) : Prop where
  nice : nice d = true
  depth : d.depth ≤ k
  weight : d.weight ≤ w
theorem Sz.tame {k w : Nat} {d : PyData} (h : Sz k w d) (hk : k ≤ 60) (hw : w ≤ 2 ^ 20) : Tame d := ⟨h.nice, Nat.le_trans h.depth hk, Nat.le_trans h.weight hw⟩
theorem Sz.mono {k w k' w' : Nat} {d : PyData} (h : Sz k w d) (hk : k ≤ k') (hw : w ≤ w') : Sz k' w' d := ⟨h.nice, Nat.le_trans h.depth hk, Nat.le_trans h.weight hw⟩
theorem Sz.int {i : Int} (h : i.natAbs < 10 ^ 12) : Sz 0 40 (.int i) := by
  refine ⟨by simpa only [Ev.nice, decide_eq_true_eq] using h, Nat.le_refl _, ?_⟩
  simp only [PyData.weight]
  by_cases hz : i = 0
  · simp [hz]
  · have hz2 : (i == 0) = false := by simpa using hz
    rw [hz2]
    have : i.natAbs.log2 < 40 := by
      rw [Nat.log2_lt (by omega)]
      exact Nat.lt_of_lt_of_le h (by decide)
    simp only [Bool.false_eq_true, if_false]
    omega
theorem Sz.bool (b : Bool) : Sz 0 40 (.bool b) := ⟨rfl, Nat.le_refl _, Nat.zero_le _⟩
theorem Sz.none : Sz 0 40 .none := ⟨rfl, Nat.le_refl _, Nat.zero_le _⟩
theorem Sz.tup {k w n : Nat} {ds : List PyData} (h : ∀ d ∈ ds, Sz k w d) (hn : ds.length ≤ n) : Sz (k + 1) (n * (w + 1)) (.tuple ds) := by
  refine ⟨by simpa only [Ev.nice] using (niceAll_iff ds).mpr fun d hd => (h d hd).nice, ?_, ?_⟩
  · simp only [PyData.depth]
    exact Nat.succ_le_succ (depthAll_le ds fun d hd => (h d hd).depth)
  · simp only [PyData.weight]
    exact Nat.le_trans (weightAll_le ds fun d hd => (h d hd).weight) (Nat.mul_le_mul_right _ hn)
theorem Sz.lst {k w n : Nat} {ds : List PyData} (h : ∀ d ∈ ds, Sz k w d) (hn : ds.length ≤ n) : Sz (k + 1) (n * (w + 1)) (.list ds) := by
  refine ⟨by simpa only [Ev.nice] using (niceAll_iff ds).mpr fun d hd => (h d hd).nice, ?_, ?_⟩
  · simp only [PyData.depth]
    exact Nat.succ_le_succ (depthAll_le ds fun d hd => (h d hd).depth)
  · simp only [PyData.weight]
    exact Nat.le_trans (weightAll_le ds fun d hd => (h d hd).weight) (Nat.mul_le_mul_right _ hn)
/-! ### equal without bools -/
mutual
def nob : PyData → Bool
  | .none | .int _ | .str _ => true
  | .list xs | .tuple xs => nobAll xs
  | _ => false
def nobAll : List PyData → Bool
  | [] => true
  | x :: xs => nob x && nobAll xs
end
theorem nobAll_iff : ∀ ds : List PyData, nobAll ds = true ↔ ∀ d ∈ ds, nob d = true
  | [] => by simp [nobAll]
  | d :: ds => by simp [nobAll, nobAll_iff ds]
mutual
theorem eqv_nob : ∀ d e : PyData, nob d = true → nob e = true → (PyData.eqv d e = true ↔ d = e)
  | .none, e, _, he => by cases e <;> simp_all [nob, PyData.eqv]
  | .int i, e, _, he => by cases e <;> simp_all [nob, PyData.eqv]
  | .str x, e, _, he => by cases e <;> simp_all [nob, PyData.eqv]
  | .list xs, e, hd, he => by
    cases e with
    | list ys =>
      simp only [nob] at hd he
      simp only [PyData.eqv, PyData.list.injEq]
      exact eqvAll_nob xs ys hd he
    | _ => simp_all [nob, PyData.eqv]
  | .tuple xs, e, hd, he => by
    cases e with
    | tuple ys =>
      simp only [nob] at hd he
      simp only [PyData.eqv, PyData.tuple.injEq]
      exact eqvAll_nob xs ys hd he
    | _ => simp_all [nob, PyData.eqv]
  | .bool _, _, hd, _ => by simp [nob] at hd
  | .dict _, _, hd, _ => by simp [nob] at hd
theorem eqvAll_nob : ∀ ds es : List PyData, nobAll ds = true → nobAll es = true → (PyData.eqvAll ds es = true ↔ ds = es)
  | [], [], _, _ => by simp [PyData.eqvAll]
  | [], _ :: _, _, _ => by simp [PyData.eqvAll]
  | _ :: _, [], _, _ => by simp [PyData.eqvAll]
  | d :: ds, e :: es, hd, he => by
    simp only [nobAll, Bool.and_eq_true] at hd he
    simp only [PyData.eqvAll, Bool.and_eq_true, List.cons.injEq]
    rw [eqv_nob d e hd.1 he.1, eqvAll_nob ds es hd.2 he.2]
end
theorem eq_nob {d e : PyData} (h1 : Tame d) (h2 : Tame e) (n1 : nob d = true) (n2 : nob e = true) (b : Bool) (hb : b = true ↔ d = e) (o o2 : O) : cmpSem .eq (d, o) (e, o2) = some b := by
  show chk (SeqAt.shaped d = true ∧ SeqAt.shaped e = true) (PyData.eqv d e) = _
  unfold chk
  rw [if_pos ⟨h1.shaped, h2.shaped⟩, show PyData.eqv d e = b by rw [Bool.eq_iff_iff, hb]; exact eqv_nob d e n1 n2]
theorem ne_nob {d e : PyData} (h1 : Tame d) (h2 : Tame e) (n1 : nob d = true) (n2 : nob e = true) (b : Bool) (hb : b = true ↔ d = e) (o o2 : O) : cmpSem .ne (d, o) (e, o2) = some (!b) := by
  show chk (SeqAt.shaped d = true ∧ SeqAt.shaped e = true) (!PyData.eqv d e) = _
  unfold chk
  rw [if_pos ⟨h1.shaped, h2.shaped⟩, show PyData.eqv d e = b by rw [Bool.eq_iff_iff, hb]; exact eqv_nob d e n1 n2]
end Ev
/-! Ev 31: more of comprehensions. -/
namespace Ev
open PySem PySem.Spec L2
section
variable {Φ : Cf} {ρ : Rho} {pk : Bool} {Q : DO → Rho → Prop} {elt c : E} {t : T} {it : It} {own : List Nat}
/-- each turn tells one thing -/
theorem W.compM {α : Type} (enc : α → PyData) (g : α → PyData) (h : W (evIt Φ it ρ) fun xs ρ1 => ∃ l : List α, xs = l.map enc ∧ l.length ≤ sizeLine ∧ (∀ a ∈ l, W (turnR Φ elt t c own (enc a) (wipeR ρ1 own)) fun y ρ' => y = some (g a) ∧ ρ' = wipeR ρ1 own) ∧ Q (.list (l.map g), .l) (wipeR ρ1 own)) : W (ev Φ pk (.comp elt t it c own) ρ) Q := by
  refine W.comp enc (fun _ => true) g (h.mono fun xs ρ1 ⟨l, e, hl, ht, q⟩ => ⟨l, e, hl, fun a ha => (ht a ha).mono fun y ρ' h => ⟨by rw [if_pos rfl]; exact h.1, h.2⟩, ?_⟩)
  rw [List.filter_eq_self.mpr (fun _ _ => rfl)]
  exact q
theorem W.compR (g : PyData → PyData) (h : W (evIt Φ it ρ) fun xs ρ1 => xs.length ≤ sizeLine ∧ (∀ a ∈ xs, W (turnR Φ elt t c own a (wipeR ρ1 own)) fun y ρ' => y = some (g a) ∧ ρ' = wipeR ρ1 own) ∧ Q (.list (xs.map g), .l) (wipeR ρ1 own)) : W (ev Φ pk (.comp elt t it c own) ρ) Q :=
  W.compM id g (h.mono fun xs ρ1 ⟨hl, ht, q⟩ => ⟨xs, by simp, hl, ht, q⟩)
/-- those that p takes -/
theorem W.compF {α : Type} (enc : α → PyData) (p : α → Bool) (h : W (evIt Φ it ρ) fun xs ρ1 => ∃ l : List α, xs = l.map enc ∧ l.length ≤ sizeLine ∧ (∀ a ∈ l, W (turnR Φ elt t c own (enc a) (wipeR ρ1 own)) fun y ρ' => y = (if p a then some (enc a) else none) ∧ ρ' = wipeR ρ1 own) ∧ Q (.list ((l.filter p).map enc), .l) (wipeR ρ1 own)) : W (ev Φ pk (.comp elt t it c own) ρ) Q := W.comp enc p enc h
end
theorem boolsOf_mapf {α : Type} (l : List α) (p : α → Bool) : boolsOf (l.map fun a => PyData.bool (p a)) = some (l.map p) := by
  rw [show (l.map fun a => PyData.bool (p a)) = (l.map p).map PyData.bool by rw [List.map_map]; rfl]
  exact boolsOf_map _
theorem all_mapf {α : Type} (l : List α) (p : α → Bool) : (l.map p).all id = l.all p := by rw [List.all_map]; rfl
theorem any_mapf {α : Type} (l : List α) (p : α → Bool) : (l.map p).any id = l.any p := by rw [List.any_map]; rfl
theorem small_nat' {n : Nat} (h : n ≤ 1000000) : small62 (n : Int) = true := by
  unfold small62
  rw [Bool.and_eq_true, decide_eq_true_eq, decide_eq_true_eq]
  omega
theorem small_0' : small62 0 = true := small_nat' (n := 0) (by omega)
theorem small_int {i : Int} (h0 : -1000000 ≤ i) (h1 : i ≤ 1000000) : small62 i = true := by
  unfold small62
  rw [Bool.and_eq_true, decide_eq_true_eq, decide_eq_true_eq]
  omega
theorem rangeD_map (lo : Int) (n : Nat) : rangeD lo n = (rgI lo n).map PyData.int := rangeD_ints lo n
theorem listD_l (ds : List PyData) : listD (.list ds) = some ds := rfl
theorem seqOf_f (ds : List PyData) : seqOf (.list ds, .f) = some ds := rfl
theorem seqOf_l (ds : List PyData) : seqOf (.list ds, .l) = some ds := rfl
theorem seqOf_t (ds : List PyData) (o : O) : seqOf (.tuple ds, o) = some ds := rfl
theorem bindT_name {i : Nat} {d : PyData} {ρ : Rho} : bindT (.name i) d ρ = if i < ρ.length then some (ρ.set i (some (d, .f))) else none := by simp only [bindT]
theorem bindT_tup {ts : List T} {ds : List PyData} {ρ : Rho} : bindT (.tup ts) (.tuple ds) ρ = bindTs ts ds ρ := by simp only [bindT]
theorem bindTs_nil {ρ : Rho} : bindTs [] [] ρ = some ρ := by simp only [bindTs]
theorem bindTs_cons {t : T} {ts : List T} {d : PyData} {ds : List PyData} {ρ : Rho} : bindTs (t :: ts) (d :: ds) ρ = (bindT t d ρ).bind fun ρ1 => bindTs ts ds ρ1 := by simp only [bindTs]
theorem oK_if {α : Type} {p : Prop} [Decidable p] {x : Option α} {P : α → Prop} : oK (if p then x else none) P ↔ p ∧ oK x P := by
  by_cases h : p
  · rw [if_pos h]; exact ⟨fun q => ⟨h, q⟩, fun q => q.2⟩
  · rw [if_neg h, oK_none]; exact ⟨False.elim, fun q => h q.1⟩
theorem varK_congr {pk : Bool} {i : Nat} {ρ : Rho} {Q : DO → Rho → Prop} {s s' : Slot} (h : s = s') : varK pk i ρ Q s = varK pk i ρ Q s' := by rw [h]
theorem lstK_congr {P : List PyData → Prop} {s s' : Slot} (h : s = s') : lstK P s = lstK P s' := by rw [h]
theorem slK_congr {P : DO → Prop} {s s' : Slot} (h : s = s') : slK P s = slK P s' := by rw [h]
theorem lpK_congr {I E : Prop} {R : DO → Prop} {f g : Fl} (h : f = g) : lpK I E R f = lpK I E R g := by rw [h]
theorem dlK_congr {P : List PyData → Int → Prop} {s s' : Slot} (h : s = s') : dlK P s = dlK P s' := by rw [h]
theorem lenSem_l (ds : List PyData) : lenSem (.list ds) = some (.int ds.length) := rfl
theorem lenSem_t (ds : List PyData) : lenSem (.tuple ds) = some (.int ds.length) := rfl
theorem truth_b (b : Bool) : truthSem (.bool b) = some b := rfl
theorem truth_n : truthSem .none = some false := rfl
theorem truth_i (i : Int) : truthSem (.int i) = some (i != 0) := rfl
theorem truth_l (ds : List PyData) : truthSem (.list ds) = some (!ds.isEmpty) := rfl
theorem truth_t (ds : List PyData) : truthSem (.tuple ds) = some (!ds.isEmpty) := rfl
theorem dl_inj {ns ms : List Int} {n m : Int} : dl ns n = dl ms m ↔ ns = ms ∧ n = m := by
  unfold dl
  constructor
  · intro h
    simp only [Prod.mk.injEq, PyData.list.injEq, List.cons.injEq, PyData.int.injEq, and_true] at h
    exact ⟨(List.map_inj_right (fun a b e => by cases e; rfl)).mp h.1, h.2⟩
  · rintro ⟨rfl, rfl⟩
    rfl
end Ev
/-! Ev 32: calls that change what their first argument holds; draws. -/
namespace Ev
open PySem PySem.Spec L2
section
variable {Φ Ψ : Cf} {ρ : Rho} {pk : Bool} {Q : DO → Rho → Prop} {es : List E} {k s : Nat} {c : Code} {e : E}
theorem outs_pure : ∀ (bs : List Bool) (ρ : Rho), (∀ b ∈ bs, b = false) → outsOf bs ρ = List.replicate bs.length none
  | [], _, _ => rfl
  | b :: bs, ρ, h => by
    have : b = false := h b List.mem_cons_self
    subst this
    have ih := fun ρ => outs_pure bs ρ fun b hb => h b (List.mem_cons_of_mem _ hb)
    cases ρ with
    | nil => show none :: outsOf bs [] = _; rw [ih]; rfl
    | cons s ρ => show none :: outsOf bs ρ = _; rw [ih]; rfl
/-- f(x, ..), x handed on by reference -/
theorem W.call_g {bs : List Bool} (hF : Φ.fn[k]? = some ⟨c.ref, c.run Ψ⟩) (hm : c.ref = true :: bs) (hb : ∀ b ∈ bs, b = false) (hl : bs.length = es.length) (hs : (ρ.at s).isSome = true) (h : W (evs Φ es ρ) fun xs ρ1 => slK (fun x => rK (c.run Ψ (x :: xs)) fun r os => slK (fun z => Q r (ρ1.set s (some z))) (os.headD none)) (ρ1.at s)) : W (ev Φ pk (.call k (.var s :: es)) ρ) Q := by
  obtain ⟨xs, ρ1, e1, h⟩ := h
  cases hs1 : ρ1.at s with
  | none => rw [hs1] at h; exact h.elim
  | some x =>
  rw [hs1] at h
  obtain ⟨r, os, e2, q⟩ := h
  have hl2 := run_len e2
  rw [hm] at hl2
  cases os with
  | nil => cases hl2
  | cons o os =>
    cases o with
    | none => exact q.elim
    | some z =>
      have hol : os.length = bs.length := by simpa using hl2
      have hmask : Φ.mask k = true :: bs := by unfold Cf.mask; rw [hF]; exact hm
      have h1 : evc Φ (true :: bs) (.var s :: es) ρ = some ((.none, .f) :: xs, ρ1) := by
        simp only [evc, List.headD_cons, if_true, List.tail_cons]
        rw [if_pos (by simp [isVar, hs]), evc_pure hb hl, e1]
        rfl
      refine ⟨r, ρ1.set s (some z), ?_, q⟩
      show ((evc Φ (Φ.mask k) (.var s :: es) ρ).bind _) = _
      rw [hmask, h1]
      show callSem Φ k (.var s :: es) ((.none, .f) :: xs) ρ1 = _
      unfold callSem
      rw [hF]
      show ((takeRefs c.ref (.var s :: es) ((.none, .f) :: xs) ρ1).bind fun (xs, ρ1) => (c.run Ψ xs).bind fun (r, os) => (giveRefs c.ref (.var s :: es) os ρ1).map fun ρ2 => (r, ρ2)) = _
      rw [hm]
      have h2 : takeRefs (true :: bs) (.var s :: es) ((.none, .f) :: xs) ρ1 = some (x :: xs, ρ1.set s none) := by
        unfold takeRefs
        rw [hs1]
        show (takeRefs bs es xs (ρ1.set s none)).map _ = _
        rw [take_pure hb hl (evs_len e1).symm]
        rfl
      rw [h2]
      show (c.run Ψ (x :: xs)).bind _ = _
      rw [e2]
      show (giveRefs (true :: bs) (.var s :: es) (some z :: os) (ρ1.set s none)).map _ = _
      have h3 : giveRefs (true :: bs) (.var s :: es) (some z :: os) (ρ1.set s none) = some (ρ1.set s (some z)) := by
        unfold giveRefs
        rw [give_pure hb hl (by rw [hol, hl]), List.set_set]
      rw [h3]
      rfl
/-- a draw -/
theorem W.dr {ns : List Int} {n : Int} (hA : HasAny Φ k) (hs : ρ.at s = some (dl ns n)) (g : Good ns n) (h : W (ev Φ false e ρ) fun x ρ1 => ρ1 = ρ ∧ intK (fun b => (0 < b ∧ b < 2 ^ 40) ∧ ∀ v ns' n', 0 ≤ v → v < b → Good ns' n' → Q (.int v, .f) (ρ.set s (some (dl ns' n')))) x.1) : W (ev Φ pk (.call k [.var s, e]) ρ) Q := by
  refine W.any hA (h.mono fun x ρ1 ⟨e, h⟩ => ⟨e, ?_⟩)
  obtain ⟨d, o⟩ := x
  cases d with
  | int b => exact ⟨ns, n, hs, g, h.1, h.2⟩
  | _ => exact h.elim
end
end Ev
namespace Ev
open PySem PySem.Spec L2
/-- what is left of a body -/
def Rest (Φ : Cf) (refs : List Nat) (ss : List S) (Q : Fl → Rho → Prop) (ρ : Rho) : Prop := W (evSs Φ refs ss ρ) Q
theorem w_consR {Φ : Cf} {refs : List Nat} {s : S} {ss : List S} {ρ : Rho} {Q : Fl → Rho → Prop} : W (evSs Φ refs (s :: ss) ρ) Q ↔ W (evS Φ refs s ρ) fun f ρ1 => flK (Rest Φ refs ss Q ρ1) (fun f => Q f ρ1) f := w_cons
theorem w_rest {Φ : Cf} {refs : List Nat} {ρ : Rho} {Q : Fl → Rho → Prop} : Rest Φ refs [] Q ρ ↔ Q .nx ρ := w_nil
theorem w_cmp2 {Φ : Cf} {pk : Bool} {ρ : Rho} {Q : DO → Rho → Prop} {a b c : E} {o o' : CO} : W (ev Φ pk (.cmp2 o o' a b c) ρ) Q ↔ W (ev Φ (b.quiet Φ) a ρ) fun x ρ1 => W (ev Φ (c.quiet Φ) b ρ1) fun y ρ2 => oK (cmpSem o x y) fun k => boolK (W (ev Φ true c ρ2) fun z ρ3 => oK (cmpSem o' y z) fun w => Q (.bool w, .f) ρ3) (Q (.bool false, .f) ρ2) (.bool k) := by
  simp only [ev]
  rw [W_bind]
  refine W_iff fun x ρ1 => ?_
  rw [W_bind]
  refine W_iff fun y ρ2 => ?_
  rw [W_obind]
  refine ⟨fun ⟨k, e, h⟩ => ⟨k, e, ?_⟩, fun ⟨k, e, h⟩ => ⟨k, e, ?_⟩⟩
  · cases k with
    | true => exact (W_bind.mp h).mono fun z ρ3 h => W_omap.mp h
    | false => exact W_some.mp h
  · cases k with
    | true => exact W_bind.mpr (W.mono h fun z ρ3 h => W_omap.mpr h)
    | false => exact W_some.mpr h
theorem permV_1 {α : Type} (a b : α) : permV [1, 0] [a, b] = some [b, a] := rfl
theorem permV_3 {α : Type} (a b c d : α) : permV [3, 2, 1, 0] [a, b, c, d] = some [d, c, b, a] := rfl
end Ev
/-! Ev 33: comprehensions that draw. -/
namespace Ev
open PySem PySem.Spec L2
section
variable {Φ : Cf} {ρ : Rho} {pk : Bool} {Q : DO → Rho → Prop} {elt c : E} {t : T} {it : It} {own : List Nat}
/-- each turn draws; R tells what the source is like: some turns tell a thing -/
theorem W.compD {α : Type} (enc : α → PyData) (P : α → Prop) (ρf : Slot → Rho) (h : W (evIt Φ it ρ) fun xs ρ1 => ∃ ns n, Good ns n ∧ wipeR ρ1 own = ρf (some (dl ns n)) ∧ xs.length ≤ sizeLine ∧ (∀ x ∈ xs, ∀ ns n, Good ns n → W (turnR Φ elt t c own x (ρf (some (dl ns n)))) fun y ρ' => ∃ ns' n', Good ns' n' ∧ ρ' = ρf (some (dl ns' n')) ∧ ∀ z, y = some z → ∃ a, z = enc a ∧ P a) ∧ ∀ (l : List α) ns' n', Good ns' n' → (∀ a ∈ l, P a) → l.length ≤ xs.length → Q (.list (l.map enc), .l) (ρf (some (dl ns' n')))) : W (ev Φ pk (.comp elt t it c own) ρ) Q := by
  obtain ⟨xs0, ρ1, e, ns, n, g, hw, hl, ht, hq⟩ := h
  refine W.compI (fun xs acc ρ => ∃ (l : List α) (ns : List Int) (n : Int), Good ns n ∧ ρ = ρf (some (dl ns n)) ∧ acc = l.map enc ∧ (∀ a ∈ l, P a) ∧ l.length + xs.length ≤ xs0.length ∧ ∀ x ∈ xs, x ∈ xs0) (W.of e ⟨⟨[], ns, n, g, hw, rfl, fun a ha => (nomatch ha), by simp, fun x hx => hx⟩, hl, ?_, ?_⟩)
  · rintro x xs acc ρ ⟨l, ns, n, g, rfl, rfl, hp, hll, hx⟩
    refine (ht x (hx x List.mem_cons_self) ns n g).mono fun y ρ' ⟨ns', n', g', hr, hy⟩ => ?_
    rw [List.length_cons] at hll
    cases y with
    | none => exact ⟨l, ns', n', g', hr, by simp, hp, by omega, fun z hz => hx z (List.mem_cons_of_mem _ hz)⟩
    | some z =>
      obtain ⟨a, rfl, ha⟩ := hy z rfl
      refine ⟨l ++ [a], ns', n', g', hr, by simp, fun b hb => ?_, by rw [List.length_append, List.length_singleton]; omega, fun z hz => hx z (List.mem_cons_of_mem _ hz)⟩
      rcases List.mem_append.mp hb with hb | hb
      · exact hp b hb
      · rw [List.mem_singleton.mp hb]; exact ha
  · rintro ys ρ' ⟨l, ns, n, g, rfl, rfl, hp, hll, hx⟩
    exact hq l ns n g hp (by simpa using hll)
/-- .. each turn tells one -/
theorem W.compDM {α : Type} (enc : α → PyData) (P : α → Prop) (ρf : Slot → Rho) (h : W (evIt Φ it ρ) fun xs ρ1 => ∃ ns n, Good ns n ∧ wipeR ρ1 own = ρf (some (dl ns n)) ∧ xs.length ≤ sizeLine ∧ (∀ x ∈ xs, ∀ ns n, Good ns n → W (turnR Φ elt t c own x (ρf (some (dl ns n)))) fun y ρ' => ∃ ns' n', Good ns' n' ∧ ρ' = ρf (some (dl ns' n')) ∧ ∃ a, y = some (enc a) ∧ P a) ∧ ∀ (l : List α) ns' n', Good ns' n' → (∀ a ∈ l, P a) → l.length = xs.length → Q (.list (l.map enc), .l) (ρf (some (dl ns' n')))) : W (ev Φ pk (.comp elt t it c own) ρ) Q := by
  obtain ⟨xs0, ρ1, e, ns, n, g, hw, hl, ht, hq⟩ := h
  refine W.compI (fun xs acc ρ => ∃ (l : List α) (ns : List Int) (n : Int), Good ns n ∧ ρ = ρf (some (dl ns n)) ∧ acc = l.map enc ∧ (∀ a ∈ l, P a) ∧ l.length + xs.length = xs0.length ∧ ∀ x ∈ xs, x ∈ xs0) (W.of e ⟨⟨[], ns, n, g, hw, rfl, fun a ha => (nomatch ha), by simp, fun x hx => hx⟩, hl, ?_, ?_⟩)
  · rintro x xs acc ρ ⟨l, ns, n, g, rfl, rfl, hp, hll, hx⟩
    refine (ht x (hx x List.mem_cons_self) ns n g).mono fun y ρ' ⟨ns', n', g', hr, a, hy, ha⟩ => ?_
    rw [List.length_cons] at hll
    subst hy
    refine ⟨l ++ [a], ns', n', g', hr, by simp, fun b hb => ?_, by rw [List.length_append, List.length_singleton]; omega, fun z hz => hx z (List.mem_cons_of_mem _ hz)⟩
    rcases List.mem_append.mp hb with hb | hb
    · exact hp b hb
    · rw [List.mem_singleton.mp hb]; exact ha
  · rintro ys ρ' ⟨l, ns, n, g, rfl, rfl, hp, hll, hx⟩
    exact hq l ns n g hp (by simpa using hll)
end
end Ev
namespace Law
open PySem
def csD : List PyData := [.str "abcdefghijklmnopqrstuvwxyzABCDEFGHIJKLMNOPQRSTUVWXYZ0123456789_"]
end Law
/-! the law's tables and codes (printed) -/
namespace Law
open Ev PySem PySem.Spec PyProof.Rows L2
def top (i : Nat) : Stmt := PySem.Challenge.pw_lookalike_k05_tokens_and_their_places.main.body.getD i (.Pass ⟨0, 0, 0, 0⟩)
def bltN : List Str := ["len", "abs", "int", "tuple", "sum", "repr", "max", "range", "enumerate"]
def csN : List Str := ["WORD_SIGNS"]
def N__law_draw : List Str := ["_law_script", "_law_salt", "_law_cells", "_law_blend", "_law_cell"]
def fi__law_draw : FnI := ⟨"_law_draw", ["_law_script", "_law_salt"], [false, false], 1, []⟩
def N__law_any : List Str := ["_law_deal", "_law_bound", "_law_rest"]
def fi__law_any : FnI := ⟨"_law_any", ["_law_deal", "_law_bound"], [true, false], 1, []⟩
def N__law_of : List Str := ["_law_deal", "_law_some"]
def fi__law_of : FnI := ⟨"_law_of", ["_law_deal", "_law_some"], [true, false], 2, []⟩
def N__law_text : List Str := ["_law_deal", "_law_some", "_law_turn"]
def fi__law_text : FnI := ⟨"_law_text", ["_law_deal"], [true], 3, []⟩
def N__law_is_letter : List Str := ["_law_sign"]
def fi__law_is_letter : FnI := ⟨"_law_is_letter", ["_law_sign"], [false], 1, []⟩
def N__law_walk : List Str := ["_law_text_here", "_law_found", "_law_state", "_law_at", "_law_sign"]
def fi__law_walk : FnI := ⟨"_law_walk", ["_law_text_here"], [false], 2, []⟩
def N_skipped : List Str := ["text", "at", "is_remark"]
def fi_skipped : FnI := ⟨"skipped", ["text", "at"], [false, false], 1, []⟩
def N_token_end : List Str := ["text", "at", "end"]
def fi_token_end : FnI := ⟨"token_end", ["text", "at"], [false, false], 1, []⟩
def N_token_places : List Str := ["text", "found", "at"]
def fi_token_places : FnI := ⟨"token_places", ["text"], [false], 2, [(0, ["text"], [0])]⟩
def N_tokens_of : List Str := ["text", "at"]
def fi_tokens_of : FnI := ⟨"tokens_of", ["text"], [false], 3, [(0, ["text"], [0])]⟩
def N_law : List Str := ["_law_script", "_law_deal", "_law_text_here", "_law_due", "_law_turn", "_law_tokens", "_law_places", "_law_at", "_law_end", "_law_more", "_law_token", "_law_place"]
def fi_law : FnI := ⟨"law", ["_law_script"], [false], 4, []⟩
def fs_0 : List FnI := []
def fs_1 : List FnI := fs_0 ++ [fi__law_draw]
def fs_2 : List FnI := fs_1 ++ [fi__law_any]
def fs_3 : List FnI := fs_2 ++ [fi__law_of]
def fs_4 : List FnI := fs_3 ++ [fi__law_text]
def fs_5 : List FnI := fs_4 ++ [fi__law_is_letter]
def fs_6 : List FnI := fs_5 ++ [fi__law_walk]
def fs_7 : List FnI := fs_6 ++ [fi_skipped]
def fs_8 : List FnI := fs_7 ++ [fi_token_end]
def fs_9 : List FnI := fs_8 ++ [fi_token_places]
def fs_10 : List FnI := fs_9 ++ [fi_tokens_of]
def fs_11 : List FnI := fs_10 ++ [fi_law]
def c__law_draw : Ev.Code := ⟨2, 5, [false, false],
    [.set 2 (.comp (.bi .abs [(.bi .int1 [(.var 4)])]) (.name 4) (.seq (.slice (.var 0) (.lit .none) (.lit (.int 48)))) (.lit (.bool true)) [4]),
    .set 3 (.bin .add (.lit (.int 7919)) (.bin .mul (.lit (.int 104729)) (.var 1))),
    .for_ (.name 4) (.seq (.var 2)) [.set 3 (.bin .mod (.bi .int1 [(.bin .add (.bin .add (.bin .mul (.var 3) (.lit (.int 48271))) (.bin .mod (.var 4) (.lit (.int 2147483549)))) (.lit (.int 11)))]) (.lit (.int 2147483647)))],
    .ret (.deal (.rev (.comp (.var 4) (.name 4) (.seq (.var 2)) (.cmp .ge (.var 4) (.bin .pow (.lit (.int 10)) (.lit (.int 18)))) [4])) (.var 3))]⟩
def c__law_any : Ev.Code := ⟨2, 3, [true, false],
    [.while_ (.and_ (.cmp .ne (.idx (.var 0) (.lit (.int 0))) (.lst [])) (.cmp .eq (.idx (.idx (.var 0) (.lit (.int 0))) (.neg (.lit (.int 1)))) (.lit (.int 0)))) [.expr (.gmut .pop 0 [])],
    .ite (.cmp .ne (.idx (.var 0) (.lit (.int 0))) (.lst [])) [.set 2 (.bi .int1 [(.gmut .pop 0 [])]), .expr (.gmut .append 0 [(.bin .fdiv (.var 2) (.var 1))]), .ret (.bin .mod (.var 2) (.var 1))] [],
    .setI 0 (.lit (.int 1)) (.bin .mod (.bi .int1 [(.bin .add (.bin .mul (.idx (.var 0) (.lit (.int 1))) (.lit (.int 40693))) (.lit (.int 71)))]) (.lit (.int 2147483647))),
    .ret (.bin .mod (.bi .int1 [(.bin .fdiv (.idx (.var 0) (.lit (.int 1))) (.lit (.int 64)))]) (.var 1))]⟩
def c__law_of : Ev.Code := ⟨2, 2, [true, false],
    [.ret (.idx (.var 1) (.call 1 [(.var 0), (.bi .len [(.var 1)])]))]⟩
def c__law_text : Ev.Code := ⟨1, 3, [true],
    [.set 1 (.lst [(.lit (.str "a")), (.lit (.str "B_7")), (.lit (.str "while")), (.lit (.str "0")), (.lit (.str "12")), (.lit (.str "007")), (.lit (.str "9x")), (.lit (.str "_")), (.lit (.str "->")), (.lit (.str "-")), (.lit (.str ">")), (.lit (.str "=")), (.lit (.str ";")), (.lit (.str ":")), (.lit (.str "{")), (.lit (.str "}")), (.lit (.str "[")), (.lit (.str "]")), (.lit (.str "(")), (.lit (.str ")"))]),
    .set 1 (.bin .add (.var 1) (.lst [(.lit (.str ",")), (.lit (.str "?")), (.lit (.str "*")), (.lit (.str "$")), (.lit (.str "~")), (.lit (.str "!"))])),
    .set 1 (.bin .add (.var 1) (.lst [(.lit (.str " ")), (.lit (.str " ")), (.lit (.str "  ")), (.lit (.str "\n")), (.lit (.str "\n ")), (.lit (.str "# so -> it is")), (.lit (.str "#")), (.lit (.str "##\n")), (.lit (.str " # a = 3;\n")), (.lit (.str "->->")), (.lit (.str "--")), (.lit (.str ">-")), (.lit (.str "zZ09"))])),
    .ret (.meth .join (.lit (.str "")) [(.comp (.call 2 [(.var 0), (.var 1)]) (.name 2) (.range (.lit (.int 0)) (.call 1 [(.var 0), (.lit (.int 24))])) (.lit (.bool true)) [2])])]⟩
def c__law_is_letter : Ev.Code := ⟨1, 1, [false],
    [.ret (.or_ (.cmp .eq (.var 0) (.lit (.str "_"))) (.or_ (.cmp2 .le .le (.lit (.str "a")) (.var 0) (.lit (.str "z"))) (.or_ (.cmp2 .le .le (.lit (.str "A")) (.var 0) (.lit (.str "Z"))) (.cmp2 .le .le (.lit (.str "0")) (.var 0) (.lit (.str "9"))))))]⟩
def c__law_walk : Ev.Code := ⟨1, 5, [false],
    [.par [1, 2] [(.lst []), (.lit (.str "gap"))],
    .for_ (.tup [(.name 3), (.name 4)]) (.enum (.var 0)) [.ite (.cmp .eq (.var 2) (.lit (.str "remark"))) [.set 2 (.ite (.cmp .eq (.var 4) (.lit (.str "\n"))) (.lit (.str "gap")) (.lit (.str "remark")))] [.ite (.cmp .eq (.var 4) (.lit (.str "#"))) [.set 2 (.lit (.str "remark"))] [.ite (.cmp .mem (.var 4) (.lst [(.lit (.str " ")), (.lit (.str "\n"))])) [.set 2 (.lit (.str "gap"))] [.ite (.or_ (.and_ (.truth (.call 4 [(.var 4)])) (.cmp .eq (.var 2) (.lit (.str "word")))) (.and_ (.cmp .eq (.var 4) (.lit (.str ">"))) (.cmp .eq (.var 2) (.lit (.str "dash"))))) [.setI 1 (.neg (.lit (.int 1))) (.tup [(.idx (.idx (.var 1) (.neg (.lit (.int 1)))) (.lit (.int 0))), (.bin .add (.idx (.idx (.var 1) (.neg (.lit (.int 1)))) (.lit (.int 1))) (.var 4))]), .set 2 (.ite (.cmp .eq (.var 2) (.lit (.str "word"))) (.lit (.str "word")) (.lit (.str "sign")))] [.expr (.mut .append 1 [(.tup [(.var 3), (.var 4)])]), .set 2 (.ite (.truth (.call 4 [(.var 4)])) (.lit (.str "word")) (.ite (.cmp .eq (.var 4) (.lit (.str "-"))) (.lit (.str "dash")) (.lit (.str "sign"))))]]]]],
    .retv 1]⟩
def c_skipped : Ev.Code := ⟨2, 3, [false, false],
    [.set 2 (.lit (.bool false)),
    .while_ (.and_ (.cmp .lt (.var 1) (.bi .len [(.var 0)])) (.or_ (.truth (.var 2)) (.cmp .mem (.idx (.var 0) (.var 1)) (.lit (.str " \n#"))))) [.set 2 (.and_ (.cmp .ne (.idx (.var 0) (.var 1)) (.lit (.str "\n"))) (.or_ (.var 2) (.cmp .eq (.idx (.var 0) (.var 1)) (.lit (.str "#"))))), .set 1 (.bin .add (.var 1) (.lit (.int 1)))],
    .retv 1]⟩
def c_token_end : Ev.Code := ⟨2, 3, [false, false],
    [.ite (.cmp .eq (.slice (.var 0) (.var 1) (.bin .add (.var 1) (.lit (.int 2)))) (.lit (.str "->"))) [.ret (.bin .add (.var 1) (.lit (.int 2)))] [],
    .set 2 (.var 1),
    .while_ (.and_ (.cmp .lt (.var 2) (.bi .len [(.var 0)])) (.cmp .mem (.idx (.var 0) (.var 2)) (.cst 0))) [.set 2 (.bin .add (.var 2) (.lit (.int 1)))],
    .ret (.bi .max2 [(.var 2), (.bin .add (.var 1) (.lit (.int 1)))])]⟩
def c_token_places : Ev.Code := ⟨1, 3, [false],
    [.par [1, 2] [(.lst []), (.call 6 [(.var 0), (.lit (.int 0))])],
    .while_ (.cmp .lt (.var 2) (.bi .len [(.var 0)])) [.expr (.mut .append 1 [(.var 2)]), .set 2 (.call 6 [(.var 0), (.call 7 [(.var 0), (.var 2)])])],
    .ret (.bi .tuple1 [(.var 1)])]⟩
def c_tokens_of : Ev.Code := ⟨1, 2, [false],
    [.ret (.bi .tuple1 [(.comp (.slice (.var 0) (.var 1) (.call 7 [(.var 0), (.var 1)])) (.name 1) (.seq (.call 8 [(.var 0)])) (.lit (.bool true)) [1])])]⟩
def c_law : Ev.Code := ⟨1, 12, [false],
    [.set 1 (.call 0 [(.var 0), (.lit (.int 5))]),
    .set 2 (.call 3 [(.var 1)]),
    .set 3 (.call 5 [(.var 2)]),
    .setT (.tup [(.name 5), (.name 6)]) (.tup [(.bi .tuple1 [(.comp (.var 10) (.tup [(.name 7), (.name 10)]) (.seq (.var 3)) (.lit (.bool true)) [7, 10])]), (.bi .tuple1 [(.comp (.var 7) (.tup [(.name 7), (.name 10)]) (.seq (.var 3)) (.lit (.bool true)) [7, 10])])]),
    .for_ (.name 4) (.range (.lit (.int 0)) (.lit (.int 2))) [.ite (.or_ (.cmp .ne (.bi .repr [(.callK 9 [0] [] [(.var 2)])]) (.bi .repr [(.var 5)])) (.cmp .ne (.bi .repr [(.callK 8 [0] [] [(.var 2)])]) (.bi .repr [(.var 6)]))) [.ret (.lit (.bool false))] []],
    .ite (.or_ (.cmp .ne (.call 9 [(.meth .join (.lit (.str " ")) [(.var 5)])]) (.var 5)) (.cmp .ne (.call 9 [(.meth .join (.lit (.str "\n")) [(.var 5)])]) (.var 5))) [.ret (.lit (.bool false))] [],
    .ite (.cmp .ne (.call 8 [(.meth .join (.lit (.str " ")) [(.var 5)])]) (.bi .tuple1 [(.comp (.bi .sum [(.comp (.bin .add (.bi .len [(.var 10)]) (.lit (.int 1))) (.name 10) (.seq (.slice (.var 5) (.lit .none) (.var 7))) (.lit (.bool true)) [10])]) (.name 7) (.range (.lit (.int 0)) (.bi .len [(.var 5)])) (.lit (.bool true)) [7])])) [.ret (.lit (.bool false))] [],
    .ite (.cmp .ne (.var 3) (.lst [])) [.set 7 (.call 1 [(.var 1), (.bi .len [(.var 3)])]), .set 8 (.bin .add (.idx (.idx (.var 3) (.var 7)) (.lit (.int 0))) (.bi .len [(.idx (.idx (.var 3) (.var 7)) (.lit (.int 1)))])), .set 9 (.bin .add (.bin .add (.slice (.var 2) (.lit .none) (.var 8)) (.lit (.str "# -> 3 ; x\n"))) (.slice (.var 2) (.var 8) (.lit .none))), .ite (.or_ (.cmp .ne (.call 9 [(.var 9)]) (.var 5)) (.cmp .ne (.slice (.call 8 [(.var 9)]) (.bin .add (.var 7) (.lit (.int 1))) (.lit .none)) (.bi .tuple1 [(.comp (.bin .add (.var 11) (.lit (.int 11))) (.name 11) (.seq (.slice (.var 6) (.bin .add (.var 7) (.lit (.int 1))) (.lit .none))) (.lit (.bool true)) [11])]))) [.ret (.lit (.bool false))] []] [],
    .ret (.and_ (.cmp .eq (.call 9 [(.lit (.str ""))]) (.tup [])) (.cmp .eq (.call 8 [(.lit (.str "# a"))]) (.tup [])))]⟩
set_option maxHeartbeats 4000000
variable (W : Nat)
def Phi_0 : Cf := ⟨[], csD, W⟩
def Phi_1 : Cf := (Phi_0 W).add ⟨(fi__law_draw).ref, (c__law_draw).run (Phi_0 W)⟩
def Phi_2 : Cf := (Phi_1 W).add ⟨(fi__law_any).ref, (c__law_any).run (Phi_1 W)⟩
def Phi_3 : Cf := (Phi_2 W).add ⟨(fi__law_of).ref, (c__law_of).run (Phi_2 W)⟩
def Phi_4 : Cf := (Phi_3 W).add ⟨(fi__law_text).ref, (c__law_text).run (Phi_3 W)⟩
def Phi_5 : Cf := (Phi_4 W).add ⟨(fi__law_is_letter).ref, (c__law_is_letter).run (Phi_4 W)⟩
def Phi_6 : Cf := (Phi_5 W).add ⟨(fi__law_walk).ref, (c__law_walk).run (Phi_5 W)⟩
def Phi_7 : Cf := (Phi_6 W).add ⟨(fi_skipped).ref, (c_skipped).run (Phi_6 W)⟩
def Phi_8 : Cf := (Phi_7 W).add ⟨(fi_token_end).ref, (c_token_end).run (Phi_7 W)⟩
def Phi_9 : Cf := (Phi_8 W).add ⟨(fi_token_places).ref, (c_token_places).run (Phi_8 W)⟩
def Phi_10 : Cf := (Phi_9 W).add ⟨(fi_tokens_of).ref, (c_tokens_of).run (Phi_9 W)⟩
def Phi_11 : Cf := (Phi_10 W).add ⟨(fi_law).ref, (c_law).run (Phi_10 W)⟩
theorem comp__law_draw : cSs (refsOf 0 (c__law_draw).ref) 60 ⟨N__law_draw, C8.fnScope (top 7), fun _ => true, true, 0, fs_0, csN, bltN⟩ (C8.fnBody (top 7)) = some (c__law_draw).body := by kernel_rfl
theorem comp__law_any : cSs (refsOf 0 (c__law_any).ref) 60 ⟨N__law_any, C8.fnScope (top 8), fun _ => true, false, 0, fs_1, csN, bltN⟩ (C8.fnBody (top 8)) = some (c__law_any).body := by kernel_rfl
theorem comp__law_of : cSs (refsOf 0 (c__law_of).ref) 60 ⟨N__law_of, C8.fnScope (top 9), fun _ => true, false, 1, fs_2, csN, bltN⟩ (C8.fnBody (top 9)) = some (c__law_of).body := by kernel_rfl
theorem comp__law_text : cSs (refsOf 0 (c__law_text).ref) 60 ⟨N__law_text, C8.fnScope (top 10), fun _ => true, false, 2, fs_3, csN, bltN⟩ (C8.fnBody (top 10)) = some (c__law_text).body := by kernel_rfl
theorem comp__law_is_letter : cSs (refsOf 0 (c__law_is_letter).ref) 60 ⟨N__law_is_letter, C8.fnScope (top 11), fun _ => true, false, 0, fs_4, csN, bltN⟩ (C8.fnBody (top 11)) = some (c__law_is_letter).body := by kernel_rfl
theorem comp__law_walk : cSs (refsOf 0 (c__law_walk).ref) 60 ⟨N__law_walk, C8.fnScope (top 12), fun _ => true, false, 1, fs_5, csN, bltN⟩ (C8.fnBody (top 12)) = some (c__law_walk).body := by kernel_rfl
theorem comp_skipped : cSs (refsOf 0 (c_skipped).ref) 60 ⟨N_skipped, C8.fnScope (top 2), fun _ => true, false, 0, fs_6, csN, bltN⟩ (C8.fnBody (top 2)) = some (c_skipped).body := by kernel_rfl
theorem comp_token_end : cSs (refsOf 0 (c_token_end).ref) 60 ⟨N_token_end, C8.fnScope (top 3), fun _ => true, false, 0, fs_7, csN, bltN⟩ (C8.fnBody (top 3)) = some (c_token_end).body := by kernel_rfl
theorem comp_token_places : cSs (refsOf 0 (c_token_places).ref) 60 ⟨N_token_places, C8.fnScope (top 4), fun _ => true, false, 1, fs_8, csN, bltN⟩ (C8.fnBody (top 4)) = some (c_token_places).body := by kernel_rfl
theorem comp_tokens_of : cSs (refsOf 0 (c_tokens_of).ref) 60 ⟨N_tokens_of, C8.fnScope (top 5), fun _ => true, false, 2, fs_9, csN, bltN⟩ (C8.fnBody (top 5)) = some (c_tokens_of).body := by kernel_rfl
theorem comp_law : cSs (refsOf 0 (c_law).ref) 60 ⟨N_law, C8.fnScope (top 13), fun _ => true, false, 3, fs_10, csN, bltN⟩ (C8.fnBody (top 13)) = some (c_law).body := by kernel_rfl
end Law
namespace Law
open Ev PySem PySem.Spec PyProof.Rows L2
set_option maxHeartbeats 4000000
variable (W : Nat)
theorem ent__law_draw {K : PySem.W.Frag} {h : Heap} {mg : Str → Option Value} (X : K.In h) (G : h.Ns mainGlobals mg) {od an : Option Addr} {sl : Array (Option Value)} {f : Addr} {oc kV dc pm cd ct : Value} (a : PySem.W.nsIn K mainGlobals "_law_draw" = some (some (.ref f))) (l : K.lookup f = some ⟨oc, od, .func (PySem.W.fnOf "_law_draw" "_law_draw" (C8.fnArgs (top 7)) (C8.fnBody (top 7)) (C8.fnScope (top 7)) .none kV dc pm an cd ct), sl⟩) (e : PySem.W.codeIn K cd "_law_draw" = true) (k : PySem.W.keepIn K (.ref f) = true) :
    Ent K mg fi__law_draw (top 7) f (PySem.W.fnOf "_law_draw" "_law_draw" (C8.fnArgs (top 7)) (C8.fnBody (top 7)) (C8.fnScope (top 7)) .none kV dc pm an cd ct) := by
  refine ⟨⟨⟨_, _, _, _, _, _, _, _, _, _, rfl, l, e⟩⟩, PySem.W.mg_of X G a, k, .all (fun us hl => match us, hl with | [_, _], _ => rfl), ?_⟩
  intro s hs
  cases hs
theorem ent__law_any {K : PySem.W.Frag} {h : Heap} {mg : Str → Option Value} (X : K.In h) (G : h.Ns mainGlobals mg) {od an : Option Addr} {sl : Array (Option Value)} {f : Addr} {oc kV dc pm cd ct : Value} (a : PySem.W.nsIn K mainGlobals "_law_any" = some (some (.ref f))) (l : K.lookup f = some ⟨oc, od, .func (PySem.W.fnOf "_law_any" "_law_any" (C8.fnArgs (top 8)) (C8.fnBody (top 8)) (C8.fnScope (top 8)) .none kV dc pm an cd ct), sl⟩) (e : PySem.W.codeIn K cd "_law_any" = true) (k : PySem.W.keepIn K (.ref f) = true) :
    Ent K mg fi__law_any (top 8) f (PySem.W.fnOf "_law_any" "_law_any" (C8.fnArgs (top 8)) (C8.fnBody (top 8)) (C8.fnScope (top 8)) .none kV dc pm an cd ct) := by
  refine ⟨⟨⟨_, _, _, _, _, _, _, _, _, _, rfl, l, e⟩⟩, PySem.W.mg_of X G a, k, .all (fun us hl => match us, hl with | [_, _], _ => rfl), ?_⟩
  intro s hs
  cases hs
theorem ent__law_of {K : PySem.W.Frag} {h : Heap} {mg : Str → Option Value} (X : K.In h) (G : h.Ns mainGlobals mg) {od an : Option Addr} {sl : Array (Option Value)} {f : Addr} {oc kV dc pm cd ct : Value} (a : PySem.W.nsIn K mainGlobals "_law_of" = some (some (.ref f))) (l : K.lookup f = some ⟨oc, od, .func (PySem.W.fnOf "_law_of" "_law_of" (C8.fnArgs (top 9)) (C8.fnBody (top 9)) (C8.fnScope (top 9)) .none kV dc pm an cd ct), sl⟩) (e : PySem.W.codeIn K cd "_law_of" = true) (k : PySem.W.keepIn K (.ref f) = true) :
    Ent K mg fi__law_of (top 9) f (PySem.W.fnOf "_law_of" "_law_of" (C8.fnArgs (top 9)) (C8.fnBody (top 9)) (C8.fnScope (top 9)) .none kV dc pm an cd ct) := by
  refine ⟨⟨⟨_, _, _, _, _, _, _, _, _, _, rfl, l, e⟩⟩, PySem.W.mg_of X G a, k, .all (fun us hl => match us, hl with | [_, _], _ => rfl), ?_⟩
  intro s hs
  cases hs
theorem ent__law_text {K : PySem.W.Frag} {h : Heap} {mg : Str → Option Value} (X : K.In h) (G : h.Ns mainGlobals mg) {od an : Option Addr} {sl : Array (Option Value)} {f : Addr} {oc kV dc pm cd ct : Value} (a : PySem.W.nsIn K mainGlobals "_law_text" = some (some (.ref f))) (l : K.lookup f = some ⟨oc, od, .func (PySem.W.fnOf "_law_text" "_law_text" (C8.fnArgs (top 10)) (C8.fnBody (top 10)) (C8.fnScope (top 10)) .none kV dc pm an cd ct), sl⟩) (e : PySem.W.codeIn K cd "_law_text" = true) (k : PySem.W.keepIn K (.ref f) = true) :
    Ent K mg fi__law_text (top 10) f (PySem.W.fnOf "_law_text" "_law_text" (C8.fnArgs (top 10)) (C8.fnBody (top 10)) (C8.fnScope (top 10)) .none kV dc pm an cd ct) := by
  refine ⟨⟨⟨_, _, _, _, _, _, _, _, _, _, rfl, l, e⟩⟩, PySem.W.mg_of X G a, k, .all (fun us hl => match us, hl with | [_], _ => rfl), ?_⟩
  intro s hs
  cases hs
theorem ent__law_is_letter {K : PySem.W.Frag} {h : Heap} {mg : Str → Option Value} (X : K.In h) (G : h.Ns mainGlobals mg) {od an : Option Addr} {sl : Array (Option Value)} {f : Addr} {oc kV dc pm cd ct : Value} (a : PySem.W.nsIn K mainGlobals "_law_is_letter" = some (some (.ref f))) (l : K.lookup f = some ⟨oc, od, .func (PySem.W.fnOf "_law_is_letter" "_law_is_letter" (C8.fnArgs (top 11)) (C8.fnBody (top 11)) (C8.fnScope (top 11)) .none kV dc pm an cd ct), sl⟩) (e : PySem.W.codeIn K cd "_law_is_letter" = true) (k : PySem.W.keepIn K (.ref f) = true) :
    Ent K mg fi__law_is_letter (top 11) f (PySem.W.fnOf "_law_is_letter" "_law_is_letter" (C8.fnArgs (top 11)) (C8.fnBody (top 11)) (C8.fnScope (top 11)) .none kV dc pm an cd ct) := by
  refine ⟨⟨⟨_, _, _, _, _, _, _, _, _, _, rfl, l, e⟩⟩, PySem.W.mg_of X G a, k, .all (fun us hl => match us, hl with | [_], _ => rfl), ?_⟩
  intro s hs
  cases hs
theorem ent__law_walk {K : PySem.W.Frag} {h : Heap} {mg : Str → Option Value} (X : K.In h) (G : h.Ns mainGlobals mg) {od an : Option Addr} {sl : Array (Option Value)} {f : Addr} {oc kV dc pm cd ct : Value} (a : PySem.W.nsIn K mainGlobals "_law_walk" = some (some (.ref f))) (l : K.lookup f = some ⟨oc, od, .func (PySem.W.fnOf "_law_walk" "_law_walk" (C8.fnArgs (top 12)) (C8.fnBody (top 12)) (C8.fnScope (top 12)) .none kV dc pm an cd ct), sl⟩) (e : PySem.W.codeIn K cd "_law_walk" = true) (k : PySem.W.keepIn K (.ref f) = true) :
    Ent K mg fi__law_walk (top 12) f (PySem.W.fnOf "_law_walk" "_law_walk" (C8.fnArgs (top 12)) (C8.fnBody (top 12)) (C8.fnScope (top 12)) .none kV dc pm an cd ct) := by
  refine ⟨⟨⟨_, _, _, _, _, _, _, _, _, _, rfl, l, e⟩⟩, PySem.W.mg_of X G a, k, .all (fun us hl => match us, hl with | [_], _ => rfl), ?_⟩
  intro s hs
  cases hs
theorem ent_skipped {K : PySem.W.Frag} {h : Heap} {mg : Str → Option Value} (X : K.In h) (G : h.Ns mainGlobals mg) {od an : Option Addr} {sl : Array (Option Value)} {f : Addr} {oc kV dc pm cd ct : Value} (a : PySem.W.nsIn K mainGlobals "skipped" = some (some (.ref f))) (l : K.lookup f = some ⟨oc, od, .func (PySem.W.fnOf "skipped" "skipped" (C8.fnArgs (top 2)) (C8.fnBody (top 2)) (C8.fnScope (top 2)) .none kV dc pm an cd ct), sl⟩) (e : PySem.W.codeIn K cd "skipped" = true) (k : PySem.W.keepIn K (.ref f) = true) :
    Ent K mg fi_skipped (top 2) f (PySem.W.fnOf "skipped" "skipped" (C8.fnArgs (top 2)) (C8.fnBody (top 2)) (C8.fnScope (top 2)) .none kV dc pm an cd ct) := by
  refine ⟨⟨⟨_, _, _, _, _, _, _, _, _, _, rfl, l, e⟩⟩, PySem.W.mg_of X G a, k, .all (fun us hl => match us, hl with | [_, _], _ => rfl), ?_⟩
  intro s hs
  cases hs
theorem ent_token_end {K : PySem.W.Frag} {h : Heap} {mg : Str → Option Value} (X : K.In h) (G : h.Ns mainGlobals mg) {od an : Option Addr} {sl : Array (Option Value)} {f : Addr} {oc kV dc pm cd ct : Value} (a : PySem.W.nsIn K mainGlobals "token_end" = some (some (.ref f))) (l : K.lookup f = some ⟨oc, od, .func (PySem.W.fnOf "token_end" "token_end" (C8.fnArgs (top 3)) (C8.fnBody (top 3)) (C8.fnScope (top 3)) .none kV dc pm an cd ct), sl⟩) (e : PySem.W.codeIn K cd "token_end" = true) (k : PySem.W.keepIn K (.ref f) = true) :
    Ent K mg fi_token_end (top 3) f (PySem.W.fnOf "token_end" "token_end" (C8.fnArgs (top 3)) (C8.fnBody (top 3)) (C8.fnScope (top 3)) .none kV dc pm an cd ct) := by
  refine ⟨⟨⟨_, _, _, _, _, _, _, _, _, _, rfl, l, e⟩⟩, PySem.W.mg_of X G a, k, .all (fun us hl => match us, hl with | [_, _], _ => rfl), ?_⟩
  intro s hs
  cases hs
theorem ent_token_places {K : PySem.W.Frag} {h : Heap} {mg : Str → Option Value} (X : K.In h) (G : h.Ns mainGlobals mg) {od an : Option Addr} {sl : Array (Option Value)} {f : Addr} {oc kV dc pm cd ct : Value} (a : PySem.W.nsIn K mainGlobals "token_places" = some (some (.ref f))) (l : K.lookup f = some ⟨oc, od, .func (PySem.W.fnOf "token_places" "token_places" (C8.fnArgs (top 4)) (C8.fnBody (top 4)) (C8.fnScope (top 4)) .none kV dc pm an cd ct), sl⟩) (e : PySem.W.codeIn K cd "token_places" = true) (k : PySem.W.keepIn K (.ref f) = true) :
    Ent K mg fi_token_places (top 4) f (PySem.W.fnOf "token_places" "token_places" (C8.fnArgs (top 4)) (C8.fnBody (top 4)) (C8.fnScope (top 4)) .none kV dc pm an cd ct) := by
  refine ⟨⟨⟨_, _, _, _, _, _, _, _, _, _, rfl, l, e⟩⟩, PySem.W.mg_of X G a, k, .all (fun us hl => match us, hl with | [_], _ => rfl), ?_⟩
  intro s hs
  simp only [fi_token_places, List.mem_cons, List.not_mem_nil, or_false] at hs
  rcases hs with rfl
  · exact ⟨fun s us ws zs h1 h2 h3 h4 => match us, ws, h1, h2, h3 with | [], [_], _, _, h3 => by cases h3; exact .of_eq rfl⟩
theorem ent_tokens_of {K : PySem.W.Frag} {h : Heap} {mg : Str → Option Value} (X : K.In h) (G : h.Ns mainGlobals mg) {od an : Option Addr} {sl : Array (Option Value)} {f : Addr} {oc kV dc pm cd ct : Value} (a : PySem.W.nsIn K mainGlobals "tokens_of" = some (some (.ref f))) (l : K.lookup f = some ⟨oc, od, .func (PySem.W.fnOf "tokens_of" "tokens_of" (C8.fnArgs (top 5)) (C8.fnBody (top 5)) (C8.fnScope (top 5)) .none kV dc pm an cd ct), sl⟩) (e : PySem.W.codeIn K cd "tokens_of" = true) (k : PySem.W.keepIn K (.ref f) = true) :
    Ent K mg fi_tokens_of (top 5) f (PySem.W.fnOf "tokens_of" "tokens_of" (C8.fnArgs (top 5)) (C8.fnBody (top 5)) (C8.fnScope (top 5)) .none kV dc pm an cd ct) := by
  refine ⟨⟨⟨_, _, _, _, _, _, _, _, _, _, rfl, l, e⟩⟩, PySem.W.mg_of X G a, k, .all (fun us hl => match us, hl with | [_], _ => rfl), ?_⟩
  intro s hs
  simp only [fi_tokens_of, List.mem_cons, List.not_mem_nil, or_false] at hs
  rcases hs with rfl
  · exact ⟨fun s us ws zs h1 h2 h3 h4 => match us, ws, h1, h2, h3 with | [], [_], _, _, h3 => by cases h3; exact .of_eq rfl⟩
theorem ent_law {K : PySem.W.Frag} {h : Heap} {mg : Str → Option Value} (X : K.In h) (G : h.Ns mainGlobals mg) {od an : Option Addr} {sl : Array (Option Value)} {f : Addr} {oc kV dc pm cd ct : Value} (a : PySem.W.nsIn K mainGlobals "law" = some (some (.ref f))) (l : K.lookup f = some ⟨oc, od, .func (PySem.W.fnOf "law" "law" (C8.fnArgs (top 13)) (C8.fnBody (top 13)) (C8.fnScope (top 13)) .none kV dc pm an cd ct), sl⟩) (e : PySem.W.codeIn K cd "law" = true) (k : PySem.W.keepIn K (.ref f) = true) :
    Ent K mg fi_law (top 13) f (PySem.W.fnOf "law" "law" (C8.fnArgs (top 13)) (C8.fnBody (top 13)) (C8.fnScope (top 13)) .none kV dc pm an cd ct) := by
  refine ⟨⟨⟨_, _, _, _, _, _, _, _, _, _, rfl, l, e⟩⟩, PySem.W.mg_of X G a, k, .all (fun us hl => match us, hl with | [_], _ => rfl), ?_⟩
  intro s hs
  cases hs
theorem blt_ok {K : PySem.W.Frag} {h : Heap} {mg : Str → Option Value} (X : K.In h) (G : h.Ns mainGlobals mg) (z0 : PySem.W.nsIn K mainGlobals "len" = some none) (z1 : PySem.W.nsIn K mainGlobals "abs" = some none) (z2 : PySem.W.nsIn K mainGlobals "int" = some none) (z3 : PySem.W.nsIn K mainGlobals "tuple" = some none) (z4 : PySem.W.nsIn K mainGlobals "sum" = some none) (z5 : PySem.W.nsIn K mainGlobals "repr" = some none) (z6 : PySem.W.nsIn K mainGlobals "max" = some none) (z7 : PySem.W.nsIn K mainGlobals "range" = some none) (z8 : PySem.W.nsIn K mainGlobals "enumerate" = some none) : ∀ x ∈ bltN, mg x = none := by
  intro x hx
  simp only [bltN, List.mem_cons, List.not_mem_nil, or_false] at hx
  rcases hx with rfl | rfl | rfl | rfl | rfl | rfl | rfl | rfl | rfl
  · exact PySem.W.mg_none_of X G z0
  · exact PySem.W.mg_none_of X G z1
  · exact PySem.W.mg_none_of X G z2
  · exact PySem.W.mg_none_of X G z3
  · exact PySem.W.mg_none_of X G z4
  · exact PySem.W.mg_none_of X G z5
  · exact PySem.W.mg_none_of X G z6
  · exact PySem.W.mg_none_of X G z7
  · exact PySem.W.mg_none_of X G z8
theorem csO {K : PySem.W.Frag} {h : Heap} {mg : Str → Option Value} (X : K.In h) (G : h.Ns mainGlobals mg) {u0 : Value} (c0 : PySem.W.nsIn K mainGlobals "WORD_SIGNS" = some (some u0)) (r0 : RelV (V.str "abcdefghijklmnopqrstuvwxyzABCDEFGHIJKLMNOPQRSTUVWXYZ0123456789_") u0) : ∀ (i : Nat) x, csN[i]? = some x → CsFact K mg (Phi_0 W) i x := by
  intro i x h
  match i, h with
  | 0, h =>
    cases h
    exact ⟨⟨_, V.str "abcdefghijklmnopqrstuvwxyzABCDEFGHIJKLMNOPQRSTUVWXYZ0123456789_", _, PySem.W.mg_of X G c0, r0, rfl, fun H Z => .str _⟩⟩
  | i + 1, h => simp [csN] at h
theorem step__law_draw {P : Program} {w : World} {K : PySem.W.Frag} {mg : Str → Option Value} {base : Heap} {f : Addr} {fd : FuncData} (O : Ok P w K mg base (Phi_0 W) fs_0 csN bltN) (t : Ent K mg fi__law_draw (top 7) f fd) : Ok P w K mg base (Phi_1 W) fs_1 csN bltN :=
  O.step (c := c__law_draw) (N := N__law_draw) t (by decide +kernel) rfl rfl rfl rfl rfl comp__law_draw
theorem step__law_any {P : Program} {w : World} {K : PySem.W.Frag} {mg : Str → Option Value} {base : Heap} {f : Addr} {fd : FuncData} (O : Ok P w K mg base (Phi_1 W) fs_1 csN bltN) (t : Ent K mg fi__law_any (top 8) f fd) : Ok P w K mg base (Phi_2 W) fs_2 csN bltN :=
  O.step (c := c__law_any) (N := N__law_any) t (by decide +kernel) rfl rfl rfl rfl rfl comp__law_any
theorem step__law_of {P : Program} {w : World} {K : PySem.W.Frag} {mg : Str → Option Value} {base : Heap} {f : Addr} {fd : FuncData} (O : Ok P w K mg base (Phi_2 W) fs_2 csN bltN) (t : Ent K mg fi__law_of (top 9) f fd) : Ok P w K mg base (Phi_3 W) fs_3 csN bltN :=
  O.step (c := c__law_of) (N := N__law_of) t (by decide +kernel) rfl rfl rfl rfl rfl comp__law_of
theorem step__law_text {P : Program} {w : World} {K : PySem.W.Frag} {mg : Str → Option Value} {base : Heap} {f : Addr} {fd : FuncData} (O : Ok P w K mg base (Phi_3 W) fs_3 csN bltN) (t : Ent K mg fi__law_text (top 10) f fd) : Ok P w K mg base (Phi_4 W) fs_4 csN bltN :=
  O.step (c := c__law_text) (N := N__law_text) t (by decide +kernel) rfl rfl rfl rfl rfl comp__law_text
theorem step__law_is_letter {P : Program} {w : World} {K : PySem.W.Frag} {mg : Str → Option Value} {base : Heap} {f : Addr} {fd : FuncData} (O : Ok P w K mg base (Phi_4 W) fs_4 csN bltN) (t : Ent K mg fi__law_is_letter (top 11) f fd) : Ok P w K mg base (Phi_5 W) fs_5 csN bltN :=
  O.step (c := c__law_is_letter) (N := N__law_is_letter) t (by decide +kernel) rfl rfl rfl rfl rfl comp__law_is_letter
theorem step__law_walk {P : Program} {w : World} {K : PySem.W.Frag} {mg : Str → Option Value} {base : Heap} {f : Addr} {fd : FuncData} (O : Ok P w K mg base (Phi_5 W) fs_5 csN bltN) (t : Ent K mg fi__law_walk (top 12) f fd) : Ok P w K mg base (Phi_6 W) fs_6 csN bltN :=
  O.step (c := c__law_walk) (N := N__law_walk) t (by decide +kernel) rfl rfl rfl rfl rfl comp__law_walk
theorem step_skipped {P : Program} {w : World} {K : PySem.W.Frag} {mg : Str → Option Value} {base : Heap} {f : Addr} {fd : FuncData} (O : Ok P w K mg base (Phi_6 W) fs_6 csN bltN) (t : Ent K mg fi_skipped (top 2) f fd) : Ok P w K mg base (Phi_7 W) fs_7 csN bltN :=
  O.step (c := c_skipped) (N := N_skipped) t (by decide +kernel) rfl rfl rfl rfl rfl comp_skipped
theorem step_token_end {P : Program} {w : World} {K : PySem.W.Frag} {mg : Str → Option Value} {base : Heap} {f : Addr} {fd : FuncData} (O : Ok P w K mg base (Phi_7 W) fs_7 csN bltN) (t : Ent K mg fi_token_end (top 3) f fd) : Ok P w K mg base (Phi_8 W) fs_8 csN bltN :=
  O.step (c := c_token_end) (N := N_token_end) t (by decide +kernel) rfl rfl rfl rfl rfl comp_token_end
theorem step_token_places {P : Program} {w : World} {K : PySem.W.Frag} {mg : Str → Option Value} {base : Heap} {f : Addr} {fd : FuncData} (O : Ok P w K mg base (Phi_8 W) fs_8 csN bltN) (t : Ent K mg fi_token_places (top 4) f fd) : Ok P w K mg base (Phi_9 W) fs_9 csN bltN :=
  O.step (c := c_token_places) (N := N_token_places) t (by decide +kernel) rfl rfl rfl rfl rfl comp_token_places
theorem step_tokens_of {P : Program} {w : World} {K : PySem.W.Frag} {mg : Str → Option Value} {base : Heap} {f : Addr} {fd : FuncData} (O : Ok P w K mg base (Phi_9 W) fs_9 csN bltN) (t : Ent K mg fi_tokens_of (top 5) f fd) : Ok P w K mg base (Phi_10 W) fs_10 csN bltN :=
  O.step (c := c_tokens_of) (N := N_tokens_of) t (by decide +kernel) rfl rfl rfl rfl rfl comp_tokens_of
theorem last_law {P : Program} {w : World} {K : PySem.W.Frag} {mg : Str → Option Value} {base : Heap} {f : Addr} {fd : FuncData} (O : Ok P w K mg base (Phi_10 W) fs_10 csN bltN) (t : Ent K mg fi_law (top 13) f fd) : FnG P w K mg base CX0 4 f fd ["_law_script"] (spOf K ⟨[false], (c_law).run (Phi_10 W)⟩) :=
  O.last (c := c_law) (N := N_law) t (by decide +kernel) rfl rfl rfl rfl comp_law
theorem all_mk {P : Program} {w : World} {K : PySem.W.Frag} {h : Heap} {mg : Str → Option Value} {fa : Addr} (X : K.In h) (G : h.Ns mainGlobals mg) (hfa : mg "law" = some (.ref fa))
    {od0 an0 : Option Addr} {sl0 : Array (Option Value)} {f0 : Addr} {oc0 kV0 dc0 pm0 cd0 ct0 : Value}
    {od1 an1 : Option Addr} {sl1 : Array (Option Value)} {f1 : Addr} {oc1 kV1 dc1 pm1 cd1 ct1 : Value}
    {od2 an2 : Option Addr} {sl2 : Array (Option Value)} {f2 : Addr} {oc2 kV2 dc2 pm2 cd2 ct2 : Value}
    {od3 an3 : Option Addr} {sl3 : Array (Option Value)} {f3 : Addr} {oc3 kV3 dc3 pm3 cd3 ct3 : Value}
    {od4 an4 : Option Addr} {sl4 : Array (Option Value)} {f4 : Addr} {oc4 kV4 dc4 pm4 cd4 ct4 : Value}
    {od5 an5 : Option Addr} {sl5 : Array (Option Value)} {f5 : Addr} {oc5 kV5 dc5 pm5 cd5 ct5 : Value}
    {od6 an6 : Option Addr} {sl6 : Array (Option Value)} {f6 : Addr} {oc6 kV6 dc6 pm6 cd6 ct6 : Value}
    {od7 an7 : Option Addr} {sl7 : Array (Option Value)} {f7 : Addr} {oc7 kV7 dc7 pm7 cd7 ct7 : Value}
    {od8 an8 : Option Addr} {sl8 : Array (Option Value)} {f8 : Addr} {oc8 kV8 dc8 pm8 cd8 ct8 : Value}
    {od9 an9 : Option Addr} {sl9 : Array (Option Value)} {f9 : Addr} {oc9 kV9 dc9 pm9 cd9 ct9 : Value}
    {od10 an10 : Option Addr} {sl10 : Array (Option Value)} {f10 : Addr} {oc10 kV10 dc10 pm10 cd10 ct10 : Value}
    (a0 : PySem.W.nsIn K mainGlobals "_law_draw" = some (some (.ref f0))) (l0 : K.lookup f0 = some ⟨oc0, od0, .func (PySem.W.fnOf "_law_draw" "_law_draw" (C8.fnArgs (top 7)) (C8.fnBody (top 7)) (C8.fnScope (top 7)) .none kV0 dc0 pm0 an0 cd0 ct0), sl0⟩) (e0 : PySem.W.codeIn K cd0 "_law_draw" = true) (k0 : PySem.W.keepIn K (.ref f0) = true)
    (a1 : PySem.W.nsIn K mainGlobals "_law_any" = some (some (.ref f1))) (l1 : K.lookup f1 = some ⟨oc1, od1, .func (PySem.W.fnOf "_law_any" "_law_any" (C8.fnArgs (top 8)) (C8.fnBody (top 8)) (C8.fnScope (top 8)) .none kV1 dc1 pm1 an1 cd1 ct1), sl1⟩) (e1 : PySem.W.codeIn K cd1 "_law_any" = true) (k1 : PySem.W.keepIn K (.ref f1) = true)
    (a2 : PySem.W.nsIn K mainGlobals "_law_of" = some (some (.ref f2))) (l2 : K.lookup f2 = some ⟨oc2, od2, .func (PySem.W.fnOf "_law_of" "_law_of" (C8.fnArgs (top 9)) (C8.fnBody (top 9)) (C8.fnScope (top 9)) .none kV2 dc2 pm2 an2 cd2 ct2), sl2⟩) (e2 : PySem.W.codeIn K cd2 "_law_of" = true) (k2 : PySem.W.keepIn K (.ref f2) = true)
    (a3 : PySem.W.nsIn K mainGlobals "_law_text" = some (some (.ref f3))) (l3 : K.lookup f3 = some ⟨oc3, od3, .func (PySem.W.fnOf "_law_text" "_law_text" (C8.fnArgs (top 10)) (C8.fnBody (top 10)) (C8.fnScope (top 10)) .none kV3 dc3 pm3 an3 cd3 ct3), sl3⟩) (e3 : PySem.W.codeIn K cd3 "_law_text" = true) (k3 : PySem.W.keepIn K (.ref f3) = true)
    (a4 : PySem.W.nsIn K mainGlobals "_law_is_letter" = some (some (.ref f4))) (l4 : K.lookup f4 = some ⟨oc4, od4, .func (PySem.W.fnOf "_law_is_letter" "_law_is_letter" (C8.fnArgs (top 11)) (C8.fnBody (top 11)) (C8.fnScope (top 11)) .none kV4 dc4 pm4 an4 cd4 ct4), sl4⟩) (e4 : PySem.W.codeIn K cd4 "_law_is_letter" = true) (k4 : PySem.W.keepIn K (.ref f4) = true)
    (a5 : PySem.W.nsIn K mainGlobals "_law_walk" = some (some (.ref f5))) (l5 : K.lookup f5 = some ⟨oc5, od5, .func (PySem.W.fnOf "_law_walk" "_law_walk" (C8.fnArgs (top 12)) (C8.fnBody (top 12)) (C8.fnScope (top 12)) .none kV5 dc5 pm5 an5 cd5 ct5), sl5⟩) (e5 : PySem.W.codeIn K cd5 "_law_walk" = true) (k5 : PySem.W.keepIn K (.ref f5) = true)
    (a6 : PySem.W.nsIn K mainGlobals "skipped" = some (some (.ref f6))) (l6 : K.lookup f6 = some ⟨oc6, od6, .func (PySem.W.fnOf "skipped" "skipped" (C8.fnArgs (top 2)) (C8.fnBody (top 2)) (C8.fnScope (top 2)) .none kV6 dc6 pm6 an6 cd6 ct6), sl6⟩) (e6 : PySem.W.codeIn K cd6 "skipped" = true) (k6 : PySem.W.keepIn K (.ref f6) = true)
    (a7 : PySem.W.nsIn K mainGlobals "token_end" = some (some (.ref f7))) (l7 : K.lookup f7 = some ⟨oc7, od7, .func (PySem.W.fnOf "token_end" "token_end" (C8.fnArgs (top 3)) (C8.fnBody (top 3)) (C8.fnScope (top 3)) .none kV7 dc7 pm7 an7 cd7 ct7), sl7⟩) (e7 : PySem.W.codeIn K cd7 "token_end" = true) (k7 : PySem.W.keepIn K (.ref f7) = true)
    (a8 : PySem.W.nsIn K mainGlobals "token_places" = some (some (.ref f8))) (l8 : K.lookup f8 = some ⟨oc8, od8, .func (PySem.W.fnOf "token_places" "token_places" (C8.fnArgs (top 4)) (C8.fnBody (top 4)) (C8.fnScope (top 4)) .none kV8 dc8 pm8 an8 cd8 ct8), sl8⟩) (e8 : PySem.W.codeIn K cd8 "token_places" = true) (k8 : PySem.W.keepIn K (.ref f8) = true)
    (a9 : PySem.W.nsIn K mainGlobals "tokens_of" = some (some (.ref f9))) (l9 : K.lookup f9 = some ⟨oc9, od9, .func (PySem.W.fnOf "tokens_of" "tokens_of" (C8.fnArgs (top 5)) (C8.fnBody (top 5)) (C8.fnScope (top 5)) .none kV9 dc9 pm9 an9 cd9 ct9), sl9⟩) (e9 : PySem.W.codeIn K cd9 "tokens_of" = true) (k9 : PySem.W.keepIn K (.ref f9) = true)
    (a10 : PySem.W.nsIn K mainGlobals "law" = some (some (.ref f10))) (l10 : K.lookup f10 = some ⟨oc10, od10, .func (PySem.W.fnOf "law" "law" (C8.fnArgs (top 13)) (C8.fnBody (top 13)) (C8.fnScope (top 13)) .none kV10 dc10 pm10 an10 cd10 ct10), sl10⟩) (e10 : PySem.W.codeIn K cd10 "law" = true) (k10 : PySem.W.keepIn K (.ref f10) = true)
    (z0 : PySem.W.nsIn K mainGlobals "len" = some none) (z1 : PySem.W.nsIn K mainGlobals "abs" = some none) (z2 : PySem.W.nsIn K mainGlobals "int" = some none) (z3 : PySem.W.nsIn K mainGlobals "tuple" = some none) (z4 : PySem.W.nsIn K mainGlobals "sum" = some none) (z5 : PySem.W.nsIn K mainGlobals "repr" = some none) (z6 : PySem.W.nsIn K mainGlobals "max" = some none) (z7 : PySem.W.nsIn K mainGlobals "range" = some none) (z8 : PySem.W.nsIn K mainGlobals "enumerate" = some none) {u0 : Value} (c0 : PySem.W.nsIn K mainGlobals "WORD_SIGNS" = some (some u0)) (r0 : RelV (V.str "abcdefghijklmnopqrstuvwxyzABCDEFGHIJKLMNOPQRSTUVWXYZ0123456789_") u0) :
    ∃ fd : FuncData, (∀ (s : Shared) (v : Value), BindsTo s fd ⟨[v], []⟩ [("_law_script", v)]) ∧ ∀ base : Heap, K.In base → base.Ns mainGlobals mg → FnG P w K mg base CX0 4 fa fd ["_law_script"] (spOf K ⟨[false], (c_law).run (Phi_10 W)⟩) := by
  have efa := hfa.symm.trans (PySem.W.mg_of X G a10)
  cases efa
  have hb := blt_ok X G z0 z1 z2 z3 z4 z5 z6 z7 z8
  refine ⟨PySem.W.fnOf "law" "law" (C8.fnArgs (top 13)) (C8.fnBody (top 13)) (C8.fnScope (top 13)) .none kV10 dc10 pm10 an10 cd10 ct10, fun s v => .of_eq rfl, fun base _ _ => ?_⟩
  have o0 : Ok P w K mg base (Phi_0 W) fs_0 csN bltN := .nil (csO W X G c0 r0) hb rfl
  have o1 := step__law_draw W o0 (ent__law_draw X G a0 l0 e0 k0)
  have o2 := step__law_any W o1 (ent__law_any X G a1 l1 e1 k1)
  have o3 := step__law_of W o2 (ent__law_of X G a2 l2 e2 k2)
  have o4 := step__law_text W o3 (ent__law_text X G a3 l3 e3 k3)
  have o5 := step__law_is_letter W o4 (ent__law_is_letter X G a4 l4 e4 k4)
  have o6 := step__law_walk W o5 (ent__law_walk X G a5 l5 e5 k5)
  have o7 := step_skipped W o6 (ent_skipped X G a6 l6 e6 k6)
  have o8 := step_token_end W o7 (ent_token_end X G a7 l7 e7 k7)
  have o9 := step_token_places W o8 (ent_token_places X G a8 l8 e8 k8)
  have o10 := step_tokens_of W o9 (ent_tokens_of X G a9 l9 e9 k9)
  exact last_law W o10 (ent_law X G a10 l10 e10 k10)
end Law
/-! the calls of each def (printed) -/
namespace Law
open Ev PySem PySem.Spec L2
def rounds : Nat := 1000
theorem pu_2_1 : (Phi_2 rounds).pure 1 = false := rfl
theorem fn_2_1 : (Phi_2 rounds).fn[1]? = some ⟨(c__law_any).ref, (c__law_any).run (Phi_1 rounds)⟩ := rfl
theorem pu_3_1 : (Phi_3 rounds).pure 1 = false := rfl
theorem fn_3_1 : (Phi_3 rounds).fn[1]? = some ⟨(c__law_any).ref, (c__law_any).run (Phi_1 rounds)⟩ := rfl
theorem pu_3_2 : (Phi_3 rounds).pure 2 = false := rfl
theorem fn_3_2 : (Phi_3 rounds).fn[2]? = some ⟨(c__law_of).ref, (c__law_of).run (Phi_2 rounds)⟩ := rfl
theorem pu_5_4 : (Phi_5 rounds).pure 4 = true := rfl
theorem fn_5_4 : (Phi_5 rounds).fn[4]? = some ⟨(c__law_is_letter).ref, (c__law_is_letter).run (Phi_4 rounds)⟩ := rfl
theorem wc_5_4 {pk : Bool} {ρ : Rho} {Q : DO → Rho → Prop} {e0 : E} : W (ev (Phi_5 rounds) pk (.call 4 [e0]) ρ) Q ↔ W (evs (Phi_5 rounds) [e0] ρ) fun xs ρ1 => rK ((c__law_is_letter).run (Phi_4 rounds) xs) fun r _ => Q r ρ1 := w_call fn_5_4 (by decide) rfl
theorem pu_8_6 : (Phi_8 rounds).pure 6 = true := rfl
theorem fn_8_6 : (Phi_8 rounds).fn[6]? = some ⟨(c_skipped).ref, (c_skipped).run (Phi_6 rounds)⟩ := rfl
theorem wc_8_6 {pk : Bool} {ρ : Rho} {Q : DO → Rho → Prop} {e0 e1 : E} : W (ev (Phi_8 rounds) pk (.call 6 [e0, e1]) ρ) Q ↔ W (evs (Phi_8 rounds) [e0, e1] ρ) fun xs ρ1 => rK ((c_skipped).run (Phi_6 rounds) xs) fun r _ => Q r ρ1 := w_call fn_8_6 (by decide) rfl
theorem pu_8_7 : (Phi_8 rounds).pure 7 = true := rfl
theorem fn_8_7 : (Phi_8 rounds).fn[7]? = some ⟨(c_token_end).ref, (c_token_end).run (Phi_7 rounds)⟩ := rfl
theorem wc_8_7 {pk : Bool} {ρ : Rho} {Q : DO → Rho → Prop} {e0 e1 : E} : W (ev (Phi_8 rounds) pk (.call 7 [e0, e1]) ρ) Q ↔ W (evs (Phi_8 rounds) [e0, e1] ρ) fun xs ρ1 => rK ((c_token_end).run (Phi_7 rounds) xs) fun r _ => Q r ρ1 := w_call fn_8_7 (by decide) rfl
theorem pu_9_7 : (Phi_9 rounds).pure 7 = true := rfl
theorem fn_9_7 : (Phi_9 rounds).fn[7]? = some ⟨(c_token_end).ref, (c_token_end).run (Phi_7 rounds)⟩ := rfl
theorem wc_9_7 {pk : Bool} {ρ : Rho} {Q : DO → Rho → Prop} {e0 e1 : E} : W (ev (Phi_9 rounds) pk (.call 7 [e0, e1]) ρ) Q ↔ W (evs (Phi_9 rounds) [e0, e1] ρ) fun xs ρ1 => rK ((c_token_end).run (Phi_7 rounds) xs) fun r _ => Q r ρ1 := w_call fn_9_7 (by decide) rfl
theorem pu_9_8 : (Phi_9 rounds).pure 8 = true := rfl
theorem fn_9_8 : (Phi_9 rounds).fn[8]? = some ⟨(c_token_places).ref, (c_token_places).run (Phi_8 rounds)⟩ := rfl
theorem wc_9_8 {pk : Bool} {ρ : Rho} {Q : DO → Rho → Prop} {e0 : E} : W (ev (Phi_9 rounds) pk (.call 8 [e0]) ρ) Q ↔ W (evs (Phi_9 rounds) [e0] ρ) fun xs ρ1 => rK ((c_token_places).run (Phi_8 rounds) xs) fun r _ => Q r ρ1 := w_call fn_9_8 (by decide) rfl
theorem pu_10_0 : (Phi_10 rounds).pure 0 = true := rfl
theorem fn_10_0 : (Phi_10 rounds).fn[0]? = some ⟨(c__law_draw).ref, (c__law_draw).run (Phi_0 rounds)⟩ := rfl
theorem wc_10_0 {pk : Bool} {ρ : Rho} {Q : DO → Rho → Prop} {e0 e1 : E} : W (ev (Phi_10 rounds) pk (.call 0 [e0, e1]) ρ) Q ↔ W (evs (Phi_10 rounds) [e0, e1] ρ) fun xs ρ1 => rK ((c__law_draw).run (Phi_0 rounds) xs) fun r _ => Q r ρ1 := w_call fn_10_0 (by decide) rfl
theorem pu_10_1 : (Phi_10 rounds).pure 1 = false := rfl
theorem fn_10_1 : (Phi_10 rounds).fn[1]? = some ⟨(c__law_any).ref, (c__law_any).run (Phi_1 rounds)⟩ := rfl
theorem pu_10_3 : (Phi_10 rounds).pure 3 = false := rfl
theorem fn_10_3 : (Phi_10 rounds).fn[3]? = some ⟨(c__law_text).ref, (c__law_text).run (Phi_3 rounds)⟩ := rfl
theorem pu_10_5 : (Phi_10 rounds).pure 5 = true := rfl
theorem fn_10_5 : (Phi_10 rounds).fn[5]? = some ⟨(c__law_walk).ref, (c__law_walk).run (Phi_5 rounds)⟩ := rfl
theorem wc_10_5 {pk : Bool} {ρ : Rho} {Q : DO → Rho → Prop} {e0 : E} : W (ev (Phi_10 rounds) pk (.call 5 [e0]) ρ) Q ↔ W (evs (Phi_10 rounds) [e0] ρ) fun xs ρ1 => rK ((c__law_walk).run (Phi_5 rounds) xs) fun r _ => Q r ρ1 := w_call fn_10_5 (by decide) rfl
theorem pu_10_8 : (Phi_10 rounds).pure 8 = true := rfl
theorem fn_10_8 : (Phi_10 rounds).fn[8]? = some ⟨(c_token_places).ref, (c_token_places).run (Phi_8 rounds)⟩ := rfl
theorem wc_10_8 {pk : Bool} {ρ : Rho} {Q : DO → Rho → Prop} {e0 : E} : W (ev (Phi_10 rounds) pk (.call 8 [e0]) ρ) Q ↔ W (evs (Phi_10 rounds) [e0] ρ) fun xs ρ1 => rK ((c_token_places).run (Phi_8 rounds) xs) fun r _ => Q r ρ1 := w_call fn_10_8 (by decide) rfl
theorem wk_10_8 {pk : Bool} {ρ : Rho} {Q : DO → Rho → Prop} {ord : List Nat} {es ks : List E} : W (ev (Phi_10 rounds) pk (.callK 8 ord es ks) ρ) Q ↔ W (evs (Phi_10 rounds) es ρ) fun xs ρ1 => W (evs (Phi_10 rounds) ks ρ1) fun ys ρ2 => oK (permV ord (xs ++ ys)) fun zs => rK ((c_token_places).run (Phi_8 rounds) zs) fun r _ => Q r ρ2 := w_callK fn_10_8 (by decide)
theorem pu_10_9 : (Phi_10 rounds).pure 9 = true := rfl
theorem fn_10_9 : (Phi_10 rounds).fn[9]? = some ⟨(c_tokens_of).ref, (c_tokens_of).run (Phi_9 rounds)⟩ := rfl
theorem wc_10_9 {pk : Bool} {ρ : Rho} {Q : DO → Rho → Prop} {e0 : E} : W (ev (Phi_10 rounds) pk (.call 9 [e0]) ρ) Q ↔ W (evs (Phi_10 rounds) [e0] ρ) fun xs ρ1 => rK ((c_tokens_of).run (Phi_9 rounds) xs) fun r _ => Q r ρ1 := w_call fn_10_9 (by decide) rfl
theorem wk_10_9 {pk : Bool} {ρ : Rho} {Q : DO → Rho → Prop} {ord : List Nat} {es ks : List E} : W (ev (Phi_10 rounds) pk (.callK 9 ord es ks) ρ) Q ↔ W (evs (Phi_10 rounds) es ρ) fun xs ρ1 => W (evs (Phi_10 rounds) ks ρ1) fun ys ρ2 => oK (permV ord (xs ++ ys)) fun zs => rK ((c_tokens_of).run (Phi_9 rounds) zs) fun r _ => Q r ρ2 := w_callK fn_10_9 (by decide)
end Law
/-! defs that stand in several laws (turned from another law by turn.py) -/
namespace Law
open Ev PySem PySem.Spec L2
inductive Wk (ps : List (Int × Int)) : Nat → Int → Int → Prop
  | nil (h : Int) : Wk ps 0 h h
  | cons {n : Nat} {x y h : Int} : (x, y) ∈ ps → Wk ps n y h → Wk ps (n + 1) x h
section
variable {ps : List (Int × Int)}
theorem Wk.snoc : ∀ {n : Nat} {x l h : Int}, Wk ps n x l → (l, h) ∈ ps → Wk ps (n + 1) x h
  | _, _, _, _, .nil _, e => .cons e (.nil _)
  | _, _, _, _, .cons e' w, e => .cons e' (w.snoc e)
theorem Wk.unsnoc : ∀ {n : Nat} {x h : Int}, Wk ps (n + 1) x h → ∃ l, Wk ps n x l ∧ (l, h) ∈ ps
  | 0, _, _, .cons e (.nil _) => ⟨_, .nil _, e⟩
  | n + 1, _, _, .cons e w => by
    obtain ⟨l, w', e'⟩ := w.unsnoc
    exact ⟨l, .cons e w', e'⟩
theorem Wk.app : ∀ {n m : Nat} {x y h : Int}, Wk ps n x y → Wk ps m y h → Wk ps (n + m) x h
  | _, m, _, _, _, .nil _, w => by rw [Nat.zero_add]; exact w
  | n + 1, m, _, _, _, .cons e w', w => by
    rw [Nat.add_right_comm]
    exact .cons e (w'.app w)
theorem nodup_len : ∀ (m : Nat) (l : List Int), l.Nodup → (∀ x ∈ l, 0 ≤ x ∧ x < (m : Int)) → l.length ≤ m
  | 0, l, _, h => by
    cases l with
    | nil => exact Nat.le_refl _
    | cons a l => have := h a List.mem_cons_self; omega
  | m + 1, l, hn, h => by
    by_cases hm : (m : Int) ∈ l
    · have h1 := nodup_len m (l.erase (m : Int)) (hn.erase _) (fun x hx => by
        have h2 := h x (List.mem_of_mem_erase hx)
        have h3 : x ≠ (m : Int) := ((List.Nodup.mem_erase_iff hn).mp hx).1
        omega)
      rw [List.length_erase_of_mem hm] at h1
      omega
    · have h1 := nodup_len m l hn (fun x hx => by
        have h2 := h x hx
        have h3 : x ≠ (m : Int) := fun e => hm (e ▸ hx)
        omega)
      omega
/-- x's way to h has n steps, none has fewer -/
def Dist (ps : List (Int × Int)) (n : Nat) (x h : Int) : Prop := Wk ps n x h ∧ ∀ k, k < n → ¬ Wk ps k x h
theorem dist_of {x h : Int} : ∀ n, Wk ps n x h → ∃ k, k ≤ n ∧ Dist ps k x h := by
  intro n
  induction n using Nat.strongRecOn with
  | _ n ih =>
    intro w
    by_cases hk : ∃ k, k < n ∧ Wk ps k x h
    · obtain ⟨k, k1, k2⟩ := hk
      obtain ⟨j, j1, j2⟩ := ih k k1 k2
      exact ⟨j, by omega, j2⟩
    · exact ⟨n, Nat.le_refl _, w, fun k k1 k2 => hk ⟨k, k1, k2⟩⟩
theorem dist_row {m : Nat} (hp : ∀ p ∈ ps, 0 ≤ p.1 ∧ p.1 < (m : Int) ∧ 0 ≤ p.2 ∧ p.2 < (m : Int)) {h : Int} (h0 : 0 ≤ h) (h1 : h < (m : Int)) : ∀ {n : Nat} {x : Int}, Dist ps n x h → ∃ L : List Int, L.Nodup ∧ L.length = n + 1 ∧ ∀ y ∈ L, (0 ≤ y ∧ y < (m : Int)) ∧ ∃ k, k ≤ n ∧ Dist ps k y h
  | 0, x, d => by
    refine ⟨[x], by simp, rfl, fun y hy => ?_⟩
    rw [List.mem_singleton.mp hy]
    have : x = h := by cases d.1; rfl
    rw [this]
    exact ⟨⟨h0, h1⟩, 0, Nat.le_refl _, .nil _, fun k hk => by omega⟩
  | n + 1, x, d => by
    cases hw : d.1 with
    | @cons _ _ y _ e w =>
      have dy : Dist ps n y h := ⟨w, fun k hk wk => d.2 (k + 1) (by omega) (.cons e wk)⟩
      obtain ⟨L, l1, l2, l3⟩ := dist_row hp h0 h1 dy
      refine ⟨x :: L, List.nodup_cons.mpr ⟨fun hx => ?_, l1⟩, by rw [List.length_cons, l2], fun z hz => ?_⟩
      · obtain ⟨_, k, k1, k2⟩ := l3 x hx
        exact d.2 k (by omega) k2.1
      · rcases List.mem_cons.mp hz with rfl | hz
        · have := hp _ e
          exact ⟨⟨this.1, this.2.1⟩, n + 1, Nat.le_refl _, d⟩
        · obtain ⟨a, k, k1, k2⟩ := l3 z hz
          exact ⟨a, k, by omega, k2⟩
theorem wk_short {m : Nat} (hp : ∀ p ∈ ps, 0 ≤ p.1 ∧ p.1 < (m : Int) ∧ 0 ≤ p.2 ∧ p.2 < (m : Int)) {x h : Int} (h0 : 0 ≤ h) (h1 : h < (m : Int)) {n : Nat} (w : Wk ps n x h) : ∃ k, k < m ∧ Wk ps k x h := by
  obtain ⟨k, _, d⟩ := dist_of n w
  obtain ⟨L, l1, l2, l3⟩ := dist_row hp h0 h1 d
  have := nodup_len m L l1 (fun y hy => (l3 y hy).1)
  exact ⟨k, by omega, d.1⟩
end
/-- what a row of lots of levels at least tells: whoever comes to h in at most r steps -/
def Upto (ps : List (Int × Int)) (many : Int) (r : Nat) (bs : List (List Int)) : Prop := ∀ (k : Nat) (x h : Int), k ≤ r → 0 ≤ h → h < many → Wk ps k x h → x ∈ bs.getD h.toNat []
def Sound (ps : List (Int × Int)) (many : Int) (bs : List (List Int)) : Prop := ∀ (x h : Int), 0 ≤ h → h < many → x ∈ bs.getD h.toNat [] → ∃ k, Wk ps k x h
def Bigger (many : Int) (bs bs' : List (List Int)) : Prop := ∀ (x h : Int), 0 ≤ h → h < many → x ∈ bs.getD h.toNat [] → x ∈ bs'.getD h.toNat []
/-- bs' comes of bs when the pairs qs are gone through -/
def Through (ps qs : List (Int × Int)) (many : Int) (bs bs' : List (List Int)) : Prop := Bigger many bs bs' ∧ (Sound ps many bs → Sound ps many bs') ∧ ∀ q ∈ qs, ∀ x, x ∈ bs.getD q.1.toNat [] → x ∈ bs'.getD q.2.toNat []
theorem Through.refl {ps : List (Int × Int)} {many : Int} {bs : List (List Int)} : Through ps [] many bs bs := ⟨fun _ _ _ _ h => h, fun h => h, fun q hq => (nomatch hq)⟩
/-- one more pair -/
theorem Through.snoc {ps qs : List (Int × Int)} {many : Int} {bs bs1 bs2 : List (List Int)} {q : Int × Int} (hr : ∀ p ∈ q :: qs, 0 ≤ p.1 ∧ p.1 < many ∧ 0 ≤ p.2 ∧ p.2 < many) (a : Through ps qs many bs bs1) (b : Bigger many bs1 bs2) (s : Sound ps many bs1 → Sound ps many bs2) (e : ∀ x, x ∈ bs1.getD q.1.toNat [] → x ∈ bs2.getD q.2.toNat []) : Through ps (qs ++ [q]) many bs bs2 := by
  refine ⟨fun x h h0 h1 hx => b x h h0 h1 (a.1 x h h0 h1 hx), fun hs => s (a.2.1 hs), fun p hp x hx => ?_⟩
  rcases List.mem_append.mp hp with hp | hp
  · have h := hr p (List.mem_cons_of_mem _ hp)
    exact b x _ h.2.2.1 h.2.2.2 (a.2.2 p hp x hx)
  · rw [List.mem_singleton.mp hp] at hx ⊢
    have h := hr q List.mem_cons_self
    exact e x (a.1 x _ h.1 h.2.1 hx)
theorem Upto.step {ps : List (Int × Int)} {many : Int} {r : Nat} {bs bs' : List (List Int)} (hp : ∀ p ∈ ps, 0 ≤ p.1 ∧ p.1 < many ∧ 0 ≤ p.2 ∧ p.2 < many) (u : Upto ps many r bs) (t : Through ps ps many bs bs') : Upto ps many (r + 1) bs' := by
  intro k x h hk h0 h1 w
  by_cases hk2 : k ≤ r
  · exact t.1 x h h0 h1 (u k x h hk2 h0 h1 w)
  · have : k = r + 1 := by omega
    subst this
    obtain ⟨l, w', e⟩ := w.unsnoc
    have h2 := hp _ e
    exact t.2.2 _ e x (u r x l (Nat.le_refl _) h2.1 h2.2.1 w')
/-- behind as many rounds as there are levels -/
theorem upto_all {ps : List (Int × Int)} {many : Int} {bs : List (List Int)} {r : Nat} (hp : ∀ p ∈ ps, 0 ≤ p.1 ∧ p.1 < many ∧ 0 ≤ p.2 ∧ p.2 < many) (hr : many ≤ r) (u : Upto ps many r bs) (s : Sound ps many bs) {x h : Int} (h0 : 0 ≤ h) (h1 : h < many) : x ∈ bs.getD h.toNat [] ↔ ∃ k, Wk ps k x h := by
  refine ⟨s x h h0 h1, fun ⟨k, w⟩ => ?_⟩
  have e : ((many.toNat : Nat) : Int) = many := by omega
  obtain ⟨j, j1, j2⟩ := wk_short (m := many.toNat) (by rw [e]; exact hp) h0 (by omega) w
  exact u j x h (by omega) h0 h1 j2
theorem order_trans {ps : List (Int × Int)} {many : Int} {bs : List (List Int)} (h : ∀ x h : Int, 0 ≤ h → h < many → (x ∈ bs.getD h.toNat [] ↔ ∃ k, Wk ps k x h)) {x l u : Int} (l0 : 0 ≤ l) (l1 : l < many) (u0 : 0 ≤ u) (u1 : u < many) (a : x ∈ bs.getD l.toNat []) (b : l ∈ bs.getD u.toNat []) : x ∈ bs.getD u.toNat [] := by
  obtain ⟨i, a⟩ := (h x l l0 l1).mp a
  obtain ⟨j, b⟩ := (h l u u0 u1).mp b
  exact (h x u u0 u1).mpr ⟨i + j, a.app b⟩

abbrev Ph (f : Nat → Cf) : Cf := f rounds
theorem any_ok {Φ : Cf} {a : Nat} (h : Φ.fn[a]? = some ⟨[true, false], (c__law_any).run (Phi_1 rounds)⟩) : HasAny Φ a :=
  ⟨_, h, fun ns n b g hb hb2 => any_run (Φ := Phi_1 rounds) (by decide) g hb hb2⟩
theorem lg {b : Int} (h0 : 0 ≤ b) (h1 : b < 2 ^ 40) : b.natAbs.log2 < 9000 := by
  have := log2_bound h0 h1 (by decide)
  omega
def isInt : PyData → Bool
  | .int _ => true
  | _ => false
def isNum : PyData → Bool
  | .int i => decide (0 ≤ i)
  | _ => false
def isIx (m : Int) : PyData → Bool
  | .int i => decide (0 ≤ i) && decide (i < m)
  | _ => false
/-- each one less than the next -/
def ups : List Int → Bool
  | a :: b :: r => decide (a < b) && ups (b :: r)
  | _ => true
theorem line5 : (5000 : Nat) ≤ sizeLine := by rw [sizeLine_eq]; decide
theorem lineB : sizeLine ≤ 4611686018427387000 := by rw [sizeLine_eq]; decide
theorem boolsOf_mk (ds : List PyData) (p : PyData → Bool) : boolsOf (ds.filterMap fun d => some (PyData.bool (p d))) = some (ds.map p) := by
  have : (ds.filterMap fun d => some (PyData.bool (p d))) = (ds.map p).map PyData.bool := by
    induction ds with
    | nil => rfl
    | cons d ds ih => simp only [List.filterMap_cons, List.map_cons, ih]
  rw [this]
  exact boolsOf_map _
/-- all([..]) of a comprehension that tells bools -/
theorem ev_all {Φ : Cf} {pk : Bool} {elt : E} {t : T} {it : Ev.It} {own : List Nat} {ρ ρ1 ρ2 : Rho} {xs : List PyData} (p : PyData → Bool) (hi : evIt Φ it ρ = some (xs, ρ1)) (hw : wipeR ρ1 own = ρ2) (hb : ∀ x ∈ xs, turnR Φ elt t (.lit (.bool true)) own x ρ2 = some (some (.bool (p x)), ρ2)) (hl : xs.length ≤ sizeLine) :
    ev Φ pk (.bi .all [.comp elt t it (.lit (.bool true)) own]) ρ = some ((.bool (xs.all p), .f), ρ2) := by
  have hc := ev_comp (Φ := Φ) (pk := true) (elt := elt) (t := t) (c := .lit (.bool true)) (fun d => some (PyData.bool (p d))) hi hw hb hl
  have h2 : evp Φ [.comp elt t it (.lit (.bool true)) own] ρ = some ([(.list (xs.filterMap fun d => some (PyData.bool (p d))), .l)], ρ2) := by
    show (ev Φ true (.comp elt t it (.lit (.bool true)) own) ρ).bind _ = _
    rw [hc]
    rfl
  show ((evp Φ [.comp elt t it (.lit (.bool true)) own] ρ).bind _) = _
  rw [h2]
  show ((biSem .all [(.list (xs.filterMap fun d => some (PyData.bool (p d))), .l)]).map _) = _
  have h3 : biSem .all [(.list (xs.filterMap fun d => some (PyData.bool (p d))), .l)] = some (fz (.bool ((xs.map p).all id))) := by
    show ((boolsOf _).map _) = _
    rw [boolsOf_mk]
    rfl
  rw [h3, List.all_map]
  rfl
def isTup : PyData → Option (List PyData)
  | .tuple ds => some ds
  | _ => none
/-- the ints, where all are -/
def rising (m : Int) : PyData → Bool
  | .tuple ds => match intsOf ds with
    | some ns => ns.all (fun x => decide (0 ≤ x) && decide (x < m)) && ups ns
    | none => false
  | _ => false
theorem rising_none {m : Int} {ds : List PyData} (h : intsOf ds = none) : rising m (.tuple ds) = false := by simp only [rising, h]
theorem rising_ints (m : Int) (ns : List Int) : rising m (.tuple (ns.map PyData.int)) = (ns.all (fun x => decide (0 ≤ x) && decide (x < m)) && ups ns) := by simp only [rising, intsOf_map]
theorem all_ix (m : Int) : ∀ ds : List PyData, ds.all (isIx m) = true → ∃ ns : List Int, ds = ns.map PyData.int ∧ ns.all (fun x => decide (0 ≤ x) && decide (x < m)) = true
  | [], _ => ⟨[], rfl, rfl⟩
  | d :: ds, h => by
    simp only [List.all_cons, Bool.and_eq_true] at h
    obtain ⟨ns, rfl, h2⟩ := all_ix m ds h.2
    cases d with
    | int i => exact ⟨i :: ns, rfl, by simp only [List.all_cons, Bool.and_eq_true]; exact ⟨by simpa [isIx] using h.1, h2⟩⟩
    | _ => cases h.1
theorem ix_all (m : Int) (ns : List Int) : (ns.map PyData.int).all (isIx m) = ns.all (fun x => decide (0 ≤ x) && decide (x < m)) := by
  rw [List.all_map]
  rfl
theorem ups_all : ∀ ns : List Int, ups ns = (List.range (ns.length - 1)).all fun j => decide ((ns.getD j 0) < (ns.getD (j + 1) 0))
  | [] => rfl
  | [a] => rfl
  | a :: b :: r => by
    have ih := ups_all (b :: r)
    unfold ups
    rw [ih]
    show _ = (List.range (r.length + 1)).all _
    rw [List.range_succ_eq_map, List.all_cons, List.all_map]
    rfl
theorem atI_int {ns : List Int} {j : Nat} (h : j < ns.length) : atI (ns.map PyData.int) (j : Int) = some (.int (ns.getD j 0)) := by
  refine atI_nat ?_
  rw [List.getElem?_map, List.getElem?_eq_getElem h, List.getD_eq_getElem?_getD, List.getElem?_eq_getElem h]
  rfl
def keepI (p : Int → Bool) : PyData → Option PyData
  | .int i => if p i then some (.int i) else none
  | _ => none
def tellI (p : Int → Bool) : PyData → Bool
  | .int i => p i
  | _ => false
theorem keep_map (p : Int → Bool) : ∀ ms : List Int, (ms.map PyData.int).filterMap (keepI p) = (ms.filter p).map PyData.int
  | [] => rfl
  | m :: ms => by
    simp only [List.map_cons, List.filterMap_cons, List.filter_cons, keep_map p ms]
    by_cases h : p m = true
    · simp [keepI, h]
    · simp [keepI, h]
theorem tell_map (p : Int → Bool) (ms : List Int) : (ms.map PyData.int).all (tellI p) = ms.all p := by
  rw [List.all_map]
  rfl
theorem run_ret {Φ : Cf} {c : Ev.Code} {e : E} {args : List DO} {r : DO} {ρ0 ρ1 : Rho} {os : List Slot} (hb : c.body = [.ret e]) (h0 : args.map some ++ List.replicate (c.nl - c.np) none = ρ0) (h : ev Φ false e ρ0 = some (r, ρ1)) (ho : outsOf c.ref ρ1 = os) : c.run Φ args = some (r, os) := by
  unfold Code.run
  rw [h0, hb]
  show (((evS Φ _ (.ret e) ρ0).bind _).bind _) = _
  show ((((ev Φ false e ρ0).map _).bind _).bind _) = _
  rw [h, ← ho]
  rfl
section
variable {Φ : Cf} {ρ ρ1 ρ2 ρ3 ρ4 ρ5 : Rho} {e a elt c : E} {pk : Bool} {t : T} {own : List Nat} {x : PyData} {o o2 : O} {ds : List PyData}
theorem evIt_T (h : ev Φ false e ρ = some ((.tuple ds, o), ρ1)) : evIt Φ (.seq e) ρ = some (ds, ρ1) := by
  simp only [evIt]
  rw [h]
  rfl
theorem evIt_L (h : ev Φ false e ρ = some ((.list ds, o), ρ1)) : evIt Φ (.seq e) ρ = some (ds, ρ1) := by
  simp only [evIt]
  rw [h]
  rfl
theorem evIt_rg {b : E} {i j : Int} {n : Nat} (h1 : ev Φ true a ρ = some ((.int i, o), ρ1)) (h2 : ev Φ true b ρ1 = some ((.int j, o2), ρ2)) (s1 : small62 i = true) (s2 : small62 j = true) (hn : (j - i).toNat = n) : evIt Φ (.range a b) ρ = some (rangeD i n, ρ2) := by
  simp only [evIt]
  rw [h1]
  simp only [Option.bind_some]
  rw [h2]
  simp only [Option.bind_some]
  rw [if_pos (by rw [s1, s2] <;> rfl), hn]
theorem small_nat {n : Nat} (h : n ≤ 1000000) : small62 (n : Int) = true := by
  unfold small62
  rw [Bool.and_eq_true, decide_eq_true_eq, decide_eq_true_eq]
  omega
theorem small_0 : small62 0 = true := small_nat (n := 0) (by omega)
theorem turn_t {y : PyData} (h1 : bindT t x ρ = some ρ2) (h2 : ev Φ true c ρ2 = some ((.bool true, o), ρ3)) (h3 : ev Φ false elt ρ3 = some ((y, o2), ρ4)) (h4 : wipeR ρ4 own = ρ5) : turnR Φ elt t c own x ρ = some (some y, ρ5) := by
  unfold turnR
  rw [h1]
  simp only [Option.bind_some]
  rw [h2]
  simp only [Option.bind_some]
  rw [h3, ← h4]
  rfl
theorem turn_f (h1 : bindT t x ρ = some ρ2) (h2 : ev Φ true c ρ2 = some ((.bool false, o), ρ3)) (h4 : wipeR ρ3 own = ρ5) : turnR Φ elt t c own x ρ = some (none, ρ5) := by
  unfold turnR
  rw [h1]
  simp only [Option.bind_some]
  rw [h2, ← h4]
  rfl
theorem ev_truth {d : PyData} {b : Bool} (h : ev Φ true a ρ = some ((d, o), ρ1)) (hb : truthSem d = some b) : ev Φ pk (.truth a) ρ = some ((.bool b, .f), ρ1) := by
  simp only [ev]
  rw [h]
  simp only [Option.bind_some]
  rw [hb]
  rfl
end
/-- an order as data: for each level a tuple -/
def OT (os : List (List Int)) : PyData := .tuple (os.map fun l => .tuple (l.map PyData.int))
def LT (ls : List Int) : PyData := .tuple (ls.map PyData.int)
def within (os : List (List Int)) (ls : List Int) (j : Int) : Bool := ls.all fun x => decide (x ∈ os.getD j.toNat [])
def seenBy (os : List (List Int)) (ls : List Int) : List Int := (rgI 0 os.length).filter (within os ls)
theorem OT_at {os : List (List Int)} {j : Int} (h0 : 0 ≤ j) (h1 : j < os.length) : atI (os.map fun l => PyData.tuple (l.map PyData.int)) j = some (LT (os.getD j.toNat [])) := by
  obtain ⟨k, rfl⟩ : ∃ k : Nat, j = (k : Int) := ⟨j.toNat, by omega⟩
  have hj : k < os.length := by omega
  refine atI_nat ?_
  rw [List.getElem?_map, List.getElem?_eq_getElem hj, List.getD_eq_getElem?_getD, Int.toNat_natCast, List.getElem?_eq_getElem hj]
  rfl
theorem mem_LT (x : Int) (l : List Int) : memSem (.int x, .f) (LT l, .f) = some (decide (x ∈ l)) := by
  have h1 := sh_int x
  have h2 := sh_tints l
  have h3 := any_int x l
  unfold memSem LT
  simp only [chk]
  rw [if_pos ⟨h1, h2⟩, h3]
/-- tuple([..]) -/
theorem ev_tuple {Φ : Cf} {pk : Bool} {e : E} {ρ ρ1 : Rho} {ds : List PyData} {o : O} (ho : o ≠ .g) (h : ev Φ true e ρ = some ((.list ds, o), ρ1)) : ev Φ pk (.bi .tuple1 [e]) ρ = some ((.tuple ds, .f), ρ1) := by
  have h2 : evp Φ [e] ρ = some ([(.list ds, o)], ρ1) := by
    show (ev Φ true e ρ).bind _ = _
    rw [h]
    rfl
  show ((evp Φ [e] ρ).bind _) = _
  rw [h2]
  cases o with
  | f => rfl
  | l => rfl
  | g => exact absurd rfl ho
section
variable {Φ : Cf} {ρ ρ1 ρ2 ρ3 : Rho} {a b : E} {pk : Bool} {x y : DO}
theorem ev_cmp {c : CO} {z : Bool} (h1 : ev Φ (b.quiet Φ) a ρ = some (x, ρ1)) (h2 : ev Φ true b ρ1 = some (y, ρ2)) (h3 : cmpSem c x y = some z) : ev Φ pk (.cmp c a b) ρ = some ((.bool z, .f), ρ2) := by
  simp only [ev]
  rw [h1]
  simp only [Option.bind_some]
  rw [h2]
  simp only [Option.bind_some]
  rw [h3]
  rfl
theorem eq_int (i j : Int) (o o2 : O) : cmpSem .eq (.int i, o) (.int j, o2) = some (i == j) := by
  have h1 := sh_int i
  have h2 := sh_int j
  show chk (SeqAt.shaped (.int i) = true ∧ SeqAt.shaped (.int j) = true) (PyData.eqv (.int i) (.int j)) = _
  unfold chk
  rw [if_pos ⟨h1, h2⟩, eqv_int]
theorem ev_idx {d : PyData} (h1 : ev Φ (b.quiet Φ) a ρ = some (x, ρ1)) (h2 : ev Φ true b ρ1 = some (y, ρ2)) (h3 : idxSem x y = some (d, .f)) : ev Φ pk (.idx a b) ρ = some ((d, .f), ρ2) := by
  simp only [ev]
  rw [h1]
  simp only [Option.bind_some]
  rw [h2]
  simp only [Option.bind_some]
  rw [h3]
  cases pk <;> rfl
end
def rhoL (ns : List Int) (n many : Int) (c : Slot) : Rho := [some (dl ns n), some (.int many, .f), c]
def LotI (many : Int) (xs acc : List PyData) (ρ : Rho) : Prop := ∃ (ns : List Int) (n : Int) (i : Int) (k : Nat) (ls : List Int), Good ns n ∧ ρ = rhoL ns n many none ∧ xs = rangeD i k ∧ i + (k : Int) = many ∧ 0 ≤ i ∧ acc = ls.map PyData.int ∧ ls.Pairwise (· < ·) ∧ ∀ x ∈ ls, 0 ≤ x ∧ x < i
/-- one of some things -/
theorem r_of {ns : List Int} {n : Int} (g : Good ns n) {ds : List PyData} (h0 : ds ≠ []) (h1 : ds.length ≤ 1000) : ∃ (d : PyData) (ns' : List Int) (n' : Int), d ∈ ds ∧ Good ns' n' ∧ (c__law_of).run (Phi_2 rounds) [dl ns n, (.list ds, .f)] = some ((d, .f), [some (dl ns' n'), none]) := by
  have hany : HasAny (Phi_2 rounds) 1 := any_ok rfl
  have hl : 0 < ds.length := List.length_pos_iff.mpr h0
  have hlen : ev (Phi_2 rounds) false (.bi .len [.var 1]) [some (dl ns n), some (.list ds, .f)] = some ((.int ds.length, .f), [some (dl ns n), some (.list ds, .f)]) := by
    simp [ev, evp, quiets, Rho.at, biSem, bi1, lenSem, fz]
  obtain ⟨v, ns', n', v0, v1, g', hc⟩ := ev_any hany (s := 0) (e := .bi .len [.var 1]) (ρ := [some (dl ns n), some (.list ds, .f)]) (ns := ns) (n := n) (b := ds.length) (o := .f) rfl g hlen (by omega) (lg (by omega) (by omega))
  obtain ⟨j, rfl⟩ : ∃ j : Nat, v = (j : Int) := ⟨v.toNat, by omega⟩
  have hj : j < ds.length := by omega
  have hx : idxSem (.list ds, .f) (.int (j : Int), .f) = some (ds[j], .f) := by
    show (if O.f = O.g then idxG ds (j : Int) else (atI ds (j : Int)).map fz) = _
    rw [if_neg (by decide), atI_nat (List.getElem?_eq_getElem hj)]
    rfl
  have hi : ev (Phi_2 rounds) false (.idx (.var 1) (.call 1 [.var 0, .bi .len [.var 1]])) [some (dl ns n), some (.list ds, .f)] = some ((ds[j], .f), [some (dl ns' n'), some (.list ds, .f)]) := by
    have hq : E.quiet (Phi_2 rounds) (.call 1 [.var 0, .bi .len [.var 1]]) = false := rfl
    refine ev_idx (x := (.list ds, .f)) (y := (.int (j : Int), .f)) ?_ (hc true) hx
    rw [hq]
    rfl
  exact ⟨ds[j], ns', n', List.getElem_mem hj, g', run_ret rfl rfl hi rfl⟩

def rhoM (ns : List Int) (n : Int) (s : DO) (as zs : List Int) : Rho := [some (dl ns n), some s, some (.list (as.map PyData.int), .l), some (.list (zs.map PyData.int), .l)]
theorem ne_nil (ns : List Int) (o o2 : O) : cmpSem .ne (.list (ns.map PyData.int), o) (.list [], o2) = some (!decide (ns = [])) := by
  show chk (SeqAt.shaped (.list (ns.map PyData.int)) = true ∧ SeqAt.shaped (.list []) = true) (!PyData.eqv (.list (ns.map PyData.int)) (.list [])) = _
  unfold chk
  rw [if_pos ⟨sh_ints ns, sh_nil⟩, eqv_nil]
theorem eraseIdx_map (f : Int → PyData) : ∀ (l : List Int) (i : Nat), (l.map f).eraseIdx i = (l.eraseIdx i).map f
  | [], _ => rfl
  | _ :: _, 0 => rfl
  | x :: l, i + 1 => congrArg (f x :: ·) (eraseIdx_map f l i)
theorem seqIx {i n : Nat} (h : i < n) : seqIndex? (i : Int) n = some i := by
  have h1 : ¬ ((i : Int) < 0) := by omega
  simp [seqIndex?, h1, h]
theorem popAt_eq (ds : List PyData) (x : PyData) : muSem .popAt ds [x] = (intD x).bind fun i => (if -(2 ^ 63) ≤ i ∧ i < 2 ^ 63 then seqIndex? i ds.length else none).bind fun k => ds[k]?.map fun d => (d, ds.eraseIdx k) := rfl
theorem in63 {i n : Nat} (h : i < n) (hl : n ≤ 1000) : -(2 ^ 63) ≤ (i : Int) ∧ (i : Int) < 2 ^ 63 := by
  constructor
  · exact Int.le_trans (by decide) (Int.natCast_nonneg i)
  · exact Int.lt_trans (show (i : Int) < 1000 by omega) (by decide)
theorem mu_popAt {ns : List Int} {i : Nat} (hi : i < ns.length) (hl : ns.length ≤ 1000) : muSem .popAt (ns.map PyData.int) [.int (i : Int)] = some (.int ns[i], (ns.eraseIdx i).map PyData.int) := by
  have h2 : seqIndex? (i : Int) (ns.map PyData.int).length = some i := by
    rw [List.length_map]
    exact seqIx hi
  have h3 : intD (.int (i : Int)) = some (i : Int) := rfl
  rw [popAt_eq, h3, Option.bind_some, if_pos (in63 hi hl), h2, Option.bind_some, List.getElem?_map, List.getElem?_eq_getElem hi, eraseIdx_map, Option.map_some, Option.map_some]
theorem mu_app {ds : List PyData} {d : PyData} (h : ds.length < sizeLine) : muSem .append ds [d] = some (.none, ds ++ [d]) := by
  simp only [muSem, mu1, chk]
  rw [if_pos h]
theorem ev_mut {Φ : Cf} {pk : Bool} {m : Mu} {i : Nat} {args : List E} {ρ ρ1 : Rho} {ds0 ds ds' : List PyData} {xs : List DO} {r : PyData} (h0 : ρ.at i = some (.list ds0, .l)) (h1 : evs Φ args ρ = some (xs, ρ1)) (h2 : ρ1.at i = some (.list ds, .l)) (h3 : muSem m ds (xs.map (·.1)) = some (r, ds')) :
    ev Φ pk (.mut m i args) ρ = some ((r, .f), ρ1.set i (some (.list ds', .l))) := by
  simp only [ev]
  rw [if_neg (by rw [h0]; simp [ownL]), h1]
  simp only [Option.bind_some]
  rw [h2]
  simp only []
  rw [h3]
  rfl
theorem cons_eraseIdx_perm {α : Type} : ∀ (l : List α) (i : Nat) (h : i < l.length), (l[i] :: l.eraseIdx i).Perm l
  | [], _, h => by cases h
  | x :: l, 0, _ => .refl _
  | x :: l, i + 1, h => by
    have hi : i < l.length := by simpa using h
    have ih := cons_eraseIdx_perm l i hi
    show (l[i] :: x :: l.eraseIdx i).Perm (x :: l)
    exact (List.Perm.swap x l[i] _).trans (ih.cons x)
/-- a lot of levels below m: strictly rising -/
def Lot (m : Int) (l : List Int) : Prop := l.Pairwise (· < ·) ∧ ∀ x ∈ l, 0 ≤ x ∧ x < m
theorem Lot.is {m : Int} {l : List Int} (h : Lot m l) : l = (rgI 0 m.toNat).filter fun x => decide (x ∈ l) := by
  refine lt_uniq h.1 ((rgI_sorted 0 m.toNat).filter _) fun k => ?_
  rw [List.mem_filter, rgI_mem, decide_eq_true_eq]
  constructor
  · intro hk
    have := h.2 k hk
    exact ⟨by omega, hk⟩
  · exact fun hk => hk.2
theorem Lot.len {m : Int} {l : List Int} (h : Lot m l) : l.length ≤ m.toNat := by
  rw [h.is]
  exact Nat.le_trans (List.length_filter_le _ _) (by rw [rgI_len]; exact Nat.le_refl _)
theorem lot_merge {m : Int} {a b : List Int} (ha : Lot m a) (hb : Lot m b) : Lot m (sortI (a ++ b.filter fun x => !decide (x ∈ a))) := by
  have hp := sortI_perm (a ++ b.filter fun x => !decide (x ∈ a))
  have hs := sortI_sorted (a ++ b.filter fun x => !decide (x ∈ a))
  have hnd : (a ++ b.filter fun x => !decide (x ∈ a)).Nodup := by
    refine List.nodup_append.mpr ⟨ha.1.imp (fun h => by omega), (hb.1.imp (fun h => by omega)).filter _, fun x hx y hy e => ?_⟩
    subst e
    have := (List.mem_filter.mp hy).2
    simp [hx] at this
  have hnd2 := hp.nodup_iff.mpr hnd
  refine ⟨?_, fun x hx => ?_⟩
  · refine (List.pairwise_and_iff.mpr ⟨hs, hnd2⟩).imp fun h => ?_
    obtain ⟨h1, h2⟩ := h
    omega
  · rcases List.mem_append.mp (hp.mem_iff.mp hx) with h | h
    · exact ha.2 x h
    · exact hb.2 x (List.mem_filter.mp h).1
def LL (l : List Int) : PyData := .list (l.map PyData.int)
def PT (ps : List (Int × Int)) : PyData := .list (ps.map fun p => .tuple [.int p.1, .int p.2])
def rhoC (many : Int) (ps : List (Int × Int)) (bs : List (List Int)) (s3 s5 s6 s7 : Slot) : Rho := [some (.int many, .f), some (PT ps, .f), some (.list (bs.map LL), .l), s3, none, s5, s6, s7, none]
theorem evS_setI {Φ : Cf} {refs : List Nat} {x j : Nat} {i e : E} {ρ ρ1 : Rho} {y : PyData} {o o2 : O} {ds : List PyData} {n : Int} (h1 : ev Φ false e ρ = some ((y, o), ρ1)) (h2 : ρ1.at x = some (.list ds, .l)) (h3 : ev Φ true i ρ1 = some ((.int n, o2), ρ1)) (h4 : ixN ds.length n = some j) :
    evS Φ refs (.setI x i e) ρ = some (.nx, ρ1.set x (some (.list (ds.set j y), .l))) := by
  simp only [evS]
  rw [h1]
  simp only [Option.bind_some]
  rw [if_neg (by rw [h2]; simp [ownL]), h3]
  simp only [Option.bind_some]
  rw [h2]
  simp only []
  rw [h4]
  rfl
theorem ev_bin {Φ : Cf} {pk : Bool} {o : BO} {a b : E} {ρ ρ1 ρ2 : Rho} {x y z : DO} (h1 : ev Φ (b.quiet Φ) a ρ = some (x, ρ1)) (h2 : ev Φ true b ρ1 = some (y, ρ2)) (h3 : binSem o x y = some z) : ev Φ pk (.bin o a b) ρ = some (z, ρ2) := by
  simp only [ev]
  rw [h1]
  simp only [Option.bind_some]
  rw [h2]
  simp only [Option.bind_some]
  rw [h3]
  rfl
theorem ev_bi1 {Φ : Cf} {pk : Bool} {b : Bi} {e : E} {ρ ρ1 : Rho} {x w : DO} (h1 : ev Φ true e ρ = some (x, ρ1)) (h2 : biSem b [x] = some w) : ev Φ pk (.bi b [e]) ρ = some (w, ρ1) := by
  have h3 : evp Φ [e] ρ = some ([x], ρ1) := by
    show (ev Φ true e ρ).bind _ = _
    rw [h1]
    rfl
  simp only [ev]
  rw [h3]
  simp only [Option.bind_some]
  rw [h2]
  rfl
theorem ixNat {n : Nat} {i : Int} (h0 : 0 ≤ i) (h1 : i < n) : ixN n i = some i.toNat := by
  unfold ixN
  rw [if_pos h0, if_pos h1]
theorem nmem_LL (x : Int) (l : List Int) (o o2 : O) : cmpSem .nmem (.int x, o) (LL l, o2) = some (!decide (x ∈ l)) := by
  have h1 := sh_int x
  have h2 := sh_ints l
  have h3 := any_int x l
  show ((chk (SeqAt.shaped (.int x) = true ∧ SeqAt.shaped (.list (l.map PyData.int)) = true) ((l.map PyData.int).any fun z => PyData.eqv z (.int x))).map (!·)) = _
  unfold chk
  rw [if_pos ⟨h1, h2⟩, h3]
  rfl
theorem LL_at {bs : List (List Int)} {j : Int} (h0 : 0 ≤ j) (h1 : j < bs.length) : atI (bs.map LL) j = some (LL (bs.getD j.toNat [])) := by
  obtain ⟨k, rfl⟩ : ∃ k : Nat, j = (k : Int) := ⟨j.toNat, by omega⟩
  have hj : k < bs.length := by omega
  refine atI_nat ?_
  rw [List.getElem?_map, List.getElem?_eq_getElem hj, List.getD_eq_getElem?_getD, Int.toNat_natCast, List.getElem?_eq_getElem hj]
  rfl
theorem ev_at {Φ : Cf} {pk : Bool} {many : Int} {ps : List (Int × Int)} {bs : List (List Int)} {s3 s5 s6 s7 s8 : Slot} {k : Nat} {j : Int} (hk : Rho.at [some (.int many, .f), some (PT ps, .f), some (.list (bs.map LL), .l), s3, none, s5, s6, s7, s8] k = some (.int j, .f)) (h0 : 0 ≤ j) (h1 : j < bs.length) (hq : E.quiet Φ (.var k) = true) (hv : ∀ pk, ev Φ pk (.var k) [some (.int many, .f), some (PT ps, .f), some (.list (bs.map LL), .l), s3, none, s5, s6, s7, s8] = some ((.int j, .f), [some (.int many, .f), some (PT ps, .f), some (.list (bs.map LL), .l), s3, none, s5, s6, s7, s8])) :
    ev Φ pk (.idx (.var 2) (.var k)) [some (.int many, .f), some (PT ps, .f), some (.list (bs.map LL), .l), s3, none, s5, s6, s7, s8] = some ((LL (bs.getD j.toNat []), .f), [some (.int many, .f), some (PT ps, .f), some (.list (bs.map LL), .l), s3, none, s5, s6, s7, s8]) := by
  refine ev_idx (x := (.list (bs.map LL), .l)) (y := (.int j, .f)) (by rw [hq]; rfl) (hv true) ?_
  show (if O.l = O.g then idxG (bs.map LL) j else (atI (bs.map LL) j).map fz) = _
  rw [if_neg (by decide), LL_at h0 h1]
  rfl
def inR (many : Int) (ps : List (Int × Int)) : Prop := ∀ p ∈ ps, 0 ≤ p.1 ∧ p.1 < many ∧ 0 ≤ p.2 ∧ p.2 < many
def pairD (p : Int × Int) : PyData := .tuple [.int p.1, .int p.2]
def inner : List S := [.setI 2 (.var 6) (.bi .sorted [(.bin .add (.idx (.var 2) (.var 6)) (.comp (.var 8) (.name 8) (.seq (.idx (.var 2) (.var 5))) (.cmp .nmem (.var 8) (.idx (.var 2) (.var 6))) [8]))])]
def BsOk (many : Int) (bs : List (List Int)) : Prop := (∀ b ∈ bs, Lot many b) ∧ (bs.length : Int) = many
theorem through_pair {ps qs : List (Int × Int)} {many : Int} {bs bs1 bs2 : List (List Int)} {q : Int × Int} (hp : inR many ps) (hq : q ∈ ps) (hqs : ∀ p ∈ qs, p ∈ ps) (a : Through ps qs many bs bs1) (e : ∀ (x : Int) (j : Nat), x ∈ bs2.getD j [] ↔ x ∈ bs1.getD j [] ∨ (j = q.2.toNat ∧ x ∈ bs1.getD q.1.toNat [])) : Through ps (qs ++ [q]) many bs bs2 := by
  have h := hp q hq
  refine a.snoc (fun p hm => ?_) (fun x u _ _ hx => (e x _).mpr (.inl hx)) (fun hs x u u0 u1 hx => ?_) (fun x hx => (e x _).mpr (.inr ⟨rfl, hx⟩))
  · rcases List.mem_cons.mp hm with rfl | hm
    · exact h
    · exact hp p (hqs p hm)
  · rcases (e x _).mp hx with hx | ⟨hj, hx⟩
    · exact hs x u u0 u1 hx
    · obtain ⟨k, w⟩ := hs x q.1 h.1 h.2.1 hx
      have hu : u = q.2 := by have := h.2.2.1; omega
      subst hu
      exact ⟨k + 1, w.snoc hq⟩
def singD : PyData → Option PyData
  | .int i => some (LL [i])
  | _ => none
theorem sing_map : ∀ ms : List Int, (ms.map PyData.int).filterMap singD = (ms.map fun i => [i]).map LL
  | [] => rfl
  | m :: ms => by simp only [List.map_cons, List.filterMap_cons, singD, sing_map ms]
def tupD' : PyData → Option PyData
  | .list ds => some (.tuple ds)
  | _ => none
theorem tup_map : ∀ bs : List (List Int), (bs.map LL).filterMap tupD' = bs.map fun l => .tuple (l.map PyData.int)
  | [] => rfl
  | b :: bs => by simp only [List.map_cons, List.filterMap_cons, LL, tupD', ← tup_map bs]
def rhoE (many : Int) (ps : List (Int × Int)) : Rho := [some (.int many, .f), some (PT ps, .f), none, none, none, none, none, none, none]
end Law
/-! k05 in plain words: tokens of a text (a list of signs' numbers). -/
namespace Law
def gapC (c : Nat) : Bool := c == 32 || c == 10 || c == 35
def letC (c : Nat) : Bool := c == 95 || (decide (97 ≤ c) && decide (c ≤ 122)) || (decide (65 ≤ c) && decide (c ≤ 90)) || (decide (48 ≤ c) && decide (c ≤ 57))
/-- how many signs are skipped; b: within a remark -/
def skL : Bool → List Nat → Nat
  | _, [] => 0
  | b, c :: s => if b || gapC c then skL (c != 10 && (b || c == 35)) s + 1 else 0
def wdL : List Nat → Nat
  | [] => 0
  | c :: s => if letC c then wdL s + 1 else 0
/-- how long the token is that begins here -/
def tkL (s : List Nat) : Nat := if s.take 2 = [45, 62] then 2 else max (wdL s) 1
theorem let_gap {c : Nat} (h : letC c = true) : gapC c = false ∧ c ≠ 45 ∧ c ≠ 62 ∧ c ≠ 10 ∧ c ≠ 35 ∧ c ≠ 32 := by
  simp only [letC, gapC, Bool.or_eq_true, Bool.and_eq_true, beq_iff_eq, decide_eq_true_eq, Bool.or_eq_false_iff, beq_eq_false_iff_ne] at h ⊢
  omega
theorem gap_let {c : Nat} (h : gapC c = true) : letC c = false ∧ c ≠ 62 ∧ c ≠ 45 := by
  refine ⟨?_, ?_, ?_⟩
  · cases e : letC c with
    | false => rfl
    | true => rw [(let_gap e).1] at h; cases h
  · rintro rfl; revert h; decide
  · rintro rfl; revert h; decide
theorem skL_le : ∀ (s : List Nat) (b : Bool), skL b s ≤ s.length
  | [], b => by cases b <;> exact Nat.le_refl _
  | c :: s, b => by
    unfold skL
    split
    · exact Nat.succ_le_succ (skL_le s _)
    · exact Nat.zero_le _
theorem wdL_le : ∀ s : List Nat, wdL s ≤ s.length
  | [] => Nat.le_refl _
  | c :: s => by
    unfold wdL
    split
    · exact Nat.succ_le_succ (wdL_le s)
    · exact Nat.zero_le _
/-- what is skipped ahead of a sign hangs on nothing behind it -/
theorem skL_take : ∀ {s : List Nat} {b : Bool} {c : Nat} {x : List Nat}, s.drop (skL b s) = c :: x → (∀ y, skL b (s.take (skL b s) ++ c :: y) = skL b s) ∧ gapC c = false
  | [], b, c, x, h => by cases b <;> exact (nomatch h)
  | a :: s, b, c, x, h => by
    by_cases hb : (b || gapC a) = true
    · have e : skL b (a :: s) = skL (a != 10 && (b || a == 35)) s + 1 := by rw [skL, if_pos hb]
      rw [e] at h ⊢
      obtain ⟨h1, h2⟩ := skL_take (s := s) h
      refine ⟨fun y => ?_, h2⟩
      show skL b (a :: (s.take _ ++ c :: y)) = _
      rw [skL, if_pos hb, h1]
    · have e : skL b (a :: s) = 0 := by rw [skL, if_neg hb]
      rw [e] at h ⊢
      cases h
      have : b = false ∧ gapC a = false := by simpa using hb
      exact ⟨fun y => by show skL b (a :: y) = 0; rw [skL, if_neg hb], this.2⟩
/-- a good token -/
def Gt (c : Nat) (t : List Nat) : Prop := (letC c = true ∧ ∀ d ∈ t, letC d = true) ∨ (letC c = false ∧ t = []) ∨ (c = 45 ∧ t = [62])
/-- the token ends here -/
def En (c : Nat) (t r : List Nat) : Prop := ∀ d x, r = d :: x → (letC c = true → letC d = false) ∧ (c = 45 ∧ t = [] → d ≠ 62)
theorem wdL_app : ∀ (t r : List Nat), (∀ d ∈ t, letC d = true) → (∀ d x, r = d :: x → letC d = false) → wdL (t ++ r) = t.length
  | [], [], _, _ => rfl
  | [], d :: x, _, h => by
    show wdL (d :: x) = 0
    rw [wdL, h d x rfl]
    rfl
  | c :: t, r, h, hr => by
    show wdL (c :: (t ++ r)) = _
    rw [wdL, if_pos (h c List.mem_cons_self), wdL_app t r (fun d hd => h d (List.mem_cons_of_mem _ hd)) hr, List.length_cons]
theorem tkL_gt {c : Nat} {t r : List Nat} (h : Gt c t) (e : En c t r) : tkL (c :: (t ++ r)) = t.length + 1 := by
  unfold tkL
  rcases h with ⟨h1, h2⟩ | ⟨h1, rfl⟩ | ⟨rfl, rfl⟩
  · have h3 := let_gap h1
    rw [if_neg (by
      intro h
      have : c = 45 := by
        cases hh : t ++ r with
        | nil => rw [hh] at h; cases h
        | cons a b => rw [hh] at h; exact (List.cons.inj h).1
      exact h3.2.1 this)]
    rw [show c :: (t ++ r) = (c :: t) ++ r from rfl, wdL_app (c :: t) r (fun d hd => by
      rcases List.mem_cons.mp hd with rfl | hd
      · exact h1
      · exact h2 d hd) (fun d x hr => (e d x hr).1 h1), List.length_cons]
    omega
  · have hw : wdL (c :: r) = 0 := by rw [wdL, if_neg (by rw [h1]; decide)]
    show (if (c :: r).take 2 = [45, 62] then 2 else max (wdL (c :: r)) 1) = 1
    rw [if_neg, hw]
    · rfl
    · intro h
      cases r with
      | nil => cases h
      | cons d x =>
        have h4 : c :: d :: [] = [45, 62] := h
        cases h4
        exact (e 62 x rfl).2 ⟨rfl, rfl⟩ rfl
  · rw [if_pos (by rfl)]
    rfl
theorem gt_of (c : Nat) (s : List Nat) : ∃ t r, s = t ++ r ∧ Gt c t ∧ En c t r := by
  by_cases hc : letC c = true
  · refine ⟨s.take (wdL s), s.drop (wdL s), (List.take_append_drop _ _).symm, .inl ⟨hc, ?_⟩, ?_⟩
    · clear hc
      induction s with
      | nil => intro d hd; cases hd
      | cons a s ih =>
        intro d hd
        by_cases ha : letC a = true
        · rw [wdL, if_pos ha] at hd
          rcases List.mem_cons.mp hd with rfl | hd
          · exact ha
          · exact ih d hd
        · rw [wdL, if_neg ha] at hd
          cases hd
    · intro d x hd
      refine ⟨fun _ => ?_, fun h => absurd h.1 (let_gap hc).2.1⟩
      clear hc
      induction s with
      | nil => cases hd
      | cons a s ih =>
        by_cases ha : letC a = true
        · rw [wdL, if_pos ha] at hd
          exact ih hd
        · rw [wdL, if_neg ha] at hd
          cases hd
          simpa using ha
  · have hc : letC c = false := by simpa using hc
    by_cases h : c = 45 ∧ ∃ x, s = 62 :: x
    · obtain ⟨rfl, x, rfl⟩ := h
      exact ⟨[62], x, rfl, .inr (.inr ⟨rfl, rfl⟩), fun d y _ => ⟨fun h => absurd h (by decide), fun h => absurd h.2 (by decide)⟩⟩
    · refine ⟨[], s, rfl, .inr (.inl ⟨hc, rfl⟩), fun d x hd => ⟨fun h => absurd (hc.symm.trans h) (by decide), fun hh hd2 => ?_⟩⟩
      subst hd2
      exact h ⟨hh.1, x, hd⟩
/-- the tokens of a text and where they begin -/
inductive Pk : Nat → List Nat → List (Nat × List Nat) → Prop
  | nil {off : Nat} {s : List Nat} : skL false s = s.length → Pk off s []
  | cons {off c : Nat} {g t r : List Nat} {L : List (Nat × List Nat)} : (∀ y, skL false (g ++ c :: y) = g.length) → gapC c = false → Gt c t → En c t r → Pk (off + g.length + (t.length + 1)) r L → Pk off (g ++ (c :: (t ++ r))) ((off + g.length, c :: t) :: L)
theorem Pk.gap {off : Nat} {g s : List Nat} {L : List (Nat × List Nat)} (h : Pk (off + g.length) s L) (hg : ∀ y, skL false (g ++ y) = g.length + skL false y) : Pk off (g ++ s) L := by
  cases h with
  | nil h => exact .nil (by rw [hg, h, List.length_append])
  | @cons _ c g2 t r L h1 h2 h3 h4 h5 =>
    have e : off + g.length + g2.length = off + (g ++ g2).length := by rw [List.length_append]; omega
    rw [e, ← List.append_assoc]
    refine .cons (fun y => ?_) h2 h3 h4 (by rw [← e]; exact h5)
    rw [List.append_assoc, hg, h1, List.length_append]
theorem Pk.shift {off : Nat} {s : List Nat} {L : List (Nat × List Nat)} (k : Nat) (h : Pk off s L) : Pk (off + k) s (L.map fun p => (p.1 + k, p.2)) := by
  induction h with
  | nil h => exact .nil h
  | @cons off c g t r L h1 h2 h3 h4 h5 ih =>
    show Pk (off + k) _ ((off + g.length + k, c :: t) :: _)
    rw [show off + g.length + k = off + k + g.length by omega]
    exact .cons h1 h2 h3 h4 (by rw [show off + k + g.length + (t.length + 1) = off + g.length + (t.length + 1) + k by omega]; exact ih)
theorem Pk.ne {off : Nat} {s : List Nat} {p : Nat × List Nat} {L : List (Nat × List Nat)} (h : Pk off s (p :: L)) : s ≠ [] ∧ off ≤ p.1 ∧ p.2 ≠ [] := by
  cases h with
  | cons h1 h2 h3 h4 h5 => exact ⟨fun e => by simp at e, Nat.le_add_right .., fun e => (nomatch e)⟩
/-- what stands behind a token, when text is put in -/
theorem Pk.more {off : Nat} {s : List Nat} {L : List (Nat × List Nat)} {ins : List Nat} (hi : ∀ y, skL false (ins ++ y) = ins.length + skL false y) (h35 : ∃ x, ins = 35 :: x) (h : Pk off s L) : ∀ (j : Nat) (p : Nat × List Nat), L[j]? = some p → ∃ e, p.1 + p.2.length = off + e ∧ e ≤ s.length ∧ 0 < e ∧ Pk off (s.take e ++ (ins ++ s.drop e)) (L.take (j + 1) ++ (L.drop (j + 1)).map fun p => (p.1 + ins.length, p.2)) := by
  induction h with
  | nil h => intro j p hj; cases hj
  | @cons off c g t r L h1 h2 h3 h4 h5 ih =>
    intro j p hj
    cases j with
    | zero =>
      cases hj
      refine ⟨g.length + (t.length + 1), ?_, ?_, by omega, ?_⟩
      · show off + g.length + (t.length + 1) = _
        omega
      · simp only [List.length_append, List.length_cons]; omega
      · have e1 : (g ++ (c :: (t ++ r))).take (g.length + (t.length + 1)) = g ++ (c :: t) := by
          rw [show g ++ (c :: (t ++ r)) = (g ++ (c :: t)) ++ r by simp]; exact List.take_left' (by simp)
        have e2 : (g ++ (c :: (t ++ r))).drop (g.length + (t.length + 1)) = r := by
          rw [show g ++ (c :: (t ++ r)) = (g ++ (c :: t)) ++ r by simp]; exact List.drop_left' (by simp)
        rw [e1, e2, show g ++ (c :: t) ++ (ins ++ r) = g ++ (c :: (t ++ (ins ++ r))) by simp]
        refine .cons h1 h2 h3 (fun d x hd => ?_) (((h5.shift ins.length).gap hi))
        obtain ⟨y, rfl⟩ := h35
        cases hd
        exact ⟨fun _ => rfl, fun _ => by decide⟩
    | succ j =>
      have hj : L[j]? = some p := hj
      obtain ⟨e, a1, a2, a3, a4⟩ := ih j p hj
      refine ⟨g.length + (t.length + 1) + e, by rw [a1]; omega, ?_, by omega, ?_⟩
      · simp only [List.length_append, List.length_cons]; omega
      · have e1 : (g ++ (c :: (t ++ r))).take (g.length + (t.length + 1) + e) = g ++ (c :: (t ++ r.take e)) := by
          rw [show g ++ (c :: (t ++ r)) = (g ++ (c :: t)) ++ r by simp, List.take_append, List.take_of_length_le (by simp only [List.length_append, List.length_cons]; omega), show g.length + (t.length + 1) + e - (g ++ c :: t).length = e by simp]
          simp
        have e2 : (g ++ (c :: (t ++ r))).drop (g.length + (t.length + 1) + e) = r.drop e := by
          rw [show g ++ (c :: (t ++ r)) = (g ++ (c :: t)) ++ r by simp, List.drop_append, List.drop_of_length_le (by simp only [List.length_append, List.length_cons]; omega), show g.length + (t.length + 1) + e - (g ++ c :: t).length = e by simp]
          rfl
        rw [e1, e2, show g ++ (c :: (t ++ r.take e)) ++ (ins ++ r.drop e) = g ++ (c :: (t ++ (r.take e ++ (ins ++ r.drop e)))) by simp]
        refine .cons h1 h2 h3 (fun d x hd => ?_) a4
        cases r with
        | nil => simp at a2; omega
        | cons d2 x2 =>
          cases e with
          | zero => omega
          | succ e =>
            exact h4 d x2 (by rw [(List.cons.inj hd).1])
/-- words put together -/
def jn (sep : Nat) : List (List Nat) → List Nat
  | [] => []
  | [t] => t
  | t :: r => t ++ sep :: jn sep r
def offs : Nat → List (List Nat) → List (Nat × List Nat)
  | _, [] => []
  | o, t :: r => (o, t) :: offs (o + t.length + 1) r
def Good5 (t : List Nat) : Prop := ∃ c u, t = c :: u ∧ gapC c = false ∧ Gt c u
theorem Pk.join {sep : Nat} (hs : sep = 32 ∨ sep = 10) : ∀ (ts : List (List Nat)) (off : Nat), (∀ t ∈ ts, Good5 t) → Pk off (jn sep ts) (offs off ts)
  | [], off, _ => .nil rfl
  | [t], off, h => by
    obtain ⟨c, u, rfl, h1, h2⟩ := h t List.mem_cons_self
    have := @Pk.cons off c [] u [] [] (fun y => by show skL false (c :: y) = 0; rw [skL, h1]; rfl) h1 h2 (fun d x hd => (nomatch hd)) (.nil rfl)
    rw [List.append_nil, List.nil_append] at this
    exact this
  | t :: t2 :: ts, off, h => by
    have hsg : gapC sep = true := by rcases hs with rfl | rfl <;> rfl
    obtain ⟨c, u, rfl, h1, h2⟩ := h t List.mem_cons_self
    have ih := Pk.join hs (t2 :: ts) (off + (u.length + 1) + 1) fun x hx => h x (List.mem_cons_of_mem _ hx)
    have ih2 : Pk (off + 0 + (u.length + 1)) ([sep] ++ jn sep (t2 :: ts)) (offs (off + (u.length + 1) + 1) (t2 :: ts)) := Pk.gap (g := [sep]) ih fun y => by
      show skL false (sep :: y) = 1 + skL false y
      rcases hs with rfl | rfl <;> simp [skL, gapC, Nat.add_comm]
    exact @Pk.cons off c [] u (sep :: jn sep (t2 :: ts)) _ (fun y => by show skL false (c :: y) = 0; rw [skL, h1]; rfl) h1 h2 (fun d x hd => by
      cases hd
      have := gap_let hsg
      exact ⟨fun _ => this.1, fun _ => this.2.1⟩) ih2
theorem Pk.good {off : Nat} {s : List Nat} {L : List (Nat × List Nat)} (h : Pk off s L) : ∀ p ∈ L, Good5 p.2 := by
  induction h with
  | nil h => intro p hp; cases hp
  | cons h1 h2 h3 h4 h5 ih =>
    intro p hp
    rcases List.mem_cons.mp hp with rfl | hp
    · exact ⟨_, _, rfl, h2, h3⟩
    · exact ih p hp
theorem offs_fst : ∀ (ts : List (List Nat)) (o : Nat), (offs o ts).map (·.1) = (List.range ts.length).map fun i => o + ((ts.take i).map fun t => t.length + 1).sum
  | [], o => rfl
  | t :: r, o => by
    rw [List.length_cons, List.range_succ_eq_map, List.map_cons, List.map_map]
    show o :: (offs (o + t.length + 1) r).map (·.1) = _
    rw [offs_fst r]
    refine congrArg (o :: ·) (List.map_congr_left fun i _ => ?_)
    show _ = o + ((t :: r.take i).map fun t => t.length + 1).sum
    rw [List.map_cons, List.sum_cons]
    omega
theorem offs_snd : ∀ (ts : List (List Nat)) (o : Nat), (offs o ts).map (·.2) = ts
  | [], o => rfl
  | t :: r, o => congrArg (t :: ·) (offs_snd r _)
/-- each token stands where it is told, and as long as the text's end of it -/
theorem Pk.at_ {off : Nat} {r : List Nat} {L : List (Nat × List Nat)} (h : Pk off r L) : ∀ s : List Nat, s.drop off = r → ∀ p ∈ L, p.1 < s.length ∧ tkL (s.drop p.1) = p.2.length ∧ (s.drop p.1).take p.2.length = p.2 := by
  induction h with
  | nil h => intro s _ p hp; cases hp
  | @cons off c g t r L h1 h2 h3 h4 h5 ih =>
    intro s hs p hp
    have hd : s.drop (off + g.length) = c :: (t ++ r) := by
      rw [← List.drop_drop, hs, List.drop_left]
    rcases List.mem_cons.mp hp with rfl | hp
    · refine ⟨?_, ?_, ?_⟩
      · have := congrArg List.length hd
        simp only [List.length_drop, List.length_cons] at this
        show off + g.length < s.length
        omega
      · show tkL (s.drop (off + g.length)) = t.length + 1
        rw [hd, tkL_gt h3 h4]
      · show (s.drop (off + g.length)).take (t.length + 1) = c :: t
        rw [hd, List.take_succ_cons, List.take_left]
    · refine ih s ?_ p hp
      rw [← List.drop_drop, hd, List.drop_succ_cons, List.drop_left]
theorem Pk.len {off : Nat} {s : List Nat} {L : List (Nat × List Nat)} (h : Pk off s L) : (L.map fun p => p.2.length).sum ≤ s.length ∧ L.length ≤ s.length := by
  induction h with
  | nil h => exact ⟨Nat.zero_le _, Nat.zero_le _⟩
  | cons h1 h2 h3 h4 h5 ih =>
    simp only [List.map_cons, List.sum_cons, List.length_cons, List.length_append] at ih ⊢
    omega
theorem Pk.sub {off : Nat} {s : List Nat} {L : List (Nat × List Nat)} (h : Pk off s L) : ∀ p ∈ L, ∀ c ∈ p.2, c ∈ s := by
  induction h with
  | nil h => intro p hp; cases hp
  | @cons off c g t r L h1 h2 h3 h4 h5 ih =>
    intro p hp d hd
    rcases List.mem_cons.mp hp with rfl | hp
    · rcases List.mem_cons.mp hd with rfl | hd
      · simp
      · simp [hd]
    · have := ih p hp d hd
      simp [this]
/-! ### the law's own walk -/
inductive Md where
  | gap | remark | word | dash | sign
  deriving DecidableEq
def ext : Md → Nat → Bool
  | .word, c => letC c
  | .dash, c => c == 62
  | _, _ => false
def newM (c : Nat) : Md := if letC c then .word else if c = 45 then .dash else .sign
def addL (F : List (Nat × List Nat)) (c : Nat) : List (Nat × List Nat) := F.dropLast ++ [((F.getLast?.getD (0, [])).1, (F.getLast?.getD (0, [])).2 ++ [c])]
def stepM (m : Md) (c : Nat) : Md := if m = .remark then (if c = 10 then .gap else .remark) else if c = 35 then .remark else if c = 32 ∨ c = 10 then .gap else if ext m c then (if m = .word then .word else .sign) else newM c
def stepF (m : Md) (F : List (Nat × List Nat)) (off c : Nat) : List (Nat × List Nat) := if m = .remark ∨ c = 35 ∨ c = 32 ∨ c = 10 then F else if ext m c then addL F c else F ++ [(off, [c])]
def wk : Md → List (Nat × List Nat) → Nat → List Nat → List (Nat × List Nat)
  | _, F, _, [] => F
  | m, F, off, c :: s => wk (stepM m c) (stepF m F off c) (off + 1) s
theorem addL_snoc (F : List (Nat × List Nat)) (o c : Nat) (t : List Nat) : addL (F ++ [(o, t)]) c = F ++ [(o, t ++ [c])] := by
  unfold addL
  simp
theorem wk_skip : ∀ (s : List Nat) (b : Bool) (F : List (Nat × List Nat)) (off : Nat), wk (if b then .remark else .gap) F off s = wk .gap F (off + skL b s) (s.drop (skL b s))
  | [], b, F, off => by cases b <;> rfl
  | c :: s, true, F, off => by
    have e : skL true (c :: s) = skL (c != 10) s + 1 := by rw [skL]; simp
    rw [e, List.drop_succ_cons, show off + (skL (c != 10) s + 1) = off + 1 + skL (c != 10) s by omega, ← wk_skip s]
    show wk (stepM .remark c) (stepF .remark F off c) (off + 1) s = _
    have h1 : stepF .remark F off c = F := by unfold stepF; rw [if_pos (.inl rfl)]
    rw [h1]
    by_cases hc : c = 10
    · subst hc; rfl
    · have h2 : stepM .remark c = .remark := by unfold stepM; rw [if_pos rfl, if_neg hc]
      have h3 : (c != 10) = true := by simpa using hc
      rw [h2, h3]
      rfl
  | c :: s, false, F, off => by
    by_cases hg : gapC c = true
    · have e : skL false (c :: s) = skL (c != 10 && c == 35) s + 1 := by rw [skL]; simp [hg]
      rw [e, List.drop_succ_cons, show off + (skL (c != 10 && c == 35) s + 1) = off + 1 + skL (c != 10 && c == 35) s by omega, ← wk_skip s]
      show wk (stepM .gap c) (stepF .gap F off c) (off + 1) s = _
      have hc : c = 35 ∨ c = 32 ∨ c = 10 := by
        simp only [gapC, Bool.or_eq_true, beq_iff_eq] at hg
        omega
      rcases hc with rfl | rfl | rfl <;> rfl
    · have e : skL false (c :: s) = 0 := by rw [skL]; simp [hg]
      rw [e]
      rfl
theorem wk_word : ∀ (s : List Nat) (F : List (Nat × List Nat)) (o off : Nat) (t r : List Nat), (∀ d ∈ s, letC d = true) → wk .word (F ++ [(o, t)]) off (s ++ r) = wk .word (F ++ [(o, t ++ s)]) (off + s.length) r
  | [], F, o, off, t, r, _ => by rw [List.append_nil]; rfl
  | c :: s, F, o, off, t, r, h => by
    have hc := h c List.mem_cons_self
    obtain ⟨_, _, _, h10, h35, h32⟩ := let_gap hc
    show wk (stepM .word c) (stepF .word (F ++ [(o, t)]) off c) (off + 1) (s ++ r) = _
    have h1 : stepM .word c = .word := by
      unfold stepM
      rw [if_neg (by decide), if_neg h35, if_neg (by omega), if_pos (by exact hc), if_pos rfl]
    have h2 : stepF .word (F ++ [(o, t)]) off c = F ++ [(o, t ++ [c])] := by
      unfold stepF
      rw [if_neg (by simp [h35, h32, h10]), if_pos (by exact hc), addL_snoc]
    rw [h1, h2, wk_word s F o (off + 1) (t ++ [c]) r fun d hd => h d (List.mem_cons_of_mem _ hd)]
    rw [List.length_cons, List.append_assoc, show off + 1 + s.length = off + (s.length + 1) by omega]
    rfl
theorem wk_end {m : Md} {r : List Nat} {F : List (Nat × List Nat)} {off : Nat} (hm : m ≠ .remark) (h : ∀ d x, r = d :: x → ext m d = false) : wk m F off r = wk .gap F off r := by
  cases r with
  | nil => rfl
  | cons d x =>
    have h := h d x rfl
    show wk (stepM m d) (stepF m F off d) (off + 1) x = wk (stepM .gap d) (stepF .gap F off d) (off + 1) x
    have h1 : stepM m d = stepM .gap d := by
      unfold stepM
      rw [if_neg hm, if_neg (show ¬ Md.gap = Md.remark by decide), h]
      rfl
    have h2 : stepF m F off d = stepF .gap F off d := by
      unfold stepF
      rw [h]
      simp [hm, ext]
    rw [h1, h2]
theorem wk_tok {c : Nat} {t r : List Nat} (F : List (Nat × List Nat)) (off : Nat) (hg : gapC c = false) (h : Gt c t) (e : En c t r) : wk .gap F off (c :: (t ++ r)) = wk .gap (F ++ [(off, c :: t)]) (off + (t.length + 1)) r := by
  have hc : c ≠ 32 ∧ c ≠ 10 ∧ c ≠ 35 := by
    simp only [gapC, Bool.or_eq_false_iff, beq_eq_false_iff_ne] at hg
    omega
  have h1 : stepM .gap c = newM c := by
    unfold stepM
    rw [if_neg (by decide), if_neg hc.2.2, if_neg (by omega)]
    rfl
  have h2 : stepF .gap F off c = F ++ [(off, [c])] := by
    unfold stepF
    rw [if_neg (by simp [hc.1, hc.2.1, hc.2.2])]
    rfl
  show wk (stepM .gap c) (stepF .gap F off c) (off + 1) (t ++ r) = _
  rw [h1, h2]
  rcases h with ⟨a, b⟩ | ⟨a, rfl⟩ | ⟨rfl, rfl⟩
  · rw [show newM c = .word by unfold newM; rw [if_pos a], wk_word t F off (off + 1) [c] r b, wk_end (m := .word) (by decide) fun d x hd => (e d x hd).1 a]
    rw [show off + 1 + t.length = off + (t.length + 1) by omega]
    rfl
  · by_cases hd : c = 45
    · subst hd
      show wk .dash _ _ r = _
      rw [wk_end (by decide) fun d x hd => by
        show (d == 62) = false
        simpa using (e d x hd).2 ⟨rfl, rfl⟩]
      rfl
    · rw [show newM c = .sign by unfold newM; rw [if_neg (by rw [a]; decide), if_neg hd]]
      show wk .sign _ _ r = _
      rw [wk_end (by decide) fun d x hd => rfl]
      rfl
  · show wk (stepM .dash 62) (stepF .dash (F ++ [(off, [45])]) (off + 1) 62) (off + 1 + 1) r = _
    rw [show stepM .dash 62 = .sign from rfl, show stepF .dash (F ++ [(off, [45])]) (off + 1) 62 = F ++ [(off, [45, 62])] by
      unfold stepF
      rw [if_neg (by decide), if_pos (by decide), addL_snoc]
      rfl]
    rw [wk_end (by decide) fun d x hd => rfl]
    rfl
/-- the law's walk tells the tokens -/
theorem wk_pk : ∀ (n : Nat) (s : List Nat) (off : Nat), s.length ≤ n → ∃ L, Pk off s L ∧ ∀ F, wk .gap F off s = F ++ L := by
  intro n
  induction n with
  | zero =>
    intro s off h
    cases s with
    | nil => exact ⟨[], .nil rfl, fun F => (List.append_nil F).symm⟩
    | cons c s => cases h
  | succ n ih =>
    intro s off h
    cases hd : s.drop (skL false s) with
    | nil =>
      have hl := congrArg List.length hd
      have h2 := skL_le s false
      simp only [List.length_drop, List.length_nil] at hl
      refine ⟨[], .nil (by omega), fun F => ?_⟩
      have := wk_skip s false F off
      rw [hd] at this
      rw [List.append_nil]
      exact this
    | cons c x =>
      obtain ⟨h1, h2⟩ := skL_take hd
      obtain ⟨t, r, rfl, hgt, hen⟩ := gt_of c x
      have hg : (s.take (skL false s)).length = skL false s := by
        rw [List.length_take]
        exact Nat.min_eq_left (skL_le s false)
      have hs : s = s.take (skL false s) ++ (c :: (t ++ r)) := by rw [← hd, List.take_append_drop]
      have hl := congrArg List.length hs
      simp only [List.length_append, List.length_cons] at hl
      obtain ⟨L, p, w⟩ := ih r (off + skL false s + (t.length + 1)) (by omega)
      refine ⟨(off + skL false s, c :: t) :: L, ?_, fun F => ?_⟩
      · have := @Pk.cons off c (s.take (skL false s)) t r L (by rw [hg]; exact h1) h2 hgt hen (by rw [hg]; exact p)
        rw [hg, ← hs] at this
        exact this
      · have := wk_skip s false F off
        rw [hd, wk_tok F _ h2 hgt hen, w] at this
        refine Eq.trans this ?_
        rw [List.append_assoc]
        rfl
end Law
/-! k05: what texts answer. -/
namespace Law
set_option maxHeartbeats 4000000
open Ev PySem PySem.Spec L2
theorem lt_ii (i j : Int) (o o2 : O) : cmpSem .lt (.int i, o) (.int j, o2) = some (decide (i < j)) := rfl
theorem le_ii (i j : Int) (o o2 : O) : cmpSem .le (.int i, o) (.int j, o2) = some (decide (i ≤ j)) := rfl
theorem gt_ii (i j : Int) (o o2 : O) : cmpSem .gt (.int i, o) (.int j, o2) = some (decide (j < i)) := rfl
theorem ge_ii (i j : Int) (o o2 : O) : cmpSem .ge (.int i, o) (.int j, o2) = some (decide (j ≤ i)) := rfl
theorem idx_lf (ds : List PyData) (i : Int) (o2 : O) : idxSem (.list ds, .f) (.int i, o2) = (atI ds i).map fz := rfl
theorem idx_ll (ds : List PyData) (i : Int) (o2 : O) : idxSem (.list ds, .l) (.int i, o2) = (atI ds i).map fz := rfl
theorem idx_t (ds : List PyData) (i : Int) (o o2 : O) : idxSem (.tuple ds, o) (.int i, o2) = (atI ds i).map fz := rfl
def tx (l : List Nat) : PyData := .str ⟨l.toArray⟩
def Asc (l : List Nat) : Prop := ∀ c ∈ l, c < 128
theorem Asc.nil : Asc [] := fun c h => (nomatch h)
theorem Asc.cons {c : Nat} {l : List Nat} (h : c < 128) (hl : Asc l) : Asc (c :: l) := fun d hd => by
  rcases List.mem_cons.mp hd with rfl | hd
  · exact h
  · exact hl d hd
theorem Asc.app {a b : List Nat} (ha : Asc a) (hb : Asc b) : Asc (a ++ b) := fun c hc => (List.mem_append.mp hc).elim (ha c) (hb c)
theorem Asc.take {a : List Nat} (ha : Asc a) (n : Nat) : Asc (a.take n) := fun c hc => ha c (List.mem_of_mem_take hc)
theorem Asc.drop {a : List Nat} (ha : Asc a) (n : Nat) : Asc (a.drop n) := fun c hc => ha c (List.mem_of_mem_drop hc)
theorem sh_tx {a : List Nat} (h : Asc a) : SeqAt.shaped (tx a) = true := by
  have : PyData.strOk ⟨a.toArray⟩ = true := by
    unfold PyData.strOk
    rw [Array.all_eq_true']
    intro x hx
    have := h x (by simpa using hx)
    rw [decide_eq_true_eq]
    omega
  unfold SeqAt.shaped tx
  have h2 : (PyData.str ⟨a.toArray⟩).canLay0 = true := this
  rw [h2]
  simp [PyData.depth]
theorem tx_eqv (a b : List Nat) : PyData.eqv (tx a) (tx b) = decide (a = b) := by
  rw [Bool.eq_iff_iff]
  simp [PyData.eqv, tx]
theorem eq_tx {a b : List Nat} (ha : Asc a) (hb : Asc b) (o o2 : O) : cmpSem .eq (tx a, o) (tx b, o2) = some (decide (a = b)) := by
  show chk (SeqAt.shaped (tx a) = true ∧ SeqAt.shaped (tx b) = true) (PyData.eqv (tx a) (tx b)) = _
  unfold chk
  rw [if_pos ⟨sh_tx ha, sh_tx hb⟩, tx_eqv]
theorem ne_tx {a b : List Nat} (ha : Asc a) (hb : Asc b) (o o2 : O) : cmpSem .ne (tx a, o) (tx b, o2) = some (!decide (a = b)) := by
  show chk (SeqAt.shaped (tx a) = true ∧ SeqAt.shaped (tx b) = true) (!PyData.eqv (tx a) (tx b)) = _
  unfold chk
  rw [if_pos ⟨sh_tx ha, sh_tx hb⟩, tx_eqv]
theorem le_tx (a b : List Nat) (o o2 : O) : cmpSem .le (tx a, o) (tx b, o2) = some (!decide (b < a)) := rfl
theorem le_11 (a b : Nat) (o o2 : O) : cmpSem .le (tx [a], o) (tx [b], o2) = some (decide (a ≤ b)) := by
  rw [le_tx]
  have : ([b] < [a]) ↔ b < a := by
    constructor
    · intro h
      cases h with
      | rel h => exact h
      | cons h => cases h
    · exact fun h => .rel h
  congr 1
  rw [Bool.eq_iff_iff]
  simp [this]
theorem mem_tx (c : Nat) (l : List Nat) (o o2 : O) : cmpSem .mem (tx [c], o) (tx l, o2) = some (decide (c ∈ l)) := by
  show chk (#[c].size = 1) (decide (c ∈ l)) = _
  unfold chk
  rw [if_pos (by rfl)]
theorem len_tx {l : List Nat} (h : l.length ≤ 100000) : lenSem (tx l) = some (.int l.length) := by
  show chk (l.toArray.size ≤ sizeLine) (PyData.int l.toArray.size) = _
  unfold chk
  rw [if_pos (by show l.length ≤ sizeLine; rw [sizeLine_eq]; omega)]
  rfl
theorem idx_tx {l : List Nat} (h : l.length ≤ 100000) {k : Nat} (hk : k < l.length) (o o2 : O) : idxSem (tx l, o) (.int (k : Int), o2) = some (fz (tx [l[k]])) := by
  show (if l.length ≤ sizeLine then (atI l (k : Int)).map (fun c => fz (.str ⟨#[c]⟩)) else none) = _
  rw [if_pos (by rw [sizeLine_eq]; omega), atI_nat (List.getElem?_eq_getElem hk)]
  rfl
theorem l_nl : PyData.str "\n" = tx [10] := congrArg PyData.str (by decide +kernel)
theorem l_sp : PyData.str " " = tx [32] := congrArg PyData.str (by decide +kernel)
theorem l_em : PyData.str "" = tx [] := congrArg PyData.str (by decide +kernel)
theorem l_re : PyData.str "#" = tx [35] := congrArg PyData.str (by decide +kernel)
theorem l_gt : PyData.str ">" = tx [62] := congrArg PyData.str (by decide +kernel)
theorem l_mi : PyData.str "-" = tx [45] := congrArg PyData.str (by decide +kernel)
theorem l_ar : PyData.str "->" = tx [45, 62] := congrArg PyData.str (by decide +kernel)
theorem l_gs : PyData.str " \n#" = tx [32, 10, 35] := congrArg PyData.str (by decide +kernel)
theorem l_us : PyData.str "_" = tx [95] := congrArg PyData.str (by decide +kernel)
theorem l_a : PyData.str "a" = tx [97] := congrArg PyData.str (by decide +kernel)
theorem l_z : PyData.str "z" = tx [122] := congrArg PyData.str (by decide +kernel)
theorem l_A : PyData.str "A" = tx [65] := congrArg PyData.str (by decide +kernel)
theorem l_Z : PyData.str "Z" = tx [90] := congrArg PyData.str (by decide +kernel)
theorem l_0 : PyData.str "0" = tx [48] := congrArg PyData.str (by decide +kernel)
theorem l_9 : PyData.str "9" = tx [57] := congrArg PyData.str (by decide +kernel)
theorem l_ins : PyData.str "# -> 3 ; x\n" = tx [35, 32, 45, 62, 32, 51, 32, 59, 32, 120, 10] := congrArg PyData.str (by decide +kernel)
theorem l_ha : PyData.str "# a" = tx [35, 32, 97] := congrArg PyData.str (by decide +kernel)
def wordL : List Nat := [97, 98, 99, 100, 101, 102, 103, 104, 105, 106, 107, 108, 109, 110, 111, 112, 113, 114, 115, 116, 117, 118, 119, 120, 121, 122, 65, 66, 67, 68, 69, 70, 71, 72, 73, 74, 75, 76, 77, 78, 79, 80, 81, 82, 83, 84, 85, 86, 87, 88, 89, 90, 48, 49, 50, 51, 52, 53, 54, 55, 56, 57, 95]
theorem cs_w : csD[0]? = some (tx wordL) := congrArg some (congrArg PyData.str (by decide +kernel))
theorem mem_word : ∀ c, c < 128 → decide (c ∈ wordL) = letC c := by decide +kernel
theorem mem_gs (c : Nat) : decide (c ∈ [32, 10, 35]) = gapC c := by
  rw [Bool.eq_iff_iff]
  simp [gapC]
  omega
theorem asc1 {c : Nat} (h : c < 128) : Asc [c] := .cons h .nil
theorem dec1 (a b : Nat) : decide ([a] = [b]) = (a == b) := by
  rw [Bool.eq_iff_iff]
  simp
theorem eqc {c d : Nat} (h : c < 128) (hd : d < 128) (o o2 : O) : cmpSem .eq (tx [c], o) (tx [d], o2) = some (c == d) := by rw [eq_tx (asc1 h) (asc1 hd), dec1]
theorem nec {c d : Nat} (h : c < 128) (hd : d < 128) (o o2 : O) : cmpSem .ne (tx [c], o) (tx [d], o2) = some (!(c == d)) := by rw [ne_tx (asc1 h) (asc1 hd), dec1]
theorem r_is_letter {c : Nat} (h : c < 128) : (c__law_is_letter).run (Phi_4 rounds) [(tx [c], .f)] = some ((.bool (letC c), .f), [none]) := by
  refine run_W ?_
  unfold c__law_is_letter
  simp only [l_us, l_a, l_z, l_A, l_Z, l_0, l_9]
  have h95 := eqc h (show 95 < 128 by decide)
  (try simp only [↓w_var, ↓w_lit, ↓w_cst, ↓w_bin, ↓w_neg, ↓w_cmp, ↓w_cmp2, ↓w_not, ↓w_and, ↓w_or, ↓w_ite, ↓w_truth, ↓w_tup, ↓w_lst, ↓w_idx, ↓w_slice, ↓w_rev, ↓w_bi, ↓w_meth, ↓w_mut, ↓w_evs_nil, ↓w_evs_cons, ↓w_evp_nil, ↓w_evp_cons, ↓w_evm_nil, ↓w_evm_cons, ↓w_seq, ↓w_range, ↓w_enum, ↓w_zip, ↓w_nil, ↓w_consR, ↓w_expr, ↓w_set, ↓w_setT, ↓w_par, ↓w_ret, ↓w_retN, ↓w_retv, ↓w_if, ↓w_pass, ↓w_brk, ↓w_cont, ↓w_turn, ↓varK_f, ↓varK_t, ↓varK_l, ↓varK_g, ↓boolK_t, ↓boolK_f, ↓boolK_b, ↓intK_i, ↓idxK_f, ↓idxK_t, ↓lstK_l, ↓slK_s, ↓seqK_l, ↓seqK_t, ↓liK_l, ↓enumK_l, ↓enumK_t, ↓enumK_s, ↓rgK_i, ↓zipK_l, ↓flK_nx, ↓flK_rt, ↓flK_bk, ↓flK_ct, ↓lpK_nx, ↓lpK_ct, ↓lpK_bk, ↓lpK_rt, ↓oK_some, ↓oK_none, ↓oK_map, ↓oK_bind, ↓oK_chk, ↓rK_some, Rho.at, List.getElem?_cons_zero, List.getElem?_cons_succ, Option.getD_some, List.set_cons_zero, List.set_cons_succ, E.quiet, quiets, It.quiet, Bool.and_true, Bool.true_and, Bool.and_false, Bool.false_and, binSem, addSem, memSem, idxSem, biSem, bi1, bi2, lenSem_l, lenSem_t, fz, truth_b, truth_n, truth_i, truth_l, truth_t, partE, sliceSem, revSem, absSem, intSem, seqOf_f, seqOf_l, seqOf_t, listD_l, tupD, isiB, isNone, bindT_name, bindT_tup, bindTs_nil, bindTs_cons, ↓oK_if, T.free, Ts.free, wipeR, noRef, setParR, muSem, mu1, mu0, ownL, List.all_cons, List.all_nil, List.contains_nil, List.map_cons, List.map_nil, List.length_cons, List.length_nil, Option.bind_some, Option.map_some, List.any_cons, List.any_nil, Bool.or_false, Bool.false_or, Bool.not_true, Bool.not_false, List.cons_append, List.nil_append, List.replicate_succ, List.replicate_zero, Nat.sub_self, refsOf, outsOf, reduceCtorEq, if_true, if_false, beq_self_eq_true, String.reduceBEq, and_true, true_and, forall_const, true_implies, false_implies, implies_true, Fl.rt.injEq, Prod.mk.injEq, PyData.bool.injEq, sh_int, sh_bool, sizeLine_eq, Nat.reduceLeDiff, Nat.reduceAdd, Nat.reduceLT, Nat.zero_le, Nat.reduceSub, true_or, or_true, false_or, or_false, and_false, false_and, Bool.false_eq_true, Bool.true_eq_false, not_true_eq_false, not_false_eq_true, exists_eq_left, exists_eq_left', exists_eq_right, exists_eq, Option.some.injEq, decide_true, decide_false, Nat.reduceEqDiff, List.length_map, boolsOf_mapf, all_mapf, any_mapf, small_0', _root_.eq_self, List.headD_cons, List.headD_nil, List.contains_cons, Nat.reduceBEq, Bool.not_false, Bool.or_self, Bool.and_self, ↓w_rest, h95, le_11])
  simp only [letC]
  cases decide (97 ≤ c) <;> cases decide (c ≤ 122) <;> cases decide (65 ≤ c) <;> cases decide (c ≤ 90) <;> cases decide (48 ≤ c) <;> cases decide (c ≤ 57) <;> cases c == 95 <;> simp [boolK]
/-- a text walked with the place of each sign -/
theorem drop_at {s : List Nat} {k : Nat} (h : k < s.length) : s.drop k = s[k] :: s.drop (k + 1) := List.drop_eq_getElem_cons h
theorem r_skipped {s : List Nat} (hs : Asc s) (hl : s.length ≤ 900) {a : Nat} (ha : a ≤ s.length) : (c_skipped).run (Phi_6 rounds) [(tx s, .f), (.int a, .f)] = some ((.int (a + skL false (s.drop a) : Nat), .f), [none, none]) := by
  refine run_W ?_
  unfold c_skipped
  simp only [l_nl, l_re, l_gs]
  (try simp only [↓w_var, ↓w_lit, ↓w_cst, ↓w_bin, ↓w_neg, ↓w_cmp, ↓w_cmp2, ↓w_not, ↓w_and, ↓w_or, ↓w_ite, ↓w_truth, ↓w_tup, ↓w_lst, ↓w_idx, ↓w_slice, ↓w_rev, ↓w_bi, ↓w_meth, ↓w_mut, ↓w_evs_nil, ↓w_evs_cons, ↓w_evp_nil, ↓w_evp_cons, ↓w_evm_nil, ↓w_evm_cons, ↓w_seq, ↓w_range, ↓w_enum, ↓w_zip, ↓w_nil, ↓w_consR, ↓w_expr, ↓w_set, ↓w_setT, ↓w_par, ↓w_ret, ↓w_retN, ↓w_retv, ↓w_if, ↓w_pass, ↓w_brk, ↓w_cont, ↓w_turn, ↓varK_f, ↓varK_t, ↓varK_l, ↓varK_g, ↓boolK_t, ↓boolK_f, ↓boolK_b, ↓intK_i, ↓idxK_f, ↓idxK_t, ↓lstK_l, ↓slK_s, ↓seqK_l, ↓seqK_t, ↓liK_l, ↓enumK_l, ↓enumK_t, ↓enumK_s, ↓rgK_i, ↓zipK_l, ↓flK_nx, ↓flK_rt, ↓flK_bk, ↓flK_ct, ↓lpK_nx, ↓lpK_ct, ↓lpK_bk, ↓lpK_rt, ↓oK_some, ↓oK_none, ↓oK_map, ↓oK_bind, ↓oK_chk, ↓rK_some, Rho.at, List.getElem?_cons_zero, List.getElem?_cons_succ, Option.getD_some, List.set_cons_zero, List.set_cons_succ, E.quiet, quiets, It.quiet, Bool.and_true, Bool.true_and, Bool.and_false, Bool.false_and, binSem, addSem, cmpSem, memSem, idxSem, biSem, bi1, bi2, lenSem_l, lenSem_t, fz, truth_b, truth_n, truth_i, truth_l, truth_t, partE, sliceSem, revSem, absSem, intSem, seqOf_f, seqOf_l, seqOf_t, listD_l, tupD, isiB, isNone, bindT_name, bindT_tup, bindTs_nil, bindTs_cons, ↓oK_if, T.free, Ts.free, wipeR, noRef, setParR, muSem, mu1, mu0, ownL, List.all_cons, List.all_nil, List.contains_nil, List.map_cons, List.map_nil, List.length_cons, List.length_nil, Option.bind_some, Option.map_some, List.any_cons, List.any_nil, Bool.or_false, Bool.false_or, Bool.not_true, Bool.not_false, List.cons_append, List.nil_append, List.replicate_succ, List.replicate_zero, Nat.sub_self, refsOf, outsOf, reduceCtorEq, if_true, if_false, beq_self_eq_true, String.reduceBEq, and_true, true_and, forall_const, true_implies, false_implies, implies_true, Fl.rt.injEq, Prod.mk.injEq, PyData.bool.injEq, sh_int, sh_bool, sizeLine_eq, Nat.reduceLeDiff, Nat.reduceAdd, Nat.reduceLT, Nat.zero_le, Nat.reduceSub, true_or, or_true, false_or, or_false, and_false, false_and, Bool.false_eq_true, Bool.true_eq_false, not_true_eq_false, not_false_eq_true, exists_eq_left, exists_eq_left', exists_eq_right, exists_eq, Option.some.injEq, decide_true, decide_false, Nat.reduceEqDiff, List.length_map, boolsOf_mapf, all_mapf, any_mapf, small_0', _root_.eq_self, List.headD_cons, List.headD_nil, List.contains_cons, Nat.reduceBEq, Bool.not_false, Bool.or_self, Bool.and_self, ↓w_rest])
  rw [Rest]
  (try simp only [↓w_var, ↓w_lit, ↓w_cst, ↓w_bin, ↓w_neg, ↓w_cmp, ↓w_cmp2, ↓w_not, ↓w_and, ↓w_or, ↓w_ite, ↓w_truth, ↓w_tup, ↓w_lst, ↓w_idx, ↓w_slice, ↓w_rev, ↓w_bi, ↓w_meth, ↓w_mut, ↓w_evs_nil, ↓w_evs_cons, ↓w_evp_nil, ↓w_evp_cons, ↓w_evm_nil, ↓w_evm_cons, ↓w_seq, ↓w_range, ↓w_enum, ↓w_zip, ↓w_nil, ↓w_consR, ↓w_expr, ↓w_set, ↓w_setT, ↓w_par, ↓w_ret, ↓w_retN, ↓w_retv, ↓w_if, ↓w_pass, ↓w_brk, ↓w_cont, ↓w_turn, ↓varK_f, ↓varK_t, ↓varK_l, ↓varK_g, ↓boolK_t, ↓boolK_f, ↓boolK_b, ↓intK_i, ↓idxK_f, ↓idxK_t, ↓lstK_l, ↓slK_s, ↓seqK_l, ↓seqK_t, ↓liK_l, ↓enumK_l, ↓enumK_t, ↓enumK_s, ↓rgK_i, ↓zipK_l, ↓flK_nx, ↓flK_rt, ↓flK_bk, ↓flK_ct, ↓lpK_nx, ↓lpK_ct, ↓lpK_bk, ↓lpK_rt, ↓oK_some, ↓oK_none, ↓oK_map, ↓oK_bind, ↓oK_chk, ↓rK_some, Rho.at, List.getElem?_cons_zero, List.getElem?_cons_succ, Option.getD_some, List.set_cons_zero, List.set_cons_succ, E.quiet, quiets, It.quiet, Bool.and_true, Bool.true_and, Bool.and_false, Bool.false_and, binSem, addSem, cmpSem, memSem, idxSem, biSem, bi1, bi2, lenSem_l, lenSem_t, fz, truth_b, truth_n, truth_i, truth_l, truth_t, partE, sliceSem, revSem, absSem, intSem, seqOf_f, seqOf_l, seqOf_t, listD_l, tupD, isiB, isNone, bindT_name, bindT_tup, bindTs_nil, bindTs_cons, ↓oK_if, T.free, Ts.free, wipeR, noRef, setParR, muSem, mu1, mu0, ownL, List.all_cons, List.all_nil, List.contains_nil, List.map_cons, List.map_nil, List.length_cons, List.length_nil, Option.bind_some, Option.map_some, List.any_cons, List.any_nil, Bool.or_false, Bool.false_or, Bool.not_true, Bool.not_false, List.cons_append, List.nil_append, List.replicate_succ, List.replicate_zero, Nat.sub_self, refsOf, outsOf, reduceCtorEq, if_true, if_false, beq_self_eq_true, String.reduceBEq, and_true, true_and, forall_const, true_implies, false_implies, implies_true, Fl.rt.injEq, Prod.mk.injEq, PyData.bool.injEq, sh_int, sh_bool, sizeLine_eq, Nat.reduceLeDiff, Nat.reduceAdd, Nat.reduceLT, Nat.zero_le, Nat.reduceSub, true_or, or_true, false_or, or_false, and_false, false_and, Bool.false_eq_true, Bool.true_eq_false, not_true_eq_false, not_false_eq_true, exists_eq_left, exists_eq_left', exists_eq_right, exists_eq, Option.some.injEq, decide_true, decide_false, Nat.reduceEqDiff, List.length_map, boolsOf_mapf, all_mapf, any_mapf, small_0', _root_.eq_self, List.headD_cons, List.headD_nil, List.contains_cons, Nat.reduceBEq, Bool.not_false, Bool.or_self, Bool.and_self, ↓w_rest])
  refine W.while_ (fun m ρ => ∃ (k : Nat) (b : Bool), ρ = [some (tx s, .f), some (.int k, .f), some (.bool b, .f)] ∧ k ≤ s.length ∧ m = s.length - k ∧ k + skL b (s.drop k) = a + skL false (s.drop a)) (n := s.length - a) (by show _ < 1000; omega) ⟨a, false, rfl, ha, rfl, rfl⟩ ?_
  rintro m ρ ⟨k, b, rfl, hk, rfl, he⟩
  (try simp only [↓w_var, ↓w_lit, ↓w_cst, ↓w_bin, ↓w_neg, ↓w_cmp, ↓w_cmp2, ↓w_not, ↓w_and, ↓w_or, ↓w_ite, ↓w_truth, ↓w_tup, ↓w_lst, ↓w_idx, ↓w_slice, ↓w_rev, ↓w_bi, ↓w_meth, ↓w_mut, ↓w_evs_nil, ↓w_evs_cons, ↓w_evp_nil, ↓w_evp_cons, ↓w_evm_nil, ↓w_evm_cons, ↓w_seq, ↓w_range, ↓w_enum, ↓w_zip, ↓w_nil, ↓w_consR, ↓w_expr, ↓w_set, ↓w_setT, ↓w_par, ↓w_ret, ↓w_retN, ↓w_retv, ↓w_if, ↓w_pass, ↓w_brk, ↓w_cont, ↓w_turn, ↓varK_f, ↓varK_t, ↓varK_l, ↓varK_g, ↓boolK_t, ↓boolK_f, ↓boolK_b, ↓intK_i, ↓idxK_f, ↓idxK_t, ↓lstK_l, ↓slK_s, ↓seqK_l, ↓seqK_t, ↓liK_l, ↓enumK_l, ↓enumK_t, ↓enumK_s, ↓rgK_i, ↓zipK_l, ↓flK_nx, ↓flK_rt, ↓flK_bk, ↓flK_ct, ↓lpK_nx, ↓lpK_ct, ↓lpK_bk, ↓lpK_rt, ↓oK_some, ↓oK_none, ↓oK_map, ↓oK_bind, ↓oK_chk, ↓rK_some, Rho.at, List.getElem?_cons_zero, List.getElem?_cons_succ, Option.getD_some, List.set_cons_zero, List.set_cons_succ, E.quiet, quiets, It.quiet, Bool.and_true, Bool.true_and, Bool.and_false, Bool.false_and, binSem, addSem, biSem, bi1, bi2, lenSem_l, lenSem_t, fz, truth_b, truth_n, truth_i, truth_l, truth_t, partE, sliceSem, revSem, absSem, intSem, seqOf_f, seqOf_l, seqOf_t, listD_l, tupD, isiB, isNone, bindT_name, bindT_tup, bindTs_nil, bindTs_cons, ↓oK_if, T.free, Ts.free, wipeR, noRef, setParR, muSem, mu1, mu0, ownL, List.all_cons, List.all_nil, List.contains_nil, List.map_cons, List.map_nil, List.length_cons, List.length_nil, Option.bind_some, Option.map_some, List.any_cons, List.any_nil, Bool.or_false, Bool.false_or, Bool.not_true, Bool.not_false, List.cons_append, List.nil_append, List.replicate_succ, List.replicate_zero, Nat.sub_self, refsOf, outsOf, reduceCtorEq, if_true, if_false, beq_self_eq_true, String.reduceBEq, and_true, true_and, forall_const, true_implies, false_implies, implies_true, Fl.rt.injEq, Prod.mk.injEq, PyData.bool.injEq, sh_int, sh_bool, sizeLine_eq, Nat.reduceLeDiff, Nat.reduceAdd, Nat.reduceLT, Nat.zero_le, Nat.reduceSub, true_or, or_true, false_or, or_false, and_false, false_and, Bool.false_eq_true, Bool.true_eq_false, not_true_eq_false, not_false_eq_true, exists_eq_left, exists_eq_left', exists_eq_right, exists_eq, Option.some.injEq, decide_true, decide_false, Nat.reduceEqDiff, List.length_map, boolsOf_mapf, all_mapf, any_mapf, small_0', _root_.eq_self, List.headD_cons, List.headD_nil, List.contains_cons, Nat.reduceBEq, Bool.not_false, Bool.or_self, Bool.and_self, ↓w_rest, lt_ii, le_ii, gt_ii, ge_ii, idx_lf, idx_ll, idx_t, len_tx (l := s) (by omega)])
  by_cases hlt : k < s.length
  · have h1 : s[k] < 128 := hs _ (List.getElem_mem hlt)
    have hlt2 : (k : Int) < s.length := by omega
    have hd := drop_at hlt
    (try simp only [↓w_var, ↓w_lit, ↓w_cst, ↓w_bin, ↓w_neg, ↓w_cmp, ↓w_cmp2, ↓w_not, ↓w_and, ↓w_or, ↓w_ite, ↓w_truth, ↓w_tup, ↓w_lst, ↓w_idx, ↓w_slice, ↓w_rev, ↓w_bi, ↓w_meth, ↓w_mut, ↓w_evs_nil, ↓w_evs_cons, ↓w_evp_nil, ↓w_evp_cons, ↓w_evm_nil, ↓w_evm_cons, ↓w_seq, ↓w_range, ↓w_enum, ↓w_zip, ↓w_nil, ↓w_consR, ↓w_expr, ↓w_set, ↓w_setT, ↓w_par, ↓w_ret, ↓w_retN, ↓w_retv, ↓w_if, ↓w_pass, ↓w_brk, ↓w_cont, ↓w_turn, ↓varK_f, ↓varK_t, ↓varK_l, ↓varK_g, ↓boolK_t, ↓boolK_f, ↓boolK_b, ↓intK_i, ↓idxK_f, ↓idxK_t, ↓lstK_l, ↓slK_s, ↓seqK_l, ↓seqK_t, ↓liK_l, ↓enumK_l, ↓enumK_t, ↓enumK_s, ↓rgK_i, ↓zipK_l, ↓flK_nx, ↓flK_rt, ↓flK_bk, ↓flK_ct, ↓lpK_nx, ↓lpK_ct, ↓lpK_bk, ↓lpK_rt, ↓oK_some, ↓oK_none, ↓oK_map, ↓oK_bind, ↓oK_chk, ↓rK_some, Rho.at, List.getElem?_cons_zero, List.getElem?_cons_succ, Option.getD_some, List.set_cons_zero, List.set_cons_succ, E.quiet, quiets, It.quiet, Bool.and_true, Bool.true_and, Bool.and_false, Bool.false_and, binSem, addSem, biSem, bi1, bi2, lenSem_l, lenSem_t, fz, truth_b, truth_n, truth_i, truth_l, truth_t, partE, sliceSem, revSem, absSem, intSem, seqOf_f, seqOf_l, seqOf_t, listD_l, tupD, isiB, isNone, bindT_name, bindT_tup, bindTs_nil, bindTs_cons, ↓oK_if, T.free, Ts.free, wipeR, noRef, setParR, muSem, mu1, mu0, ownL, List.all_cons, List.all_nil, List.contains_nil, List.map_cons, List.map_nil, List.length_cons, List.length_nil, Option.bind_some, Option.map_some, List.any_cons, List.any_nil, Bool.or_false, Bool.false_or, Bool.not_true, Bool.not_false, List.cons_append, List.nil_append, List.replicate_succ, List.replicate_zero, Nat.sub_self, refsOf, outsOf, reduceCtorEq, if_true, if_false, beq_self_eq_true, String.reduceBEq, and_true, true_and, forall_const, true_implies, false_implies, implies_true, Fl.rt.injEq, Prod.mk.injEq, PyData.bool.injEq, sh_int, sh_bool, sizeLine_eq, Nat.reduceLeDiff, Nat.reduceAdd, Nat.reduceLT, Nat.zero_le, Nat.reduceSub, true_or, or_true, false_or, or_false, and_false, false_and, Bool.false_eq_true, Bool.true_eq_false, not_true_eq_false, not_false_eq_true, exists_eq_left, exists_eq_left', exists_eq_right, exists_eq, Option.some.injEq, decide_true, decide_false, Nat.reduceEqDiff, List.length_map, boolsOf_mapf, all_mapf, any_mapf, small_0', _root_.eq_self, List.headD_cons, List.headD_nil, List.contains_cons, Nat.reduceBEq, Bool.not_false, Bool.or_self, Bool.and_self, ↓w_rest, lt_ii, le_ii, gt_ii, ge_ii, idx_lf, idx_ll, idx_t, hlt2, idx_tx (l := s) (by omega) hlt, mem_tx, mem_gs, nec h1 (show 10 < 128 by decide), eqc h1 (show 35 < 128 by decide)])
    rw [hd] at he
    cases b <;> cases e10 : (s[k] == 10) <;> cases eg : gapC s[k] <;> cases e35 : (s[k] == 35)
    all_goals
      simp only [skL, e10, eg, e35, bne, Bool.not_true, Bool.not_false, Bool.or_self, Bool.false_or, Bool.true_or, Bool.or_false, Bool.or_true, Bool.and_false, Bool.and_true, Bool.false_and, Bool.true_and, if_true, if_false, Bool.false_eq_true] at he
      (try simp only [↓w_var, ↓w_lit, ↓w_cst, ↓w_bin, ↓w_neg, ↓w_cmp, ↓w_cmp2, ↓w_not, ↓w_and, ↓w_or, ↓w_ite, ↓w_truth, ↓w_tup, ↓w_lst, ↓w_idx, ↓w_slice, ↓w_rev, ↓w_bi, ↓w_meth, ↓w_mut, ↓w_evs_nil, ↓w_evs_cons, ↓w_evp_nil, ↓w_evp_cons, ↓w_evm_nil, ↓w_evm_cons, ↓w_seq, ↓w_range, ↓w_enum, ↓w_zip, ↓w_nil, ↓w_consR, ↓w_expr, ↓w_set, ↓w_setT, ↓w_par, ↓w_ret, ↓w_retN, ↓w_retv, ↓w_if, ↓w_pass, ↓w_brk, ↓w_cont, ↓w_turn, ↓varK_f, ↓varK_t, ↓varK_l, ↓varK_g, ↓boolK_t, ↓boolK_f, ↓boolK_b, ↓intK_i, ↓idxK_f, ↓idxK_t, ↓lstK_l, ↓slK_s, ↓seqK_l, ↓seqK_t, ↓liK_l, ↓enumK_l, ↓enumK_t, ↓enumK_s, ↓rgK_i, ↓zipK_l, ↓flK_nx, ↓flK_rt, ↓flK_bk, ↓flK_ct, ↓lpK_nx, ↓lpK_ct, ↓lpK_bk, ↓lpK_rt, ↓oK_some, ↓oK_none, ↓oK_map, ↓oK_bind, ↓oK_chk, ↓rK_some, Rho.at, List.getElem?_cons_zero, List.getElem?_cons_succ, Option.getD_some, List.set_cons_zero, List.set_cons_succ, E.quiet, quiets, It.quiet, Bool.and_true, Bool.true_and, Bool.and_false, Bool.false_and, binSem, addSem, biSem, bi1, bi2, lenSem_l, lenSem_t, fz, truth_b, truth_n, truth_i, truth_l, truth_t, partE, sliceSem, revSem, absSem, intSem, seqOf_f, seqOf_l, seqOf_t, listD_l, tupD, isiB, isNone, bindT_name, bindT_tup, bindTs_nil, bindTs_cons, ↓oK_if, T.free, Ts.free, wipeR, noRef, setParR, muSem, mu1, mu0, ownL, List.all_cons, List.all_nil, List.contains_nil, List.map_cons, List.map_nil, List.length_cons, List.length_nil, Option.bind_some, Option.map_some, List.any_cons, List.any_nil, Bool.or_false, Bool.false_or, Bool.not_true, Bool.not_false, List.cons_append, List.nil_append, List.replicate_succ, List.replicate_zero, Nat.sub_self, refsOf, outsOf, reduceCtorEq, if_true, if_false, beq_self_eq_true, String.reduceBEq, and_true, true_and, forall_const, true_implies, false_implies, implies_true, Fl.rt.injEq, Prod.mk.injEq, PyData.bool.injEq, sh_int, sh_bool, sizeLine_eq, Nat.reduceLeDiff, Nat.reduceAdd, Nat.reduceLT, Nat.zero_le, Nat.reduceSub, true_or, or_true, false_or, or_false, and_false, false_and, Bool.false_eq_true, Bool.true_eq_false, not_true_eq_false, not_false_eq_true, exists_eq_left, exists_eq_left', exists_eq_right, exists_eq, Option.some.injEq, decide_true, decide_false, Nat.reduceEqDiff, List.length_map, boolsOf_mapf, all_mapf, any_mapf, small_0', _root_.eq_self, List.headD_cons, List.headD_nil, List.contains_cons, Nat.reduceBEq, Bool.not_false, Bool.or_self, Bool.and_self, ↓w_rest, lt_ii, le_ii, gt_ii, ge_ii, idx_lf, idx_ll, idx_t])
      try rw [Rest]
      (try simp only [↓w_var, ↓w_lit, ↓w_cst, ↓w_bin, ↓w_neg, ↓w_cmp, ↓w_cmp2, ↓w_not, ↓w_and, ↓w_or, ↓w_ite, ↓w_truth, ↓w_tup, ↓w_lst, ↓w_idx, ↓w_slice, ↓w_rev, ↓w_bi, ↓w_meth, ↓w_mut, ↓w_evs_nil, ↓w_evs_cons, ↓w_evp_nil, ↓w_evp_cons, ↓w_evm_nil, ↓w_evm_cons, ↓w_seq, ↓w_range, ↓w_enum, ↓w_zip, ↓w_nil, ↓w_consR, ↓w_expr, ↓w_set, ↓w_setT, ↓w_par, ↓w_ret, ↓w_retN, ↓w_retv, ↓w_if, ↓w_pass, ↓w_brk, ↓w_cont, ↓w_turn, ↓varK_f, ↓varK_t, ↓varK_l, ↓varK_g, ↓boolK_t, ↓boolK_f, ↓boolK_b, ↓intK_i, ↓idxK_f, ↓idxK_t, ↓lstK_l, ↓slK_s, ↓seqK_l, ↓seqK_t, ↓liK_l, ↓enumK_l, ↓enumK_t, ↓enumK_s, ↓rgK_i, ↓zipK_l, ↓flK_nx, ↓flK_rt, ↓flK_bk, ↓flK_ct, ↓lpK_nx, ↓lpK_ct, ↓lpK_bk, ↓lpK_rt, ↓oK_some, ↓oK_none, ↓oK_map, ↓oK_bind, ↓oK_chk, ↓rK_some, Rho.at, List.getElem?_cons_zero, List.getElem?_cons_succ, Option.getD_some, List.set_cons_zero, List.set_cons_succ, E.quiet, quiets, It.quiet, Bool.and_true, Bool.true_and, Bool.and_false, Bool.false_and, binSem, addSem, biSem, bi1, bi2, lenSem_l, lenSem_t, fz, truth_b, truth_n, truth_i, truth_l, truth_t, partE, sliceSem, revSem, absSem, intSem, seqOf_f, seqOf_l, seqOf_t, listD_l, tupD, isiB, isNone, bindT_name, bindT_tup, bindTs_nil, bindTs_cons, ↓oK_if, T.free, Ts.free, wipeR, noRef, setParR, muSem, mu1, mu0, ownL, List.all_cons, List.all_nil, List.contains_nil, List.map_cons, List.map_nil, List.length_cons, List.length_nil, Option.bind_some, Option.map_some, List.any_cons, List.any_nil, Bool.or_false, Bool.false_or, Bool.not_true, Bool.not_false, List.cons_append, List.nil_append, List.replicate_succ, List.replicate_zero, Nat.sub_self, refsOf, outsOf, reduceCtorEq, if_true, if_false, beq_self_eq_true, String.reduceBEq, and_true, true_and, forall_const, true_implies, false_implies, implies_true, Fl.rt.injEq, Prod.mk.injEq, PyData.bool.injEq, sh_int, sh_bool, sizeLine_eq, Nat.reduceLeDiff, Nat.reduceAdd, Nat.reduceLT, Nat.zero_le, Nat.reduceSub, true_or, or_true, false_or, or_false, and_false, false_and, Bool.false_eq_true, Bool.true_eq_false, not_true_eq_false, not_false_eq_true, exists_eq_left, exists_eq_left', exists_eq_right, exists_eq, Option.some.injEq, decide_true, decide_false, Nat.reduceEqDiff, List.length_map, boolsOf_mapf, all_mapf, any_mapf, small_0', _root_.eq_self, List.headD_cons, List.headD_nil, List.contains_cons, Nat.reduceBEq, Bool.not_false, Bool.or_self, Bool.and_self, ↓w_rest, lt_ii, le_ii, gt_ii, ge_ii, idx_lf, idx_ll, idx_t])
      first
        | exact ⟨s.length - (k + 1), by omega, k + 1, _, rfl, by omega, rfl, by omega⟩
        | exact congrArg (fun n : Nat => PyData.int (n : Int)) (by omega)
  · have e : s.length = k := by omega
    have hlt2 : ¬ (k : Int) < s.length := by omega
    rw [List.drop_of_length_le (by omega)] at he
    have he : k = a + skL false (s.drop a) := by cases b <;> exact he
    (try simp only [↓w_var, ↓w_lit, ↓w_cst, ↓w_bin, ↓w_neg, ↓w_cmp, ↓w_cmp2, ↓w_not, ↓w_and, ↓w_or, ↓w_ite, ↓w_truth, ↓w_tup, ↓w_lst, ↓w_idx, ↓w_slice, ↓w_rev, ↓w_bi, ↓w_meth, ↓w_mut, ↓w_evs_nil, ↓w_evs_cons, ↓w_evp_nil, ↓w_evp_cons, ↓w_evm_nil, ↓w_evm_cons, ↓w_seq, ↓w_range, ↓w_enum, ↓w_zip, ↓w_nil, ↓w_consR, ↓w_expr, ↓w_set, ↓w_setT, ↓w_par, ↓w_ret, ↓w_retN, ↓w_retv, ↓w_if, ↓w_pass, ↓w_brk, ↓w_cont, ↓w_turn, ↓varK_f, ↓varK_t, ↓varK_l, ↓varK_g, ↓boolK_t, ↓boolK_f, ↓boolK_b, ↓intK_i, ↓idxK_f, ↓idxK_t, ↓lstK_l, ↓slK_s, ↓seqK_l, ↓seqK_t, ↓liK_l, ↓enumK_l, ↓enumK_t, ↓enumK_s, ↓rgK_i, ↓zipK_l, ↓flK_nx, ↓flK_rt, ↓flK_bk, ↓flK_ct, ↓lpK_nx, ↓lpK_ct, ↓lpK_bk, ↓lpK_rt, ↓oK_some, ↓oK_none, ↓oK_map, ↓oK_bind, ↓oK_chk, ↓rK_some, Rho.at, List.getElem?_cons_zero, List.getElem?_cons_succ, Option.getD_some, List.set_cons_zero, List.set_cons_succ, E.quiet, quiets, It.quiet, Bool.and_true, Bool.true_and, Bool.and_false, Bool.false_and, binSem, addSem, biSem, bi1, bi2, lenSem_l, lenSem_t, fz, truth_b, truth_n, truth_i, truth_l, truth_t, partE, sliceSem, revSem, absSem, intSem, seqOf_f, seqOf_l, seqOf_t, listD_l, tupD, isiB, isNone, bindT_name, bindT_tup, bindTs_nil, bindTs_cons, ↓oK_if, T.free, Ts.free, wipeR, noRef, setParR, muSem, mu1, mu0, ownL, List.all_cons, List.all_nil, List.contains_nil, List.map_cons, List.map_nil, List.length_cons, List.length_nil, Option.bind_some, Option.map_some, List.any_cons, List.any_nil, Bool.or_false, Bool.false_or, Bool.not_true, Bool.not_false, List.cons_append, List.nil_append, List.replicate_succ, List.replicate_zero, Nat.sub_self, refsOf, outsOf, reduceCtorEq, if_true, if_false, beq_self_eq_true, String.reduceBEq, and_true, true_and, forall_const, true_implies, false_implies, implies_true, Fl.rt.injEq, Prod.mk.injEq, PyData.bool.injEq, sh_int, sh_bool, sizeLine_eq, Nat.reduceLeDiff, Nat.reduceAdd, Nat.reduceLT, Nat.zero_le, Nat.reduceSub, true_or, or_true, false_or, or_false, and_false, false_and, Bool.false_eq_true, Bool.true_eq_false, not_true_eq_false, not_false_eq_true, exists_eq_left, exists_eq_left', exists_eq_right, exists_eq, Option.some.injEq, decide_true, decide_false, Nat.reduceEqDiff, List.length_map, boolsOf_mapf, all_mapf, any_mapf, small_0', _root_.eq_self, List.headD_cons, List.headD_nil, List.contains_cons, Nat.reduceBEq, Bool.not_false, Bool.or_self, Bool.and_self, ↓w_rest, lt_ii, le_ii, gt_ii, ge_ii, idx_lf, idx_ll, idx_t, hlt2])
    rw [Rest]
    (try simp only [↓w_var, ↓w_lit, ↓w_cst, ↓w_bin, ↓w_neg, ↓w_cmp, ↓w_cmp2, ↓w_not, ↓w_and, ↓w_or, ↓w_ite, ↓w_truth, ↓w_tup, ↓w_lst, ↓w_idx, ↓w_slice, ↓w_rev, ↓w_bi, ↓w_meth, ↓w_mut, ↓w_evs_nil, ↓w_evs_cons, ↓w_evp_nil, ↓w_evp_cons, ↓w_evm_nil, ↓w_evm_cons, ↓w_seq, ↓w_range, ↓w_enum, ↓w_zip, ↓w_nil, ↓w_consR, ↓w_expr, ↓w_set, ↓w_setT, ↓w_par, ↓w_ret, ↓w_retN, ↓w_retv, ↓w_if, ↓w_pass, ↓w_brk, ↓w_cont, ↓w_turn, ↓varK_f, ↓varK_t, ↓varK_l, ↓varK_g, ↓boolK_t, ↓boolK_f, ↓boolK_b, ↓intK_i, ↓idxK_f, ↓idxK_t, ↓lstK_l, ↓slK_s, ↓seqK_l, ↓seqK_t, ↓liK_l, ↓enumK_l, ↓enumK_t, ↓enumK_s, ↓rgK_i, ↓zipK_l, ↓flK_nx, ↓flK_rt, ↓flK_bk, ↓flK_ct, ↓lpK_nx, ↓lpK_ct, ↓lpK_bk, ↓lpK_rt, ↓oK_some, ↓oK_none, ↓oK_map, ↓oK_bind, ↓oK_chk, ↓rK_some, Rho.at, List.getElem?_cons_zero, List.getElem?_cons_succ, Option.getD_some, List.set_cons_zero, List.set_cons_succ, E.quiet, quiets, It.quiet, Bool.and_true, Bool.true_and, Bool.and_false, Bool.false_and, binSem, addSem, biSem, bi1, bi2, lenSem_l, lenSem_t, fz, truth_b, truth_n, truth_i, truth_l, truth_t, partE, sliceSem, revSem, absSem, intSem, seqOf_f, seqOf_l, seqOf_t, listD_l, tupD, isiB, isNone, bindT_name, bindT_tup, bindTs_nil, bindTs_cons, ↓oK_if, T.free, Ts.free, wipeR, noRef, setParR, muSem, mu1, mu0, ownL, List.all_cons, List.all_nil, List.contains_nil, List.map_cons, List.map_nil, List.length_cons, List.length_nil, Option.bind_some, Option.map_some, List.any_cons, List.any_nil, Bool.or_false, Bool.false_or, Bool.not_true, Bool.not_false, List.cons_append, List.nil_append, List.replicate_succ, List.replicate_zero, Nat.sub_self, refsOf, outsOf, reduceCtorEq, if_true, if_false, beq_self_eq_true, String.reduceBEq, and_true, true_and, forall_const, true_implies, false_implies, implies_true, Fl.rt.injEq, Prod.mk.injEq, PyData.bool.injEq, sh_int, sh_bool, sizeLine_eq, Nat.reduceLeDiff, Nat.reduceAdd, Nat.reduceLT, Nat.zero_le, Nat.reduceSub, true_or, or_true, false_or, or_false, and_false, false_and, Bool.false_eq_true, Bool.true_eq_false, not_true_eq_false, not_false_eq_true, exists_eq_left, exists_eq_left', exists_eq_right, exists_eq, Option.some.injEq, decide_true, decide_false, Nat.reduceEqDiff, List.length_map, boolsOf_mapf, all_mapf, any_mapf, small_0', _root_.eq_self, List.headD_cons, List.headD_nil, List.contains_cons, Nat.reduceBEq, Bool.not_false, Bool.or_self, Bool.and_self, ↓w_rest, lt_ii, le_ii, gt_ii, ge_ii, idx_lf, idx_ll, idx_t])
    exact congrArg (fun n : Nat => PyData.int (n : Int)) he
end Law
/-! k05: cut, joined and shown texts. -/
namespace Law
set_option maxHeartbeats 4000000
open Ev PySem PySem.Spec L2
theorem take_min (l : List Nat) (a b : Nat) : (l.drop (min a l.length)).take (min b l.length - min a l.length) = (l.drop a).take (b - a) := by
  by_cases h : a ≤ l.length
  · rw [Nat.min_eq_left h]
    refine List.take_eq_take_iff.mpr ?_
    rw [List.length_drop]
    omega
  · rw [List.drop_of_length_le (i := a) (by omega), Nat.min_eq_right (a := a) (by omega), List.drop_of_length_le (i := l.length) (by omega)]
    simp
theorem slice_tx {l : List Nat} (h : l.length ≤ 100000) (a b : Nat) (o : O) : sliceSem (tx l, o) (some (a : Int)) (some (b : Int)) = some (fz (tx ((l.drop a).take (b - a)))) := by
  show chk (l.toArray.size ≤ sizeLine) (fz (.str (cutS ⟨l.toArray⟩ (some (a : Int)) (some (b : Int))))) = _
  unfold chk
  rw [if_pos (by show l.length ≤ sizeLine; rw [sizeLine_eq]; omega)]
  unfold cutS
  rw [HT.sIx_nat, HT.sIx_nat]
  show some (fz (.str ⟨((l.drop (min a l.length)).take (min b l.length - min a l.length)).toArray⟩)) = _
  rw [take_min]
  rfl
theorem slice_to {l : List Nat} (h : l.length ≤ 100000) (b : Nat) (o : O) : sliceSem (tx l, o) none (some (b : Int)) = some (fz (tx (l.take b))) := by
  show chk (l.toArray.size ≤ sizeLine) (fz (.str (cutS ⟨l.toArray⟩ none (some (b : Int))))) = _
  unfold chk
  rw [if_pos (by show l.length ≤ sizeLine; rw [sizeLine_eq]; omega)]
  unfold cutS
  rw [HT.sIx_nat, HT.sIx_none]
  show some (fz (.str ⟨((l.drop 0).take (min b l.length - 0)).toArray⟩)) = _
  rw [List.drop_zero, Nat.sub_zero, show l.take (min b l.length) = l.take b from List.take_eq_take_iff.mpr (by omega)]
  rfl
theorem slice_fr {l : List Nat} (h : l.length ≤ 100000) (a : Nat) (o : O) : sliceSem (tx l, o) (some (a : Int)) none = some (fz (tx (l.drop a))) := by
  show chk (l.toArray.size ≤ sizeLine) (fz (.str (cutS ⟨l.toArray⟩ (some (a : Int)) none))) = _
  unfold chk
  rw [if_pos (by show l.length ≤ sizeLine; rw [sizeLine_eq]; omega)]
  unfold cutS
  rw [HT.sIx_nat, HT.sIx_none]
  show some (fz (.str ⟨((l.drop (min a l.length)).take (l.length - min a l.length)).toArray⟩)) = _
  have := take_min l a l.length
  rw [Nat.min_self] at this
  rw [this, List.take_of_length_le (by rw [List.length_drop]; omega)]
  rfl
theorem cut_lo (ds : List PyData) (k : Nat) : cutD ds none (some (k : Int)) = ds.take k := by
  unfold cutD
  rw [HT.sIx_nat, HT.sIx_none, List.drop_zero, Nat.sub_zero]
  exact List.take_eq_take_iff.mpr (by omega)
theorem cut_hi (ds : List PyData) (k : Nat) : cutD ds (some (k : Int)) none = ds.drop k := by
  unfold cutD
  rw [HT.sIx_nat, HT.sIx_none]
  by_cases h : k ≤ ds.length
  · rw [Nat.min_eq_left h, List.take_of_length_le (by rw [List.length_drop]; omega)]
  · rw [Nat.min_eq_right (by omega), List.drop_of_length_le (i := k) (by omega), List.drop_of_length_le (i := ds.length) (by omega)]
    simp
theorem add_tx {a b : List Nat} (h : a.length + b.length ≤ 100000) (o o2 : O) : addSem (tx a, o) (tx b, o2) = some (fz (tx (a ++ b))) := by
  show chk (a.toArray.size + b.toArray.size ≤ sizeLine) (fz (.str ((⟨a.toArray⟩ : Str) ++ ⟨b.toArray⟩))) = _
  unfold chk
  rw [if_pos (by show a.length + b.length ≤ sizeLine; rw [sizeLine_eq]; omega)]
  show some (fz (.str ⟨a.toArray ++ b.toArray⟩)) = _
  rw [List.append_toArray]
  rfl
/-! ### joins -/
theorem glue_fold (sep : Nat) : ∀ (ts : List (List Nat)) (a : List Nat), (ts.map fun t => (⟨t.toArray⟩ : Str)).foldl (fun acc p => acc ++ #[sep] ++ p.cps) a.toArray = (jn sep (a :: ts)).toArray
  | [], a => rfl
  | t :: ts, a => by
    rw [List.map_cons, List.foldl_cons]
    show (ts.map fun t => (⟨t.toArray⟩ : Str)).foldl (fun acc p => acc ++ #[sep] ++ p.cps) (a.toArray ++ [sep].toArray ++ t.toArray) = _
    rw [List.append_toArray, List.append_toArray, glue_fold sep ts]
    cases ts with
    | nil => simp [jn]
    | cons u ts => simp [jn]
theorem join_tx (sep : Nat) (ts : List (List Nat)) : Txt.join ⟨#[sep]⟩ (ts.map fun t => (⟨t.toArray⟩ : Str)) = ⟨(jn sep ts).toArray⟩ := by
  cases ts with
  | nil => rfl
  | cons t ts => exact congrArg Str.mk (glue_fold sep ts t)
theorem glue_fold0 : ∀ (ts : List (List Nat)) (a : List Nat), (ts.map fun t => (⟨t.toArray⟩ : Str)).foldl (fun acc p => acc ++ #[] ++ p.cps) a.toArray = (a ++ ts.flatten).toArray
  | [], a => by simp
  | t :: ts, a => by
    rw [List.map_cons, List.foldl_cons]
    show (ts.map fun t => (⟨t.toArray⟩ : Str)).foldl (fun acc p => acc ++ #[] ++ p.cps) (a.toArray ++ [].toArray ++ t.toArray) = _
    rw [List.append_toArray, List.append_toArray, glue_fold0 ts]
    simp
theorem join_tx0 (ts : List (List Nat)) : Txt.join ⟨#[]⟩ (ts.map fun t => (⟨t.toArray⟩ : Str)) = ⟨ts.flatten.toArray⟩ := by
  cases ts with
  | nil => rfl
  | cons t ts => exact congrArg Str.mk (glue_fold0 ts t)
theorem strs_tx (ts : List (List Nat)) : strsOf (ts.map tx) = some (ts.map fun t => (⟨t.toArray⟩ : Str)) := by
  rw [show ts.map tx = (ts.map fun t => (⟨t.toArray⟩ : Str)).map PyData.str by rw [List.map_map]; rfl]
  exact strsOf_map _
theorem len_strs (ts : List (List Nat)) : ((ts.map fun t => (⟨t.toArray⟩ : Str)).map (·.length)) = ts.map List.length := by
  rw [List.map_map]
  exact List.map_congr_left fun t _ => rfl
theorem jn_len (sep : Nat) : ∀ ts : List (List Nat), (jn sep ts).length ≤ (ts.map List.length).sum + ts.length
  | [] => Nat.zero_le _
  | [t] => by simp [jn]
  | t :: u :: ts => by
    have := jn_len sep (u :: ts)
    simp only [jn, List.length_append, List.length_cons, List.map_cons, List.sum_cons] at this ⊢
    omega
theorem jn_asc {sep : Nat} (hs : sep < 128) : ∀ ts : List (List Nat), (∀ t ∈ ts, Asc t) → Asc (jn sep ts)
  | [], _ => .nil
  | [t], h => h t List.mem_cons_self
  | t :: u :: ts, h => .app (h t List.mem_cons_self) (.cons hs (jn_asc hs (u :: ts) fun x hx => h x (List.mem_cons_of_mem _ hx)))
theorem join_s {x : DO} {sep : Nat} {ts : List (List Nat)} (hx : seqOf x = some (ts.map tx)) (h : (ts.map List.length).sum + ts.length ≤ 100000) (o : O) : meSem .join (tx [sep], o) [x] = some (fz (tx (jn sep ts))) := by
  show (seqOf x).bind _ = _
  rw [hx]
  show (strsOf (ts.map tx)).bind _ = _
  rw [strs_tx]
  show chk ((((ts.map fun t => (⟨t.toArray⟩ : Str)).map (·.length)).sum + (ts.map fun t => (⟨t.toArray⟩ : Str)).length * 1) ≤ 16777216) (fz (.str (Txt.join ⟨#[sep]⟩ (ts.map fun t => (⟨t.toArray⟩ : Str))))) = _
  unfold chk
  rw [len_strs, List.length_map, if_pos (by omega), join_tx]
  rfl
theorem join_0 {x : DO} {ts : List (List Nat)} (hx : seqOf x = some (ts.map tx)) (h : (ts.map List.length).sum ≤ 100000) (o : O) : meSem .join (tx [], o) [x] = some (fz (tx ts.flatten)) := by
  show (seqOf x).bind _ = _
  rw [hx]
  show (strsOf (ts.map tx)).bind _ = _
  rw [strs_tx]
  show chk ((((ts.map fun t => (⟨t.toArray⟩ : Str)).map (·.length)).sum + (ts.map fun t => (⟨t.toArray⟩ : Str)).length * 0) ≤ 16777216) (fz (.str (Txt.join ⟨#[]⟩ (ts.map fun t => (⟨t.toArray⟩ : Str))))) = _
  unfold chk
  rw [len_strs, List.length_map, if_pos (by omega), join_tx0]
  rfl
theorem join_l {sep : Nat} {ts : List (List Nat)} (h : (ts.map List.length).sum + ts.length ≤ 100000) (o : O) : meSem .join (tx [sep], o) [(.list (ts.map tx), .l)] = some (fz (tx (jn sep ts))) := join_s rfl h o
theorem join_t {sep : Nat} {ts : List (List Nat)} (h : (ts.map List.length).sum + ts.length ≤ 100000) (o o2 : O) : meSem .join (tx [sep], o) [(.tuple (ts.map tx), o2)] = some (fz (tx (jn sep ts))) := join_s rfl h o
/-! ### shown -/
theorem rc_ok (q : Nat) (hq : q = 39 ∨ q = 34) : ∀ c, c < 128 → ∀ d ∈ Builtin.Str.reprChar q c, d < 0x110000 := by
  rcases hq with rfl | rfl <;> decide +kernel
theorem rc_fold (q : Nat) (hq : q = 39 ∨ q = 34) : ∀ (l : List Nat) (acc : Array Nat), Asc l → (∀ d ∈ acc, d < 0x110000) → ∀ d ∈ l.foldl (fun out c => out ++ (Builtin.Str.reprChar q c).toArray) acc, d < 0x110000
  | [], acc, _, h => h
  | c :: l, acc, hl, h => by
    rw [List.foldl_cons]
    refine rc_fold q hq l _ (fun d hd => hl d (List.mem_cons_of_mem _ hd)) fun d hd => ?_
    rcases Array.mem_append.mp hd with hd | hd
    · exact h d hd
    · exact rc_ok q hq c (hl c List.mem_cons_self) d (by simpa using hd)
theorem nice_tx {l : List Nat} (h : Asc l) : nice (tx l) = true := by
  have h1 : PyData.strOk ⟨l.toArray⟩ = true := by
    unfold PyData.strOk
    rw [Array.all_eq_true']
    intro x hx
    have := h x (by simpa using hx)
    rw [decide_eq_true_eq]
    omega
  have h2 : PyData.strOk (PyData.shown (tx l)) = true := by
    show PyData.strOk (reprText ⟨l.toArray⟩) = true
    unfold reprText PyData.strOk
    rw [Array.all_eq_true']
    have hq : reprQuote ⟨l.toArray⟩ = 39 ∨ reprQuote ⟨l.toArray⟩ = 34 := by
      unfold reprQuote
      split
      · exact .inr rfl
      · exact .inl rfl
    generalize reprQuote ⟨l.toArray⟩ = q at *
    intro x hx
    rw [decide_eq_true_eq]
    rcases Array.mem_push.mp hx with hx | hx
    · rw [← Array.foldl_toList] at hx
      exact rc_fold q hq l _ h (fun d hd => by
        have : d = q := by simpa using hd
        rcases hq with rfl | rfl <;> omega) x hx
    · rcases hq with rfl | rfl <;> omega
  show (PyData.strOk ⟨l.toArray⟩ && PyData.strOk (PyData.shown (.str ⟨l.toArray⟩))) = true
  rw [h1]
  exact h2
theorem Sz.tx {l : List Nat} (h : Asc l) {n : Nat} (hn : l.length ≤ n) : Sz 0 n (tx l) := ⟨nice_tx h, Nat.le_refl _, hn⟩
end Law
/-! k05: the program's tokens. -/
namespace Law
set_option maxHeartbeats 4000000
open Ev PySem PySem.Spec L2
theorem cs_w7 : (Phi_7 rounds).cs[0]? = some (tx wordL) := cs_w
theorem slice_2 {l : List Nat} (h : l.length ≤ 100000) (a : Nat) (o : O) : sliceSem (tx l, o) (some (a : Int)) (some ((a : Int) + 2)) = some (fz (tx ((l.drop a).take 2))) := by
  have := slice_tx h a (a + 2) o
  rw [show a + 2 - a = 2 by omega] at this
  exact this
theorem asc_ar : Asc [45, 62] := .cons (by decide) (.cons (by decide) .nil)
theorem r_token_end {s : List Nat} (hs : Asc s) (hl : s.length ≤ 900) {a : Nat} (ha : a ≤ s.length) : (c_token_end).run (Phi_7 rounds) [(tx s, .f), (.int a, .f)] = some ((.int (a + tkL (s.drop a) : Nat), .f), [none, none]) := by
  refine run_W ?_
  unfold c_token_end
  simp only [l_ar]
  (try simp only [↓w_var, ↓w_lit, ↓w_cst, ↓w_bin, ↓w_neg, ↓w_cmp, ↓w_cmp2, ↓w_not, ↓w_and, ↓w_or, ↓w_ite, ↓w_truth, ↓w_tup, ↓w_lst, ↓w_idx, ↓w_slice, ↓w_rev, ↓w_bi, ↓w_meth, ↓w_mut, ↓w_evs_nil, ↓w_evs_cons, ↓w_evp_nil, ↓w_evp_cons, ↓w_evm_nil, ↓w_evm_cons, ↓w_seq, ↓w_range, ↓w_enum, ↓w_zip, ↓w_nil, ↓w_consR, ↓w_expr, ↓w_set, ↓w_setT, ↓w_par, ↓w_ret, ↓w_retN, ↓w_retv, ↓w_if, ↓w_pass, ↓w_brk, ↓w_cont, ↓w_turn, ↓varK_f, ↓varK_t, ↓varK_l, ↓varK_g, ↓boolK_t, ↓boolK_f, ↓boolK_b, ↓intK_i, ↓idxK_f, ↓idxK_t, ↓lstK_l, ↓slK_s, ↓seqK_l, ↓seqK_t, ↓liK_l, ↓enumK_l, ↓enumK_t, ↓enumK_s, ↓rgK_i, ↓zipK_l, ↓flK_nx, ↓flK_rt, ↓flK_bk, ↓flK_ct, ↓lpK_nx, ↓lpK_ct, ↓lpK_bk, ↓lpK_rt, ↓oK_some, ↓oK_none, ↓oK_map, ↓oK_bind, ↓oK_chk, ↓rK_some, Rho.at, List.getElem?_cons_zero, List.getElem?_cons_succ, Option.getD_some, List.set_cons_zero, List.set_cons_succ, E.quiet, quiets, It.quiet, Bool.and_true, Bool.true_and, Bool.and_false, Bool.false_and, binSem, addSem, biSem, bi1, bi2, lenSem_l, lenSem_t, fz, truth_b, truth_n, truth_i, truth_l, truth_t, partE, revSem, absSem, intSem, seqOf_f, seqOf_l, seqOf_t, listD_l, tupD, isiB, isNone, bindT_name, bindT_tup, bindTs_nil, bindTs_cons, ↓oK_if, T.free, Ts.free, wipeR, noRef, setParR, muSem, mu1, mu0, ownL, List.all_cons, List.all_nil, List.contains_nil, List.map_cons, List.map_nil, List.length_cons, List.length_nil, Option.bind_some, Option.map_some, List.any_cons, List.any_nil, Bool.or_false, Bool.false_or, Bool.not_true, Bool.not_false, List.cons_append, List.nil_append, List.replicate_succ, List.replicate_zero, Nat.sub_self, refsOf, outsOf, reduceCtorEq, if_true, if_false, beq_self_eq_true, String.reduceBEq, and_true, true_and, forall_const, true_implies, false_implies, implies_true, Fl.rt.injEq, Prod.mk.injEq, PyData.bool.injEq, sh_int, sh_bool, sizeLine_eq, Nat.reduceLeDiff, Nat.reduceAdd, Nat.reduceLT, Nat.zero_le, Nat.reduceSub, true_or, or_true, false_or, or_false, and_false, false_and, Bool.false_eq_true, Bool.true_eq_false, not_true_eq_false, not_false_eq_true, exists_eq_left, exists_eq_left', exists_eq_right, exists_eq, Option.some.injEq, decide_true, decide_false, Nat.reduceEqDiff, List.length_map, boolsOf_mapf, all_mapf, any_mapf, small_0', _root_.eq_self, List.headD_cons, List.headD_nil, List.contains_cons, Nat.reduceBEq, Bool.not_false, Bool.or_self, Bool.and_self, ↓w_rest, lt_ii, le_ii, gt_ii, ge_ii, idx_lf, idx_ll, idx_t, slice_2 (l := s) (show s.length ≤ 100000 by omega) a, eq_tx ((hs.drop a).take 2) asc_ar])
  by_cases h : (s.drop a).take 2 = [45, 62]
  · (try simp only [↓w_var, ↓w_lit, ↓w_cst, ↓w_bin, ↓w_neg, ↓w_cmp, ↓w_cmp2, ↓w_not, ↓w_and, ↓w_or, ↓w_ite, ↓w_truth, ↓w_tup, ↓w_lst, ↓w_idx, ↓w_slice, ↓w_rev, ↓w_bi, ↓w_meth, ↓w_mut, ↓w_evs_nil, ↓w_evs_cons, ↓w_evp_nil, ↓w_evp_cons, ↓w_evm_nil, ↓w_evm_cons, ↓w_seq, ↓w_range, ↓w_enum, ↓w_zip, ↓w_nil, ↓w_consR, ↓w_expr, ↓w_set, ↓w_setT, ↓w_par, ↓w_ret, ↓w_retN, ↓w_retv, ↓w_if, ↓w_pass, ↓w_brk, ↓w_cont, ↓w_turn, ↓varK_f, ↓varK_t, ↓varK_l, ↓varK_g, ↓boolK_t, ↓boolK_f, ↓boolK_b, ↓intK_i, ↓idxK_f, ↓idxK_t, ↓lstK_l, ↓slK_s, ↓seqK_l, ↓seqK_t, ↓liK_l, ↓enumK_l, ↓enumK_t, ↓enumK_s, ↓rgK_i, ↓zipK_l, ↓flK_nx, ↓flK_rt, ↓flK_bk, ↓flK_ct, ↓lpK_nx, ↓lpK_ct, ↓lpK_bk, ↓lpK_rt, ↓oK_some, ↓oK_none, ↓oK_map, ↓oK_bind, ↓oK_chk, ↓rK_some, Rho.at, List.getElem?_cons_zero, List.getElem?_cons_succ, Option.getD_some, List.set_cons_zero, List.set_cons_succ, E.quiet, quiets, It.quiet, Bool.and_true, Bool.true_and, Bool.and_false, Bool.false_and, binSem, addSem, biSem, bi1, bi2, lenSem_l, lenSem_t, fz, truth_b, truth_n, truth_i, truth_l, truth_t, partE, sliceSem, revSem, absSem, intSem, seqOf_f, seqOf_l, seqOf_t, listD_l, tupD, isiB, isNone, bindT_name, bindT_tup, bindTs_nil, bindTs_cons, ↓oK_if, T.free, Ts.free, wipeR, noRef, setParR, muSem, mu1, mu0, ownL, List.all_cons, List.all_nil, List.contains_nil, List.map_cons, List.map_nil, List.length_cons, List.length_nil, Option.bind_some, Option.map_some, List.any_cons, List.any_nil, Bool.or_false, Bool.false_or, Bool.not_true, Bool.not_false, List.cons_append, List.nil_append, List.replicate_succ, List.replicate_zero, Nat.sub_self, refsOf, outsOf, reduceCtorEq, if_true, if_false, beq_self_eq_true, String.reduceBEq, and_true, true_and, forall_const, true_implies, false_implies, implies_true, Fl.rt.injEq, Prod.mk.injEq, PyData.bool.injEq, sh_int, sh_bool, sizeLine_eq, Nat.reduceLeDiff, Nat.reduceAdd, Nat.reduceLT, Nat.zero_le, Nat.reduceSub, true_or, or_true, false_or, or_false, and_false, false_and, Bool.false_eq_true, Bool.true_eq_false, not_true_eq_false, not_false_eq_true, exists_eq_left, exists_eq_left', exists_eq_right, exists_eq, Option.some.injEq, decide_true, decide_false, Nat.reduceEqDiff, List.length_map, boolsOf_mapf, all_mapf, any_mapf, small_0', _root_.eq_self, List.headD_cons, List.headD_nil, List.contains_cons, Nat.reduceBEq, Bool.not_false, Bool.or_self, Bool.and_self, ↓w_rest, lt_ii, le_ii, gt_ii, ge_ii, idx_lf, idx_ll, idx_t, h])
    have : tkL (s.drop a) = 2 := by unfold tkL; rw [if_pos h]
    rw [this]
    rfl
  · (try simp only [↓w_var, ↓w_lit, ↓w_cst, ↓w_bin, ↓w_neg, ↓w_cmp, ↓w_cmp2, ↓w_not, ↓w_and, ↓w_or, ↓w_ite, ↓w_truth, ↓w_tup, ↓w_lst, ↓w_idx, ↓w_slice, ↓w_rev, ↓w_bi, ↓w_meth, ↓w_mut, ↓w_evs_nil, ↓w_evs_cons, ↓w_evp_nil, ↓w_evp_cons, ↓w_evm_nil, ↓w_evm_cons, ↓w_seq, ↓w_range, ↓w_enum, ↓w_zip, ↓w_nil, ↓w_consR, ↓w_expr, ↓w_set, ↓w_setT, ↓w_par, ↓w_ret, ↓w_retN, ↓w_retv, ↓w_if, ↓w_pass, ↓w_brk, ↓w_cont, ↓w_turn, ↓varK_f, ↓varK_t, ↓varK_l, ↓varK_g, ↓boolK_t, ↓boolK_f, ↓boolK_b, ↓intK_i, ↓idxK_f, ↓idxK_t, ↓lstK_l, ↓slK_s, ↓seqK_l, ↓seqK_t, ↓liK_l, ↓enumK_l, ↓enumK_t, ↓enumK_s, ↓rgK_i, ↓zipK_l, ↓flK_nx, ↓flK_rt, ↓flK_bk, ↓flK_ct, ↓lpK_nx, ↓lpK_ct, ↓lpK_bk, ↓lpK_rt, ↓oK_some, ↓oK_none, ↓oK_map, ↓oK_bind, ↓oK_chk, ↓rK_some, Rho.at, List.getElem?_cons_zero, List.getElem?_cons_succ, Option.getD_some, List.set_cons_zero, List.set_cons_succ, E.quiet, quiets, It.quiet, Bool.and_true, Bool.true_and, Bool.and_false, Bool.false_and, binSem, addSem, biSem, bi1, bi2, lenSem_l, lenSem_t, fz, truth_b, truth_n, truth_i, truth_l, truth_t, partE, sliceSem, revSem, absSem, intSem, seqOf_f, seqOf_l, seqOf_t, listD_l, tupD, isiB, isNone, bindT_name, bindT_tup, bindTs_nil, bindTs_cons, ↓oK_if, T.free, Ts.free, wipeR, noRef, setParR, muSem, mu1, mu0, ownL, List.all_cons, List.all_nil, List.contains_nil, List.map_cons, List.map_nil, List.length_cons, List.length_nil, Option.bind_some, Option.map_some, List.any_cons, List.any_nil, Bool.or_false, Bool.false_or, Bool.not_true, Bool.not_false, List.cons_append, List.nil_append, List.replicate_succ, List.replicate_zero, Nat.sub_self, refsOf, outsOf, reduceCtorEq, if_true, if_false, beq_self_eq_true, String.reduceBEq, and_true, true_and, forall_const, true_implies, false_implies, implies_true, Fl.rt.injEq, Prod.mk.injEq, PyData.bool.injEq, sh_int, sh_bool, sizeLine_eq, Nat.reduceLeDiff, Nat.reduceAdd, Nat.reduceLT, Nat.zero_le, Nat.reduceSub, true_or, or_true, false_or, or_false, and_false, false_and, Bool.false_eq_true, Bool.true_eq_false, not_true_eq_false, not_false_eq_true, exists_eq_left, exists_eq_left', exists_eq_right, exists_eq, Option.some.injEq, decide_true, decide_false, Nat.reduceEqDiff, List.length_map, boolsOf_mapf, all_mapf, any_mapf, small_0', _root_.eq_self, List.headD_cons, List.headD_nil, List.contains_cons, Nat.reduceBEq, Bool.not_false, Bool.or_self, Bool.and_self, ↓w_rest, lt_ii, le_ii, gt_ii, ge_ii, idx_lf, idx_ll, idx_t, h])
    rw [Rest]
    (try simp only [↓w_var, ↓w_lit, ↓w_cst, ↓w_bin, ↓w_neg, ↓w_cmp, ↓w_cmp2, ↓w_not, ↓w_and, ↓w_or, ↓w_ite, ↓w_truth, ↓w_tup, ↓w_lst, ↓w_idx, ↓w_slice, ↓w_rev, ↓w_bi, ↓w_meth, ↓w_mut, ↓w_evs_nil, ↓w_evs_cons, ↓w_evp_nil, ↓w_evp_cons, ↓w_evm_nil, ↓w_evm_cons, ↓w_seq, ↓w_range, ↓w_enum, ↓w_zip, ↓w_nil, ↓w_consR, ↓w_expr, ↓w_set, ↓w_setT, ↓w_par, ↓w_ret, ↓w_retN, ↓w_retv, ↓w_if, ↓w_pass, ↓w_brk, ↓w_cont, ↓w_turn, ↓varK_f, ↓varK_t, ↓varK_l, ↓varK_g, ↓boolK_t, ↓boolK_f, ↓boolK_b, ↓intK_i, ↓idxK_f, ↓idxK_t, ↓lstK_l, ↓slK_s, ↓seqK_l, ↓seqK_t, ↓liK_l, ↓enumK_l, ↓enumK_t, ↓enumK_s, ↓rgK_i, ↓zipK_l, ↓flK_nx, ↓flK_rt, ↓flK_bk, ↓flK_ct, ↓lpK_nx, ↓lpK_ct, ↓lpK_bk, ↓lpK_rt, ↓oK_some, ↓oK_none, ↓oK_map, ↓oK_bind, ↓oK_chk, ↓rK_some, Rho.at, List.getElem?_cons_zero, List.getElem?_cons_succ, Option.getD_some, List.set_cons_zero, List.set_cons_succ, E.quiet, quiets, It.quiet, Bool.and_true, Bool.true_and, Bool.and_false, Bool.false_and, binSem, addSem, biSem, bi1, bi2, lenSem_l, lenSem_t, fz, truth_b, truth_n, truth_i, truth_l, truth_t, partE, sliceSem, revSem, absSem, intSem, seqOf_f, seqOf_l, seqOf_t, listD_l, tupD, isiB, isNone, bindT_name, bindT_tup, bindTs_nil, bindTs_cons, ↓oK_if, T.free, Ts.free, wipeR, noRef, setParR, muSem, mu1, mu0, ownL, List.all_cons, List.all_nil, List.contains_nil, List.map_cons, List.map_nil, List.length_cons, List.length_nil, Option.bind_some, Option.map_some, List.any_cons, List.any_nil, Bool.or_false, Bool.false_or, Bool.not_true, Bool.not_false, List.cons_append, List.nil_append, List.replicate_succ, List.replicate_zero, Nat.sub_self, refsOf, outsOf, reduceCtorEq, if_true, if_false, beq_self_eq_true, String.reduceBEq, and_true, true_and, forall_const, true_implies, false_implies, implies_true, Fl.rt.injEq, Prod.mk.injEq, PyData.bool.injEq, sh_int, sh_bool, sizeLine_eq, Nat.reduceLeDiff, Nat.reduceAdd, Nat.reduceLT, Nat.zero_le, Nat.reduceSub, true_or, or_true, false_or, or_false, and_false, false_and, Bool.false_eq_true, Bool.true_eq_false, not_true_eq_false, not_false_eq_true, exists_eq_left, exists_eq_left', exists_eq_right, exists_eq, Option.some.injEq, decide_true, decide_false, Nat.reduceEqDiff, List.length_map, boolsOf_mapf, all_mapf, any_mapf, small_0', _root_.eq_self, List.headD_cons, List.headD_nil, List.contains_cons, Nat.reduceBEq, Bool.not_false, Bool.or_self, Bool.and_self, ↓w_rest, lt_ii, le_ii, gt_ii, ge_ii, idx_lf, idx_ll, idx_t])
    rw [Rest]
    (try simp only [↓w_var, ↓w_lit, ↓w_cst, ↓w_bin, ↓w_neg, ↓w_cmp, ↓w_cmp2, ↓w_not, ↓w_and, ↓w_or, ↓w_ite, ↓w_truth, ↓w_tup, ↓w_lst, ↓w_idx, ↓w_slice, ↓w_rev, ↓w_bi, ↓w_meth, ↓w_mut, ↓w_evs_nil, ↓w_evs_cons, ↓w_evp_nil, ↓w_evp_cons, ↓w_evm_nil, ↓w_evm_cons, ↓w_seq, ↓w_range, ↓w_enum, ↓w_zip, ↓w_nil, ↓w_consR, ↓w_expr, ↓w_set, ↓w_setT, ↓w_par, ↓w_ret, ↓w_retN, ↓w_retv, ↓w_if, ↓w_pass, ↓w_brk, ↓w_cont, ↓w_turn, ↓varK_f, ↓varK_t, ↓varK_l, ↓varK_g, ↓boolK_t, ↓boolK_f, ↓boolK_b, ↓intK_i, ↓idxK_f, ↓idxK_t, ↓lstK_l, ↓slK_s, ↓seqK_l, ↓seqK_t, ↓liK_l, ↓enumK_l, ↓enumK_t, ↓enumK_s, ↓rgK_i, ↓zipK_l, ↓flK_nx, ↓flK_rt, ↓flK_bk, ↓flK_ct, ↓lpK_nx, ↓lpK_ct, ↓lpK_bk, ↓lpK_rt, ↓oK_some, ↓oK_none, ↓oK_map, ↓oK_bind, ↓oK_chk, ↓rK_some, Rho.at, List.getElem?_cons_zero, List.getElem?_cons_succ, Option.getD_some, List.set_cons_zero, List.set_cons_succ, E.quiet, quiets, It.quiet, Bool.and_true, Bool.true_and, Bool.and_false, Bool.false_and, binSem, addSem, biSem, bi1, bi2, lenSem_l, lenSem_t, fz, truth_b, truth_n, truth_i, truth_l, truth_t, partE, sliceSem, revSem, absSem, intSem, seqOf_f, seqOf_l, seqOf_t, listD_l, tupD, isiB, isNone, bindT_name, bindT_tup, bindTs_nil, bindTs_cons, ↓oK_if, T.free, Ts.free, wipeR, noRef, setParR, muSem, mu1, mu0, ownL, List.all_cons, List.all_nil, List.contains_nil, List.map_cons, List.map_nil, List.length_cons, List.length_nil, Option.bind_some, Option.map_some, List.any_cons, List.any_nil, Bool.or_false, Bool.false_or, Bool.not_true, Bool.not_false, List.cons_append, List.nil_append, List.replicate_succ, List.replicate_zero, Nat.sub_self, refsOf, outsOf, reduceCtorEq, if_true, if_false, beq_self_eq_true, String.reduceBEq, and_true, true_and, forall_const, true_implies, false_implies, implies_true, Fl.rt.injEq, Prod.mk.injEq, PyData.bool.injEq, sh_int, sh_bool, sizeLine_eq, Nat.reduceLeDiff, Nat.reduceAdd, Nat.reduceLT, Nat.zero_le, Nat.reduceSub, true_or, or_true, false_or, or_false, and_false, false_and, Bool.false_eq_true, Bool.true_eq_false, not_true_eq_false, not_false_eq_true, exists_eq_left, exists_eq_left', exists_eq_right, exists_eq, Option.some.injEq, decide_true, decide_false, Nat.reduceEqDiff, List.length_map, boolsOf_mapf, all_mapf, any_mapf, small_0', _root_.eq_self, List.headD_cons, List.headD_nil, List.contains_cons, Nat.reduceBEq, Bool.not_false, Bool.or_self, Bool.and_self, ↓w_rest, lt_ii, le_ii, gt_ii, ge_ii, idx_lf, idx_ll, idx_t])
    have ht : tkL (s.drop a) = max (wdL (s.drop a)) 1 := by unfold tkL; rw [if_neg h]
    refine W.while_ (fun m ρ => ∃ k : Nat, ρ = [some (tx s, .f), some (.int a, .f), some (.int k, .f)] ∧ k ≤ s.length ∧ m = s.length - k ∧ k + wdL (s.drop k) = a + wdL (s.drop a)) (n := s.length - a) (by show _ < 1000; omega) ⟨a, rfl, ha, rfl, rfl⟩ ?_
    rintro m ρ ⟨k, rfl, hk, rfl, he⟩
    (try simp only [↓w_var, ↓w_lit, ↓w_cst, ↓w_bin, ↓w_neg, ↓w_cmp, ↓w_cmp2, ↓w_not, ↓w_and, ↓w_or, ↓w_ite, ↓w_truth, ↓w_tup, ↓w_lst, ↓w_idx, ↓w_slice, ↓w_rev, ↓w_bi, ↓w_meth, ↓w_mut, ↓w_evs_nil, ↓w_evs_cons, ↓w_evp_nil, ↓w_evp_cons, ↓w_evm_nil, ↓w_evm_cons, ↓w_seq, ↓w_range, ↓w_enum, ↓w_zip, ↓w_nil, ↓w_consR, ↓w_expr, ↓w_set, ↓w_setT, ↓w_par, ↓w_ret, ↓w_retN, ↓w_retv, ↓w_if, ↓w_pass, ↓w_brk, ↓w_cont, ↓w_turn, ↓varK_f, ↓varK_t, ↓varK_l, ↓varK_g, ↓boolK_t, ↓boolK_f, ↓boolK_b, ↓intK_i, ↓idxK_f, ↓idxK_t, ↓lstK_l, ↓slK_s, ↓seqK_l, ↓seqK_t, ↓liK_l, ↓enumK_l, ↓enumK_t, ↓enumK_s, ↓rgK_i, ↓zipK_l, ↓flK_nx, ↓flK_rt, ↓flK_bk, ↓flK_ct, ↓lpK_nx, ↓lpK_ct, ↓lpK_bk, ↓lpK_rt, ↓oK_some, ↓oK_none, ↓oK_map, ↓oK_bind, ↓oK_chk, ↓rK_some, Rho.at, List.getElem?_cons_zero, List.getElem?_cons_succ, Option.getD_some, List.set_cons_zero, List.set_cons_succ, E.quiet, quiets, It.quiet, Bool.and_true, Bool.true_and, Bool.and_false, Bool.false_and, binSem, addSem, biSem, bi1, bi2, lenSem_l, lenSem_t, fz, truth_b, truth_n, truth_i, truth_l, truth_t, partE, sliceSem, revSem, absSem, intSem, seqOf_f, seqOf_l, seqOf_t, listD_l, tupD, isiB, isNone, bindT_name, bindT_tup, bindTs_nil, bindTs_cons, ↓oK_if, T.free, Ts.free, wipeR, noRef, setParR, muSem, mu1, mu0, ownL, List.all_cons, List.all_nil, List.contains_nil, List.map_cons, List.map_nil, List.length_cons, List.length_nil, Option.bind_some, Option.map_some, List.any_cons, List.any_nil, Bool.or_false, Bool.false_or, Bool.not_true, Bool.not_false, List.cons_append, List.nil_append, List.replicate_succ, List.replicate_zero, Nat.sub_self, refsOf, outsOf, reduceCtorEq, if_true, if_false, beq_self_eq_true, String.reduceBEq, and_true, true_and, forall_const, true_implies, false_implies, implies_true, Fl.rt.injEq, Prod.mk.injEq, PyData.bool.injEq, sh_int, sh_bool, sizeLine_eq, Nat.reduceLeDiff, Nat.reduceAdd, Nat.reduceLT, Nat.zero_le, Nat.reduceSub, true_or, or_true, false_or, or_false, and_false, false_and, Bool.false_eq_true, Bool.true_eq_false, not_true_eq_false, not_false_eq_true, exists_eq_left, exists_eq_left', exists_eq_right, exists_eq, Option.some.injEq, decide_true, decide_false, Nat.reduceEqDiff, List.length_map, boolsOf_mapf, all_mapf, any_mapf, small_0', _root_.eq_self, List.headD_cons, List.headD_nil, List.contains_cons, Nat.reduceBEq, Bool.not_false, Bool.or_self, Bool.and_self, ↓w_rest, lt_ii, le_ii, gt_ii, ge_ii, idx_lf, idx_ll, idx_t, len_tx (l := s) (by omega)])
    by_cases hlt : k < s.length
    · have h1 : s[k] < 128 := hs _ (List.getElem_mem hlt)
      have hlt2 : (k : Int) < s.length := by omega
      have hd := drop_at hlt
      rw [hd, wdL] at he
      have hm := mem_word s[k] h1
      (try simp only [↓w_var, ↓w_lit, ↓w_cst, ↓w_bin, ↓w_neg, ↓w_cmp, ↓w_cmp2, ↓w_not, ↓w_and, ↓w_or, ↓w_ite, ↓w_truth, ↓w_tup, ↓w_lst, ↓w_idx, ↓w_slice, ↓w_rev, ↓w_bi, ↓w_meth, ↓w_mut, ↓w_evs_nil, ↓w_evs_cons, ↓w_evp_nil, ↓w_evp_cons, ↓w_evm_nil, ↓w_evm_cons, ↓w_seq, ↓w_range, ↓w_enum, ↓w_zip, ↓w_nil, ↓w_consR, ↓w_expr, ↓w_set, ↓w_setT, ↓w_par, ↓w_ret, ↓w_retN, ↓w_retv, ↓w_if, ↓w_pass, ↓w_brk, ↓w_cont, ↓w_turn, ↓varK_f, ↓varK_t, ↓varK_l, ↓varK_g, ↓boolK_t, ↓boolK_f, ↓boolK_b, ↓intK_i, ↓idxK_f, ↓idxK_t, ↓lstK_l, ↓slK_s, ↓seqK_l, ↓seqK_t, ↓liK_l, ↓enumK_l, ↓enumK_t, ↓enumK_s, ↓rgK_i, ↓zipK_l, ↓flK_nx, ↓flK_rt, ↓flK_bk, ↓flK_ct, ↓lpK_nx, ↓lpK_ct, ↓lpK_bk, ↓lpK_rt, ↓oK_some, ↓oK_none, ↓oK_map, ↓oK_bind, ↓oK_chk, ↓rK_some, Rho.at, List.getElem?_cons_zero, List.getElem?_cons_succ, Option.getD_some, List.set_cons_zero, List.set_cons_succ, E.quiet, quiets, It.quiet, Bool.and_true, Bool.true_and, Bool.and_false, Bool.false_and, binSem, addSem, biSem, bi1, bi2, lenSem_l, lenSem_t, fz, truth_b, truth_n, truth_i, truth_l, truth_t, partE, sliceSem, revSem, absSem, intSem, seqOf_f, seqOf_l, seqOf_t, listD_l, tupD, isiB, isNone, bindT_name, bindT_tup, bindTs_nil, bindTs_cons, ↓oK_if, T.free, Ts.free, wipeR, noRef, setParR, muSem, mu1, mu0, ownL, List.all_cons, List.all_nil, List.contains_nil, List.map_cons, List.map_nil, List.length_cons, List.length_nil, Option.bind_some, Option.map_some, List.any_cons, List.any_nil, Bool.or_false, Bool.false_or, Bool.not_true, Bool.not_false, List.cons_append, List.nil_append, List.replicate_succ, List.replicate_zero, Nat.sub_self, refsOf, outsOf, reduceCtorEq, if_true, if_false, beq_self_eq_true, String.reduceBEq, and_true, true_and, forall_const, true_implies, false_implies, implies_true, Fl.rt.injEq, Prod.mk.injEq, PyData.bool.injEq, sh_int, sh_bool, sizeLine_eq, Nat.reduceLeDiff, Nat.reduceAdd, Nat.reduceLT, Nat.zero_le, Nat.reduceSub, true_or, or_true, false_or, or_false, and_false, false_and, Bool.false_eq_true, Bool.true_eq_false, not_true_eq_false, not_false_eq_true, exists_eq_left, exists_eq_left', exists_eq_right, exists_eq, Option.some.injEq, decide_true, decide_false, Nat.reduceEqDiff, List.length_map, boolsOf_mapf, all_mapf, any_mapf, small_0', _root_.eq_self, List.headD_cons, List.headD_nil, List.contains_cons, Nat.reduceBEq, Bool.not_false, Bool.or_self, Bool.and_self, ↓w_rest, lt_ii, le_ii, gt_ii, ge_ii, idx_lf, idx_ll, idx_t, hlt2, idx_tx (l := s) (by omega) hlt, cs_w7, mem_tx, hm])
      cases e : letC s[k] with
      | true =>
        rw [e, if_pos rfl] at he
        (try simp only [↓w_var, ↓w_lit, ↓w_cst, ↓w_bin, ↓w_neg, ↓w_cmp, ↓w_cmp2, ↓w_not, ↓w_and, ↓w_or, ↓w_ite, ↓w_truth, ↓w_tup, ↓w_lst, ↓w_idx, ↓w_slice, ↓w_rev, ↓w_bi, ↓w_meth, ↓w_mut, ↓w_evs_nil, ↓w_evs_cons, ↓w_evp_nil, ↓w_evp_cons, ↓w_evm_nil, ↓w_evm_cons, ↓w_seq, ↓w_range, ↓w_enum, ↓w_zip, ↓w_nil, ↓w_consR, ↓w_expr, ↓w_set, ↓w_setT, ↓w_par, ↓w_ret, ↓w_retN, ↓w_retv, ↓w_if, ↓w_pass, ↓w_brk, ↓w_cont, ↓w_turn, ↓varK_f, ↓varK_t, ↓varK_l, ↓varK_g, ↓boolK_t, ↓boolK_f, ↓boolK_b, ↓intK_i, ↓idxK_f, ↓idxK_t, ↓lstK_l, ↓slK_s, ↓seqK_l, ↓seqK_t, ↓liK_l, ↓enumK_l, ↓enumK_t, ↓enumK_s, ↓rgK_i, ↓zipK_l, ↓flK_nx, ↓flK_rt, ↓flK_bk, ↓flK_ct, ↓lpK_nx, ↓lpK_ct, ↓lpK_bk, ↓lpK_rt, ↓oK_some, ↓oK_none, ↓oK_map, ↓oK_bind, ↓oK_chk, ↓rK_some, Rho.at, List.getElem?_cons_zero, List.getElem?_cons_succ, Option.getD_some, List.set_cons_zero, List.set_cons_succ, E.quiet, quiets, It.quiet, Bool.and_true, Bool.true_and, Bool.and_false, Bool.false_and, binSem, addSem, biSem, bi1, bi2, lenSem_l, lenSem_t, fz, truth_b, truth_n, truth_i, truth_l, truth_t, partE, sliceSem, revSem, absSem, intSem, seqOf_f, seqOf_l, seqOf_t, listD_l, tupD, isiB, isNone, bindT_name, bindT_tup, bindTs_nil, bindTs_cons, ↓oK_if, T.free, Ts.free, wipeR, noRef, setParR, muSem, mu1, mu0, ownL, List.all_cons, List.all_nil, List.contains_nil, List.map_cons, List.map_nil, List.length_cons, List.length_nil, Option.bind_some, Option.map_some, List.any_cons, List.any_nil, Bool.or_false, Bool.false_or, Bool.not_true, Bool.not_false, List.cons_append, List.nil_append, List.replicate_succ, List.replicate_zero, Nat.sub_self, refsOf, outsOf, reduceCtorEq, if_true, if_false, beq_self_eq_true, String.reduceBEq, and_true, true_and, forall_const, true_implies, false_implies, implies_true, Fl.rt.injEq, Prod.mk.injEq, PyData.bool.injEq, sh_int, sh_bool, sizeLine_eq, Nat.reduceLeDiff, Nat.reduceAdd, Nat.reduceLT, Nat.zero_le, Nat.reduceSub, true_or, or_true, false_or, or_false, and_false, false_and, Bool.false_eq_true, Bool.true_eq_false, not_true_eq_false, not_false_eq_true, exists_eq_left, exists_eq_left', exists_eq_right, exists_eq, Option.some.injEq, decide_true, decide_false, Nat.reduceEqDiff, List.length_map, boolsOf_mapf, all_mapf, any_mapf, small_0', _root_.eq_self, List.headD_cons, List.headD_nil, List.contains_cons, Nat.reduceBEq, Bool.not_false, Bool.or_self, Bool.and_self, ↓w_rest, lt_ii, le_ii, gt_ii, ge_ii, idx_lf, idx_ll, idx_t])
        exact ⟨s.length - (k + 1), by omega, k + 1, rfl, by omega, rfl, by omega⟩
      | false =>
        rw [e, if_neg (by decide)] at he
        (try simp only [↓w_var, ↓w_lit, ↓w_cst, ↓w_bin, ↓w_neg, ↓w_cmp, ↓w_cmp2, ↓w_not, ↓w_and, ↓w_or, ↓w_ite, ↓w_truth, ↓w_tup, ↓w_lst, ↓w_idx, ↓w_slice, ↓w_rev, ↓w_bi, ↓w_meth, ↓w_mut, ↓w_evs_nil, ↓w_evs_cons, ↓w_evp_nil, ↓w_evp_cons, ↓w_evm_nil, ↓w_evm_cons, ↓w_seq, ↓w_range, ↓w_enum, ↓w_zip, ↓w_nil, ↓w_consR, ↓w_expr, ↓w_set, ↓w_setT, ↓w_par, ↓w_ret, ↓w_retN, ↓w_retv, ↓w_if, ↓w_pass, ↓w_brk, ↓w_cont, ↓w_turn, ↓varK_f, ↓varK_t, ↓varK_l, ↓varK_g, ↓boolK_t, ↓boolK_f, ↓boolK_b, ↓intK_i, ↓idxK_f, ↓idxK_t, ↓lstK_l, ↓slK_s, ↓seqK_l, ↓seqK_t, ↓liK_l, ↓enumK_l, ↓enumK_t, ↓enumK_s, ↓rgK_i, ↓zipK_l, ↓flK_nx, ↓flK_rt, ↓flK_bk, ↓flK_ct, ↓lpK_nx, ↓lpK_ct, ↓lpK_bk, ↓lpK_rt, ↓oK_some, ↓oK_none, ↓oK_map, ↓oK_bind, ↓oK_chk, ↓rK_some, Rho.at, List.getElem?_cons_zero, List.getElem?_cons_succ, Option.getD_some, List.set_cons_zero, List.set_cons_succ, E.quiet, quiets, It.quiet, Bool.and_true, Bool.true_and, Bool.and_false, Bool.false_and, binSem, addSem, biSem, bi1, bi2, lenSem_l, lenSem_t, fz, truth_b, truth_n, truth_i, truth_l, truth_t, partE, sliceSem, revSem, absSem, intSem, seqOf_f, seqOf_l, seqOf_t, listD_l, tupD, isiB, isNone, bindT_name, bindT_tup, bindTs_nil, bindTs_cons, ↓oK_if, T.free, Ts.free, wipeR, noRef, setParR, muSem, mu1, mu0, ownL, List.all_cons, List.all_nil, List.contains_nil, List.map_cons, List.map_nil, List.length_cons, List.length_nil, Option.bind_some, Option.map_some, List.any_cons, List.any_nil, Bool.or_false, Bool.false_or, Bool.not_true, Bool.not_false, List.cons_append, List.nil_append, List.replicate_succ, List.replicate_zero, Nat.sub_self, refsOf, outsOf, reduceCtorEq, if_true, if_false, beq_self_eq_true, String.reduceBEq, and_true, true_and, forall_const, true_implies, false_implies, implies_true, Fl.rt.injEq, Prod.mk.injEq, PyData.bool.injEq, sh_int, sh_bool, sizeLine_eq, Nat.reduceLeDiff, Nat.reduceAdd, Nat.reduceLT, Nat.zero_le, Nat.reduceSub, true_or, or_true, false_or, or_false, and_false, false_and, Bool.false_eq_true, Bool.true_eq_false, not_true_eq_false, not_false_eq_true, exists_eq_left, exists_eq_left', exists_eq_right, exists_eq, Option.some.injEq, decide_true, decide_false, Nat.reduceEqDiff, List.length_map, boolsOf_mapf, all_mapf, any_mapf, small_0', _root_.eq_self, List.headD_cons, List.headD_nil, List.contains_cons, Nat.reduceBEq, Bool.not_false, Bool.or_self, Bool.and_self, ↓w_rest, lt_ii, le_ii, gt_ii, ge_ii, idx_lf, idx_ll, idx_t])
        rw [Rest]
        (try simp only [↓w_var, ↓w_lit, ↓w_cst, ↓w_bin, ↓w_neg, ↓w_cmp, ↓w_cmp2, ↓w_not, ↓w_and, ↓w_or, ↓w_ite, ↓w_truth, ↓w_tup, ↓w_lst, ↓w_idx, ↓w_slice, ↓w_rev, ↓w_bi, ↓w_meth, ↓w_mut, ↓w_evs_nil, ↓w_evs_cons, ↓w_evp_nil, ↓w_evp_cons, ↓w_evm_nil, ↓w_evm_cons, ↓w_seq, ↓w_range, ↓w_enum, ↓w_zip, ↓w_nil, ↓w_consR, ↓w_expr, ↓w_set, ↓w_setT, ↓w_par, ↓w_ret, ↓w_retN, ↓w_retv, ↓w_if, ↓w_pass, ↓w_brk, ↓w_cont, ↓w_turn, ↓varK_f, ↓varK_t, ↓varK_l, ↓varK_g, ↓boolK_t, ↓boolK_f, ↓boolK_b, ↓intK_i, ↓idxK_f, ↓idxK_t, ↓lstK_l, ↓slK_s, ↓seqK_l, ↓seqK_t, ↓liK_l, ↓enumK_l, ↓enumK_t, ↓enumK_s, ↓rgK_i, ↓zipK_l, ↓flK_nx, ↓flK_rt, ↓flK_bk, ↓flK_ct, ↓lpK_nx, ↓lpK_ct, ↓lpK_bk, ↓lpK_rt, ↓oK_some, ↓oK_none, ↓oK_map, ↓oK_bind, ↓oK_chk, ↓rK_some, Rho.at, List.getElem?_cons_zero, List.getElem?_cons_succ, Option.getD_some, List.set_cons_zero, List.set_cons_succ, E.quiet, quiets, It.quiet, Bool.and_true, Bool.true_and, Bool.and_false, Bool.false_and, binSem, addSem, biSem, bi1, bi2, lenSem_l, lenSem_t, fz, truth_b, truth_n, truth_i, truth_l, truth_t, partE, sliceSem, revSem, absSem, intSem, seqOf_f, seqOf_l, seqOf_t, listD_l, tupD, isiB, isNone, bindT_name, bindT_tup, bindTs_nil, bindTs_cons, ↓oK_if, T.free, Ts.free, wipeR, noRef, setParR, muSem, mu1, mu0, ownL, List.all_cons, List.all_nil, List.contains_nil, List.map_cons, List.map_nil, List.length_cons, List.length_nil, Option.bind_some, Option.map_some, List.any_cons, List.any_nil, Bool.or_false, Bool.false_or, Bool.not_true, Bool.not_false, List.cons_append, List.nil_append, List.replicate_succ, List.replicate_zero, Nat.sub_self, refsOf, outsOf, reduceCtorEq, if_true, if_false, beq_self_eq_true, String.reduceBEq, and_true, true_and, forall_const, true_implies, false_implies, implies_true, Fl.rt.injEq, Prod.mk.injEq, PyData.bool.injEq, sh_int, sh_bool, sizeLine_eq, Nat.reduceLeDiff, Nat.reduceAdd, Nat.reduceLT, Nat.zero_le, Nat.reduceSub, true_or, or_true, false_or, or_false, and_false, false_and, Bool.false_eq_true, Bool.true_eq_false, not_true_eq_false, not_false_eq_true, exists_eq_left, exists_eq_left', exists_eq_right, exists_eq, Option.some.injEq, decide_true, decide_false, Nat.reduceEqDiff, List.length_map, boolsOf_mapf, all_mapf, any_mapf, small_0', _root_.eq_self, List.headD_cons, List.headD_nil, List.contains_cons, Nat.reduceBEq, Bool.not_false, Bool.or_self, Bool.and_self, ↓w_rest, lt_ii, le_ii, gt_ii, ge_ii, idx_lf, idx_ll, idx_t, intD])
        rw [ht]
        refine congrArg PyData.int ?_
        split <;> omega
    · have e : s.length = k := by omega
      have hlt2 : ¬ (k : Int) < s.length := by omega
      rw [List.drop_of_length_le (l := s) (i := k) (by omega)] at he
      (try simp only [↓w_var, ↓w_lit, ↓w_cst, ↓w_bin, ↓w_neg, ↓w_cmp, ↓w_cmp2, ↓w_not, ↓w_and, ↓w_or, ↓w_ite, ↓w_truth, ↓w_tup, ↓w_lst, ↓w_idx, ↓w_slice, ↓w_rev, ↓w_bi, ↓w_meth, ↓w_mut, ↓w_evs_nil, ↓w_evs_cons, ↓w_evp_nil, ↓w_evp_cons, ↓w_evm_nil, ↓w_evm_cons, ↓w_seq, ↓w_range, ↓w_enum, ↓w_zip, ↓w_nil, ↓w_consR, ↓w_expr, ↓w_set, ↓w_setT, ↓w_par, ↓w_ret, ↓w_retN, ↓w_retv, ↓w_if, ↓w_pass, ↓w_brk, ↓w_cont, ↓w_turn, ↓varK_f, ↓varK_t, ↓varK_l, ↓varK_g, ↓boolK_t, ↓boolK_f, ↓boolK_b, ↓intK_i, ↓idxK_f, ↓idxK_t, ↓lstK_l, ↓slK_s, ↓seqK_l, ↓seqK_t, ↓liK_l, ↓enumK_l, ↓enumK_t, ↓enumK_s, ↓rgK_i, ↓zipK_l, ↓flK_nx, ↓flK_rt, ↓flK_bk, ↓flK_ct, ↓lpK_nx, ↓lpK_ct, ↓lpK_bk, ↓lpK_rt, ↓oK_some, ↓oK_none, ↓oK_map, ↓oK_bind, ↓oK_chk, ↓rK_some, Rho.at, List.getElem?_cons_zero, List.getElem?_cons_succ, Option.getD_some, List.set_cons_zero, List.set_cons_succ, E.quiet, quiets, It.quiet, Bool.and_true, Bool.true_and, Bool.and_false, Bool.false_and, binSem, addSem, biSem, bi1, bi2, lenSem_l, lenSem_t, fz, truth_b, truth_n, truth_i, truth_l, truth_t, partE, sliceSem, revSem, absSem, intSem, seqOf_f, seqOf_l, seqOf_t, listD_l, tupD, isiB, isNone, bindT_name, bindT_tup, bindTs_nil, bindTs_cons, ↓oK_if, T.free, Ts.free, wipeR, noRef, setParR, muSem, mu1, mu0, ownL, List.all_cons, List.all_nil, List.contains_nil, List.map_cons, List.map_nil, List.length_cons, List.length_nil, Option.bind_some, Option.map_some, List.any_cons, List.any_nil, Bool.or_false, Bool.false_or, Bool.not_true, Bool.not_false, List.cons_append, List.nil_append, List.replicate_succ, List.replicate_zero, Nat.sub_self, refsOf, outsOf, reduceCtorEq, if_true, if_false, beq_self_eq_true, String.reduceBEq, and_true, true_and, forall_const, true_implies, false_implies, implies_true, Fl.rt.injEq, Prod.mk.injEq, PyData.bool.injEq, sh_int, sh_bool, sizeLine_eq, Nat.reduceLeDiff, Nat.reduceAdd, Nat.reduceLT, Nat.zero_le, Nat.reduceSub, true_or, or_true, false_or, or_false, and_false, false_and, Bool.false_eq_true, Bool.true_eq_false, not_true_eq_false, not_false_eq_true, exists_eq_left, exists_eq_left', exists_eq_right, exists_eq, Option.some.injEq, decide_true, decide_false, Nat.reduceEqDiff, List.length_map, boolsOf_mapf, all_mapf, any_mapf, small_0', _root_.eq_self, List.headD_cons, List.headD_nil, List.contains_cons, Nat.reduceBEq, Bool.not_false, Bool.or_self, Bool.and_self, ↓w_rest, lt_ii, le_ii, gt_ii, ge_ii, idx_lf, idx_ll, idx_t, hlt2])
      rw [Rest]
      (try simp only [↓w_var, ↓w_lit, ↓w_cst, ↓w_bin, ↓w_neg, ↓w_cmp, ↓w_cmp2, ↓w_not, ↓w_and, ↓w_or, ↓w_ite, ↓w_truth, ↓w_tup, ↓w_lst, ↓w_idx, ↓w_slice, ↓w_rev, ↓w_bi, ↓w_meth, ↓w_mut, ↓w_evs_nil, ↓w_evs_cons, ↓w_evp_nil, ↓w_evp_cons, ↓w_evm_nil, ↓w_evm_cons, ↓w_seq, ↓w_range, ↓w_enum, ↓w_zip, ↓w_nil, ↓w_consR, ↓w_expr, ↓w_set, ↓w_setT, ↓w_par, ↓w_ret, ↓w_retN, ↓w_retv, ↓w_if, ↓w_pass, ↓w_brk, ↓w_cont, ↓w_turn, ↓varK_f, ↓varK_t, ↓varK_l, ↓varK_g, ↓boolK_t, ↓boolK_f, ↓boolK_b, ↓intK_i, ↓idxK_f, ↓idxK_t, ↓lstK_l, ↓slK_s, ↓seqK_l, ↓seqK_t, ↓liK_l, ↓enumK_l, ↓enumK_t, ↓enumK_s, ↓rgK_i, ↓zipK_l, ↓flK_nx, ↓flK_rt, ↓flK_bk, ↓flK_ct, ↓lpK_nx, ↓lpK_ct, ↓lpK_bk, ↓lpK_rt, ↓oK_some, ↓oK_none, ↓oK_map, ↓oK_bind, ↓oK_chk, ↓rK_some, Rho.at, List.getElem?_cons_zero, List.getElem?_cons_succ, Option.getD_some, List.set_cons_zero, List.set_cons_succ, E.quiet, quiets, It.quiet, Bool.and_true, Bool.true_and, Bool.and_false, Bool.false_and, binSem, addSem, biSem, bi1, bi2, lenSem_l, lenSem_t, fz, truth_b, truth_n, truth_i, truth_l, truth_t, partE, sliceSem, revSem, absSem, intSem, seqOf_f, seqOf_l, seqOf_t, listD_l, tupD, isiB, isNone, bindT_name, bindT_tup, bindTs_nil, bindTs_cons, ↓oK_if, T.free, Ts.free, wipeR, noRef, setParR, muSem, mu1, mu0, ownL, List.all_cons, List.all_nil, List.contains_nil, List.map_cons, List.map_nil, List.length_cons, List.length_nil, Option.bind_some, Option.map_some, List.any_cons, List.any_nil, Bool.or_false, Bool.false_or, Bool.not_true, Bool.not_false, List.cons_append, List.nil_append, List.replicate_succ, List.replicate_zero, Nat.sub_self, refsOf, outsOf, reduceCtorEq, if_true, if_false, beq_self_eq_true, String.reduceBEq, and_true, true_and, forall_const, true_implies, false_implies, implies_true, Fl.rt.injEq, Prod.mk.injEq, PyData.bool.injEq, sh_int, sh_bool, sizeLine_eq, Nat.reduceLeDiff, Nat.reduceAdd, Nat.reduceLT, Nat.zero_le, Nat.reduceSub, true_or, or_true, false_or, or_false, and_false, false_and, Bool.false_eq_true, Bool.true_eq_false, not_true_eq_false, not_false_eq_true, exists_eq_left, exists_eq_left', exists_eq_right, exists_eq, Option.some.injEq, decide_true, decide_false, Nat.reduceEqDiff, List.length_map, boolsOf_mapf, all_mapf, any_mapf, small_0', _root_.eq_self, List.headD_cons, List.headD_nil, List.contains_cons, Nat.reduceBEq, Bool.not_false, Bool.or_self, Bool.and_self, ↓w_rest, lt_ii, le_ii, gt_ii, ge_ii, idx_lf, idx_ll, idx_t, intD])
      have he : k = a + wdL (s.drop a) := he
      rw [ht]
      refine congrArg PyData.int ?_
      split <;> omega
theorem gt_append {g t r : List Nat} {c : Nat} {s : List Nat} {off : Nat} (h : s.drop off = g ++ (c :: (t ++ r))) : off + g.length + (t.length + 1) ≤ s.length ∧ s.drop (off + g.length) = c :: (t ++ r) ∧ s.drop (off + g.length + (t.length + 1)) = r := by
  have hl := congrArg List.length h
  simp only [List.length_drop, List.length_append, List.length_cons] at hl
  have h1 : s.drop (off + g.length) = c :: (t ++ r) := by rw [← List.drop_drop, h, List.drop_left]
  refine ⟨by omega, h1, ?_⟩
  rw [← List.drop_drop, h1, List.drop_succ_cons, List.drop_left]
theorem r_token_places {s : List Nat} (hs : Asc s) (hl : s.length ≤ 900) {L : List (Nat × List Nat)} (hp : Pk 0 s L) : (c_token_places).run (Phi_8 rounds) [(tx s, .f)] = some ((.tuple (L.map fun p => .int (p.1 : Nat)), .f), [none]) := by
  refine run_W ?_
  unfold c_token_places
  have h0 : (c_skipped).run (Phi_6 rounds) [(tx s, .f), (.int 0, .f)] = some ((.int (skL false s : Nat), .f), [none, none]) := by
    have h := r_skipped hs hl (Nat.zero_le s.length)
    rw [List.drop_zero, Nat.zero_add] at h
    exact h
  (try simp only [↓w_var, ↓w_lit, ↓w_cst, ↓w_bin, ↓w_neg, ↓w_cmp, ↓w_cmp2, ↓w_not, ↓w_and, ↓w_or, ↓w_ite, ↓w_truth, ↓w_tup, ↓w_lst, ↓w_idx, ↓w_slice, ↓w_rev, ↓w_bi, ↓w_meth, ↓w_mut, ↓w_evs_nil, ↓w_evs_cons, ↓w_evp_nil, ↓w_evp_cons, ↓w_evm_nil, ↓w_evm_cons, ↓w_seq, ↓w_range, ↓w_enum, ↓w_zip, ↓w_nil, ↓w_consR, ↓w_expr, ↓w_set, ↓w_setT, ↓w_par, ↓w_ret, ↓w_retN, ↓w_retv, ↓w_if, ↓w_pass, ↓w_brk, ↓w_cont, ↓w_turn, ↓varK_f, ↓varK_t, ↓varK_l, ↓varK_g, ↓boolK_t, ↓boolK_f, ↓boolK_b, ↓intK_i, ↓idxK_f, ↓idxK_t, ↓lstK_l, ↓slK_s, ↓seqK_l, ↓seqK_t, ↓liK_l, ↓enumK_l, ↓enumK_t, ↓enumK_s, ↓rgK_i, ↓zipK_l, ↓flK_nx, ↓flK_rt, ↓flK_bk, ↓flK_ct, ↓lpK_nx, ↓lpK_ct, ↓lpK_bk, ↓lpK_rt, ↓oK_some, ↓oK_none, ↓oK_map, ↓oK_bind, ↓oK_chk, ↓rK_some, Rho.at, List.getElem?_cons_zero, List.getElem?_cons_succ, Option.getD_some, List.set_cons_zero, List.set_cons_succ, E.quiet, quiets, It.quiet, Bool.and_true, Bool.true_and, Bool.and_false, Bool.false_and, binSem, addSem, biSem, bi1, bi2, lenSem_l, lenSem_t, fz, truth_b, truth_n, truth_i, truth_l, truth_t, partE, sliceSem, revSem, absSem, intSem, seqOf_f, seqOf_l, seqOf_t, listD_l, tupD, isiB, isNone, bindT_name, bindT_tup, bindTs_nil, bindTs_cons, ↓oK_if, T.free, Ts.free, wipeR, noRef, setParR, muSem, mu1, mu0, ownL, List.all_cons, List.all_nil, List.contains_nil, List.map_cons, List.map_nil, List.length_cons, List.length_nil, Option.bind_some, Option.map_some, List.any_cons, List.any_nil, Bool.or_false, Bool.false_or, Bool.not_true, Bool.not_false, List.cons_append, List.nil_append, List.replicate_succ, List.replicate_zero, Nat.sub_self, refsOf, outsOf, reduceCtorEq, if_true, if_false, beq_self_eq_true, String.reduceBEq, and_true, true_and, forall_const, true_implies, false_implies, implies_true, Fl.rt.injEq, Prod.mk.injEq, PyData.bool.injEq, sh_int, sh_bool, sizeLine_eq, Nat.reduceLeDiff, Nat.reduceAdd, Nat.reduceLT, Nat.zero_le, Nat.reduceSub, true_or, or_true, false_or, or_false, and_false, false_and, Bool.false_eq_true, Bool.true_eq_false, not_true_eq_false, not_false_eq_true, exists_eq_left, exists_eq_left', exists_eq_right, exists_eq, Option.some.injEq, decide_true, decide_false, Nat.reduceEqDiff, List.length_map, boolsOf_mapf, all_mapf, any_mapf, small_0', _root_.eq_self, List.headD_cons, List.headD_nil, List.contains_cons, Nat.reduceBEq, Bool.not_false, Bool.or_self, Bool.and_self, ↓w_rest, lt_ii, le_ii, gt_ii, ge_ii, idx_lf, idx_ll, idx_t, pu_8_6, wc_8_6, pu_8_7, wc_8_7, h0])
  rw [Rest]
  (try simp only [↓w_var, ↓w_lit, ↓w_cst, ↓w_bin, ↓w_neg, ↓w_cmp, ↓w_cmp2, ↓w_not, ↓w_and, ↓w_or, ↓w_ite, ↓w_truth, ↓w_tup, ↓w_lst, ↓w_idx, ↓w_slice, ↓w_rev, ↓w_bi, ↓w_meth, ↓w_mut, ↓w_evs_nil, ↓w_evs_cons, ↓w_evp_nil, ↓w_evp_cons, ↓w_evm_nil, ↓w_evm_cons, ↓w_seq, ↓w_range, ↓w_enum, ↓w_zip, ↓w_nil, ↓w_consR, ↓w_expr, ↓w_set, ↓w_setT, ↓w_par, ↓w_ret, ↓w_retN, ↓w_retv, ↓w_if, ↓w_pass, ↓w_brk, ↓w_cont, ↓w_turn, ↓varK_f, ↓varK_t, ↓varK_l, ↓varK_g, ↓boolK_t, ↓boolK_f, ↓boolK_b, ↓intK_i, ↓idxK_f, ↓idxK_t, ↓lstK_l, ↓slK_s, ↓seqK_l, ↓seqK_t, ↓liK_l, ↓enumK_l, ↓enumK_t, ↓enumK_s, ↓rgK_i, ↓zipK_l, ↓flK_nx, ↓flK_rt, ↓flK_bk, ↓flK_ct, ↓lpK_nx, ↓lpK_ct, ↓lpK_bk, ↓lpK_rt, ↓oK_some, ↓oK_none, ↓oK_map, ↓oK_bind, ↓oK_chk, ↓rK_some, Rho.at, List.getElem?_cons_zero, List.getElem?_cons_succ, Option.getD_some, List.set_cons_zero, List.set_cons_succ, E.quiet, quiets, It.quiet, Bool.and_true, Bool.true_and, Bool.and_false, Bool.false_and, binSem, addSem, biSem, bi1, bi2, lenSem_l, lenSem_t, fz, truth_b, truth_n, truth_i, truth_l, truth_t, partE, sliceSem, revSem, absSem, intSem, seqOf_f, seqOf_l, seqOf_t, listD_l, tupD, isiB, isNone, bindT_name, bindT_tup, bindTs_nil, bindTs_cons, ↓oK_if, T.free, Ts.free, wipeR, noRef, setParR, muSem, mu1, mu0, ownL, List.all_cons, List.all_nil, List.contains_nil, List.map_cons, List.map_nil, List.length_cons, List.length_nil, Option.bind_some, Option.map_some, List.any_cons, List.any_nil, Bool.or_false, Bool.false_or, Bool.not_true, Bool.not_false, List.cons_append, List.nil_append, List.replicate_succ, List.replicate_zero, Nat.sub_self, refsOf, outsOf, reduceCtorEq, if_true, if_false, beq_self_eq_true, String.reduceBEq, and_true, true_and, forall_const, true_implies, false_implies, implies_true, Fl.rt.injEq, Prod.mk.injEq, PyData.bool.injEq, sh_int, sh_bool, sizeLine_eq, Nat.reduceLeDiff, Nat.reduceAdd, Nat.reduceLT, Nat.zero_le, Nat.reduceSub, true_or, or_true, false_or, or_false, and_false, false_and, Bool.false_eq_true, Bool.true_eq_false, not_true_eq_false, not_false_eq_true, exists_eq_left, exists_eq_left', exists_eq_right, exists_eq, Option.some.injEq, decide_true, decide_false, Nat.reduceEqDiff, List.length_map, boolsOf_mapf, all_mapf, any_mapf, small_0', _root_.eq_self, List.headD_cons, List.headD_nil, List.contains_cons, Nat.reduceBEq, Bool.not_false, Bool.or_self, Bool.and_self, ↓w_rest, lt_ii, le_ii, gt_ii, ge_ii, idx_lf, idx_ll, idx_t])
  refine W.while_ (fun m ρ => ∃ (off : Nat) (done rest : List (Nat × List Nat)), ρ = [some (tx s, .f), some (.list (done.map fun p => .int (p.1 : Nat)), .l), some (.int (off + skL false (s.drop off) : Nat), .f)] ∧ off ≤ s.length ∧ Pk off (s.drop off) rest ∧ L = done ++ rest ∧ m = rest.length) (n := L.length) (by have := hp.len.2; show _ < 1000; omega) ⟨0, [], L, by simp, Nat.zero_le _, by simpa using hp, rfl, rfl⟩ ?_
  rintro m ρ ⟨off, done, rest, rfl, ho, hpk, hL, rfl⟩
  (try simp only [↓w_var, ↓w_lit, ↓w_cst, ↓w_bin, ↓w_neg, ↓w_cmp, ↓w_cmp2, ↓w_not, ↓w_and, ↓w_or, ↓w_ite, ↓w_truth, ↓w_tup, ↓w_lst, ↓w_idx, ↓w_slice, ↓w_rev, ↓w_bi, ↓w_meth, ↓w_mut, ↓w_evs_nil, ↓w_evs_cons, ↓w_evp_nil, ↓w_evp_cons, ↓w_evm_nil, ↓w_evm_cons, ↓w_seq, ↓w_range, ↓w_enum, ↓w_zip, ↓w_nil, ↓w_consR, ↓w_expr, ↓w_set, ↓w_setT, ↓w_par, ↓w_ret, ↓w_retN, ↓w_retv, ↓w_if, ↓w_pass, ↓w_brk, ↓w_cont, ↓w_turn, ↓varK_f, ↓varK_t, ↓varK_l, ↓varK_g, ↓boolK_t, ↓boolK_f, ↓boolK_b, ↓intK_i, ↓idxK_f, ↓idxK_t, ↓lstK_l, ↓slK_s, ↓seqK_l, ↓seqK_t, ↓liK_l, ↓enumK_l, ↓enumK_t, ↓enumK_s, ↓rgK_i, ↓zipK_l, ↓flK_nx, ↓flK_rt, ↓flK_bk, ↓flK_ct, ↓lpK_nx, ↓lpK_ct, ↓lpK_bk, ↓lpK_rt, ↓oK_some, ↓oK_none, ↓oK_map, ↓oK_bind, ↓oK_chk, ↓rK_some, Rho.at, List.getElem?_cons_zero, List.getElem?_cons_succ, Option.getD_some, List.set_cons_zero, List.set_cons_succ, E.quiet, quiets, It.quiet, Bool.and_true, Bool.true_and, Bool.and_false, Bool.false_and, binSem, addSem, biSem, bi1, bi2, lenSem_l, lenSem_t, fz, truth_b, truth_n, truth_i, truth_l, truth_t, partE, sliceSem, revSem, absSem, intSem, seqOf_f, seqOf_l, seqOf_t, listD_l, tupD, isiB, isNone, bindT_name, bindT_tup, bindTs_nil, bindTs_cons, ↓oK_if, T.free, Ts.free, wipeR, noRef, setParR, muSem, mu1, mu0, ownL, List.all_cons, List.all_nil, List.contains_nil, List.map_cons, List.map_nil, List.length_cons, List.length_nil, Option.bind_some, Option.map_some, List.any_cons, List.any_nil, Bool.or_false, Bool.false_or, Bool.not_true, Bool.not_false, List.cons_append, List.nil_append, List.replicate_succ, List.replicate_zero, Nat.sub_self, refsOf, outsOf, reduceCtorEq, if_true, if_false, beq_self_eq_true, String.reduceBEq, and_true, true_and, forall_const, true_implies, false_implies, implies_true, Fl.rt.injEq, Prod.mk.injEq, PyData.bool.injEq, sh_int, sh_bool, sizeLine_eq, Nat.reduceLeDiff, Nat.reduceAdd, Nat.reduceLT, Nat.zero_le, Nat.reduceSub, true_or, or_true, false_or, or_false, and_false, false_and, Bool.false_eq_true, Bool.true_eq_false, not_true_eq_false, not_false_eq_true, exists_eq_left, exists_eq_left', exists_eq_right, exists_eq, Option.some.injEq, decide_true, decide_false, Nat.reduceEqDiff, List.length_map, boolsOf_mapf, all_mapf, any_mapf, small_0', _root_.eq_self, List.headD_cons, List.headD_nil, List.contains_cons, Nat.reduceBEq, Bool.not_false, Bool.or_self, Bool.and_self, ↓w_rest, lt_ii, le_ii, gt_ii, ge_ii, idx_lf, idx_ll, idx_t, len_tx (l := s) (by omega)])
  have hlen := hp.len.2
  generalize hu : s.drop off = u at *
  cases hpk with
  | nil h =>
    have hl2 := congrArg List.length hu
    rw [List.length_drop] at hl2
    have hn : ¬ ((off + skL false u : Nat) : Int) < s.length := by omega
    (try simp only [↓w_var, ↓w_lit, ↓w_cst, ↓w_bin, ↓w_neg, ↓w_cmp, ↓w_cmp2, ↓w_not, ↓w_and, ↓w_or, ↓w_ite, ↓w_truth, ↓w_tup, ↓w_lst, ↓w_idx, ↓w_slice, ↓w_rev, ↓w_bi, ↓w_meth, ↓w_mut, ↓w_evs_nil, ↓w_evs_cons, ↓w_evp_nil, ↓w_evp_cons, ↓w_evm_nil, ↓w_evm_cons, ↓w_seq, ↓w_range, ↓w_enum, ↓w_zip, ↓w_nil, ↓w_consR, ↓w_expr, ↓w_set, ↓w_setT, ↓w_par, ↓w_ret, ↓w_retN, ↓w_retv, ↓w_if, ↓w_pass, ↓w_brk, ↓w_cont, ↓w_turn, ↓varK_f, ↓varK_t, ↓varK_l, ↓varK_g, ↓boolK_t, ↓boolK_f, ↓boolK_b, ↓intK_i, ↓idxK_f, ↓idxK_t, ↓lstK_l, ↓slK_s, ↓seqK_l, ↓seqK_t, ↓liK_l, ↓enumK_l, ↓enumK_t, ↓enumK_s, ↓rgK_i, ↓zipK_l, ↓flK_nx, ↓flK_rt, ↓flK_bk, ↓flK_ct, ↓lpK_nx, ↓lpK_ct, ↓lpK_bk, ↓lpK_rt, ↓oK_some, ↓oK_none, ↓oK_map, ↓oK_bind, ↓oK_chk, ↓rK_some, Rho.at, List.getElem?_cons_zero, List.getElem?_cons_succ, Option.getD_some, List.set_cons_zero, List.set_cons_succ, E.quiet, quiets, It.quiet, Bool.and_true, Bool.true_and, Bool.and_false, Bool.false_and, binSem, addSem, biSem, bi1, bi2, lenSem_l, lenSem_t, fz, truth_b, truth_n, truth_i, truth_l, truth_t, partE, sliceSem, revSem, absSem, intSem, seqOf_f, seqOf_l, seqOf_t, listD_l, tupD, isiB, isNone, bindT_name, bindT_tup, bindTs_nil, bindTs_cons, ↓oK_if, T.free, Ts.free, wipeR, noRef, setParR, muSem, mu1, mu0, ownL, List.all_cons, List.all_nil, List.contains_nil, List.map_cons, List.map_nil, List.length_cons, List.length_nil, Option.bind_some, Option.map_some, List.any_cons, List.any_nil, Bool.or_false, Bool.false_or, Bool.not_true, Bool.not_false, List.cons_append, List.nil_append, List.replicate_succ, List.replicate_zero, Nat.sub_self, refsOf, outsOf, reduceCtorEq, if_true, if_false, beq_self_eq_true, String.reduceBEq, and_true, true_and, forall_const, true_implies, false_implies, implies_true, Fl.rt.injEq, Prod.mk.injEq, PyData.bool.injEq, sh_int, sh_bool, sizeLine_eq, Nat.reduceLeDiff, Nat.reduceAdd, Nat.reduceLT, Nat.zero_le, Nat.reduceSub, true_or, or_true, false_or, or_false, and_false, false_and, Bool.false_eq_true, Bool.true_eq_false, not_true_eq_false, not_false_eq_true, exists_eq_left, exists_eq_left', exists_eq_right, exists_eq, Option.some.injEq, decide_true, decide_false, Nat.reduceEqDiff, List.length_map, boolsOf_mapf, all_mapf, any_mapf, small_0', _root_.eq_self, List.headD_cons, List.headD_nil, List.contains_cons, Nat.reduceBEq, Bool.not_false, Bool.or_self, Bool.and_self, ↓w_rest, lt_ii, le_ii, gt_ii, ge_ii, idx_lf, idx_ll, idx_t, hn])
    rw [Rest]
    (try simp only [↓w_var, ↓w_lit, ↓w_cst, ↓w_bin, ↓w_neg, ↓w_cmp, ↓w_cmp2, ↓w_not, ↓w_and, ↓w_or, ↓w_ite, ↓w_truth, ↓w_tup, ↓w_lst, ↓w_idx, ↓w_slice, ↓w_rev, ↓w_bi, ↓w_meth, ↓w_mut, ↓w_evs_nil, ↓w_evs_cons, ↓w_evp_nil, ↓w_evp_cons, ↓w_evm_nil, ↓w_evm_cons, ↓w_seq, ↓w_range, ↓w_enum, ↓w_zip, ↓w_nil, ↓w_consR, ↓w_expr, ↓w_set, ↓w_setT, ↓w_par, ↓w_ret, ↓w_retN, ↓w_retv, ↓w_if, ↓w_pass, ↓w_brk, ↓w_cont, ↓w_turn, ↓varK_f, ↓varK_t, ↓varK_l, ↓varK_g, ↓boolK_t, ↓boolK_f, ↓boolK_b, ↓intK_i, ↓idxK_f, ↓idxK_t, ↓lstK_l, ↓slK_s, ↓seqK_l, ↓seqK_t, ↓liK_l, ↓enumK_l, ↓enumK_t, ↓enumK_s, ↓rgK_i, ↓zipK_l, ↓flK_nx, ↓flK_rt, ↓flK_bk, ↓flK_ct, ↓lpK_nx, ↓lpK_ct, ↓lpK_bk, ↓lpK_rt, ↓oK_some, ↓oK_none, ↓oK_map, ↓oK_bind, ↓oK_chk, ↓rK_some, Rho.at, List.getElem?_cons_zero, List.getElem?_cons_succ, Option.getD_some, List.set_cons_zero, List.set_cons_succ, E.quiet, quiets, It.quiet, Bool.and_true, Bool.true_and, Bool.and_false, Bool.false_and, binSem, addSem, biSem, bi1, bi2, lenSem_l, lenSem_t, fz, truth_b, truth_n, truth_i, truth_l, truth_t, partE, sliceSem, revSem, absSem, intSem, seqOf_f, seqOf_l, seqOf_t, listD_l, tupD, isiB, isNone, bindT_name, bindT_tup, bindTs_nil, bindTs_cons, ↓oK_if, T.free, Ts.free, wipeR, noRef, setParR, muSem, mu1, mu0, ownL, List.all_cons, List.all_nil, List.contains_nil, List.map_cons, List.map_nil, List.length_cons, List.length_nil, Option.bind_some, Option.map_some, List.any_cons, List.any_nil, Bool.or_false, Bool.false_or, Bool.not_true, Bool.not_false, List.cons_append, List.nil_append, List.replicate_succ, List.replicate_zero, Nat.sub_self, refsOf, outsOf, reduceCtorEq, if_true, if_false, beq_self_eq_true, String.reduceBEq, and_true, true_and, forall_const, true_implies, false_implies, implies_true, Fl.rt.injEq, Prod.mk.injEq, PyData.bool.injEq, sh_int, sh_bool, sizeLine_eq, Nat.reduceLeDiff, Nat.reduceAdd, Nat.reduceLT, Nat.zero_le, Nat.reduceSub, true_or, or_true, false_or, or_false, and_false, false_and, Bool.false_eq_true, Bool.true_eq_false, not_true_eq_false, not_false_eq_true, exists_eq_left, exists_eq_left', exists_eq_right, exists_eq, Option.some.injEq, decide_true, decide_false, Nat.reduceEqDiff, List.length_map, boolsOf_mapf, all_mapf, any_mapf, small_0', _root_.eq_self, List.headD_cons, List.headD_nil, List.contains_cons, Nat.reduceBEq, Bool.not_false, Bool.or_self, Bool.and_self, ↓w_rest, lt_ii, le_ii, gt_ii, ge_ii, idx_lf, idx_ll, idx_t])
    rw [hL, List.append_nil]
  | @cons _ c g t r L2 h1 h2 h3 h4 h5 =>
    obtain ⟨b1, b2, b3⟩ := gt_append hu
    have hsk := h1 (t ++ r)
    have hlt : ((off + skL false (g ++ (c :: (t ++ r))) : Nat) : Int) < s.length := by rw [hsk]; omega
    have te := r_token_end hs hl (a := off + g.length) (by omega)
    rw [b2, tkL_gt h3 h4] at te
    have sk := r_skipped hs hl (a := off + g.length + (t.length + 1)) b1
    have hsz : done.length < 16777216 := by
      have := congrArg List.length hL
      rw [List.length_append] at this
      omega
    rw [hsk] at hlt
    (try simp only [↓w_var, ↓w_lit, ↓w_cst, ↓w_bin, ↓w_neg, ↓w_cmp, ↓w_cmp2, ↓w_not, ↓w_and, ↓w_or, ↓w_ite, ↓w_truth, ↓w_tup, ↓w_lst, ↓w_idx, ↓w_slice, ↓w_rev, ↓w_bi, ↓w_meth, ↓w_mut, ↓w_evs_nil, ↓w_evs_cons, ↓w_evp_nil, ↓w_evp_cons, ↓w_evm_nil, ↓w_evm_cons, ↓w_seq, ↓w_range, ↓w_enum, ↓w_zip, ↓w_nil, ↓w_consR, ↓w_expr, ↓w_set, ↓w_setT, ↓w_par, ↓w_ret, ↓w_retN, ↓w_retv, ↓w_if, ↓w_pass, ↓w_brk, ↓w_cont, ↓w_turn, ↓varK_f, ↓varK_t, ↓varK_l, ↓varK_g, ↓boolK_t, ↓boolK_f, ↓boolK_b, ↓intK_i, ↓idxK_f, ↓idxK_t, ↓lstK_l, ↓slK_s, ↓seqK_l, ↓seqK_t, ↓liK_l, ↓enumK_l, ↓enumK_t, ↓enumK_s, ↓rgK_i, ↓zipK_l, ↓flK_nx, ↓flK_rt, ↓flK_bk, ↓flK_ct, ↓lpK_nx, ↓lpK_ct, ↓lpK_bk, ↓lpK_rt, ↓oK_some, ↓oK_none, ↓oK_map, ↓oK_bind, ↓oK_chk, ↓rK_some, Rho.at, List.getElem?_cons_zero, List.getElem?_cons_succ, Option.getD_some, List.set_cons_zero, List.set_cons_succ, E.quiet, quiets, It.quiet, Bool.and_true, Bool.true_and, Bool.and_false, Bool.false_and, binSem, addSem, biSem, bi1, bi2, lenSem_l, lenSem_t, fz, truth_b, truth_n, truth_i, truth_l, truth_t, partE, sliceSem, revSem, absSem, intSem, seqOf_f, seqOf_l, seqOf_t, listD_l, tupD, isiB, isNone, bindT_name, bindT_tup, bindTs_nil, bindTs_cons, ↓oK_if, T.free, Ts.free, wipeR, noRef, setParR, muSem, mu1, mu0, ownL, List.all_cons, List.all_nil, List.contains_nil, List.map_cons, List.map_nil, List.length_cons, List.length_nil, Option.bind_some, Option.map_some, List.any_cons, List.any_nil, Bool.or_false, Bool.false_or, Bool.not_true, Bool.not_false, List.cons_append, List.nil_append, List.replicate_succ, List.replicate_zero, Nat.sub_self, refsOf, outsOf, reduceCtorEq, if_true, if_false, beq_self_eq_true, String.reduceBEq, and_true, true_and, forall_const, true_implies, false_implies, implies_true, Fl.rt.injEq, Prod.mk.injEq, PyData.bool.injEq, sh_int, sh_bool, sizeLine_eq, Nat.reduceLeDiff, Nat.reduceAdd, Nat.reduceLT, Nat.zero_le, Nat.reduceSub, true_or, or_true, false_or, or_false, and_false, false_and, Bool.false_eq_true, Bool.true_eq_false, not_true_eq_false, not_false_eq_true, exists_eq_left, exists_eq_left', exists_eq_right, exists_eq, Option.some.injEq, decide_true, decide_false, Nat.reduceEqDiff, List.length_map, boolsOf_mapf, all_mapf, any_mapf, small_0', _root_.eq_self, List.headD_cons, List.headD_nil, List.contains_cons, Nat.reduceBEq, Bool.not_false, Bool.or_self, Bool.and_self, ↓w_rest, lt_ii, le_ii, gt_ii, ge_ii, idx_lf, idx_ll, idx_t, hsk, hlt, pu_8_6, wc_8_6, pu_8_7, wc_8_7, hsz])
    rw [Rest]
    (try simp only [↓w_var, ↓w_lit, ↓w_cst, ↓w_bin, ↓w_neg, ↓w_cmp, ↓w_cmp2, ↓w_not, ↓w_and, ↓w_or, ↓w_ite, ↓w_truth, ↓w_tup, ↓w_lst, ↓w_idx, ↓w_slice, ↓w_rev, ↓w_bi, ↓w_meth, ↓w_mut, ↓w_evs_nil, ↓w_evs_cons, ↓w_evp_nil, ↓w_evp_cons, ↓w_evm_nil, ↓w_evm_cons, ↓w_seq, ↓w_range, ↓w_enum, ↓w_zip, ↓w_nil, ↓w_consR, ↓w_expr, ↓w_set, ↓w_setT, ↓w_par, ↓w_ret, ↓w_retN, ↓w_retv, ↓w_if, ↓w_pass, ↓w_brk, ↓w_cont, ↓w_turn, ↓varK_f, ↓varK_t, ↓varK_l, ↓varK_g, ↓boolK_t, ↓boolK_f, ↓boolK_b, ↓intK_i, ↓idxK_f, ↓idxK_t, ↓lstK_l, ↓slK_s, ↓seqK_l, ↓seqK_t, ↓liK_l, ↓enumK_l, ↓enumK_t, ↓enumK_s, ↓rgK_i, ↓zipK_l, ↓flK_nx, ↓flK_rt, ↓flK_bk, ↓flK_ct, ↓lpK_nx, ↓lpK_ct, ↓lpK_bk, ↓lpK_rt, ↓oK_some, ↓oK_none, ↓oK_map, ↓oK_bind, ↓oK_chk, ↓rK_some, Rho.at, List.getElem?_cons_zero, List.getElem?_cons_succ, Option.getD_some, List.set_cons_zero, List.set_cons_succ, E.quiet, quiets, It.quiet, Bool.and_true, Bool.true_and, Bool.and_false, Bool.false_and, binSem, addSem, biSem, bi1, bi2, lenSem_l, lenSem_t, fz, truth_b, truth_n, truth_i, truth_l, truth_t, partE, sliceSem, revSem, absSem, intSem, seqOf_f, seqOf_l, seqOf_t, listD_l, tupD, isiB, isNone, bindT_name, bindT_tup, bindTs_nil, bindTs_cons, ↓oK_if, T.free, Ts.free, wipeR, noRef, setParR, muSem, mu1, mu0, ownL, List.all_cons, List.all_nil, List.contains_nil, List.map_cons, List.map_nil, List.length_cons, List.length_nil, Option.bind_some, Option.map_some, List.any_cons, List.any_nil, Bool.or_false, Bool.false_or, Bool.not_true, Bool.not_false, List.cons_append, List.nil_append, List.replicate_succ, List.replicate_zero, Nat.sub_self, refsOf, outsOf, reduceCtorEq, if_true, if_false, beq_self_eq_true, String.reduceBEq, and_true, true_and, forall_const, true_implies, false_implies, implies_true, Fl.rt.injEq, Prod.mk.injEq, PyData.bool.injEq, sh_int, sh_bool, sizeLine_eq, Nat.reduceLeDiff, Nat.reduceAdd, Nat.reduceLT, Nat.zero_le, Nat.reduceSub, true_or, or_true, false_or, or_false, and_false, false_and, Bool.false_eq_true, Bool.true_eq_false, not_true_eq_false, not_false_eq_true, exists_eq_left, exists_eq_left', exists_eq_right, exists_eq, Option.some.injEq, decide_true, decide_false, Nat.reduceEqDiff, List.length_map, boolsOf_mapf, all_mapf, any_mapf, small_0', _root_.eq_self, List.headD_cons, List.headD_nil, List.contains_cons, Nat.reduceBEq, Bool.not_false, Bool.or_self, Bool.and_self, ↓w_rest, lt_ii, le_ii, gt_ii, ge_ii, idx_lf, idx_ll, idx_t, pu_8_6, wc_8_6, pu_8_7, wc_8_7, te, sk])
    rw [b3]
    refine ⟨L2.length, by simp, off + g.length + (t.length + 1), done ++ [(off + g.length, c :: t)], L2, ?_, b1, by rw [b3]; exact h5, by rw [hL]; simp, rfl⟩
    rw [b3]
    simp
end Law
/-! k05: the program's tokens; the law's walk. -/
namespace Law
set_option maxHeartbeats 4000000
open Ev PySem PySem.Spec L2
theorem r_tokens_of {s : List Nat} (hs : Asc s) (hl : s.length ≤ 900) {L : List (Nat × List Nat)} (hp : Pk 0 s L) : (c_tokens_of).run (Phi_9 rounds) [(tx s, .f)] = some ((.tuple (L.map fun p => tx p.2), .f), [none]) := by
  refine run_W ?_
  unfold c_tokens_of
  have h0 := r_token_places hs hl hp
  (try simp only [↓w_var, ↓w_lit, ↓w_cst, ↓w_bin, ↓w_neg, ↓w_cmp, ↓w_cmp2, ↓w_not, ↓w_and, ↓w_or, ↓w_ite, ↓w_truth, ↓w_tup, ↓w_lst, ↓w_idx, ↓w_slice, ↓w_rev, ↓w_bi, ↓w_meth, ↓w_mut, ↓w_evs_nil, ↓w_evs_cons, ↓w_evp_nil, ↓w_evp_cons, ↓w_evm_nil, ↓w_evm_cons, ↓w_seq, ↓w_range, ↓w_enum, ↓w_zip, ↓w_nil, ↓w_consR, ↓w_expr, ↓w_set, ↓w_setT, ↓w_par, ↓w_ret, ↓w_retN, ↓w_retv, ↓w_if, ↓w_pass, ↓w_brk, ↓w_cont, ↓w_turn, ↓varK_f, ↓varK_t, ↓varK_l, ↓varK_g, ↓boolK_t, ↓boolK_f, ↓boolK_b, ↓intK_i, ↓idxK_f, ↓idxK_t, ↓lstK_l, ↓slK_s, ↓seqK_l, ↓seqK_t, ↓liK_l, ↓enumK_l, ↓enumK_t, ↓enumK_s, ↓rgK_i, ↓zipK_l, ↓flK_nx, ↓flK_rt, ↓flK_bk, ↓flK_ct, ↓lpK_nx, ↓lpK_ct, ↓lpK_bk, ↓lpK_rt, ↓oK_some, ↓oK_none, ↓oK_map, ↓oK_bind, ↓oK_chk, ↓rK_some, Rho.at, List.getElem?_cons_zero, List.getElem?_cons_succ, Option.getD_some, List.set_cons_zero, List.set_cons_succ, E.quiet, quiets, It.quiet, Bool.and_true, Bool.true_and, Bool.and_false, Bool.false_and, binSem, addSem, biSem, bi1, bi2, lenSem_l, lenSem_t, fz, truth_b, truth_n, truth_i, truth_l, truth_t, partE, sliceSem, revSem, absSem, intSem, seqOf_f, seqOf_l, seqOf_t, listD_l, tupD, isiB, isNone, bindT_name, bindT_tup, bindTs_nil, bindTs_cons, ↓oK_if, T.free, Ts.free, wipeR, noRef, setParR, muSem, mu1, mu0, ownL, List.all_cons, List.all_nil, List.contains_nil, List.map_cons, List.map_nil, List.length_cons, List.length_nil, Option.bind_some, Option.map_some, List.any_cons, List.any_nil, Bool.or_false, Bool.false_or, Bool.not_true, Bool.not_false, List.cons_append, List.nil_append, List.replicate_succ, List.replicate_zero, Nat.sub_self, refsOf, outsOf, reduceCtorEq, if_true, if_false, beq_self_eq_true, String.reduceBEq, and_true, true_and, forall_const, true_implies, false_implies, implies_true, Fl.rt.injEq, Prod.mk.injEq, PyData.bool.injEq, sh_int, sh_bool, sizeLine_eq, Nat.reduceLeDiff, Nat.reduceAdd, Nat.reduceLT, Nat.zero_le, Nat.reduceSub, true_or, or_true, false_or, or_false, and_false, false_and, Bool.false_eq_true, Bool.true_eq_false, not_true_eq_false, not_false_eq_true, exists_eq_left, exists_eq_left', exists_eq_right, exists_eq, Option.some.injEq, decide_true, decide_false, Nat.reduceEqDiff, List.length_map, boolsOf_mapf, all_mapf, any_mapf, small_0', _root_.eq_self, List.headD_cons, List.headD_nil, List.contains_cons, Nat.reduceBEq, Bool.not_false, Bool.or_self, Bool.and_self, ↓w_rest, lt_ii, le_ii, gt_ii, ge_ii, idx_lf, idx_ll, idx_t])
  refine W.compM (fun p : Nat × List Nat => .int (p.1 : Nat)) (fun p => tx p.2) ?_
  (try simp only [↓w_var, ↓w_lit, ↓w_cst, ↓w_bin, ↓w_neg, ↓w_cmp, ↓w_cmp2, ↓w_not, ↓w_and, ↓w_or, ↓w_ite, ↓w_truth, ↓w_tup, ↓w_lst, ↓w_idx, ↓w_slice, ↓w_rev, ↓w_bi, ↓w_meth, ↓w_mut, ↓w_evs_nil, ↓w_evs_cons, ↓w_evp_nil, ↓w_evp_cons, ↓w_evm_nil, ↓w_evm_cons, ↓w_seq, ↓w_range, ↓w_enum, ↓w_zip, ↓w_nil, ↓w_consR, ↓w_expr, ↓w_set, ↓w_setT, ↓w_par, ↓w_ret, ↓w_retN, ↓w_retv, ↓w_if, ↓w_pass, ↓w_brk, ↓w_cont, ↓w_turn, ↓varK_f, ↓varK_t, ↓varK_l, ↓varK_g, ↓boolK_t, ↓boolK_f, ↓boolK_b, ↓intK_i, ↓idxK_f, ↓idxK_t, ↓lstK_l, ↓slK_s, ↓seqK_l, ↓seqK_t, ↓liK_l, ↓enumK_l, ↓enumK_t, ↓enumK_s, ↓rgK_i, ↓zipK_l, ↓flK_nx, ↓flK_rt, ↓flK_bk, ↓flK_ct, ↓lpK_nx, ↓lpK_ct, ↓lpK_bk, ↓lpK_rt, ↓oK_some, ↓oK_none, ↓oK_map, ↓oK_bind, ↓oK_chk, ↓rK_some, Rho.at, List.getElem?_cons_zero, List.getElem?_cons_succ, Option.getD_some, List.set_cons_zero, List.set_cons_succ, E.quiet, quiets, It.quiet, Bool.and_true, Bool.true_and, Bool.and_false, Bool.false_and, binSem, addSem, biSem, bi1, bi2, lenSem_l, lenSem_t, fz, truth_b, truth_n, truth_i, truth_l, truth_t, partE, revSem, absSem, intSem, seqOf_f, seqOf_l, seqOf_t, listD_l, tupD, isiB, isNone, bindT_name, bindT_tup, bindTs_nil, bindTs_cons, ↓oK_if, T.free, Ts.free, wipeR, noRef, setParR, muSem, mu1, mu0, ownL, List.all_cons, List.all_nil, List.contains_nil, List.map_cons, List.map_nil, List.length_cons, List.length_nil, Option.bind_some, Option.map_some, List.any_cons, List.any_nil, Bool.or_false, Bool.false_or, Bool.not_true, Bool.not_false, List.cons_append, List.nil_append, List.replicate_succ, List.replicate_zero, Nat.sub_self, refsOf, outsOf, reduceCtorEq, if_true, if_false, beq_self_eq_true, String.reduceBEq, and_true, true_and, forall_const, true_implies, false_implies, implies_true, Fl.rt.injEq, Prod.mk.injEq, PyData.bool.injEq, sh_int, sh_bool, sizeLine_eq, Nat.reduceLeDiff, Nat.reduceAdd, Nat.reduceLT, Nat.zero_le, Nat.reduceSub, true_or, or_true, false_or, or_false, and_false, false_and, Bool.false_eq_true, Bool.true_eq_false, not_true_eq_false, not_false_eq_true, exists_eq_left, exists_eq_left', exists_eq_right, exists_eq, Option.some.injEq, decide_true, decide_false, Nat.reduceEqDiff, List.length_map, boolsOf_mapf, all_mapf, any_mapf, small_0', _root_.eq_self, List.headD_cons, List.headD_nil, List.contains_cons, Nat.reduceBEq, Bool.not_false, Bool.or_self, Bool.and_self, ↓w_rest, lt_ii, le_ii, gt_ii, ge_ii, idx_lf, idx_ll, idx_t, pu_9_7, wc_9_7, pu_9_8, wc_9_8, h0])
  refine ⟨L, rfl, by have := hp.len.2; omega, fun p hpm => ?_, ?_⟩
  · obtain ⟨b1, b2, b3⟩ := hp.at_ s rfl p hpm
    have te := r_token_end hs hl (a := p.1) (by omega)
    rw [b2] at te
    have sl := slice_tx (l := s) (by omega) p.1 (p.1 + p.2.length) .f
    rw [show p.1 + p.2.length - p.1 = p.2.length by omega, b3] at sl
    (try simp only [↓w_var, ↓w_lit, ↓w_cst, ↓w_bin, ↓w_neg, ↓w_cmp, ↓w_cmp2, ↓w_not, ↓w_and, ↓w_or, ↓w_ite, ↓w_truth, ↓w_tup, ↓w_lst, ↓w_idx, ↓w_slice, ↓w_rev, ↓w_bi, ↓w_meth, ↓w_mut, ↓w_evs_nil, ↓w_evs_cons, ↓w_evp_nil, ↓w_evp_cons, ↓w_evm_nil, ↓w_evm_cons, ↓w_seq, ↓w_range, ↓w_enum, ↓w_zip, ↓w_nil, ↓w_consR, ↓w_expr, ↓w_set, ↓w_setT, ↓w_par, ↓w_ret, ↓w_retN, ↓w_retv, ↓w_if, ↓w_pass, ↓w_brk, ↓w_cont, ↓w_turn, ↓varK_f, ↓varK_t, ↓varK_l, ↓varK_g, ↓boolK_t, ↓boolK_f, ↓boolK_b, ↓intK_i, ↓idxK_f, ↓idxK_t, ↓lstK_l, ↓slK_s, ↓seqK_l, ↓seqK_t, ↓liK_l, ↓enumK_l, ↓enumK_t, ↓enumK_s, ↓rgK_i, ↓zipK_l, ↓flK_nx, ↓flK_rt, ↓flK_bk, ↓flK_ct, ↓lpK_nx, ↓lpK_ct, ↓lpK_bk, ↓lpK_rt, ↓oK_some, ↓oK_none, ↓oK_map, ↓oK_bind, ↓oK_chk, ↓rK_some, Rho.at, List.getElem?_cons_zero, List.getElem?_cons_succ, Option.getD_some, List.set_cons_zero, List.set_cons_succ, E.quiet, quiets, It.quiet, Bool.and_true, Bool.true_and, Bool.and_false, Bool.false_and, binSem, addSem, biSem, bi1, bi2, lenSem_l, lenSem_t, fz, truth_b, truth_n, truth_i, truth_l, truth_t, partE, revSem, absSem, intSem, seqOf_f, seqOf_l, seqOf_t, listD_l, tupD, isiB, isNone, bindT_name, bindT_tup, bindTs_nil, bindTs_cons, ↓oK_if, T.free, Ts.free, wipeR, noRef, setParR, muSem, mu1, mu0, ownL, List.all_cons, List.all_nil, List.contains_nil, List.map_cons, List.map_nil, List.length_cons, List.length_nil, Option.bind_some, Option.map_some, List.any_cons, List.any_nil, Bool.or_false, Bool.false_or, Bool.not_true, Bool.not_false, List.cons_append, List.nil_append, List.replicate_succ, List.replicate_zero, Nat.sub_self, refsOf, outsOf, reduceCtorEq, if_true, if_false, beq_self_eq_true, String.reduceBEq, and_true, true_and, forall_const, true_implies, false_implies, implies_true, Fl.rt.injEq, Prod.mk.injEq, PyData.bool.injEq, sh_int, sh_bool, sizeLine_eq, Nat.reduceLeDiff, Nat.reduceAdd, Nat.reduceLT, Nat.zero_le, Nat.reduceSub, true_or, or_true, false_or, or_false, and_false, false_and, Bool.false_eq_true, Bool.true_eq_false, not_true_eq_false, not_false_eq_true, exists_eq_left, exists_eq_left', exists_eq_right, exists_eq, Option.some.injEq, decide_true, decide_false, Nat.reduceEqDiff, List.length_map, boolsOf_mapf, all_mapf, any_mapf, small_0', _root_.eq_self, List.headD_cons, List.headD_nil, List.contains_cons, Nat.reduceBEq, Bool.not_false, Bool.or_self, Bool.and_self, ↓w_rest, lt_ii, le_ii, gt_ii, ge_ii, idx_lf, idx_ll, idx_t, pu_9_7, wc_9_7, pu_9_8, wc_9_8, te, sl])
  · (try simp only [↓w_var, ↓w_lit, ↓w_cst, ↓w_bin, ↓w_neg, ↓w_cmp, ↓w_cmp2, ↓w_not, ↓w_and, ↓w_or, ↓w_ite, ↓w_truth, ↓w_tup, ↓w_lst, ↓w_idx, ↓w_slice, ↓w_rev, ↓w_bi, ↓w_meth, ↓w_mut, ↓w_evs_nil, ↓w_evs_cons, ↓w_evp_nil, ↓w_evp_cons, ↓w_evm_nil, ↓w_evm_cons, ↓w_seq, ↓w_range, ↓w_enum, ↓w_zip, ↓w_nil, ↓w_consR, ↓w_expr, ↓w_set, ↓w_setT, ↓w_par, ↓w_ret, ↓w_retN, ↓w_retv, ↓w_if, ↓w_pass, ↓w_brk, ↓w_cont, ↓w_turn, ↓varK_f, ↓varK_t, ↓varK_l, ↓varK_g, ↓boolK_t, ↓boolK_f, ↓boolK_b, ↓intK_i, ↓idxK_f, ↓idxK_t, ↓lstK_l, ↓slK_s, ↓seqK_l, ↓seqK_t, ↓liK_l, ↓enumK_l, ↓enumK_t, ↓enumK_s, ↓rgK_i, ↓zipK_l, ↓flK_nx, ↓flK_rt, ↓flK_bk, ↓flK_ct, ↓lpK_nx, ↓lpK_ct, ↓lpK_bk, ↓lpK_rt, ↓oK_some, ↓oK_none, ↓oK_map, ↓oK_bind, ↓oK_chk, ↓rK_some, Rho.at, List.getElem?_cons_zero, List.getElem?_cons_succ, Option.getD_some, List.set_cons_zero, List.set_cons_succ, E.quiet, quiets, It.quiet, Bool.and_true, Bool.true_and, Bool.and_false, Bool.false_and, binSem, addSem, biSem, bi1, bi2, lenSem_l, lenSem_t, fz, truth_b, truth_n, truth_i, truth_l, truth_t, partE, sliceSem, revSem, absSem, intSem, seqOf_f, seqOf_l, seqOf_t, listD_l, tupD, isiB, isNone, bindT_name, bindT_tup, bindTs_nil, bindTs_cons, ↓oK_if, T.free, Ts.free, wipeR, noRef, setParR, muSem, mu1, mu0, ownL, List.all_cons, List.all_nil, List.contains_nil, List.map_cons, List.map_nil, List.length_cons, List.length_nil, Option.bind_some, Option.map_some, List.any_cons, List.any_nil, Bool.or_false, Bool.false_or, Bool.not_true, Bool.not_false, List.cons_append, List.nil_append, List.replicate_succ, List.replicate_zero, Nat.sub_self, refsOf, outsOf, reduceCtorEq, if_true, if_false, beq_self_eq_true, String.reduceBEq, and_true, true_and, forall_const, true_implies, false_implies, implies_true, Fl.rt.injEq, Prod.mk.injEq, PyData.bool.injEq, sh_int, sh_bool, sizeLine_eq, Nat.reduceLeDiff, Nat.reduceAdd, Nat.reduceLT, Nat.zero_le, Nat.reduceSub, true_or, or_true, false_or, or_false, and_false, false_and, Bool.false_eq_true, Bool.true_eq_false, not_true_eq_false, not_false_eq_true, exists_eq_left, exists_eq_left', exists_eq_right, exists_eq, Option.some.injEq, decide_true, decide_false, Nat.reduceEqDiff, List.length_map, boolsOf_mapf, all_mapf, any_mapf, small_0', _root_.eq_self, List.headD_cons, List.headD_nil, List.contains_cons, Nat.reduceBEq, Bool.not_false, Bool.or_self, Bool.and_self, ↓w_rest, lt_ii, le_ii, gt_ii, ge_ii, idx_lf, idx_ll, idx_t])
end Law
/-! k05: the law's walk. -/
namespace Law
set_option maxHeartbeats 4000000
open Ev PySem PySem.Spec L2
def mdS : Md → PyData
  | .gap => .str "gap"
  | .remark => .str "remark"
  | .word => .str "word"
  | .dash => .str "dash"
  | .sign => .str "sign"
theorem st_re (m : Md) (o o2 : O) : cmpSem .eq (mdS m, o) (.str "remark", o2) = some (decide (m = .remark)) := by
  show chk (SeqAt.shaped (mdS m) = true ∧ SeqAt.shaped (.str "remark") = true) (PyData.eqv (mdS m) (.str "remark")) = _
  cases m <;> decide +kernel
theorem st_wo (m : Md) (o o2 : O) : cmpSem .eq (mdS m, o) (.str "word", o2) = some (decide (m = .word)) := by
  show chk (SeqAt.shaped (mdS m) = true ∧ SeqAt.shaped (.str "word") = true) (PyData.eqv (mdS m) (.str "word")) = _
  cases m <;> decide +kernel
theorem st_da (m : Md) (o o2 : O) : cmpSem .eq (mdS m, o) (.str "dash", o2) = some (decide (m = .dash)) := by
  show chk (SeqAt.shaped (mdS m) = true ∧ SeqAt.shaped (.str "dash") = true) (PyData.eqv (mdS m) (.str "dash")) = _
  cases m <;> decide +kernel
theorem enumK_tx {P : List PyData → Prop} {s : List Nat} : enumK P (tx s) ↔ P (s.map fun c => tx [c]) := Iff.rfl
theorem mem_2 {c : Nat} (h : c < 128) (o o2 : O) : cmpSem .mem (tx [c], o) (.list [tx [32], tx [10]], o2) = some (c == 32 || c == 10) := by
  show chk (SeqAt.shaped (tx [c]) = true ∧ SeqAt.shaped (.list [tx [32], tx [10]]) = true) ([tx [32], tx [10]].any fun z => PyData.eqv z (tx [c])) = _
  unfold chk
  rw [if_pos ⟨sh_tx (asc1 h), by decide +kernel⟩]
  simp only [List.any_cons, List.any_nil, tx_eqv, dec1, Bool.or_false]
  rw [Bool.beq_comm (a := 32), Bool.beq_comm (a := 10)]
theorem at0 (x : PyData) (r : List PyData) : atI (x :: r) 0 = some x := atI_nat (j := 0) rfl
theorem at1 (x y : PyData) (r : List PyData) : atI (x :: y :: r) 1 = some y := atI_nat (j := 1) rfl
def enc5 (p : Nat × List Nat) : PyData := .tuple [.int (p.1 : Nat), tx p.2]
theorem ixN_last (n : Nat) : ixN (n + 1) (-1) = some n := by
  unfold ixN
  rw [if_neg (by decide), if_pos (by omega)]
  congr 1
  omega
theorem add_1 {a : List Nat} {c : Nat} (h : a.length ≤ 1000) (o o2 : O) : addSem (tx a, o) (tx [c], o2) = some (fz (tx (a ++ [c]))) := add_tx (by simp; omega) o o2
theorem set_last {α : Type} (l : List α) (x y : α) : (l ++ [x]).set l.length y = l ++ [y] := by
  induction l with
  | nil => rfl
  | cons a l ih => exact congrArg (a :: ·) ih
theorem enc5_eq (o : Nat) (t : List Nat) : enc5 (o, t) = .tuple [.int (o : Nat), tx t] := rfl
theorem set_lastm (l : List (Nat × List Nat)) (x y : PyData) : (l.map enc5 ++ [x]).set l.length y = l.map enc5 ++ [y] := by
  have := set_last (l.map enc5) x y
  rw [List.length_map] at this
  exact this
theorem r_walk {s : List Nat} (hs : Asc s) (hl : s.length ≤ 900) : (c__law_walk).run (Phi_5 rounds) [(tx s, .f)] = some ((.list ((wk .gap [] 0 s).map enc5), .l), [none]) := by
  refine run_W ?_
  unfold c__law_walk
  simp only [l_nl, l_sp, l_re, l_gt, l_mi]
  (try simp only [↓w_var, ↓w_lit, ↓w_cst, ↓w_bin, ↓w_neg, ↓w_cmp, ↓w_cmp2, ↓w_not, ↓w_and, ↓w_or, ↓w_ite, ↓w_truth, ↓w_tup, ↓w_lst, ↓w_idx, ↓w_slice, ↓w_rev, ↓w_bi, ↓w_meth, ↓w_mut, ↓w_evs_nil, ↓w_evs_cons, ↓w_evp_nil, ↓w_evp_cons, ↓w_evm_nil, ↓w_evm_cons, ↓w_seq, ↓w_range, ↓w_enum, ↓w_zip, ↓w_nil, ↓w_consR, ↓w_expr, ↓w_set, ↓w_setT, ↓w_par, ↓w_ret, ↓w_retN, ↓w_retv, ↓w_if, ↓w_pass, ↓w_brk, ↓w_cont, ↓w_turn, ↓varK_f, ↓varK_t, ↓varK_l, ↓varK_g, ↓boolK_t, ↓boolK_f, ↓boolK_b, ↓intK_i, ↓idxK_f, ↓idxK_t, ↓lstK_l, ↓slK_s, ↓seqK_l, ↓seqK_t, ↓liK_l, ↓enumK_l, ↓enumK_t, ↓enumK_s, ↓rgK_i, ↓zipK_l, ↓flK_nx, ↓flK_rt, ↓flK_bk, ↓flK_ct, ↓lpK_nx, ↓lpK_ct, ↓lpK_bk, ↓lpK_rt, ↓oK_some, ↓oK_none, ↓oK_map, ↓oK_bind, ↓oK_chk, ↓rK_some, Rho.at, List.getElem?_cons_zero, List.getElem?_cons_succ, Option.getD_some, List.set_cons_zero, List.set_cons_succ, E.quiet, quiets, It.quiet, Bool.and_true, Bool.true_and, Bool.and_false, Bool.false_and, binSem, addSem, biSem, bi1, bi2, lenSem_l, lenSem_t, fz, truth_b, truth_n, truth_i, truth_l, truth_t, partE, sliceSem, revSem, absSem, intSem, seqOf_f, seqOf_l, seqOf_t, listD_l, tupD, isiB, isNone, bindT_name, bindT_tup, bindTs_nil, bindTs_cons, ↓oK_if, T.free, Ts.free, wipeR, noRef, setParR, muSem, mu1, mu0, ownL, List.all_cons, List.all_nil, List.contains_nil, List.map_cons, List.map_nil, List.length_cons, List.length_nil, Option.bind_some, Option.map_some, List.any_cons, List.any_nil, Bool.or_false, Bool.false_or, Bool.not_true, Bool.not_false, List.cons_append, List.nil_append, List.replicate_succ, List.replicate_zero, Nat.sub_self, refsOf, outsOf, reduceCtorEq, if_true, if_false, beq_self_eq_true, String.reduceBEq, and_true, true_and, forall_const, true_implies, false_implies, implies_true, Fl.rt.injEq, Prod.mk.injEq, PyData.bool.injEq, sh_int, sh_bool, sizeLine_eq, Nat.reduceLeDiff, Nat.reduceAdd, Nat.reduceLT, Nat.zero_le, Nat.reduceSub, true_or, or_true, false_or, or_false, and_false, false_and, Bool.false_eq_true, Bool.true_eq_false, not_true_eq_false, not_false_eq_true, exists_eq_left, exists_eq_left', exists_eq_right, exists_eq, Option.some.injEq, decide_true, decide_false, Nat.reduceEqDiff, List.length_map, boolsOf_mapf, all_mapf, any_mapf, small_0', _root_.eq_self, List.headD_cons, List.headD_nil, List.contains_cons, Nat.reduceBEq, Bool.not_false, Bool.or_self, Bool.and_self, ↓w_rest, lt_ii, le_ii, gt_ii, ge_ii, idx_lf, idx_ll, idx_t])
  rw [Rest]
  (try simp only [↓w_var, ↓w_lit, ↓w_cst, ↓w_bin, ↓w_neg, ↓w_cmp, ↓w_cmp2, ↓w_not, ↓w_and, ↓w_or, ↓w_ite, ↓w_truth, ↓w_tup, ↓w_lst, ↓w_idx, ↓w_slice, ↓w_rev, ↓w_bi, ↓w_meth, ↓w_mut, ↓w_evs_nil, ↓w_evs_cons, ↓w_evp_nil, ↓w_evp_cons, ↓w_evm_nil, ↓w_evm_cons, ↓w_seq, ↓w_range, ↓w_enum, ↓w_zip, ↓w_nil, ↓w_consR, ↓w_expr, ↓w_set, ↓w_setT, ↓w_par, ↓w_ret, ↓w_retN, ↓w_retv, ↓w_if, ↓w_pass, ↓w_brk, ↓w_cont, ↓w_turn, ↓varK_f, ↓varK_t, ↓varK_l, ↓varK_g, ↓boolK_t, ↓boolK_f, ↓boolK_b, ↓intK_i, ↓idxK_f, ↓idxK_t, ↓lstK_l, ↓slK_s, ↓seqK_l, ↓seqK_t, ↓liK_l, ↓enumK_l, ↓enumK_t, ↓enumK_s, ↓rgK_i, ↓zipK_l, ↓flK_nx, ↓flK_rt, ↓flK_bk, ↓flK_ct, ↓lpK_nx, ↓lpK_ct, ↓lpK_bk, ↓lpK_rt, ↓oK_some, ↓oK_none, ↓oK_map, ↓oK_bind, ↓oK_chk, ↓rK_some, Rho.at, List.getElem?_cons_zero, List.getElem?_cons_succ, Option.getD_some, List.set_cons_zero, List.set_cons_succ, E.quiet, quiets, It.quiet, Bool.and_true, Bool.true_and, Bool.and_false, Bool.false_and, binSem, addSem, biSem, bi1, bi2, lenSem_l, lenSem_t, fz, truth_b, truth_n, truth_i, truth_l, truth_t, partE, sliceSem, revSem, absSem, intSem, seqOf_f, seqOf_l, seqOf_t, listD_l, tupD, isiB, isNone, bindT_name, bindT_tup, bindTs_nil, bindTs_cons, ↓oK_if, T.free, Ts.free, wipeR, noRef, setParR, muSem, mu1, mu0, ownL, List.all_cons, List.all_nil, List.contains_nil, List.map_cons, List.map_nil, List.length_cons, List.length_nil, Option.bind_some, Option.map_some, List.any_cons, List.any_nil, Bool.or_false, Bool.false_or, Bool.not_true, Bool.not_false, List.cons_append, List.nil_append, List.replicate_succ, List.replicate_zero, Nat.sub_self, refsOf, outsOf, reduceCtorEq, if_true, if_false, beq_self_eq_true, String.reduceBEq, and_true, true_and, forall_const, true_implies, false_implies, implies_true, Fl.rt.injEq, Prod.mk.injEq, PyData.bool.injEq, sh_int, sh_bool, sizeLine_eq, Nat.reduceLeDiff, Nat.reduceAdd, Nat.reduceLT, Nat.zero_le, Nat.reduceSub, true_or, or_true, false_or, or_false, and_false, false_and, Bool.false_eq_true, Bool.true_eq_false, not_true_eq_false, not_false_eq_true, exists_eq_left, exists_eq_left', exists_eq_right, exists_eq, Option.some.injEq, decide_true, decide_false, Nat.reduceEqDiff, List.length_map, boolsOf_mapf, all_mapf, any_mapf, small_0', _root_.eq_self, List.headD_cons, List.headD_nil, List.contains_cons, Nat.reduceBEq, Bool.not_false, Bool.or_self, Bool.and_self, ↓w_rest, lt_ii, le_ii, gt_ii, ge_ii, idx_lf, idx_ll, idx_t])
  refine W.for_ (fun xs ρ => ∃ (F : List (Nat × List Nat)) (m : Md) (off : Nat) (r : List Nat) (s3 s4 : Slot), xs = enumFrom (off : Nat) (r.map fun c => tx [c]) ∧ ρ = [some (tx s, .f), some (.list (F.map enc5), .l), some (mdS m, .f), s3, s4] ∧ wk m F off r = wk .gap [] 0 s ∧ Asc r ∧ off + r.length = s.length ∧ F.length ≤ off ∧ (∀ p ∈ F, p.2.length ≤ off) ∧ (m = .word ∨ m = .dash → F ≠ [])) ?_
  (try simp only [↓w_var, ↓w_lit, ↓w_cst, ↓w_bin, ↓w_neg, ↓w_cmp, ↓w_cmp2, ↓w_not, ↓w_and, ↓w_or, ↓w_ite, ↓w_truth, ↓w_tup, ↓w_lst, ↓w_idx, ↓w_slice, ↓w_rev, ↓w_bi, ↓w_meth, ↓w_mut, ↓w_evs_nil, ↓w_evs_cons, ↓w_evp_nil, ↓w_evp_cons, ↓w_evm_nil, ↓w_evm_cons, ↓w_seq, ↓w_range, ↓w_enum, ↓w_zip, ↓w_nil, ↓w_consR, ↓w_expr, ↓w_set, ↓w_setT, ↓w_par, ↓w_ret, ↓w_retN, ↓w_retv, ↓w_if, ↓w_pass, ↓w_brk, ↓w_cont, ↓w_turn, ↓varK_f, ↓varK_t, ↓varK_l, ↓varK_g, ↓boolK_t, ↓boolK_f, ↓boolK_b, ↓intK_i, ↓idxK_f, ↓idxK_t, ↓lstK_l, ↓slK_s, ↓seqK_l, ↓seqK_t, ↓liK_l, ↓enumK_l, ↓enumK_t, ↓enumK_s, ↓rgK_i, ↓zipK_l, ↓flK_nx, ↓flK_rt, ↓flK_bk, ↓flK_ct, ↓lpK_nx, ↓lpK_ct, ↓lpK_bk, ↓lpK_rt, ↓oK_some, ↓oK_none, ↓oK_map, ↓oK_bind, ↓oK_chk, ↓rK_some, Rho.at, List.getElem?_cons_zero, List.getElem?_cons_succ, Option.getD_some, List.set_cons_zero, List.set_cons_succ, E.quiet, quiets, It.quiet, Bool.and_true, Bool.true_and, Bool.and_false, Bool.false_and, binSem, addSem, biSem, bi1, bi2, lenSem_l, lenSem_t, fz, truth_b, truth_n, truth_i, truth_l, truth_t, partE, sliceSem, revSem, absSem, intSem, seqOf_f, seqOf_l, seqOf_t, listD_l, tupD, isiB, isNone, bindT_name, bindT_tup, bindTs_nil, bindTs_cons, ↓oK_if, T.free, Ts.free, wipeR, noRef, setParR, muSem, mu1, mu0, ownL, List.all_cons, List.all_nil, List.contains_nil, List.map_cons, List.map_nil, List.length_cons, List.length_nil, Option.bind_some, Option.map_some, List.any_cons, List.any_nil, Bool.or_false, Bool.false_or, Bool.not_true, Bool.not_false, List.cons_append, List.nil_append, List.replicate_succ, List.replicate_zero, Nat.sub_self, refsOf, outsOf, reduceCtorEq, if_true, if_false, beq_self_eq_true, String.reduceBEq, and_true, true_and, forall_const, true_implies, false_implies, implies_true, Fl.rt.injEq, Prod.mk.injEq, PyData.bool.injEq, sh_int, sh_bool, sizeLine_eq, Nat.reduceLeDiff, Nat.reduceAdd, Nat.reduceLT, Nat.zero_le, Nat.reduceSub, true_or, or_true, false_or, or_false, and_false, false_and, Bool.false_eq_true, Bool.true_eq_false, not_true_eq_false, not_false_eq_true, exists_eq_left, exists_eq_left', exists_eq_right, exists_eq, Option.some.injEq, decide_true, decide_false, Nat.reduceEqDiff, List.length_map, boolsOf_mapf, all_mapf, any_mapf, small_0', _root_.eq_self, List.headD_cons, List.headD_nil, List.contains_cons, Nat.reduceBEq, Bool.not_false, Bool.or_self, Bool.and_self, ↓w_rest, lt_ii, le_ii, gt_ii, ge_ii, idx_lf, idx_ll, idx_t, enumK_tx])
  refine ⟨⟨[], .gap, 0, s, none, none, rfl, rfl, rfl, hs, by simp, Nat.le_refl _, fun p hp => (nomatch hp), fun h => by rcases h with h | h <;> cases h⟩, ?_, ?_⟩
  · rintro x xs ρ ⟨F, m, off, r, s3, s4, hx, rfl, hw, hr, hlen, hFl, hFt, hFe⟩
    cases r with
    | nil => cases hx
    | cons c r =>
      cases hx
      have hc : c < 128 := hr c List.mem_cons_self
      have hr2 : Asc r := fun d hd => hr d (List.mem_cons_of_mem _ hd)
      have e10 := eqc hc (show 10 < 128 by decide)
      have e35 := eqc hc (show 35 < 128 by decide)
      have e62 := eqc hc (show 62 < 128 by decide)
      have e45 := eqc hc (show 45 < 128 by decide)
      have em := mem_2 hc
      have il := r_is_letter hc
      have hw : wk (stepM m c) (stepF m F off c) (off + 1) r = wk .gap [] 0 s := hw
      have hlen : off + (r.length + 1) = s.length := hlen
      have fin : ∀ (F' : List (Nat × List Nat)) (m' : Md) (s3' s4' : Slot), stepM m c = m' → stepF m F off c = F' → F'.length ≤ off + 1 → (∀ p ∈ F', p.2.length ≤ off + 1) → (m' = .word ∨ m' = .dash → F' ≠ []) → ∃ (F : List (Nat × List Nat)) (m : Md) (o2 : Nat) (r2 : List Nat) (s3 s4 : Slot), enumFrom ((off : Int) + 1) (r.map fun c => tx [c]) = enumFrom (o2 : Nat) (r2.map fun c => tx [c]) ∧ [some (tx s, O.f), some (.list (F'.map enc5), .l), some (mdS m', .f), s3', s4'] = [some (tx s, .f), some (.list (F.map enc5), .l), some (mdS m, .f), s3, s4] ∧ wk m F o2 r2 = wk .gap [] 0 s ∧ Asc r2 ∧ o2 + r2.length = s.length ∧ F.length ≤ o2 ∧ (∀ p ∈ F, p.2.length ≤ o2) ∧ (m = .word ∨ m = .dash → F ≠ []) :=
        fun F' m' s3' s4' h1 h2 h3 h4 h5 => ⟨F', m', off + 1, r, s3', s4', rfl, rfl, by rw [← h1, ← h2]; exact hw, hr2, by omega, h3, h4, h5⟩
      have hFt2 : ∀ p ∈ F, p.2.length ≤ off + 1 := fun p hp => Nat.le_succ_of_le (hFt p hp)
      (try simp only [↓w_var, ↓w_lit, ↓w_cst, ↓w_bin, ↓w_neg, ↓w_cmp, ↓w_cmp2, ↓w_not, ↓w_and, ↓w_or, ↓w_ite, ↓w_truth, ↓w_tup, ↓w_lst, ↓w_idx, ↓w_slice, ↓w_rev, ↓w_bi, ↓w_meth, ↓w_mut, ↓w_evs_nil, ↓w_evs_cons, ↓w_evp_nil, ↓w_evp_cons, ↓w_evm_nil, ↓w_evm_cons, ↓w_seq, ↓w_range, ↓w_enum, ↓w_zip, ↓w_nil, ↓w_consR, ↓w_expr, ↓w_set, ↓w_setT, ↓w_par, ↓w_ret, ↓w_retN, ↓w_retv, ↓w_if, ↓w_pass, ↓w_brk, ↓w_cont, ↓w_turn, ↓varK_f, ↓varK_t, ↓varK_l, ↓varK_g, ↓boolK_t, ↓boolK_f, ↓boolK_b, ↓intK_i, ↓idxK_f, ↓idxK_t, ↓lstK_l, ↓slK_s, ↓seqK_l, ↓seqK_t, ↓liK_l, ↓enumK_l, ↓enumK_t, ↓enumK_s, ↓rgK_i, ↓zipK_l, ↓flK_nx, ↓flK_rt, ↓flK_bk, ↓flK_ct, ↓lpK_nx, ↓lpK_ct, ↓lpK_bk, ↓lpK_rt, ↓oK_some, ↓oK_none, ↓oK_map, ↓oK_bind, ↓oK_chk, ↓rK_some, Rho.at, List.getElem?_cons_zero, List.getElem?_cons_succ, Option.getD_some, List.set_cons_zero, List.set_cons_succ, E.quiet, quiets, It.quiet, Bool.and_true, Bool.true_and, Bool.and_false, Bool.false_and, binSem, addSem, biSem, bi1, bi2, lenSem_l, lenSem_t, fz, truth_b, truth_n, truth_i, truth_l, truth_t, partE, sliceSem, revSem, absSem, intSem, seqOf_f, seqOf_l, seqOf_t, listD_l, tupD, isiB, isNone, bindT_name, bindT_tup, bindTs_nil, bindTs_cons, ↓oK_if, T.free, Ts.free, wipeR, noRef, setParR, muSem, mu1, mu0, ownL, List.all_cons, List.all_nil, List.contains_nil, List.map_cons, List.map_nil, List.length_cons, List.length_nil, Option.bind_some, Option.map_some, List.any_cons, List.any_nil, Bool.or_false, Bool.false_or, Bool.not_true, Bool.not_false, List.cons_append, List.nil_append, List.replicate_succ, List.replicate_zero, Nat.sub_self, refsOf, outsOf, reduceCtorEq, if_true, if_false, beq_self_eq_true, String.reduceBEq, and_true, true_and, forall_const, true_implies, false_implies, implies_true, Fl.rt.injEq, Prod.mk.injEq, PyData.bool.injEq, sh_int, sh_bool, sizeLine_eq, Nat.reduceLeDiff, Nat.reduceAdd, Nat.reduceLT, Nat.zero_le, Nat.reduceSub, true_or, or_true, false_or, or_false, and_false, false_and, Bool.false_eq_true, Bool.true_eq_false, not_true_eq_false, not_false_eq_true, exists_eq_left, exists_eq_left', exists_eq_right, exists_eq, Option.some.injEq, decide_true, decide_false, Nat.reduceEqDiff, List.length_map, boolsOf_mapf, all_mapf, any_mapf, small_0', _root_.eq_self, List.headD_cons, List.headD_nil, List.contains_cons, Nat.reduceBEq, Bool.not_false, Bool.or_self, Bool.and_self, ↓w_rest, lt_ii, le_ii, gt_ii, ge_ii, idx_lf, idx_ll, idx_t, st_re, e10, e35, e62, e45, em])
      by_cases h1 : m = .remark
      · subst h1
        (try simp only [↓w_var, ↓w_lit, ↓w_cst, ↓w_bin, ↓w_neg, ↓w_cmp, ↓w_cmp2, ↓w_not, ↓w_and, ↓w_or, ↓w_ite, ↓w_truth, ↓w_tup, ↓w_lst, ↓w_idx, ↓w_slice, ↓w_rev, ↓w_bi, ↓w_meth, ↓w_mut, ↓w_evs_nil, ↓w_evs_cons, ↓w_evp_nil, ↓w_evp_cons, ↓w_evm_nil, ↓w_evm_cons, ↓w_seq, ↓w_range, ↓w_enum, ↓w_zip, ↓w_nil, ↓w_consR, ↓w_expr, ↓w_set, ↓w_setT, ↓w_par, ↓w_ret, ↓w_retN, ↓w_retv, ↓w_if, ↓w_pass, ↓w_brk, ↓w_cont, ↓w_turn, ↓varK_f, ↓varK_t, ↓varK_l, ↓varK_g, ↓boolK_t, ↓boolK_f, ↓boolK_b, ↓intK_i, ↓idxK_f, ↓idxK_t, ↓lstK_l, ↓slK_s, ↓seqK_l, ↓seqK_t, ↓liK_l, ↓enumK_l, ↓enumK_t, ↓enumK_s, ↓rgK_i, ↓zipK_l, ↓flK_nx, ↓flK_rt, ↓flK_bk, ↓flK_ct, ↓lpK_nx, ↓lpK_ct, ↓lpK_bk, ↓lpK_rt, ↓oK_some, ↓oK_none, ↓oK_map, ↓oK_bind, ↓oK_chk, ↓rK_some, Rho.at, List.getElem?_cons_zero, List.getElem?_cons_succ, Option.getD_some, List.set_cons_zero, List.set_cons_succ, E.quiet, quiets, It.quiet, Bool.and_true, Bool.true_and, Bool.and_false, Bool.false_and, binSem, addSem, biSem, bi1, bi2, lenSem_l, lenSem_t, fz, truth_b, truth_n, truth_i, truth_l, truth_t, partE, sliceSem, revSem, absSem, intSem, seqOf_f, seqOf_l, seqOf_t, listD_l, tupD, isiB, isNone, bindT_name, bindT_tup, bindTs_nil, bindTs_cons, ↓oK_if, T.free, Ts.free, wipeR, noRef, setParR, muSem, mu1, mu0, ownL, List.all_cons, List.all_nil, List.contains_nil, List.map_cons, List.map_nil, List.length_cons, List.length_nil, Option.bind_some, Option.map_some, List.any_cons, List.any_nil, Bool.or_false, Bool.false_or, Bool.not_true, Bool.not_false, List.cons_append, List.nil_append, List.replicate_succ, List.replicate_zero, Nat.sub_self, refsOf, outsOf, reduceCtorEq, if_true, if_false, beq_self_eq_true, String.reduceBEq, and_true, true_and, forall_const, true_implies, false_implies, implies_true, Fl.rt.injEq, Prod.mk.injEq, PyData.bool.injEq, sh_int, sh_bool, sizeLine_eq, Nat.reduceLeDiff, Nat.reduceAdd, Nat.reduceLT, Nat.zero_le, Nat.reduceSub, true_or, or_true, false_or, or_false, and_false, false_and, Bool.false_eq_true, Bool.true_eq_false, not_true_eq_false, not_false_eq_true, exists_eq_left, exists_eq_left', exists_eq_right, exists_eq, Option.some.injEq, decide_true, decide_false, Nat.reduceEqDiff, List.length_map, boolsOf_mapf, all_mapf, any_mapf, small_0', _root_.eq_self, List.headD_cons, List.headD_nil, List.contains_cons, Nat.reduceBEq, Bool.not_false, Bool.or_self, Bool.and_self, ↓w_rest, lt_ii, le_ii, gt_ii, ge_ii, idx_lf, idx_ll, idx_t])
        by_cases h10 : c = 10
        · subst h10
          (try simp only [↓w_var, ↓w_lit, ↓w_cst, ↓w_bin, ↓w_neg, ↓w_cmp, ↓w_cmp2, ↓w_not, ↓w_and, ↓w_or, ↓w_ite, ↓w_truth, ↓w_tup, ↓w_lst, ↓w_idx, ↓w_slice, ↓w_rev, ↓w_bi, ↓w_meth, ↓w_mut, ↓w_evs_nil, ↓w_evs_cons, ↓w_evp_nil, ↓w_evp_cons, ↓w_evm_nil, ↓w_evm_cons, ↓w_seq, ↓w_range, ↓w_enum, ↓w_zip, ↓w_nil, ↓w_consR, ↓w_expr, ↓w_set, ↓w_setT, ↓w_par, ↓w_ret, ↓w_retN, ↓w_retv, ↓w_if, ↓w_pass, ↓w_brk, ↓w_cont, ↓w_turn, ↓varK_f, ↓varK_t, ↓varK_l, ↓varK_g, ↓boolK_t, ↓boolK_f, ↓boolK_b, ↓intK_i, ↓idxK_f, ↓idxK_t, ↓lstK_l, ↓slK_s, ↓seqK_l, ↓seqK_t, ↓liK_l, ↓enumK_l, ↓enumK_t, ↓enumK_s, ↓rgK_i, ↓zipK_l, ↓flK_nx, ↓flK_rt, ↓flK_bk, ↓flK_ct, ↓lpK_nx, ↓lpK_ct, ↓lpK_bk, ↓lpK_rt, ↓oK_some, ↓oK_none, ↓oK_map, ↓oK_bind, ↓oK_chk, ↓rK_some, Rho.at, List.getElem?_cons_zero, List.getElem?_cons_succ, Option.getD_some, List.set_cons_zero, List.set_cons_succ, E.quiet, quiets, It.quiet, Bool.and_true, Bool.true_and, Bool.and_false, Bool.false_and, binSem, addSem, biSem, bi1, bi2, lenSem_l, lenSem_t, fz, truth_b, truth_n, truth_i, truth_l, truth_t, partE, sliceSem, revSem, absSem, intSem, seqOf_f, seqOf_l, seqOf_t, listD_l, tupD, isiB, isNone, bindT_name, bindT_tup, bindTs_nil, bindTs_cons, ↓oK_if, T.free, Ts.free, wipeR, noRef, setParR, muSem, mu1, mu0, ownL, List.all_cons, List.all_nil, List.contains_nil, List.map_cons, List.map_nil, List.length_cons, List.length_nil, Option.bind_some, Option.map_some, List.any_cons, List.any_nil, Bool.or_false, Bool.false_or, Bool.not_true, Bool.not_false, List.cons_append, List.nil_append, List.replicate_succ, List.replicate_zero, Nat.sub_self, refsOf, outsOf, reduceCtorEq, if_true, if_false, beq_self_eq_true, String.reduceBEq, and_true, true_and, forall_const, true_implies, false_implies, implies_true, Fl.rt.injEq, Prod.mk.injEq, PyData.bool.injEq, sh_int, sh_bool, sizeLine_eq, Nat.reduceLeDiff, Nat.reduceAdd, Nat.reduceLT, Nat.zero_le, Nat.reduceSub, true_or, or_true, false_or, or_false, and_false, false_and, Bool.false_eq_true, Bool.true_eq_false, not_true_eq_false, not_false_eq_true, exists_eq_left, exists_eq_left', exists_eq_right, exists_eq, Option.some.injEq, decide_true, decide_false, Nat.reduceEqDiff, List.length_map, boolsOf_mapf, all_mapf, any_mapf, small_0', _root_.eq_self, List.headD_cons, List.headD_nil, List.contains_cons, Nat.reduceBEq, Bool.not_false, Bool.or_self, Bool.and_self, ↓w_rest, lt_ii, le_ii, gt_ii, ge_ii, idx_lf, idx_ll, idx_t])
          exact fin F .gap _ _ rfl rfl (by omega) hFt2 (fun h => by rcases h with h | h <;> cases h)
        · have h10 : (c == 10) = false := by simpa using h10
          (try simp only [↓w_var, ↓w_lit, ↓w_cst, ↓w_bin, ↓w_neg, ↓w_cmp, ↓w_cmp2, ↓w_not, ↓w_and, ↓w_or, ↓w_ite, ↓w_truth, ↓w_tup, ↓w_lst, ↓w_idx, ↓w_slice, ↓w_rev, ↓w_bi, ↓w_meth, ↓w_mut, ↓w_evs_nil, ↓w_evs_cons, ↓w_evp_nil, ↓w_evp_cons, ↓w_evm_nil, ↓w_evm_cons, ↓w_seq, ↓w_range, ↓w_enum, ↓w_zip, ↓w_nil, ↓w_consR, ↓w_expr, ↓w_set, ↓w_setT, ↓w_par, ↓w_ret, ↓w_retN, ↓w_retv, ↓w_if, ↓w_pass, ↓w_brk, ↓w_cont, ↓w_turn, ↓varK_f, ↓varK_t, ↓varK_l, ↓varK_g, ↓boolK_t, ↓boolK_f, ↓boolK_b, ↓intK_i, ↓idxK_f, ↓idxK_t, ↓lstK_l, ↓slK_s, ↓seqK_l, ↓seqK_t, ↓liK_l, ↓enumK_l, ↓enumK_t, ↓enumK_s, ↓rgK_i, ↓zipK_l, ↓flK_nx, ↓flK_rt, ↓flK_bk, ↓flK_ct, ↓lpK_nx, ↓lpK_ct, ↓lpK_bk, ↓lpK_rt, ↓oK_some, ↓oK_none, ↓oK_map, ↓oK_bind, ↓oK_chk, ↓rK_some, Rho.at, List.getElem?_cons_zero, List.getElem?_cons_succ, Option.getD_some, List.set_cons_zero, List.set_cons_succ, E.quiet, quiets, It.quiet, Bool.and_true, Bool.true_and, Bool.and_false, Bool.false_and, binSem, addSem, biSem, bi1, bi2, lenSem_l, lenSem_t, fz, truth_b, truth_n, truth_i, truth_l, truth_t, partE, sliceSem, revSem, absSem, intSem, seqOf_f, seqOf_l, seqOf_t, listD_l, tupD, isiB, isNone, bindT_name, bindT_tup, bindTs_nil, bindTs_cons, ↓oK_if, T.free, Ts.free, wipeR, noRef, setParR, muSem, mu1, mu0, ownL, List.all_cons, List.all_nil, List.contains_nil, List.map_cons, List.map_nil, List.length_cons, List.length_nil, Option.bind_some, Option.map_some, List.any_cons, List.any_nil, Bool.or_false, Bool.false_or, Bool.not_true, Bool.not_false, List.cons_append, List.nil_append, List.replicate_succ, List.replicate_zero, Nat.sub_self, refsOf, outsOf, reduceCtorEq, if_true, if_false, beq_self_eq_true, String.reduceBEq, and_true, true_and, forall_const, true_implies, false_implies, implies_true, Fl.rt.injEq, Prod.mk.injEq, PyData.bool.injEq, sh_int, sh_bool, sizeLine_eq, Nat.reduceLeDiff, Nat.reduceAdd, Nat.reduceLT, Nat.zero_le, Nat.reduceSub, true_or, or_true, false_or, or_false, and_false, false_and, Bool.false_eq_true, Bool.true_eq_false, not_true_eq_false, not_false_eq_true, exists_eq_left, exists_eq_left', exists_eq_right, exists_eq, Option.some.injEq, decide_true, decide_false, Nat.reduceEqDiff, List.length_map, boolsOf_mapf, all_mapf, any_mapf, small_0', _root_.eq_self, List.headD_cons, List.headD_nil, List.contains_cons, Nat.reduceBEq, Bool.not_false, Bool.or_self, Bool.and_self, ↓w_rest, lt_ii, le_ii, gt_ii, ge_ii, idx_lf, idx_ll, idx_t, h10])
          refine fin F .remark _ _ ?_ rfl (by omega) hFt2 (fun h => by rcases h with h | h <;> cases h)
          unfold stepM
          rw [if_pos rfl, if_neg (by simpa using h10)]
      · (try simp only [↓w_var, ↓w_lit, ↓w_cst, ↓w_bin, ↓w_neg, ↓w_cmp, ↓w_cmp2, ↓w_not, ↓w_and, ↓w_or, ↓w_ite, ↓w_truth, ↓w_tup, ↓w_lst, ↓w_idx, ↓w_slice, ↓w_rev, ↓w_bi, ↓w_meth, ↓w_mut, ↓w_evs_nil, ↓w_evs_cons, ↓w_evp_nil, ↓w_evp_cons, ↓w_evm_nil, ↓w_evm_cons, ↓w_seq, ↓w_range, ↓w_enum, ↓w_zip, ↓w_nil, ↓w_consR, ↓w_expr, ↓w_set, ↓w_setT, ↓w_par, ↓w_ret, ↓w_retN, ↓w_retv, ↓w_if, ↓w_pass, ↓w_brk, ↓w_cont, ↓w_turn, ↓varK_f, ↓varK_t, ↓varK_l, ↓varK_g, ↓boolK_t, ↓boolK_f, ↓boolK_b, ↓intK_i, ↓idxK_f, ↓idxK_t, ↓lstK_l, ↓slK_s, ↓seqK_l, ↓seqK_t, ↓liK_l, ↓enumK_l, ↓enumK_t, ↓enumK_s, ↓rgK_i, ↓zipK_l, ↓flK_nx, ↓flK_rt, ↓flK_bk, ↓flK_ct, ↓lpK_nx, ↓lpK_ct, ↓lpK_bk, ↓lpK_rt, ↓oK_some, ↓oK_none, ↓oK_map, ↓oK_bind, ↓oK_chk, ↓rK_some, Rho.at, List.getElem?_cons_zero, List.getElem?_cons_succ, Option.getD_some, List.set_cons_zero, List.set_cons_succ, E.quiet, quiets, It.quiet, Bool.and_true, Bool.true_and, Bool.and_false, Bool.false_and, binSem, addSem, biSem, bi1, bi2, lenSem_l, lenSem_t, fz, truth_b, truth_n, truth_i, truth_l, truth_t, partE, sliceSem, revSem, absSem, intSem, seqOf_f, seqOf_l, seqOf_t, listD_l, tupD, isiB, isNone, bindT_name, bindT_tup, bindTs_nil, bindTs_cons, ↓oK_if, T.free, Ts.free, wipeR, noRef, setParR, muSem, mu1, mu0, ownL, List.all_cons, List.all_nil, List.contains_nil, List.map_cons, List.map_nil, List.length_cons, List.length_nil, Option.bind_some, Option.map_some, List.any_cons, List.any_nil, Bool.or_false, Bool.false_or, Bool.not_true, Bool.not_false, List.cons_append, List.nil_append, List.replicate_succ, List.replicate_zero, Nat.sub_self, refsOf, outsOf, reduceCtorEq, if_true, if_false, beq_self_eq_true, String.reduceBEq, and_true, true_and, forall_const, true_implies, false_implies, implies_true, Fl.rt.injEq, Prod.mk.injEq, PyData.bool.injEq, sh_int, sh_bool, sizeLine_eq, Nat.reduceLeDiff, Nat.reduceAdd, Nat.reduceLT, Nat.zero_le, Nat.reduceSub, true_or, or_true, false_or, or_false, and_false, false_and, Bool.false_eq_true, Bool.true_eq_false, not_true_eq_false, not_false_eq_true, exists_eq_left, exists_eq_left', exists_eq_right, exists_eq, Option.some.injEq, decide_true, decide_false, Nat.reduceEqDiff, List.length_map, boolsOf_mapf, all_mapf, any_mapf, small_0', _root_.eq_self, List.headD_cons, List.headD_nil, List.contains_cons, Nat.reduceBEq, Bool.not_false, Bool.or_self, Bool.and_self, ↓w_rest, lt_ii, le_ii, gt_ii, ge_ii, idx_lf, idx_ll, idx_t, h1])
        by_cases h35 : c = 35
        · subst h35
          (try simp only [↓w_var, ↓w_lit, ↓w_cst, ↓w_bin, ↓w_neg, ↓w_cmp, ↓w_cmp2, ↓w_not, ↓w_and, ↓w_or, ↓w_ite, ↓w_truth, ↓w_tup, ↓w_lst, ↓w_idx, ↓w_slice, ↓w_rev, ↓w_bi, ↓w_meth, ↓w_mut, ↓w_evs_nil, ↓w_evs_cons, ↓w_evp_nil, ↓w_evp_cons, ↓w_evm_nil, ↓w_evm_cons, ↓w_seq, ↓w_range, ↓w_enum, ↓w_zip, ↓w_nil, ↓w_consR, ↓w_expr, ↓w_set, ↓w_setT, ↓w_par, ↓w_ret, ↓w_retN, ↓w_retv, ↓w_if, ↓w_pass, ↓w_brk, ↓w_cont, ↓w_turn, ↓varK_f, ↓varK_t, ↓varK_l, ↓varK_g, ↓boolK_t, ↓boolK_f, ↓boolK_b, ↓intK_i, ↓idxK_f, ↓idxK_t, ↓lstK_l, ↓slK_s, ↓seqK_l, ↓seqK_t, ↓liK_l, ↓enumK_l, ↓enumK_t, ↓enumK_s, ↓rgK_i, ↓zipK_l, ↓flK_nx, ↓flK_rt, ↓flK_bk, ↓flK_ct, ↓lpK_nx, ↓lpK_ct, ↓lpK_bk, ↓lpK_rt, ↓oK_some, ↓oK_none, ↓oK_map, ↓oK_bind, ↓oK_chk, ↓rK_some, Rho.at, List.getElem?_cons_zero, List.getElem?_cons_succ, Option.getD_some, List.set_cons_zero, List.set_cons_succ, E.quiet, quiets, It.quiet, Bool.and_true, Bool.true_and, Bool.and_false, Bool.false_and, binSem, addSem, biSem, bi1, bi2, lenSem_l, lenSem_t, fz, truth_b, truth_n, truth_i, truth_l, truth_t, partE, sliceSem, revSem, absSem, intSem, seqOf_f, seqOf_l, seqOf_t, listD_l, tupD, isiB, isNone, bindT_name, bindT_tup, bindTs_nil, bindTs_cons, ↓oK_if, T.free, Ts.free, wipeR, noRef, setParR, muSem, mu1, mu0, ownL, List.all_cons, List.all_nil, List.contains_nil, List.map_cons, List.map_nil, List.length_cons, List.length_nil, Option.bind_some, Option.map_some, List.any_cons, List.any_nil, Bool.or_false, Bool.false_or, Bool.not_true, Bool.not_false, List.cons_append, List.nil_append, List.replicate_succ, List.replicate_zero, Nat.sub_self, refsOf, outsOf, reduceCtorEq, if_true, if_false, beq_self_eq_true, String.reduceBEq, and_true, true_and, forall_const, true_implies, false_implies, implies_true, Fl.rt.injEq, Prod.mk.injEq, PyData.bool.injEq, sh_int, sh_bool, sizeLine_eq, Nat.reduceLeDiff, Nat.reduceAdd, Nat.reduceLT, Nat.zero_le, Nat.reduceSub, true_or, or_true, false_or, or_false, and_false, false_and, Bool.false_eq_true, Bool.true_eq_false, not_true_eq_false, not_false_eq_true, exists_eq_left, exists_eq_left', exists_eq_right, exists_eq, Option.some.injEq, decide_true, decide_false, Nat.reduceEqDiff, List.length_map, boolsOf_mapf, all_mapf, any_mapf, small_0', _root_.eq_self, List.headD_cons, List.headD_nil, List.contains_cons, Nat.reduceBEq, Bool.not_false, Bool.or_self, Bool.and_self, ↓w_rest, lt_ii, le_ii, gt_ii, ge_ii, idx_lf, idx_ll, idx_t])
          refine fin F .remark _ _ ?_ ?_ (by omega) hFt2 (fun h => by rcases h with h | h <;> cases h)
          · unfold stepM
            rw [if_neg h1, if_pos rfl]
          · unfold stepF
            rw [if_pos (.inr (.inl rfl))]
        have h35b : (c == 35) = false := by simpa using h35
        (try simp only [↓w_var, ↓w_lit, ↓w_cst, ↓w_bin, ↓w_neg, ↓w_cmp, ↓w_cmp2, ↓w_not, ↓w_and, ↓w_or, ↓w_ite, ↓w_truth, ↓w_tup, ↓w_lst, ↓w_idx, ↓w_slice, ↓w_rev, ↓w_bi, ↓w_meth, ↓w_mut, ↓w_evs_nil, ↓w_evs_cons, ↓w_evp_nil, ↓w_evp_cons, ↓w_evm_nil, ↓w_evm_cons, ↓w_seq, ↓w_range, ↓w_enum, ↓w_zip, ↓w_nil, ↓w_consR, ↓w_expr, ↓w_set, ↓w_setT, ↓w_par, ↓w_ret, ↓w_retN, ↓w_retv, ↓w_if, ↓w_pass, ↓w_brk, ↓w_cont, ↓w_turn, ↓varK_f, ↓varK_t, ↓varK_l, ↓varK_g, ↓boolK_t, ↓boolK_f, ↓boolK_b, ↓intK_i, ↓idxK_f, ↓idxK_t, ↓lstK_l, ↓slK_s, ↓seqK_l, ↓seqK_t, ↓liK_l, ↓enumK_l, ↓enumK_t, ↓enumK_s, ↓rgK_i, ↓zipK_l, ↓flK_nx, ↓flK_rt, ↓flK_bk, ↓flK_ct, ↓lpK_nx, ↓lpK_ct, ↓lpK_bk, ↓lpK_rt, ↓oK_some, ↓oK_none, ↓oK_map, ↓oK_bind, ↓oK_chk, ↓rK_some, Rho.at, List.getElem?_cons_zero, List.getElem?_cons_succ, Option.getD_some, List.set_cons_zero, List.set_cons_succ, E.quiet, quiets, It.quiet, Bool.and_true, Bool.true_and, Bool.and_false, Bool.false_and, binSem, addSem, biSem, bi1, bi2, lenSem_l, lenSem_t, fz, truth_b, truth_n, truth_i, truth_l, truth_t, partE, sliceSem, revSem, absSem, intSem, seqOf_f, seqOf_l, seqOf_t, listD_l, tupD, isiB, isNone, bindT_name, bindT_tup, bindTs_nil, bindTs_cons, ↓oK_if, T.free, Ts.free, wipeR, noRef, setParR, muSem, mu1, mu0, ownL, List.all_cons, List.all_nil, List.contains_nil, List.map_cons, List.map_nil, List.length_cons, List.length_nil, Option.bind_some, Option.map_some, List.any_cons, List.any_nil, Bool.or_false, Bool.false_or, Bool.not_true, Bool.not_false, List.cons_append, List.nil_append, List.replicate_succ, List.replicate_zero, Nat.sub_self, refsOf, outsOf, reduceCtorEq, if_true, if_false, beq_self_eq_true, String.reduceBEq, and_true, true_and, forall_const, true_implies, false_implies, implies_true, Fl.rt.injEq, Prod.mk.injEq, PyData.bool.injEq, sh_int, sh_bool, sizeLine_eq, Nat.reduceLeDiff, Nat.reduceAdd, Nat.reduceLT, Nat.zero_le, Nat.reduceSub, true_or, or_true, false_or, or_false, and_false, false_and, Bool.false_eq_true, Bool.true_eq_false, not_true_eq_false, not_false_eq_true, exists_eq_left, exists_eq_left', exists_eq_right, exists_eq, Option.some.injEq, decide_true, decide_false, Nat.reduceEqDiff, List.length_map, boolsOf_mapf, all_mapf, any_mapf, small_0', _root_.eq_self, List.headD_cons, List.headD_nil, List.contains_cons, Nat.reduceBEq, Bool.not_false, Bool.or_self, Bool.and_self, ↓w_rest, lt_ii, le_ii, gt_ii, ge_ii, idx_lf, idx_ll, idx_t, h35b])
        by_cases hsp : c = 32 ∨ c = 10
        · have hspb : (c == 32 || c == 10) = true := by simpa using hsp
          (try simp only [↓w_var, ↓w_lit, ↓w_cst, ↓w_bin, ↓w_neg, ↓w_cmp, ↓w_cmp2, ↓w_not, ↓w_and, ↓w_or, ↓w_ite, ↓w_truth, ↓w_tup, ↓w_lst, ↓w_idx, ↓w_slice, ↓w_rev, ↓w_bi, ↓w_meth, ↓w_mut, ↓w_evs_nil, ↓w_evs_cons, ↓w_evp_nil, ↓w_evp_cons, ↓w_evm_nil, ↓w_evm_cons, ↓w_seq, ↓w_range, ↓w_enum, ↓w_zip, ↓w_nil, ↓w_consR, ↓w_expr, ↓w_set, ↓w_setT, ↓w_par, ↓w_ret, ↓w_retN, ↓w_retv, ↓w_if, ↓w_pass, ↓w_brk, ↓w_cont, ↓w_turn, ↓varK_f, ↓varK_t, ↓varK_l, ↓varK_g, ↓boolK_t, ↓boolK_f, ↓boolK_b, ↓intK_i, ↓idxK_f, ↓idxK_t, ↓lstK_l, ↓slK_s, ↓seqK_l, ↓seqK_t, ↓liK_l, ↓enumK_l, ↓enumK_t, ↓enumK_s, ↓rgK_i, ↓zipK_l, ↓flK_nx, ↓flK_rt, ↓flK_bk, ↓flK_ct, ↓lpK_nx, ↓lpK_ct, ↓lpK_bk, ↓lpK_rt, ↓oK_some, ↓oK_none, ↓oK_map, ↓oK_bind, ↓oK_chk, ↓rK_some, Rho.at, List.getElem?_cons_zero, List.getElem?_cons_succ, Option.getD_some, List.set_cons_zero, List.set_cons_succ, E.quiet, quiets, It.quiet, Bool.and_true, Bool.true_and, Bool.and_false, Bool.false_and, binSem, addSem, biSem, bi1, bi2, lenSem_l, lenSem_t, fz, truth_b, truth_n, truth_i, truth_l, truth_t, partE, sliceSem, revSem, absSem, intSem, seqOf_f, seqOf_l, seqOf_t, listD_l, tupD, isiB, isNone, bindT_name, bindT_tup, bindTs_nil, bindTs_cons, ↓oK_if, T.free, Ts.free, wipeR, noRef, setParR, muSem, mu1, mu0, ownL, List.all_cons, List.all_nil, List.contains_nil, List.map_cons, List.map_nil, List.length_cons, List.length_nil, Option.bind_some, Option.map_some, List.any_cons, List.any_nil, Bool.or_false, Bool.false_or, Bool.not_true, Bool.not_false, List.cons_append, List.nil_append, List.replicate_succ, List.replicate_zero, Nat.sub_self, refsOf, outsOf, reduceCtorEq, if_true, if_false, beq_self_eq_true, String.reduceBEq, and_true, true_and, forall_const, true_implies, false_implies, implies_true, Fl.rt.injEq, Prod.mk.injEq, PyData.bool.injEq, sh_int, sh_bool, sizeLine_eq, Nat.reduceLeDiff, Nat.reduceAdd, Nat.reduceLT, Nat.zero_le, Nat.reduceSub, true_or, or_true, false_or, or_false, and_false, false_and, Bool.false_eq_true, Bool.true_eq_false, not_true_eq_false, not_false_eq_true, exists_eq_left, exists_eq_left', exists_eq_right, exists_eq, Option.some.injEq, decide_true, decide_false, Nat.reduceEqDiff, List.length_map, boolsOf_mapf, all_mapf, any_mapf, small_0', _root_.eq_self, List.headD_cons, List.headD_nil, List.contains_cons, Nat.reduceBEq, Bool.not_false, Bool.or_self, Bool.and_self, ↓w_rest, lt_ii, le_ii, gt_ii, ge_ii, idx_lf, idx_ll, idx_t, hspb])
          refine fin F .gap _ _ ?_ ?_ (by omega) hFt2 (fun h => by rcases h with h | h <;> cases h)
          · unfold stepM
            rw [if_neg h1, if_neg h35, if_pos hsp]
          · unfold stepF
            rw [if_pos (.inr (.inr hsp))]
        have hspb : (c == 32 || c == 10) = false := by simpa using hsp
        (try simp only [↓w_var, ↓w_lit, ↓w_cst, ↓w_bin, ↓w_neg, ↓w_cmp, ↓w_cmp2, ↓w_not, ↓w_and, ↓w_or, ↓w_ite, ↓w_truth, ↓w_tup, ↓w_lst, ↓w_idx, ↓w_slice, ↓w_rev, ↓w_bi, ↓w_meth, ↓w_mut, ↓w_evs_nil, ↓w_evs_cons, ↓w_evp_nil, ↓w_evp_cons, ↓w_evm_nil, ↓w_evm_cons, ↓w_seq, ↓w_range, ↓w_enum, ↓w_zip, ↓w_nil, ↓w_consR, ↓w_expr, ↓w_set, ↓w_setT, ↓w_par, ↓w_ret, ↓w_retN, ↓w_retv, ↓w_if, ↓w_pass, ↓w_brk, ↓w_cont, ↓w_turn, ↓varK_f, ↓varK_t, ↓varK_l, ↓varK_g, ↓boolK_t, ↓boolK_f, ↓boolK_b, ↓intK_i, ↓idxK_f, ↓idxK_t, ↓lstK_l, ↓slK_s, ↓seqK_l, ↓seqK_t, ↓liK_l, ↓enumK_l, ↓enumK_t, ↓enumK_s, ↓rgK_i, ↓zipK_l, ↓flK_nx, ↓flK_rt, ↓flK_bk, ↓flK_ct, ↓lpK_nx, ↓lpK_ct, ↓lpK_bk, ↓lpK_rt, ↓oK_some, ↓oK_none, ↓oK_map, ↓oK_bind, ↓oK_chk, ↓rK_some, Rho.at, List.getElem?_cons_zero, List.getElem?_cons_succ, Option.getD_some, List.set_cons_zero, List.set_cons_succ, E.quiet, quiets, It.quiet, Bool.and_true, Bool.true_and, Bool.and_false, Bool.false_and, binSem, addSem, biSem, bi1, bi2, lenSem_l, lenSem_t, fz, truth_b, truth_n, truth_i, truth_l, truth_t, partE, sliceSem, revSem, absSem, intSem, seqOf_f, seqOf_l, seqOf_t, listD_l, tupD, isiB, isNone, bindT_name, bindT_tup, bindTs_nil, bindTs_cons, ↓oK_if, T.free, Ts.free, wipeR, noRef, setParR, muSem, mu1, mu0, ownL, List.all_cons, List.all_nil, List.contains_nil, List.map_cons, List.map_nil, List.length_cons, List.length_nil, Option.bind_some, Option.map_some, List.any_cons, List.any_nil, Bool.or_false, Bool.false_or, Bool.not_true, Bool.not_false, List.cons_append, List.nil_append, List.replicate_succ, List.replicate_zero, Nat.sub_self, refsOf, outsOf, reduceCtorEq, if_true, if_false, beq_self_eq_true, String.reduceBEq, and_true, true_and, forall_const, true_implies, false_implies, implies_true, Fl.rt.injEq, Prod.mk.injEq, PyData.bool.injEq, sh_int, sh_bool, sizeLine_eq, Nat.reduceLeDiff, Nat.reduceAdd, Nat.reduceLT, Nat.zero_le, Nat.reduceSub, true_or, or_true, false_or, or_false, and_false, false_and, Bool.false_eq_true, Bool.true_eq_false, not_true_eq_false, not_false_eq_true, exists_eq_left, exists_eq_left', exists_eq_right, exists_eq, Option.some.injEq, decide_true, decide_false, Nat.reduceEqDiff, List.length_map, boolsOf_mapf, all_mapf, any_mapf, small_0', _root_.eq_self, List.headD_cons, List.headD_nil, List.contains_cons, Nat.reduceBEq, Bool.not_false, Bool.or_self, Bool.and_self, ↓w_rest, lt_ii, le_ii, gt_ii, ge_ii, idx_lf, idx_ll, idx_t, hspb, pu_5_4, wc_5_4, il, st_wo, st_da])
        have sM : stepM m c = if ext m c then (if m = .word then .word else .sign) else newM c := by
          unfold stepM
          rw [if_neg h1, if_neg h35, if_neg hsp]
        have sF : stepF m F off c = if ext m c then addL F c else F ++ [(off, [c])] := by
          unfold stepF
          rw [if_neg fun h => h.elim h1 fun h => h.elim h35 hsp]
        cases hx : ext m c with
        | true =>
          have hm : m = .word ∨ m = .dash := by cases m <;> first | exact .inl rfl | exact .inr rfl | cases hx
          rcases hm with rfl | rfl
          · have hlet : letC c = true := hx
            (try simp only [↓w_var, ↓w_lit, ↓w_cst, ↓w_bin, ↓w_neg, ↓w_cmp, ↓w_cmp2, ↓w_not, ↓w_and, ↓w_or, ↓w_ite, ↓w_truth, ↓w_tup, ↓w_lst, ↓w_idx, ↓w_slice, ↓w_rev, ↓w_bi, ↓w_meth, ↓w_mut, ↓w_evs_nil, ↓w_evs_cons, ↓w_evp_nil, ↓w_evp_cons, ↓w_evm_nil, ↓w_evm_cons, ↓w_seq, ↓w_range, ↓w_enum, ↓w_zip, ↓w_nil, ↓w_consR, ↓w_expr, ↓w_set, ↓w_setT, ↓w_par, ↓w_ret, ↓w_retN, ↓w_retv, ↓w_if, ↓w_pass, ↓w_brk, ↓w_cont, ↓w_turn, ↓varK_f, ↓varK_t, ↓varK_l, ↓varK_g, ↓boolK_t, ↓boolK_f, ↓boolK_b, ↓intK_i, ↓idxK_f, ↓idxK_t, ↓lstK_l, ↓slK_s, ↓seqK_l, ↓seqK_t, ↓liK_l, ↓enumK_l, ↓enumK_t, ↓enumK_s, ↓rgK_i, ↓zipK_l, ↓flK_nx, ↓flK_rt, ↓flK_bk, ↓flK_ct, ↓lpK_nx, ↓lpK_ct, ↓lpK_bk, ↓lpK_rt, ↓oK_some, ↓oK_none, ↓oK_map, ↓oK_bind, ↓oK_chk, ↓rK_some, Rho.at, List.getElem?_cons_zero, List.getElem?_cons_succ, Option.getD_some, List.set_cons_zero, List.set_cons_succ, E.quiet, quiets, It.quiet, Bool.and_true, Bool.true_and, Bool.and_false, Bool.false_and, binSem, biSem, bi1, bi2, lenSem_l, lenSem_t, fz, truth_b, truth_n, truth_i, truth_l, truth_t, partE, sliceSem, revSem, absSem, intSem, seqOf_f, seqOf_l, seqOf_t, listD_l, tupD, isiB, isNone, bindT_name, bindT_tup, bindTs_nil, bindTs_cons, ↓oK_if, T.free, Ts.free, wipeR, noRef, setParR, muSem, mu1, mu0, ownL, List.all_cons, List.all_nil, List.contains_nil, List.map_cons, List.map_nil, List.length_cons, List.length_nil, Option.bind_some, Option.map_some, List.any_cons, List.any_nil, Bool.or_false, Bool.false_or, Bool.not_true, Bool.not_false, List.cons_append, List.nil_append, List.replicate_succ, List.replicate_zero, Nat.sub_self, refsOf, outsOf, reduceCtorEq, if_true, if_false, beq_self_eq_true, String.reduceBEq, and_true, true_and, forall_const, true_implies, false_implies, implies_true, Fl.rt.injEq, Prod.mk.injEq, PyData.bool.injEq, sh_int, sh_bool, sizeLine_eq, Nat.reduceLeDiff, Nat.reduceAdd, Nat.reduceLT, Nat.zero_le, Nat.reduceSub, true_or, or_true, false_or, or_false, and_false, false_and, Bool.false_eq_true, Bool.true_eq_false, not_true_eq_false, not_false_eq_true, exists_eq_left, exists_eq_left', exists_eq_right, exists_eq, Option.some.injEq, decide_true, decide_false, Nat.reduceEqDiff, List.length_map, boolsOf_mapf, all_mapf, any_mapf, small_0', _root_.eq_self, List.headD_cons, List.headD_nil, List.contains_cons, Nat.reduceBEq, Bool.not_false, Bool.or_self, Bool.and_self, ↓w_rest, lt_ii, le_ii, gt_ii, ge_ii, idx_lf, idx_ll, idx_t, hlet])
            obtain ⟨F0, ⟨o, t⟩, rfl⟩ : ∃ (F0 : List (Nat × List Nat)) (p : Nat × List Nat), F = F0 ++ [p] := ⟨F.dropLast, F.getLast (hFe (.inl rfl)), (List.dropLast_concat_getLast _).symm⟩
            have ht : t.length ≤ off := hFt (o, t) (by simp)
            have ad := add_1 (a := t) (c := c) (by omega)
            refine W.setI ?_
            (try simp only [↓w_var, ↓w_lit, ↓w_cst, ↓w_bin, ↓w_neg, ↓w_cmp, ↓w_cmp2, ↓w_not, ↓w_and, ↓w_or, ↓w_ite, ↓w_truth, ↓w_tup, ↓w_lst, ↓w_idx, ↓w_slice, ↓w_rev, ↓w_bi, ↓w_meth, ↓w_mut, ↓w_evs_nil, ↓w_evs_cons, ↓w_evp_nil, ↓w_evp_cons, ↓w_evm_nil, ↓w_evm_cons, ↓w_seq, ↓w_range, ↓w_enum, ↓w_zip, ↓w_nil, ↓w_consR, ↓w_expr, ↓w_set, ↓w_setT, ↓w_par, ↓w_ret, ↓w_retN, ↓w_retv, ↓w_if, ↓w_pass, ↓w_brk, ↓w_cont, ↓w_turn, ↓varK_f, ↓varK_t, ↓varK_l, ↓varK_g, ↓boolK_t, ↓boolK_f, ↓boolK_b, ↓intK_i, ↓idxK_f, ↓idxK_t, ↓lstK_l, ↓slK_s, ↓seqK_l, ↓seqK_t, ↓liK_l, ↓enumK_l, ↓enumK_t, ↓enumK_s, ↓rgK_i, ↓zipK_l, ↓flK_nx, ↓flK_rt, ↓flK_bk, ↓flK_ct, ↓lpK_nx, ↓lpK_ct, ↓lpK_bk, ↓lpK_rt, ↓oK_some, ↓oK_none, ↓oK_map, ↓oK_bind, ↓oK_chk, ↓rK_some, Rho.at, List.getElem?_cons_zero, List.getElem?_cons_succ, Option.getD_some, List.set_cons_zero, List.set_cons_succ, E.quiet, quiets, It.quiet, Bool.and_true, Bool.true_and, Bool.and_false, Bool.false_and, binSem, biSem, bi1, bi2, lenSem_l, lenSem_t, fz, truth_b, truth_n, truth_i, truth_l, truth_t, partE, sliceSem, revSem, absSem, intSem, seqOf_f, seqOf_l, seqOf_t, listD_l, tupD, isiB, isNone, bindT_name, bindT_tup, bindTs_nil, bindTs_cons, ↓oK_if, T.free, Ts.free, wipeR, noRef, setParR, muSem, mu1, mu0, ownL, List.all_cons, List.all_nil, List.contains_nil, List.map_cons, List.map_nil, List.length_cons, List.length_nil, Option.bind_some, Option.map_some, List.any_cons, List.any_nil, Bool.or_false, Bool.false_or, Bool.not_true, Bool.not_false, List.cons_append, List.nil_append, List.replicate_succ, List.replicate_zero, Nat.sub_self, refsOf, outsOf, reduceCtorEq, if_true, if_false, beq_self_eq_true, String.reduceBEq, and_true, true_and, forall_const, true_implies, false_implies, implies_true, Fl.rt.injEq, Prod.mk.injEq, PyData.bool.injEq, sh_int, sh_bool, sizeLine_eq, Nat.reduceLeDiff, Nat.reduceAdd, Nat.reduceLT, Nat.zero_le, Nat.reduceSub, true_or, or_true, false_or, or_false, and_false, false_and, Bool.false_eq_true, Bool.true_eq_false, not_true_eq_false, not_false_eq_true, exists_eq_left, exists_eq_left', exists_eq_right, exists_eq, Option.some.injEq, decide_true, decide_false, Nat.reduceEqDiff, List.length_map, boolsOf_mapf, all_mapf, any_mapf, small_0', _root_.eq_self, List.headD_cons, List.headD_nil, List.contains_cons, Nat.reduceBEq, Bool.not_false, Bool.or_self, Bool.and_self, ↓w_rest, lt_ii, le_ii, gt_ii, ge_ii, idx_lf, idx_ll, idx_t, List.map_append, List.length_append, L2.atI_last, enc5_eq, at0, at1, ad, ixN_last, set_lastm])

            rw [Rest]
            (try simp only [↓w_var, ↓w_lit, ↓w_cst, ↓w_bin, ↓w_neg, ↓w_cmp, ↓w_cmp2, ↓w_not, ↓w_and, ↓w_or, ↓w_ite, ↓w_truth, ↓w_tup, ↓w_lst, ↓w_idx, ↓w_slice, ↓w_rev, ↓w_bi, ↓w_meth, ↓w_mut, ↓w_evs_nil, ↓w_evs_cons, ↓w_evp_nil, ↓w_evp_cons, ↓w_evm_nil, ↓w_evm_cons, ↓w_seq, ↓w_range, ↓w_enum, ↓w_zip, ↓w_nil, ↓w_consR, ↓w_expr, ↓w_set, ↓w_setT, ↓w_par, ↓w_ret, ↓w_retN, ↓w_retv, ↓w_if, ↓w_pass, ↓w_brk, ↓w_cont, ↓w_turn, ↓varK_f, ↓varK_t, ↓varK_l, ↓varK_g, ↓boolK_t, ↓boolK_f, ↓boolK_b, ↓intK_i, ↓idxK_f, ↓idxK_t, ↓lstK_l, ↓slK_s, ↓seqK_l, ↓seqK_t, ↓liK_l, ↓enumK_l, ↓enumK_t, ↓enumK_s, ↓rgK_i, ↓zipK_l, ↓flK_nx, ↓flK_rt, ↓flK_bk, ↓flK_ct, ↓lpK_nx, ↓lpK_ct, ↓lpK_bk, ↓lpK_rt, ↓oK_some, ↓oK_none, ↓oK_map, ↓oK_bind, ↓oK_chk, ↓rK_some, Rho.at, List.getElem?_cons_zero, List.getElem?_cons_succ, Option.getD_some, List.set_cons_zero, List.set_cons_succ, E.quiet, quiets, It.quiet, Bool.and_true, Bool.true_and, Bool.and_false, Bool.false_and, binSem, addSem, biSem, bi1, bi2, lenSem_l, lenSem_t, fz, truth_b, truth_n, truth_i, truth_l, truth_t, partE, sliceSem, revSem, absSem, intSem, seqOf_f, seqOf_l, seqOf_t, listD_l, tupD, isiB, isNone, bindT_name, bindT_tup, bindTs_nil, bindTs_cons, ↓oK_if, T.free, Ts.free, wipeR, noRef, setParR, muSem, mu1, mu0, ownL, List.all_cons, List.all_nil, List.contains_nil, List.map_cons, List.map_nil, List.length_cons, List.length_nil, Option.bind_some, Option.map_some, List.any_cons, List.any_nil, Bool.or_false, Bool.false_or, Bool.not_true, Bool.not_false, List.cons_append, List.nil_append, List.replicate_succ, List.replicate_zero, Nat.sub_self, refsOf, outsOf, reduceCtorEq, if_true, if_false, beq_self_eq_true, String.reduceBEq, and_true, true_and, forall_const, true_implies, false_implies, implies_true, Fl.rt.injEq, Prod.mk.injEq, PyData.bool.injEq, sh_int, sh_bool, sizeLine_eq, Nat.reduceLeDiff, Nat.reduceAdd, Nat.reduceLT, Nat.zero_le, Nat.reduceSub, true_or, or_true, false_or, or_false, and_false, false_and, Bool.false_eq_true, Bool.true_eq_false, not_true_eq_false, not_false_eq_true, exists_eq_left, exists_eq_left', exists_eq_right, exists_eq, Option.some.injEq, decide_true, decide_false, Nat.reduceEqDiff, List.length_map, boolsOf_mapf, all_mapf, any_mapf, small_0', _root_.eq_self, List.headD_cons, List.headD_nil, List.contains_cons, Nat.reduceBEq, Bool.not_false, Bool.or_self, Bool.and_self, ↓w_rest, lt_ii, le_ii, gt_ii, ge_ii, idx_lf, idx_ll, idx_t, st_wo])
            have fin3 := fin (F0 ++ [(o, t ++ [c])])
            rw [List.map_append, List.map_cons, List.map_nil, enc5_eq] at fin3
            refine fin3 .word _ _ ?_ ?_ (by simp at hFl ⊢; omega) (fun p hp => ?_) (fun _ h => by simp at h)
            · rw [sM, hx]
              rfl
            · rw [sF, hx, if_pos rfl, addL_snoc]
            · rcases List.mem_append.mp hp with hp | hp
              · exact hFt2 p (by simp [hp])
              · rw [List.mem_singleton.mp hp]
                simp
                omega
          · have h62 : c = 62 := by simpa [ext] using hx
            have h62b : (c == 62) = true := by simpa using h62
            have hlet : letC c = false := by rw [h62]; decide
            (try simp only [↓w_var, ↓w_lit, ↓w_cst, ↓w_bin, ↓w_neg, ↓w_cmp, ↓w_cmp2, ↓w_not, ↓w_and, ↓w_or, ↓w_ite, ↓w_truth, ↓w_tup, ↓w_lst, ↓w_idx, ↓w_slice, ↓w_rev, ↓w_bi, ↓w_meth, ↓w_mut, ↓w_evs_nil, ↓w_evs_cons, ↓w_evp_nil, ↓w_evp_cons, ↓w_evm_nil, ↓w_evm_cons, ↓w_seq, ↓w_range, ↓w_enum, ↓w_zip, ↓w_nil, ↓w_consR, ↓w_expr, ↓w_set, ↓w_setT, ↓w_par, ↓w_ret, ↓w_retN, ↓w_retv, ↓w_if, ↓w_pass, ↓w_brk, ↓w_cont, ↓w_turn, ↓varK_f, ↓varK_t, ↓varK_l, ↓varK_g, ↓boolK_t, ↓boolK_f, ↓boolK_b, ↓intK_i, ↓idxK_f, ↓idxK_t, ↓lstK_l, ↓slK_s, ↓seqK_l, ↓seqK_t, ↓liK_l, ↓enumK_l, ↓enumK_t, ↓enumK_s, ↓rgK_i, ↓zipK_l, ↓flK_nx, ↓flK_rt, ↓flK_bk, ↓flK_ct, ↓lpK_nx, ↓lpK_ct, ↓lpK_bk, ↓lpK_rt, ↓oK_some, ↓oK_none, ↓oK_map, ↓oK_bind, ↓oK_chk, ↓rK_some, Rho.at, List.getElem?_cons_zero, List.getElem?_cons_succ, Option.getD_some, List.set_cons_zero, List.set_cons_succ, E.quiet, quiets, It.quiet, Bool.and_true, Bool.true_and, Bool.and_false, Bool.false_and, binSem, biSem, bi1, bi2, lenSem_l, lenSem_t, fz, truth_b, truth_n, truth_i, truth_l, truth_t, partE, sliceSem, revSem, absSem, intSem, seqOf_f, seqOf_l, seqOf_t, listD_l, tupD, isiB, isNone, bindT_name, bindT_tup, bindTs_nil, bindTs_cons, ↓oK_if, T.free, Ts.free, wipeR, noRef, setParR, muSem, mu1, mu0, ownL, List.all_cons, List.all_nil, List.contains_nil, List.map_cons, List.map_nil, List.length_cons, List.length_nil, Option.bind_some, Option.map_some, List.any_cons, List.any_nil, Bool.or_false, Bool.false_or, Bool.not_true, Bool.not_false, List.cons_append, List.nil_append, List.replicate_succ, List.replicate_zero, Nat.sub_self, refsOf, outsOf, reduceCtorEq, if_true, if_false, beq_self_eq_true, String.reduceBEq, and_true, true_and, forall_const, true_implies, false_implies, implies_true, Fl.rt.injEq, Prod.mk.injEq, PyData.bool.injEq, sh_int, sh_bool, sizeLine_eq, Nat.reduceLeDiff, Nat.reduceAdd, Nat.reduceLT, Nat.zero_le, Nat.reduceSub, true_or, or_true, false_or, or_false, and_false, false_and, Bool.false_eq_true, Bool.true_eq_false, not_true_eq_false, not_false_eq_true, exists_eq_left, exists_eq_left', exists_eq_right, exists_eq, Option.some.injEq, decide_true, decide_false, Nat.reduceEqDiff, List.length_map, boolsOf_mapf, all_mapf, any_mapf, small_0', _root_.eq_self, List.headD_cons, List.headD_nil, List.contains_cons, Nat.reduceBEq, Bool.not_false, Bool.or_self, Bool.and_self, ↓w_rest, lt_ii, le_ii, gt_ii, ge_ii, idx_lf, idx_ll, idx_t, hlet, h62b, e62, st_da, st_wo])
            obtain ⟨F0, ⟨o, t⟩, rfl⟩ : ∃ (F0 : List (Nat × List Nat)) (p : Nat × List Nat), F = F0 ++ [p] := ⟨F.dropLast, F.getLast (hFe (.inr rfl)), (List.dropLast_concat_getLast _).symm⟩
            have ht : t.length ≤ off := hFt (o, t) (by simp)
            have ad := add_1 (a := t) (c := c) (by omega)
            refine W.setI ?_
            (try simp only [↓w_var, ↓w_lit, ↓w_cst, ↓w_bin, ↓w_neg, ↓w_cmp, ↓w_cmp2, ↓w_not, ↓w_and, ↓w_or, ↓w_ite, ↓w_truth, ↓w_tup, ↓w_lst, ↓w_idx, ↓w_slice, ↓w_rev, ↓w_bi, ↓w_meth, ↓w_mut, ↓w_evs_nil, ↓w_evs_cons, ↓w_evp_nil, ↓w_evp_cons, ↓w_evm_nil, ↓w_evm_cons, ↓w_seq, ↓w_range, ↓w_enum, ↓w_zip, ↓w_nil, ↓w_consR, ↓w_expr, ↓w_set, ↓w_setT, ↓w_par, ↓w_ret, ↓w_retN, ↓w_retv, ↓w_if, ↓w_pass, ↓w_brk, ↓w_cont, ↓w_turn, ↓varK_f, ↓varK_t, ↓varK_l, ↓varK_g, ↓boolK_t, ↓boolK_f, ↓boolK_b, ↓intK_i, ↓idxK_f, ↓idxK_t, ↓lstK_l, ↓slK_s, ↓seqK_l, ↓seqK_t, ↓liK_l, ↓enumK_l, ↓enumK_t, ↓enumK_s, ↓rgK_i, ↓zipK_l, ↓flK_nx, ↓flK_rt, ↓flK_bk, ↓flK_ct, ↓lpK_nx, ↓lpK_ct, ↓lpK_bk, ↓lpK_rt, ↓oK_some, ↓oK_none, ↓oK_map, ↓oK_bind, ↓oK_chk, ↓rK_some, Rho.at, List.getElem?_cons_zero, List.getElem?_cons_succ, Option.getD_some, List.set_cons_zero, List.set_cons_succ, E.quiet, quiets, It.quiet, Bool.and_true, Bool.true_and, Bool.and_false, Bool.false_and, binSem, biSem, bi1, bi2, lenSem_l, lenSem_t, fz, truth_b, truth_n, truth_i, truth_l, truth_t, partE, sliceSem, revSem, absSem, intSem, seqOf_f, seqOf_l, seqOf_t, listD_l, tupD, isiB, isNone, bindT_name, bindT_tup, bindTs_nil, bindTs_cons, ↓oK_if, T.free, Ts.free, wipeR, noRef, setParR, muSem, mu1, mu0, ownL, List.all_cons, List.all_nil, List.contains_nil, List.map_cons, List.map_nil, List.length_cons, List.length_nil, Option.bind_some, Option.map_some, List.any_cons, List.any_nil, Bool.or_false, Bool.false_or, Bool.not_true, Bool.not_false, List.cons_append, List.nil_append, List.replicate_succ, List.replicate_zero, Nat.sub_self, refsOf, outsOf, reduceCtorEq, if_true, if_false, beq_self_eq_true, String.reduceBEq, and_true, true_and, forall_const, true_implies, false_implies, implies_true, Fl.rt.injEq, Prod.mk.injEq, PyData.bool.injEq, sh_int, sh_bool, sizeLine_eq, Nat.reduceLeDiff, Nat.reduceAdd, Nat.reduceLT, Nat.zero_le, Nat.reduceSub, true_or, or_true, false_or, or_false, and_false, false_and, Bool.false_eq_true, Bool.true_eq_false, not_true_eq_false, not_false_eq_true, exists_eq_left, exists_eq_left', exists_eq_right, exists_eq, Option.some.injEq, decide_true, decide_false, Nat.reduceEqDiff, List.length_map, boolsOf_mapf, all_mapf, any_mapf, small_0', _root_.eq_self, List.headD_cons, List.headD_nil, List.contains_cons, Nat.reduceBEq, Bool.not_false, Bool.or_self, Bool.and_self, ↓w_rest, lt_ii, le_ii, gt_ii, ge_ii, idx_lf, idx_ll, idx_t, List.map_append, List.length_append, L2.atI_last, enc5_eq, at0, at1, ad, ixN_last, set_lastm])
            rw [Rest]
            (try simp only [↓w_var, ↓w_lit, ↓w_cst, ↓w_bin, ↓w_neg, ↓w_cmp, ↓w_cmp2, ↓w_not, ↓w_and, ↓w_or, ↓w_ite, ↓w_truth, ↓w_tup, ↓w_lst, ↓w_idx, ↓w_slice, ↓w_rev, ↓w_bi, ↓w_meth, ↓w_mut, ↓w_evs_nil, ↓w_evs_cons, ↓w_evp_nil, ↓w_evp_cons, ↓w_evm_nil, ↓w_evm_cons, ↓w_seq, ↓w_range, ↓w_enum, ↓w_zip, ↓w_nil, ↓w_consR, ↓w_expr, ↓w_set, ↓w_setT, ↓w_par, ↓w_ret, ↓w_retN, ↓w_retv, ↓w_if, ↓w_pass, ↓w_brk, ↓w_cont, ↓w_turn, ↓varK_f, ↓varK_t, ↓varK_l, ↓varK_g, ↓boolK_t, ↓boolK_f, ↓boolK_b, ↓intK_i, ↓idxK_f, ↓idxK_t, ↓lstK_l, ↓slK_s, ↓seqK_l, ↓seqK_t, ↓liK_l, ↓enumK_l, ↓enumK_t, ↓enumK_s, ↓rgK_i, ↓zipK_l, ↓flK_nx, ↓flK_rt, ↓flK_bk, ↓flK_ct, ↓lpK_nx, ↓lpK_ct, ↓lpK_bk, ↓lpK_rt, ↓oK_some, ↓oK_none, ↓oK_map, ↓oK_bind, ↓oK_chk, ↓rK_some, Rho.at, List.getElem?_cons_zero, List.getElem?_cons_succ, Option.getD_some, List.set_cons_zero, List.set_cons_succ, E.quiet, quiets, It.quiet, Bool.and_true, Bool.true_and, Bool.and_false, Bool.false_and, binSem, addSem, biSem, bi1, bi2, lenSem_l, lenSem_t, fz, truth_b, truth_n, truth_i, truth_l, truth_t, partE, sliceSem, revSem, absSem, intSem, seqOf_f, seqOf_l, seqOf_t, listD_l, tupD, isiB, isNone, bindT_name, bindT_tup, bindTs_nil, bindTs_cons, ↓oK_if, T.free, Ts.free, wipeR, noRef, setParR, muSem, mu1, mu0, ownL, List.all_cons, List.all_nil, List.contains_nil, List.map_cons, List.map_nil, List.length_cons, List.length_nil, Option.bind_some, Option.map_some, List.any_cons, List.any_nil, Bool.or_false, Bool.false_or, Bool.not_true, Bool.not_false, List.cons_append, List.nil_append, List.replicate_succ, List.replicate_zero, Nat.sub_self, refsOf, outsOf, reduceCtorEq, if_true, if_false, beq_self_eq_true, String.reduceBEq, and_true, true_and, forall_const, true_implies, false_implies, implies_true, Fl.rt.injEq, Prod.mk.injEq, PyData.bool.injEq, sh_int, sh_bool, sizeLine_eq, Nat.reduceLeDiff, Nat.reduceAdd, Nat.reduceLT, Nat.zero_le, Nat.reduceSub, true_or, or_true, false_or, or_false, and_false, false_and, Bool.false_eq_true, Bool.true_eq_false, not_true_eq_false, not_false_eq_true, exists_eq_left, exists_eq_left', exists_eq_right, exists_eq, Option.some.injEq, decide_true, decide_false, Nat.reduceEqDiff, List.length_map, boolsOf_mapf, all_mapf, any_mapf, small_0', _root_.eq_self, List.headD_cons, List.headD_nil, List.contains_cons, Nat.reduceBEq, Bool.not_false, Bool.or_self, Bool.and_self, ↓w_rest, lt_ii, le_ii, gt_ii, ge_ii, idx_lf, idx_ll, idx_t, st_wo])
            have fin3 := fin (F0 ++ [(o, t ++ [c])])
            rw [List.map_append, List.map_cons, List.map_nil, enc5_eq] at fin3
            refine fin3 .sign _ _ ?_ ?_ (by simp at hFl ⊢; omega) (fun p hp => ?_) (fun _ h => by simp at h)
            · rw [sM, hx]
              rfl
            · rw [sF, hx, if_pos rfl, addL_snoc]
            · rcases List.mem_append.mp hp with hp | hp
              · exact hFt2 p (by simp [hp])
              · rw [List.mem_singleton.mp hp]
                simp
                omega
        | false =>
          have h2 : (letC c = true → decide (m = .word) = false) ∧ ((c == 62) = true → decide (m = .dash) = false) := by
            constructor
            · intro a
              rw [decide_eq_false_iff_not]
              rintro rfl
              rw [show ext .word c = letC c from rfl, a] at hx
              cases hx
            · intro a
              rw [decide_eq_false_iff_not]
              rintro rfl
              rw [show ext .dash c = (c == 62) from rfl, a] at hx
              cases hx
          have hsz : F.length < 16777216 := by omega
          have fin2 := fun m' s3' s4' h => fin (F ++ [(off, [c])]) m' s3' s4' h (by rw [sF, hx]; rfl) (by simp; omega) (fun p hp => by
            rcases List.mem_append.mp hp with hp | hp
            · exact hFt2 p hp
            · rw [List.mem_singleton.mp hp]
              simp) (fun _ h => by simp at h)
          rw [List.map_append, List.map_cons, List.map_nil, enc5_eq] at fin2
          have sN : stepM m c = newM c := by rw [sM, hx]; rfl
          cases hlet : letC c with
          | true =>
            have hn : newM c = .word := by unfold newM; rw [if_pos hlet]
            cases h62 : (c == 62) with
            | true =>
              (try simp only [↓w_var, ↓w_lit, ↓w_cst, ↓w_bin, ↓w_neg, ↓w_cmp, ↓w_cmp2, ↓w_not, ↓w_and, ↓w_or, ↓w_ite, ↓w_truth, ↓w_tup, ↓w_lst, ↓w_idx, ↓w_slice, ↓w_rev, ↓w_bi, ↓w_meth, ↓w_mut, ↓w_evs_nil, ↓w_evs_cons, ↓w_evp_nil, ↓w_evp_cons, ↓w_evm_nil, ↓w_evm_cons, ↓w_seq, ↓w_range, ↓w_enum, ↓w_zip, ↓w_nil, ↓w_consR, ↓w_expr, ↓w_set, ↓w_setT, ↓w_par, ↓w_ret, ↓w_retN, ↓w_retv, ↓w_if, ↓w_pass, ↓w_brk, ↓w_cont, ↓w_turn, ↓varK_f, ↓varK_t, ↓varK_l, ↓varK_g, ↓boolK_t, ↓boolK_f, ↓boolK_b, ↓intK_i, ↓idxK_f, ↓idxK_t, ↓lstK_l, ↓slK_s, ↓seqK_l, ↓seqK_t, ↓liK_l, ↓enumK_l, ↓enumK_t, ↓enumK_s, ↓rgK_i, ↓zipK_l, ↓flK_nx, ↓flK_rt, ↓flK_bk, ↓flK_ct, ↓lpK_nx, ↓lpK_ct, ↓lpK_bk, ↓lpK_rt, ↓oK_some, ↓oK_none, ↓oK_map, ↓oK_bind, ↓oK_chk, ↓rK_some, Rho.at, List.getElem?_cons_zero, List.getElem?_cons_succ, Option.getD_some, List.set_cons_zero, List.set_cons_succ, E.quiet, quiets, It.quiet, Bool.and_true, Bool.true_and, Bool.and_false, Bool.false_and, binSem, addSem, biSem, bi1, bi2, lenSem_l, lenSem_t, fz, truth_b, truth_n, truth_i, truth_l, truth_t, partE, sliceSem, revSem, absSem, intSem, seqOf_f, seqOf_l, seqOf_t, listD_l, tupD, isiB, isNone, bindT_name, bindT_tup, bindTs_nil, bindTs_cons, ↓oK_if, T.free, Ts.free, wipeR, noRef, setParR, muSem, mu1, mu0, ownL, List.all_cons, List.all_nil, List.contains_nil, List.map_cons, List.map_nil, List.length_cons, List.length_nil, Option.bind_some, Option.map_some, List.any_cons, List.any_nil, Bool.or_false, Bool.false_or, Bool.not_true, Bool.not_false, List.cons_append, List.nil_append, List.replicate_succ, List.replicate_zero, Nat.sub_self, refsOf, outsOf, reduceCtorEq, if_true, if_false, beq_self_eq_true, String.reduceBEq, and_true, true_and, forall_const, true_implies, false_implies, implies_true, Fl.rt.injEq, Prod.mk.injEq, PyData.bool.injEq, sh_int, sh_bool, sizeLine_eq, Nat.reduceLeDiff, Nat.reduceAdd, Nat.reduceLT, Nat.zero_le, Nat.reduceSub, true_or, or_true, false_or, or_false, and_false, false_and, Bool.false_eq_true, Bool.true_eq_false, not_true_eq_false, not_false_eq_true, exists_eq_left, exists_eq_left', exists_eq_right, exists_eq, Option.some.injEq, decide_true, decide_false, Nat.reduceEqDiff, List.length_map, boolsOf_mapf, all_mapf, any_mapf, small_0', _root_.eq_self, List.headD_cons, List.headD_nil, List.contains_cons, Nat.reduceBEq, Bool.not_false, Bool.or_self, Bool.and_self, ↓w_rest, lt_ii, le_ii, gt_ii, ge_ii, idx_lf, idx_ll, idx_t, e62, e45, st_wo, st_da, h2.1 hlet, h2.2 h62, h62, hsz, pu_5_4, wc_5_4, il, hlet])
              try rw [Rest]
              (try simp only [↓w_var, ↓w_lit, ↓w_cst, ↓w_bin, ↓w_neg, ↓w_cmp, ↓w_cmp2, ↓w_not, ↓w_and, ↓w_or, ↓w_ite, ↓w_truth, ↓w_tup, ↓w_lst, ↓w_idx, ↓w_slice, ↓w_rev, ↓w_bi, ↓w_meth, ↓w_mut, ↓w_evs_nil, ↓w_evs_cons, ↓w_evp_nil, ↓w_evp_cons, ↓w_evm_nil, ↓w_evm_cons, ↓w_seq, ↓w_range, ↓w_enum, ↓w_zip, ↓w_nil, ↓w_consR, ↓w_expr, ↓w_set, ↓w_setT, ↓w_par, ↓w_ret, ↓w_retN, ↓w_retv, ↓w_if, ↓w_pass, ↓w_brk, ↓w_cont, ↓w_turn, ↓varK_f, ↓varK_t, ↓varK_l, ↓varK_g, ↓boolK_t, ↓boolK_f, ↓boolK_b, ↓intK_i, ↓idxK_f, ↓idxK_t, ↓lstK_l, ↓slK_s, ↓seqK_l, ↓seqK_t, ↓liK_l, ↓enumK_l, ↓enumK_t, ↓enumK_s, ↓rgK_i, ↓zipK_l, ↓flK_nx, ↓flK_rt, ↓flK_bk, ↓flK_ct, ↓lpK_nx, ↓lpK_ct, ↓lpK_bk, ↓lpK_rt, ↓oK_some, ↓oK_none, ↓oK_map, ↓oK_bind, ↓oK_chk, ↓rK_some, Rho.at, List.getElem?_cons_zero, List.getElem?_cons_succ, Option.getD_some, List.set_cons_zero, List.set_cons_succ, E.quiet, quiets, It.quiet, Bool.and_true, Bool.true_and, Bool.and_false, Bool.false_and, binSem, addSem, biSem, bi1, bi2, lenSem_l, lenSem_t, fz, truth_b, truth_n, truth_i, truth_l, truth_t, partE, sliceSem, revSem, absSem, intSem, seqOf_f, seqOf_l, seqOf_t, listD_l, tupD, isiB, isNone, bindT_name, bindT_tup, bindTs_nil, bindTs_cons, ↓oK_if, T.free, Ts.free, wipeR, noRef, setParR, muSem, mu1, mu0, ownL, List.all_cons, List.all_nil, List.contains_nil, List.map_cons, List.map_nil, List.length_cons, List.length_nil, Option.bind_some, Option.map_some, List.any_cons, List.any_nil, Bool.or_false, Bool.false_or, Bool.not_true, Bool.not_false, List.cons_append, List.nil_append, List.replicate_succ, List.replicate_zero, Nat.sub_self, refsOf, outsOf, reduceCtorEq, if_true, if_false, beq_self_eq_true, String.reduceBEq, and_true, true_and, forall_const, true_implies, false_implies, implies_true, Fl.rt.injEq, Prod.mk.injEq, PyData.bool.injEq, sh_int, sh_bool, sizeLine_eq, Nat.reduceLeDiff, Nat.reduceAdd, Nat.reduceLT, Nat.zero_le, Nat.reduceSub, true_or, or_true, false_or, or_false, and_false, false_and, Bool.false_eq_true, Bool.true_eq_false, not_true_eq_false, not_false_eq_true, exists_eq_left, exists_eq_left', exists_eq_right, exists_eq, Option.some.injEq, decide_true, decide_false, Nat.reduceEqDiff, List.length_map, boolsOf_mapf, all_mapf, any_mapf, small_0', _root_.eq_self, List.headD_cons, List.headD_nil, List.contains_cons, Nat.reduceBEq, Bool.not_false, Bool.or_self, Bool.and_self, ↓w_rest, lt_ii, le_ii, gt_ii, ge_ii, idx_lf, idx_ll, idx_t, pu_5_4, wc_5_4, il, hlet])
              exact fin2 .word _ _ (sN.trans hn)
            | false =>
              (try simp only [↓w_var, ↓w_lit, ↓w_cst, ↓w_bin, ↓w_neg, ↓w_cmp, ↓w_cmp2, ↓w_not, ↓w_and, ↓w_or, ↓w_ite, ↓w_truth, ↓w_tup, ↓w_lst, ↓w_idx, ↓w_slice, ↓w_rev, ↓w_bi, ↓w_meth, ↓w_mut, ↓w_evs_nil, ↓w_evs_cons, ↓w_evp_nil, ↓w_evp_cons, ↓w_evm_nil, ↓w_evm_cons, ↓w_seq, ↓w_range, ↓w_enum, ↓w_zip, ↓w_nil, ↓w_consR, ↓w_expr, ↓w_set, ↓w_setT, ↓w_par, ↓w_ret, ↓w_retN, ↓w_retv, ↓w_if, ↓w_pass, ↓w_brk, ↓w_cont, ↓w_turn, ↓varK_f, ↓varK_t, ↓varK_l, ↓varK_g, ↓boolK_t, ↓boolK_f, ↓boolK_b, ↓intK_i, ↓idxK_f, ↓idxK_t, ↓lstK_l, ↓slK_s, ↓seqK_l, ↓seqK_t, ↓liK_l, ↓enumK_l, ↓enumK_t, ↓enumK_s, ↓rgK_i, ↓zipK_l, ↓flK_nx, ↓flK_rt, ↓flK_bk, ↓flK_ct, ↓lpK_nx, ↓lpK_ct, ↓lpK_bk, ↓lpK_rt, ↓oK_some, ↓oK_none, ↓oK_map, ↓oK_bind, ↓oK_chk, ↓rK_some, Rho.at, List.getElem?_cons_zero, List.getElem?_cons_succ, Option.getD_some, List.set_cons_zero, List.set_cons_succ, E.quiet, quiets, It.quiet, Bool.and_true, Bool.true_and, Bool.and_false, Bool.false_and, binSem, addSem, biSem, bi1, bi2, lenSem_l, lenSem_t, fz, truth_b, truth_n, truth_i, truth_l, truth_t, partE, sliceSem, revSem, absSem, intSem, seqOf_f, seqOf_l, seqOf_t, listD_l, tupD, isiB, isNone, bindT_name, bindT_tup, bindTs_nil, bindTs_cons, ↓oK_if, T.free, Ts.free, wipeR, noRef, setParR, muSem, mu1, mu0, ownL, List.all_cons, List.all_nil, List.contains_nil, List.map_cons, List.map_nil, List.length_cons, List.length_nil, Option.bind_some, Option.map_some, List.any_cons, List.any_nil, Bool.or_false, Bool.false_or, Bool.not_true, Bool.not_false, List.cons_append, List.nil_append, List.replicate_succ, List.replicate_zero, Nat.sub_self, refsOf, outsOf, reduceCtorEq, if_true, if_false, beq_self_eq_true, String.reduceBEq, and_true, true_and, forall_const, true_implies, false_implies, implies_true, Fl.rt.injEq, Prod.mk.injEq, PyData.bool.injEq, sh_int, sh_bool, sizeLine_eq, Nat.reduceLeDiff, Nat.reduceAdd, Nat.reduceLT, Nat.zero_le, Nat.reduceSub, true_or, or_true, false_or, or_false, and_false, false_and, Bool.false_eq_true, Bool.true_eq_false, not_true_eq_false, not_false_eq_true, exists_eq_left, exists_eq_left', exists_eq_right, exists_eq, Option.some.injEq, decide_true, decide_false, Nat.reduceEqDiff, List.length_map, boolsOf_mapf, all_mapf, any_mapf, small_0', _root_.eq_self, List.headD_cons, List.headD_nil, List.contains_cons, Nat.reduceBEq, Bool.not_false, Bool.or_self, Bool.and_self, ↓w_rest, lt_ii, le_ii, gt_ii, ge_ii, idx_lf, idx_ll, idx_t, e62, e45, st_wo, st_da, h2.1 hlet, h62, hsz, pu_5_4, wc_5_4, il, hlet])
              try rw [Rest]
              (try simp only [↓w_var, ↓w_lit, ↓w_cst, ↓w_bin, ↓w_neg, ↓w_cmp, ↓w_cmp2, ↓w_not, ↓w_and, ↓w_or, ↓w_ite, ↓w_truth, ↓w_tup, ↓w_lst, ↓w_idx, ↓w_slice, ↓w_rev, ↓w_bi, ↓w_meth, ↓w_mut, ↓w_evs_nil, ↓w_evs_cons, ↓w_evp_nil, ↓w_evp_cons, ↓w_evm_nil, ↓w_evm_cons, ↓w_seq, ↓w_range, ↓w_enum, ↓w_zip, ↓w_nil, ↓w_consR, ↓w_expr, ↓w_set, ↓w_setT, ↓w_par, ↓w_ret, ↓w_retN, ↓w_retv, ↓w_if, ↓w_pass, ↓w_brk, ↓w_cont, ↓w_turn, ↓varK_f, ↓varK_t, ↓varK_l, ↓varK_g, ↓boolK_t, ↓boolK_f, ↓boolK_b, ↓intK_i, ↓idxK_f, ↓idxK_t, ↓lstK_l, ↓slK_s, ↓seqK_l, ↓seqK_t, ↓liK_l, ↓enumK_l, ↓enumK_t, ↓enumK_s, ↓rgK_i, ↓zipK_l, ↓flK_nx, ↓flK_rt, ↓flK_bk, ↓flK_ct, ↓lpK_nx, ↓lpK_ct, ↓lpK_bk, ↓lpK_rt, ↓oK_some, ↓oK_none, ↓oK_map, ↓oK_bind, ↓oK_chk, ↓rK_some, Rho.at, List.getElem?_cons_zero, List.getElem?_cons_succ, Option.getD_some, List.set_cons_zero, List.set_cons_succ, E.quiet, quiets, It.quiet, Bool.and_true, Bool.true_and, Bool.and_false, Bool.false_and, binSem, addSem, biSem, bi1, bi2, lenSem_l, lenSem_t, fz, truth_b, truth_n, truth_i, truth_l, truth_t, partE, sliceSem, revSem, absSem, intSem, seqOf_f, seqOf_l, seqOf_t, listD_l, tupD, isiB, isNone, bindT_name, bindT_tup, bindTs_nil, bindTs_cons, ↓oK_if, T.free, Ts.free, wipeR, noRef, setParR, muSem, mu1, mu0, ownL, List.all_cons, List.all_nil, List.contains_nil, List.map_cons, List.map_nil, List.length_cons, List.length_nil, Option.bind_some, Option.map_some, List.any_cons, List.any_nil, Bool.or_false, Bool.false_or, Bool.not_true, Bool.not_false, List.cons_append, List.nil_append, List.replicate_succ, List.replicate_zero, Nat.sub_self, refsOf, outsOf, reduceCtorEq, if_true, if_false, beq_self_eq_true, String.reduceBEq, and_true, true_and, forall_const, true_implies, false_implies, implies_true, Fl.rt.injEq, Prod.mk.injEq, PyData.bool.injEq, sh_int, sh_bool, sizeLine_eq, Nat.reduceLeDiff, Nat.reduceAdd, Nat.reduceLT, Nat.zero_le, Nat.reduceSub, true_or, or_true, false_or, or_false, and_false, false_and, Bool.false_eq_true, Bool.true_eq_false, not_true_eq_false, not_false_eq_true, exists_eq_left, exists_eq_left', exists_eq_right, exists_eq, Option.some.injEq, decide_true, decide_false, Nat.reduceEqDiff, List.length_map, boolsOf_mapf, all_mapf, any_mapf, small_0', _root_.eq_self, List.headD_cons, List.headD_nil, List.contains_cons, Nat.reduceBEq, Bool.not_false, Bool.or_self, Bool.and_self, ↓w_rest, lt_ii, le_ii, gt_ii, ge_ii, idx_lf, idx_ll, idx_t, pu_5_4, wc_5_4, il, hlet])
              exact fin2 .word _ _ (sN.trans hn)
          | false =>
            cases h45 : (c == 45) with
            | true =>
              have h45b : c = 45 := by simpa using h45
              have hn : newM c = .dash := by unfold newM; rw [hlet, if_neg (by decide), if_pos h45b]
              have h62 : (c == 62) = false := by rw [h45b]; rfl
              (try simp only [↓w_var, ↓w_lit, ↓w_cst, ↓w_bin, ↓w_neg, ↓w_cmp, ↓w_cmp2, ↓w_not, ↓w_and, ↓w_or, ↓w_ite, ↓w_truth, ↓w_tup, ↓w_lst, ↓w_idx, ↓w_slice, ↓w_rev, ↓w_bi, ↓w_meth, ↓w_mut, ↓w_evs_nil, ↓w_evs_cons, ↓w_evp_nil, ↓w_evp_cons, ↓w_evm_nil, ↓w_evm_cons, ↓w_seq, ↓w_range, ↓w_enum, ↓w_zip, ↓w_nil, ↓w_consR, ↓w_expr, ↓w_set, ↓w_setT, ↓w_par, ↓w_ret, ↓w_retN, ↓w_retv, ↓w_if, ↓w_pass, ↓w_brk, ↓w_cont, ↓w_turn, ↓varK_f, ↓varK_t, ↓varK_l, ↓varK_g, ↓boolK_t, ↓boolK_f, ↓boolK_b, ↓intK_i, ↓idxK_f, ↓idxK_t, ↓lstK_l, ↓slK_s, ↓seqK_l, ↓seqK_t, ↓liK_l, ↓enumK_l, ↓enumK_t, ↓enumK_s, ↓rgK_i, ↓zipK_l, ↓flK_nx, ↓flK_rt, ↓flK_bk, ↓flK_ct, ↓lpK_nx, ↓lpK_ct, ↓lpK_bk, ↓lpK_rt, ↓oK_some, ↓oK_none, ↓oK_map, ↓oK_bind, ↓oK_chk, ↓rK_some, Rho.at, List.getElem?_cons_zero, List.getElem?_cons_succ, Option.getD_some, List.set_cons_zero, List.set_cons_succ, E.quiet, quiets, It.quiet, Bool.and_true, Bool.true_and, Bool.and_false, Bool.false_and, binSem, addSem, biSem, bi1, bi2, lenSem_l, lenSem_t, fz, truth_b, truth_n, truth_i, truth_l, truth_t, partE, sliceSem, revSem, absSem, intSem, seqOf_f, seqOf_l, seqOf_t, listD_l, tupD, isiB, isNone, bindT_name, bindT_tup, bindTs_nil, bindTs_cons, ↓oK_if, T.free, Ts.free, wipeR, noRef, setParR, muSem, mu1, mu0, ownL, List.all_cons, List.all_nil, List.contains_nil, List.map_cons, List.map_nil, List.length_cons, List.length_nil, Option.bind_some, Option.map_some, List.any_cons, List.any_nil, Bool.or_false, Bool.false_or, Bool.not_true, Bool.not_false, List.cons_append, List.nil_append, List.replicate_succ, List.replicate_zero, Nat.sub_self, refsOf, outsOf, reduceCtorEq, if_true, if_false, beq_self_eq_true, String.reduceBEq, and_true, true_and, forall_const, true_implies, false_implies, implies_true, Fl.rt.injEq, Prod.mk.injEq, PyData.bool.injEq, sh_int, sh_bool, sizeLine_eq, Nat.reduceLeDiff, Nat.reduceAdd, Nat.reduceLT, Nat.zero_le, Nat.reduceSub, true_or, or_true, false_or, or_false, and_false, false_and, Bool.false_eq_true, Bool.true_eq_false, not_true_eq_false, not_false_eq_true, exists_eq_left, exists_eq_left', exists_eq_right, exists_eq, Option.some.injEq, decide_true, decide_false, Nat.reduceEqDiff, List.length_map, boolsOf_mapf, all_mapf, any_mapf, small_0', _root_.eq_self, List.headD_cons, List.headD_nil, List.contains_cons, Nat.reduceBEq, Bool.not_false, Bool.or_self, Bool.and_self, ↓w_rest, lt_ii, le_ii, gt_ii, ge_ii, idx_lf, idx_ll, idx_t, e62, e45, st_wo, st_da, h62, hsz, pu_5_4, wc_5_4, il, hlet])
              try rw [Rest]
              (try simp only [↓w_var, ↓w_lit, ↓w_cst, ↓w_bin, ↓w_neg, ↓w_cmp, ↓w_cmp2, ↓w_not, ↓w_and, ↓w_or, ↓w_ite, ↓w_truth, ↓w_tup, ↓w_lst, ↓w_idx, ↓w_slice, ↓w_rev, ↓w_bi, ↓w_meth, ↓w_mut, ↓w_evs_nil, ↓w_evs_cons, ↓w_evp_nil, ↓w_evp_cons, ↓w_evm_nil, ↓w_evm_cons, ↓w_seq, ↓w_range, ↓w_enum, ↓w_zip, ↓w_nil, ↓w_consR, ↓w_expr, ↓w_set, ↓w_setT, ↓w_par, ↓w_ret, ↓w_retN, ↓w_retv, ↓w_if, ↓w_pass, ↓w_brk, ↓w_cont, ↓w_turn, ↓varK_f, ↓varK_t, ↓varK_l, ↓varK_g, ↓boolK_t, ↓boolK_f, ↓boolK_b, ↓intK_i, ↓idxK_f, ↓idxK_t, ↓lstK_l, ↓slK_s, ↓seqK_l, ↓seqK_t, ↓liK_l, ↓enumK_l, ↓enumK_t, ↓enumK_s, ↓rgK_i, ↓zipK_l, ↓flK_nx, ↓flK_rt, ↓flK_bk, ↓flK_ct, ↓lpK_nx, ↓lpK_ct, ↓lpK_bk, ↓lpK_rt, ↓oK_some, ↓oK_none, ↓oK_map, ↓oK_bind, ↓oK_chk, ↓rK_some, Rho.at, List.getElem?_cons_zero, List.getElem?_cons_succ, Option.getD_some, List.set_cons_zero, List.set_cons_succ, E.quiet, quiets, It.quiet, Bool.and_true, Bool.true_and, Bool.and_false, Bool.false_and, binSem, addSem, biSem, bi1, bi2, lenSem_l, lenSem_t, fz, truth_b, truth_n, truth_i, truth_l, truth_t, partE, sliceSem, revSem, absSem, intSem, seqOf_f, seqOf_l, seqOf_t, listD_l, tupD, isiB, isNone, bindT_name, bindT_tup, bindTs_nil, bindTs_cons, ↓oK_if, T.free, Ts.free, wipeR, noRef, setParR, muSem, mu1, mu0, ownL, List.all_cons, List.all_nil, List.contains_nil, List.map_cons, List.map_nil, List.length_cons, List.length_nil, Option.bind_some, Option.map_some, List.any_cons, List.any_nil, Bool.or_false, Bool.false_or, Bool.not_true, Bool.not_false, List.cons_append, List.nil_append, List.replicate_succ, List.replicate_zero, Nat.sub_self, refsOf, outsOf, reduceCtorEq, if_true, if_false, beq_self_eq_true, String.reduceBEq, and_true, true_and, forall_const, true_implies, false_implies, implies_true, Fl.rt.injEq, Prod.mk.injEq, PyData.bool.injEq, sh_int, sh_bool, sizeLine_eq, Nat.reduceLeDiff, Nat.reduceAdd, Nat.reduceLT, Nat.zero_le, Nat.reduceSub, true_or, or_true, false_or, or_false, and_false, false_and, Bool.false_eq_true, Bool.true_eq_false, not_true_eq_false, not_false_eq_true, exists_eq_left, exists_eq_left', exists_eq_right, exists_eq, Option.some.injEq, decide_true, decide_false, Nat.reduceEqDiff, List.length_map, boolsOf_mapf, all_mapf, any_mapf, small_0', _root_.eq_self, List.headD_cons, List.headD_nil, List.contains_cons, Nat.reduceBEq, Bool.not_false, Bool.or_self, Bool.and_self, ↓w_rest, lt_ii, le_ii, gt_ii, ge_ii, idx_lf, idx_ll, idx_t, pu_5_4, wc_5_4, il, hlet, e45, h45])
              exact fin2 .dash _ _ (sN.trans hn)
            | false =>
              have h45b : ¬ c = 45 := by simpa using h45
              have hn : newM c = .sign := by unfold newM; rw [hlet, if_neg (by decide), if_neg h45b]
              cases h62 : (c == 62) with
              | true =>
                (try simp only [↓w_var, ↓w_lit, ↓w_cst, ↓w_bin, ↓w_neg, ↓w_cmp, ↓w_cmp2, ↓w_not, ↓w_and, ↓w_or, ↓w_ite, ↓w_truth, ↓w_tup, ↓w_lst, ↓w_idx, ↓w_slice, ↓w_rev, ↓w_bi, ↓w_meth, ↓w_mut, ↓w_evs_nil, ↓w_evs_cons, ↓w_evp_nil, ↓w_evp_cons, ↓w_evm_nil, ↓w_evm_cons, ↓w_seq, ↓w_range, ↓w_enum, ↓w_zip, ↓w_nil, ↓w_consR, ↓w_expr, ↓w_set, ↓w_setT, ↓w_par, ↓w_ret, ↓w_retN, ↓w_retv, ↓w_if, ↓w_pass, ↓w_brk, ↓w_cont, ↓w_turn, ↓varK_f, ↓varK_t, ↓varK_l, ↓varK_g, ↓boolK_t, ↓boolK_f, ↓boolK_b, ↓intK_i, ↓idxK_f, ↓idxK_t, ↓lstK_l, ↓slK_s, ↓seqK_l, ↓seqK_t, ↓liK_l, ↓enumK_l, ↓enumK_t, ↓enumK_s, ↓rgK_i, ↓zipK_l, ↓flK_nx, ↓flK_rt, ↓flK_bk, ↓flK_ct, ↓lpK_nx, ↓lpK_ct, ↓lpK_bk, ↓lpK_rt, ↓oK_some, ↓oK_none, ↓oK_map, ↓oK_bind, ↓oK_chk, ↓rK_some, Rho.at, List.getElem?_cons_zero, List.getElem?_cons_succ, Option.getD_some, List.set_cons_zero, List.set_cons_succ, E.quiet, quiets, It.quiet, Bool.and_true, Bool.true_and, Bool.and_false, Bool.false_and, binSem, addSem, biSem, bi1, bi2, lenSem_l, lenSem_t, fz, truth_b, truth_n, truth_i, truth_l, truth_t, partE, sliceSem, revSem, absSem, intSem, seqOf_f, seqOf_l, seqOf_t, listD_l, tupD, isiB, isNone, bindT_name, bindT_tup, bindTs_nil, bindTs_cons, ↓oK_if, T.free, Ts.free, wipeR, noRef, setParR, muSem, mu1, mu0, ownL, List.all_cons, List.all_nil, List.contains_nil, List.map_cons, List.map_nil, List.length_cons, List.length_nil, Option.bind_some, Option.map_some, List.any_cons, List.any_nil, Bool.or_false, Bool.false_or, Bool.not_true, Bool.not_false, List.cons_append, List.nil_append, List.replicate_succ, List.replicate_zero, Nat.sub_self, refsOf, outsOf, reduceCtorEq, if_true, if_false, beq_self_eq_true, String.reduceBEq, and_true, true_and, forall_const, true_implies, false_implies, implies_true, Fl.rt.injEq, Prod.mk.injEq, PyData.bool.injEq, sh_int, sh_bool, sizeLine_eq, Nat.reduceLeDiff, Nat.reduceAdd, Nat.reduceLT, Nat.zero_le, Nat.reduceSub, true_or, or_true, false_or, or_false, and_false, false_and, Bool.false_eq_true, Bool.true_eq_false, not_true_eq_false, not_false_eq_true, exists_eq_left, exists_eq_left', exists_eq_right, exists_eq, Option.some.injEq, decide_true, decide_false, Nat.reduceEqDiff, List.length_map, boolsOf_mapf, all_mapf, any_mapf, small_0', _root_.eq_self, List.headD_cons, List.headD_nil, List.contains_cons, Nat.reduceBEq, Bool.not_false, Bool.or_self, Bool.and_self, ↓w_rest, lt_ii, le_ii, gt_ii, ge_ii, idx_lf, idx_ll, idx_t, e62, e45, st_wo, st_da, h2.2 h62, h62, hsz, pu_5_4, wc_5_4, il, hlet])
                try rw [Rest]
                (try simp only [↓w_var, ↓w_lit, ↓w_cst, ↓w_bin, ↓w_neg, ↓w_cmp, ↓w_cmp2, ↓w_not, ↓w_and, ↓w_or, ↓w_ite, ↓w_truth, ↓w_tup, ↓w_lst, ↓w_idx, ↓w_slice, ↓w_rev, ↓w_bi, ↓w_meth, ↓w_mut, ↓w_evs_nil, ↓w_evs_cons, ↓w_evp_nil, ↓w_evp_cons, ↓w_evm_nil, ↓w_evm_cons, ↓w_seq, ↓w_range, ↓w_enum, ↓w_zip, ↓w_nil, ↓w_consR, ↓w_expr, ↓w_set, ↓w_setT, ↓w_par, ↓w_ret, ↓w_retN, ↓w_retv, ↓w_if, ↓w_pass, ↓w_brk, ↓w_cont, ↓w_turn, ↓varK_f, ↓varK_t, ↓varK_l, ↓varK_g, ↓boolK_t, ↓boolK_f, ↓boolK_b, ↓intK_i, ↓idxK_f, ↓idxK_t, ↓lstK_l, ↓slK_s, ↓seqK_l, ↓seqK_t, ↓liK_l, ↓enumK_l, ↓enumK_t, ↓enumK_s, ↓rgK_i, ↓zipK_l, ↓flK_nx, ↓flK_rt, ↓flK_bk, ↓flK_ct, ↓lpK_nx, ↓lpK_ct, ↓lpK_bk, ↓lpK_rt, ↓oK_some, ↓oK_none, ↓oK_map, ↓oK_bind, ↓oK_chk, ↓rK_some, Rho.at, List.getElem?_cons_zero, List.getElem?_cons_succ, Option.getD_some, List.set_cons_zero, List.set_cons_succ, E.quiet, quiets, It.quiet, Bool.and_true, Bool.true_and, Bool.and_false, Bool.false_and, binSem, addSem, biSem, bi1, bi2, lenSem_l, lenSem_t, fz, truth_b, truth_n, truth_i, truth_l, truth_t, partE, sliceSem, revSem, absSem, intSem, seqOf_f, seqOf_l, seqOf_t, listD_l, tupD, isiB, isNone, bindT_name, bindT_tup, bindTs_nil, bindTs_cons, ↓oK_if, T.free, Ts.free, wipeR, noRef, setParR, muSem, mu1, mu0, ownL, List.all_cons, List.all_nil, List.contains_nil, List.map_cons, List.map_nil, List.length_cons, List.length_nil, Option.bind_some, Option.map_some, List.any_cons, List.any_nil, Bool.or_false, Bool.false_or, Bool.not_true, Bool.not_false, List.cons_append, List.nil_append, List.replicate_succ, List.replicate_zero, Nat.sub_self, refsOf, outsOf, reduceCtorEq, if_true, if_false, beq_self_eq_true, String.reduceBEq, and_true, true_and, forall_const, true_implies, false_implies, implies_true, Fl.rt.injEq, Prod.mk.injEq, PyData.bool.injEq, sh_int, sh_bool, sizeLine_eq, Nat.reduceLeDiff, Nat.reduceAdd, Nat.reduceLT, Nat.zero_le, Nat.reduceSub, true_or, or_true, false_or, or_false, and_false, false_and, Bool.false_eq_true, Bool.true_eq_false, not_true_eq_false, not_false_eq_true, exists_eq_left, exists_eq_left', exists_eq_right, exists_eq, Option.some.injEq, decide_true, decide_false, Nat.reduceEqDiff, List.length_map, boolsOf_mapf, all_mapf, any_mapf, small_0', _root_.eq_self, List.headD_cons, List.headD_nil, List.contains_cons, Nat.reduceBEq, Bool.not_false, Bool.or_self, Bool.and_self, ↓w_rest, lt_ii, le_ii, gt_ii, ge_ii, idx_lf, idx_ll, idx_t, pu_5_4, wc_5_4, il, hlet, e45, h45])
                exact fin2 .sign _ _ (sN.trans hn)
              | false =>
                (try simp only [↓w_var, ↓w_lit, ↓w_cst, ↓w_bin, ↓w_neg, ↓w_cmp, ↓w_cmp2, ↓w_not, ↓w_and, ↓w_or, ↓w_ite, ↓w_truth, ↓w_tup, ↓w_lst, ↓w_idx, ↓w_slice, ↓w_rev, ↓w_bi, ↓w_meth, ↓w_mut, ↓w_evs_nil, ↓w_evs_cons, ↓w_evp_nil, ↓w_evp_cons, ↓w_evm_nil, ↓w_evm_cons, ↓w_seq, ↓w_range, ↓w_enum, ↓w_zip, ↓w_nil, ↓w_consR, ↓w_expr, ↓w_set, ↓w_setT, ↓w_par, ↓w_ret, ↓w_retN, ↓w_retv, ↓w_if, ↓w_pass, ↓w_brk, ↓w_cont, ↓w_turn, ↓varK_f, ↓varK_t, ↓varK_l, ↓varK_g, ↓boolK_t, ↓boolK_f, ↓boolK_b, ↓intK_i, ↓idxK_f, ↓idxK_t, ↓lstK_l, ↓slK_s, ↓seqK_l, ↓seqK_t, ↓liK_l, ↓enumK_l, ↓enumK_t, ↓enumK_s, ↓rgK_i, ↓zipK_l, ↓flK_nx, ↓flK_rt, ↓flK_bk, ↓flK_ct, ↓lpK_nx, ↓lpK_ct, ↓lpK_bk, ↓lpK_rt, ↓oK_some, ↓oK_none, ↓oK_map, ↓oK_bind, ↓oK_chk, ↓rK_some, Rho.at, List.getElem?_cons_zero, List.getElem?_cons_succ, Option.getD_some, List.set_cons_zero, List.set_cons_succ, E.quiet, quiets, It.quiet, Bool.and_true, Bool.true_and, Bool.and_false, Bool.false_and, binSem, addSem, biSem, bi1, bi2, lenSem_l, lenSem_t, fz, truth_b, truth_n, truth_i, truth_l, truth_t, partE, sliceSem, revSem, absSem, intSem, seqOf_f, seqOf_l, seqOf_t, listD_l, tupD, isiB, isNone, bindT_name, bindT_tup, bindTs_nil, bindTs_cons, ↓oK_if, T.free, Ts.free, wipeR, noRef, setParR, muSem, mu1, mu0, ownL, List.all_cons, List.all_nil, List.contains_nil, List.map_cons, List.map_nil, List.length_cons, List.length_nil, Option.bind_some, Option.map_some, List.any_cons, List.any_nil, Bool.or_false, Bool.false_or, Bool.not_true, Bool.not_false, List.cons_append, List.nil_append, List.replicate_succ, List.replicate_zero, Nat.sub_self, refsOf, outsOf, reduceCtorEq, if_true, if_false, beq_self_eq_true, String.reduceBEq, and_true, true_and, forall_const, true_implies, false_implies, implies_true, Fl.rt.injEq, Prod.mk.injEq, PyData.bool.injEq, sh_int, sh_bool, sizeLine_eq, Nat.reduceLeDiff, Nat.reduceAdd, Nat.reduceLT, Nat.zero_le, Nat.reduceSub, true_or, or_true, false_or, or_false, and_false, false_and, Bool.false_eq_true, Bool.true_eq_false, not_true_eq_false, not_false_eq_true, exists_eq_left, exists_eq_left', exists_eq_right, exists_eq, Option.some.injEq, decide_true, decide_false, Nat.reduceEqDiff, List.length_map, boolsOf_mapf, all_mapf, any_mapf, small_0', _root_.eq_self, List.headD_cons, List.headD_nil, List.contains_cons, Nat.reduceBEq, Bool.not_false, Bool.or_self, Bool.and_self, ↓w_rest, lt_ii, le_ii, gt_ii, ge_ii, idx_lf, idx_ll, idx_t, e62, e45, st_wo, st_da, h62, hsz, pu_5_4, wc_5_4, il, hlet])
                try rw [Rest]
                (try simp only [↓w_var, ↓w_lit, ↓w_cst, ↓w_bin, ↓w_neg, ↓w_cmp, ↓w_cmp2, ↓w_not, ↓w_and, ↓w_or, ↓w_ite, ↓w_truth, ↓w_tup, ↓w_lst, ↓w_idx, ↓w_slice, ↓w_rev, ↓w_bi, ↓w_meth, ↓w_mut, ↓w_evs_nil, ↓w_evs_cons, ↓w_evp_nil, ↓w_evp_cons, ↓w_evm_nil, ↓w_evm_cons, ↓w_seq, ↓w_range, ↓w_enum, ↓w_zip, ↓w_nil, ↓w_consR, ↓w_expr, ↓w_set, ↓w_setT, ↓w_par, ↓w_ret, ↓w_retN, ↓w_retv, ↓w_if, ↓w_pass, ↓w_brk, ↓w_cont, ↓w_turn, ↓varK_f, ↓varK_t, ↓varK_l, ↓varK_g, ↓boolK_t, ↓boolK_f, ↓boolK_b, ↓intK_i, ↓idxK_f, ↓idxK_t, ↓lstK_l, ↓slK_s, ↓seqK_l, ↓seqK_t, ↓liK_l, ↓enumK_l, ↓enumK_t, ↓enumK_s, ↓rgK_i, ↓zipK_l, ↓flK_nx, ↓flK_rt, ↓flK_bk, ↓flK_ct, ↓lpK_nx, ↓lpK_ct, ↓lpK_bk, ↓lpK_rt, ↓oK_some, ↓oK_none, ↓oK_map, ↓oK_bind, ↓oK_chk, ↓rK_some, Rho.at, List.getElem?_cons_zero, List.getElem?_cons_succ, Option.getD_some, List.set_cons_zero, List.set_cons_succ, E.quiet, quiets, It.quiet, Bool.and_true, Bool.true_and, Bool.and_false, Bool.false_and, binSem, addSem, biSem, bi1, bi2, lenSem_l, lenSem_t, fz, truth_b, truth_n, truth_i, truth_l, truth_t, partE, sliceSem, revSem, absSem, intSem, seqOf_f, seqOf_l, seqOf_t, listD_l, tupD, isiB, isNone, bindT_name, bindT_tup, bindTs_nil, bindTs_cons, ↓oK_if, T.free, Ts.free, wipeR, noRef, setParR, muSem, mu1, mu0, ownL, List.all_cons, List.all_nil, List.contains_nil, List.map_cons, List.map_nil, List.length_cons, List.length_nil, Option.bind_some, Option.map_some, List.any_cons, List.any_nil, Bool.or_false, Bool.false_or, Bool.not_true, Bool.not_false, List.cons_append, List.nil_append, List.replicate_succ, List.replicate_zero, Nat.sub_self, refsOf, outsOf, reduceCtorEq, if_true, if_false, beq_self_eq_true, String.reduceBEq, and_true, true_and, forall_const, true_implies, false_implies, implies_true, Fl.rt.injEq, Prod.mk.injEq, PyData.bool.injEq, sh_int, sh_bool, sizeLine_eq, Nat.reduceLeDiff, Nat.reduceAdd, Nat.reduceLT, Nat.zero_le, Nat.reduceSub, true_or, or_true, false_or, or_false, and_false, false_and, Bool.false_eq_true, Bool.true_eq_false, not_true_eq_false, not_false_eq_true, exists_eq_left, exists_eq_left', exists_eq_right, exists_eq, Option.some.injEq, decide_true, decide_false, Nat.reduceEqDiff, List.length_map, boolsOf_mapf, all_mapf, any_mapf, small_0', _root_.eq_self, List.headD_cons, List.headD_nil, List.contains_cons, Nat.reduceBEq, Bool.not_false, Bool.or_self, Bool.and_self, ↓w_rest, lt_ii, le_ii, gt_ii, ge_ii, idx_lf, idx_ll, idx_t, pu_5_4, wc_5_4, il, hlet, e45, h45])
                exact fin2 .sign _ _ (sN.trans hn)
  · rintro ρ ⟨F, m, off, r, s3, s4, hx, rfl, hw, hr, hlen, hFl, hFt, hFe⟩
    cases r with
    | cons c r => cases hx
    | nil =>
      have hw : F = wk .gap [] 0 s := hw
      (try simp only [↓w_var, ↓w_lit, ↓w_cst, ↓w_bin, ↓w_neg, ↓w_cmp, ↓w_cmp2, ↓w_not, ↓w_and, ↓w_or, ↓w_ite, ↓w_truth, ↓w_tup, ↓w_lst, ↓w_idx, ↓w_slice, ↓w_rev, ↓w_bi, ↓w_meth, ↓w_mut, ↓w_evs_nil, ↓w_evs_cons, ↓w_evp_nil, ↓w_evp_cons, ↓w_evm_nil, ↓w_evm_cons, ↓w_seq, ↓w_range, ↓w_enum, ↓w_zip, ↓w_nil, ↓w_consR, ↓w_expr, ↓w_set, ↓w_setT, ↓w_par, ↓w_ret, ↓w_retN, ↓w_retv, ↓w_if, ↓w_pass, ↓w_brk, ↓w_cont, ↓w_turn, ↓varK_f, ↓varK_t, ↓varK_l, ↓varK_g, ↓boolK_t, ↓boolK_f, ↓boolK_b, ↓intK_i, ↓idxK_f, ↓idxK_t, ↓lstK_l, ↓slK_s, ↓seqK_l, ↓seqK_t, ↓liK_l, ↓enumK_l, ↓enumK_t, ↓enumK_s, ↓rgK_i, ↓zipK_l, ↓flK_nx, ↓flK_rt, ↓flK_bk, ↓flK_ct, ↓lpK_nx, ↓lpK_ct, ↓lpK_bk, ↓lpK_rt, ↓oK_some, ↓oK_none, ↓oK_map, ↓oK_bind, ↓oK_chk, ↓rK_some, Rho.at, List.getElem?_cons_zero, List.getElem?_cons_succ, Option.getD_some, List.set_cons_zero, List.set_cons_succ, E.quiet, quiets, It.quiet, Bool.and_true, Bool.true_and, Bool.and_false, Bool.false_and, binSem, addSem, biSem, bi1, bi2, lenSem_l, lenSem_t, fz, truth_b, truth_n, truth_i, truth_l, truth_t, partE, sliceSem, revSem, absSem, intSem, seqOf_f, seqOf_l, seqOf_t, listD_l, tupD, isiB, isNone, bindT_name, bindT_tup, bindTs_nil, bindTs_cons, ↓oK_if, T.free, Ts.free, wipeR, noRef, setParR, muSem, mu1, mu0, ownL, List.all_cons, List.all_nil, List.contains_nil, List.map_cons, List.map_nil, List.length_cons, List.length_nil, Option.bind_some, Option.map_some, List.any_cons, List.any_nil, Bool.or_false, Bool.false_or, Bool.not_true, Bool.not_false, List.cons_append, List.nil_append, List.replicate_succ, List.replicate_zero, Nat.sub_self, refsOf, outsOf, reduceCtorEq, if_true, if_false, beq_self_eq_true, String.reduceBEq, and_true, true_and, forall_const, true_implies, false_implies, implies_true, Fl.rt.injEq, Prod.mk.injEq, PyData.bool.injEq, sh_int, sh_bool, sizeLine_eq, Nat.reduceLeDiff, Nat.reduceAdd, Nat.reduceLT, Nat.zero_le, Nat.reduceSub, true_or, or_true, false_or, or_false, and_false, false_and, Bool.false_eq_true, Bool.true_eq_false, not_true_eq_false, not_false_eq_true, exists_eq_left, exists_eq_left', exists_eq_right, exists_eq, Option.some.injEq, decide_true, decide_false, Nat.reduceEqDiff, List.length_map, boolsOf_mapf, all_mapf, any_mapf, small_0', _root_.eq_self, List.headD_cons, List.headD_nil, List.contains_cons, Nat.reduceBEq, Bool.not_false, Bool.or_self, Bool.and_self, ↓w_rest, lt_ii, le_ii, gt_ii, ge_ii, idx_lf, idx_ll, idx_t])
      rw [Rest]
      (try simp only [↓w_var, ↓w_lit, ↓w_cst, ↓w_bin, ↓w_neg, ↓w_cmp, ↓w_cmp2, ↓w_not, ↓w_and, ↓w_or, ↓w_ite, ↓w_truth, ↓w_tup, ↓w_lst, ↓w_idx, ↓w_slice, ↓w_rev, ↓w_bi, ↓w_meth, ↓w_mut, ↓w_evs_nil, ↓w_evs_cons, ↓w_evp_nil, ↓w_evp_cons, ↓w_evm_nil, ↓w_evm_cons, ↓w_seq, ↓w_range, ↓w_enum, ↓w_zip, ↓w_nil, ↓w_consR, ↓w_expr, ↓w_set, ↓w_setT, ↓w_par, ↓w_ret, ↓w_retN, ↓w_retv, ↓w_if, ↓w_pass, ↓w_brk, ↓w_cont, ↓w_turn, ↓varK_f, ↓varK_t, ↓varK_l, ↓varK_g, ↓boolK_t, ↓boolK_f, ↓boolK_b, ↓intK_i, ↓idxK_f, ↓idxK_t, ↓lstK_l, ↓slK_s, ↓seqK_l, ↓seqK_t, ↓liK_l, ↓enumK_l, ↓enumK_t, ↓enumK_s, ↓rgK_i, ↓zipK_l, ↓flK_nx, ↓flK_rt, ↓flK_bk, ↓flK_ct, ↓lpK_nx, ↓lpK_ct, ↓lpK_bk, ↓lpK_rt, ↓oK_some, ↓oK_none, ↓oK_map, ↓oK_bind, ↓oK_chk, ↓rK_some, Rho.at, List.getElem?_cons_zero, List.getElem?_cons_succ, Option.getD_some, List.set_cons_zero, List.set_cons_succ, E.quiet, quiets, It.quiet, Bool.and_true, Bool.true_and, Bool.and_false, Bool.false_and, binSem, addSem, biSem, bi1, bi2, lenSem_l, lenSem_t, fz, truth_b, truth_n, truth_i, truth_l, truth_t, partE, sliceSem, revSem, absSem, intSem, seqOf_f, seqOf_l, seqOf_t, listD_l, tupD, isiB, isNone, bindT_name, bindT_tup, bindTs_nil, bindTs_cons, ↓oK_if, T.free, Ts.free, wipeR, noRef, setParR, muSem, mu1, mu0, ownL, List.all_cons, List.all_nil, List.contains_nil, List.map_cons, List.map_nil, List.length_cons, List.length_nil, Option.bind_some, Option.map_some, List.any_cons, List.any_nil, Bool.or_false, Bool.false_or, Bool.not_true, Bool.not_false, List.cons_append, List.nil_append, List.replicate_succ, List.replicate_zero, Nat.sub_self, refsOf, outsOf, reduceCtorEq, if_true, if_false, beq_self_eq_true, String.reduceBEq, and_true, true_and, forall_const, true_implies, false_implies, implies_true, Fl.rt.injEq, Prod.mk.injEq, PyData.bool.injEq, sh_int, sh_bool, sizeLine_eq, Nat.reduceLeDiff, Nat.reduceAdd, Nat.reduceLT, Nat.zero_le, Nat.reduceSub, true_or, or_true, false_or, or_false, and_false, false_and, Bool.false_eq_true, Bool.true_eq_false, not_true_eq_false, not_false_eq_true, exists_eq_left, exists_eq_left', exists_eq_right, exists_eq, Option.some.injEq, decide_true, decide_false, Nat.reduceEqDiff, List.length_map, boolsOf_mapf, all_mapf, any_mapf, small_0', _root_.eq_self, List.headD_cons, List.headD_nil, List.contains_cons, Nat.reduceBEq, Bool.not_false, Bool.or_self, Bool.and_self, ↓w_rest, lt_ii, le_ii, gt_ii, ge_ii, idx_lf, idx_ll, idx_t])
      rw [hw]
end Law
/-! k05: the drawn text. -/
namespace Law
set_option maxHeartbeats 4000000
open Ev PySem PySem.Spec L2
def piecesS : List Str := (["a", "B_7", "while", "0", "12", "007", "9x", "_", "->", "-", ">", "=", ";", ":", "{", "}", "[", "]", "(", ")", ",", "?", "*", "$", "~", "!", " ", " ", "  ", "\n", "\n ", "# so -> it is", "#", "##\n", " # a = 3;\n", "->->", "--", ">-", "zZ09"] : List String).map Str.ofString
def pieces : List (List Nat) := piecesS.map fun s => s.cps.toList
theorem len_rg (lo : Int) (n : Nat) : (rangeD lo n).length = n := by rw [rangeD_map, List.length_map, rgI_len]
theorem pieces_ok : ∀ l ∈ pieces, l.length ≤ 13 ∧ ∀ c ∈ l, c < 128 := by decide +kernel
theorem pieces_eq : piecesS.map PyData.str = pieces.map tx := by
  unfold pieces
  rw [List.map_map]
  exact List.map_congr_left fun s _ => rfl
theorem r_text {ns : List Int} {n : Int} (g : Good ns n) : ∃ (s : List Nat) (ns' : List Int) (n' : Int), Asc s ∧ s.length ≤ 299 ∧ Good ns' n' ∧ (c__law_text).run (Phi_3 rounds) [dl ns n] = some ((tx s, .f), [some (dl ns' n')]) := by
  have hany : HasAny (Phi_3 rounds) 1 := any_ok fn_3_1
  have main : rK ((c__law_text).run (Phi_3 rounds) [dl ns n]) fun r os => ∃ (s : List Nat) (ns' : List Int) (n' : Int), Asc s ∧ s.length ≤ 299 ∧ Good ns' n' ∧ r = (tx s, .f) ∧ os = [some (dl ns' n')] := by
    refine run_rK ?_
    unfold c__law_text
    (try simp only [↓w_var, ↓w_lit, ↓w_cst, ↓w_bin, ↓w_neg, ↓w_cmp, ↓w_cmp2, ↓w_not, ↓w_and, ↓w_or, ↓w_ite, ↓w_truth, ↓w_tup, ↓w_lst, ↓w_idx, ↓w_slice, ↓w_rev, ↓w_bi, ↓w_meth, ↓w_mut, ↓w_evs_nil, ↓w_evs_cons, ↓w_evp_nil, ↓w_evp_cons, ↓w_evm_nil, ↓w_evm_cons, ↓w_seq, ↓w_range, ↓w_enum, ↓w_zip, ↓w_nil, ↓w_consR, ↓w_expr, ↓w_set, ↓w_setT, ↓w_par, ↓w_ret, ↓w_retN, ↓w_retv, ↓w_if, ↓w_pass, ↓w_brk, ↓w_cont, ↓w_turn, ↓varK_f, ↓varK_t, ↓varK_l, ↓varK_g, ↓boolK_t, ↓boolK_f, ↓boolK_b, ↓intK_i, ↓idxK_f, ↓idxK_t, ↓lstK_l, ↓slK_s, ↓seqK_l, ↓seqK_t, ↓liK_l, ↓enumK_l, ↓enumK_t, ↓enumK_s, ↓rgK_i, ↓zipK_l, ↓flK_nx, ↓flK_rt, ↓flK_bk, ↓flK_ct, ↓lpK_nx, ↓lpK_ct, ↓lpK_bk, ↓lpK_rt, ↓oK_some, ↓oK_none, ↓oK_map, ↓oK_bind, ↓oK_chk, ↓rK_some, Rho.at, List.getElem?_cons_zero, List.getElem?_cons_succ, Option.getD_some, List.set_cons_zero, List.set_cons_succ, E.quiet, quiets, It.quiet, Bool.and_true, Bool.true_and, Bool.and_false, Bool.false_and, binSem, addSem, biSem, bi1, bi2, lenSem_l, lenSem_t, fz, truth_b, truth_n, truth_i, truth_l, truth_t, partE, sliceSem, revSem, absSem, intSem, seqOf_f, seqOf_l, seqOf_t, listD_l, tupD, isiB, isNone, bindT_name, bindT_tup, bindTs_nil, bindTs_cons, ↓oK_if, T.free, Ts.free, wipeR, noRef, setParR, muSem, mu1, mu0, ownL, List.all_cons, List.all_nil, List.contains_nil, List.map_cons, List.map_nil, List.length_cons, List.length_nil, Option.bind_some, Option.map_some, List.any_cons, List.any_nil, Bool.or_false, Bool.false_or, Bool.not_true, Bool.not_false, List.cons_append, List.nil_append, List.replicate_succ, List.replicate_zero, Nat.sub_self, refsOf, outsOf, reduceCtorEq, if_true, if_false, beq_self_eq_true, String.reduceBEq, and_true, true_and, forall_const, true_implies, false_implies, implies_true, Fl.rt.injEq, Prod.mk.injEq, PyData.bool.injEq, sh_int, sh_bool, sizeLine_eq, Nat.reduceLeDiff, Nat.reduceAdd, Nat.reduceLT, Nat.zero_le, Nat.reduceSub, true_or, or_true, false_or, or_false, and_false, false_and, Bool.false_eq_true, Bool.true_eq_false, not_true_eq_false, not_false_eq_true, exists_eq_left, exists_eq_left', exists_eq_right, exists_eq, Option.some.injEq, decide_true, decide_false, Nat.reduceEqDiff, List.length_map, boolsOf_mapf, all_mapf, any_mapf, small_0', _root_.eq_self, List.headD_cons, List.headD_nil, List.contains_cons, Nat.reduceBEq, Bool.not_false, Bool.or_self, Bool.and_self, ↓w_rest, lt_ii, le_ii, gt_ii, ge_ii, idx_lf, idx_ll, idx_t])
    rw [Rest]
    (try simp only [↓w_var, ↓w_lit, ↓w_cst, ↓w_bin, ↓w_neg, ↓w_cmp, ↓w_cmp2, ↓w_not, ↓w_and, ↓w_or, ↓w_ite, ↓w_truth, ↓w_tup, ↓w_lst, ↓w_idx, ↓w_slice, ↓w_rev, ↓w_bi, ↓w_meth, ↓w_mut, ↓w_evs_nil, ↓w_evs_cons, ↓w_evp_nil, ↓w_evp_cons, ↓w_evm_nil, ↓w_evm_cons, ↓w_seq, ↓w_range, ↓w_enum, ↓w_zip, ↓w_nil, ↓w_consR, ↓w_expr, ↓w_set, ↓w_setT, ↓w_par, ↓w_ret, ↓w_retN, ↓w_retv, ↓w_if, ↓w_pass, ↓w_brk, ↓w_cont, ↓w_turn, ↓varK_f, ↓varK_t, ↓varK_l, ↓varK_g, ↓boolK_t, ↓boolK_f, ↓boolK_b, ↓intK_i, ↓idxK_f, ↓idxK_t, ↓lstK_l, ↓slK_s, ↓seqK_l, ↓seqK_t, ↓liK_l, ↓enumK_l, ↓enumK_t, ↓enumK_s, ↓rgK_i, ↓zipK_l, ↓flK_nx, ↓flK_rt, ↓flK_bk, ↓flK_ct, ↓lpK_nx, ↓lpK_ct, ↓lpK_bk, ↓lpK_rt, ↓oK_some, ↓oK_none, ↓oK_map, ↓oK_bind, ↓oK_chk, ↓rK_some, Rho.at, List.getElem?_cons_zero, List.getElem?_cons_succ, Option.getD_some, List.set_cons_zero, List.set_cons_succ, E.quiet, quiets, It.quiet, Bool.and_true, Bool.true_and, Bool.and_false, Bool.false_and, binSem, addSem, biSem, bi1, bi2, lenSem_l, lenSem_t, fz, truth_b, truth_n, truth_i, truth_l, truth_t, partE, sliceSem, revSem, absSem, intSem, seqOf_f, seqOf_l, seqOf_t, listD_l, tupD, isiB, isNone, bindT_name, bindT_tup, bindTs_nil, bindTs_cons, ↓oK_if, T.free, Ts.free, wipeR, noRef, setParR, muSem, mu1, mu0, ownL, List.all_cons, List.all_nil, List.contains_nil, List.map_cons, List.map_nil, List.length_cons, List.length_nil, Option.bind_some, Option.map_some, List.any_cons, List.any_nil, Bool.or_false, Bool.false_or, Bool.not_true, Bool.not_false, List.cons_append, List.nil_append, List.replicate_succ, List.replicate_zero, Nat.sub_self, refsOf, outsOf, reduceCtorEq, if_true, if_false, beq_self_eq_true, String.reduceBEq, and_true, true_and, forall_const, true_implies, false_implies, implies_true, Fl.rt.injEq, Prod.mk.injEq, PyData.bool.injEq, sh_int, sh_bool, sizeLine_eq, Nat.reduceLeDiff, Nat.reduceAdd, Nat.reduceLT, Nat.zero_le, Nat.reduceSub, true_or, or_true, false_or, or_false, and_false, false_and, Bool.false_eq_true, Bool.true_eq_false, not_true_eq_false, not_false_eq_true, exists_eq_left, exists_eq_left', exists_eq_right, exists_eq, Option.some.injEq, decide_true, decide_false, Nat.reduceEqDiff, List.length_map, boolsOf_mapf, all_mapf, any_mapf, small_0', _root_.eq_self, List.headD_cons, List.headD_nil, List.contains_cons, Nat.reduceBEq, Bool.not_false, Bool.or_self, Bool.and_self, ↓w_rest, lt_ii, le_ii, gt_ii, ge_ii, idx_lf, idx_ll, idx_t])
    rw [Rest]
    (try simp only [↓w_var, ↓w_lit, ↓w_cst, ↓w_bin, ↓w_neg, ↓w_cmp, ↓w_cmp2, ↓w_not, ↓w_and, ↓w_or, ↓w_ite, ↓w_truth, ↓w_tup, ↓w_lst, ↓w_idx, ↓w_slice, ↓w_rev, ↓w_bi, ↓w_meth, ↓w_mut, ↓w_evs_nil, ↓w_evs_cons, ↓w_evp_nil, ↓w_evp_cons, ↓w_evm_nil, ↓w_evm_cons, ↓w_seq, ↓w_range, ↓w_enum, ↓w_zip, ↓w_nil, ↓w_consR, ↓w_expr, ↓w_set, ↓w_setT, ↓w_par, ↓w_ret, ↓w_retN, ↓w_retv, ↓w_if, ↓w_pass, ↓w_brk, ↓w_cont, ↓w_turn, ↓varK_f, ↓varK_t, ↓varK_l, ↓varK_g, ↓boolK_t, ↓boolK_f, ↓boolK_b, ↓intK_i, ↓idxK_f, ↓idxK_t, ↓lstK_l, ↓slK_s, ↓seqK_l, ↓seqK_t, ↓liK_l, ↓enumK_l, ↓enumK_t, ↓enumK_s, ↓rgK_i, ↓zipK_l, ↓flK_nx, ↓flK_rt, ↓flK_bk, ↓flK_ct, ↓lpK_nx, ↓lpK_ct, ↓lpK_bk, ↓lpK_rt, ↓oK_some, ↓oK_none, ↓oK_map, ↓oK_bind, ↓oK_chk, ↓rK_some, Rho.at, List.getElem?_cons_zero, List.getElem?_cons_succ, Option.getD_some, List.set_cons_zero, List.set_cons_succ, E.quiet, quiets, It.quiet, Bool.and_true, Bool.true_and, Bool.and_false, Bool.false_and, binSem, addSem, biSem, bi1, bi2, lenSem_l, lenSem_t, fz, truth_b, truth_n, truth_i, truth_l, truth_t, partE, sliceSem, revSem, absSem, intSem, seqOf_f, seqOf_l, seqOf_t, listD_l, tupD, isiB, isNone, bindT_name, bindT_tup, bindTs_nil, bindTs_cons, ↓oK_if, T.free, Ts.free, wipeR, noRef, setParR, muSem, mu1, mu0, ownL, List.all_cons, List.all_nil, List.contains_nil, List.map_cons, List.map_nil, List.length_cons, List.length_nil, Option.bind_some, Option.map_some, List.any_cons, List.any_nil, Bool.or_false, Bool.false_or, Bool.not_true, Bool.not_false, List.cons_append, List.nil_append, List.replicate_succ, List.replicate_zero, Nat.sub_self, refsOf, outsOf, reduceCtorEq, if_true, if_false, beq_self_eq_true, String.reduceBEq, and_true, true_and, forall_const, true_implies, false_implies, implies_true, Fl.rt.injEq, Prod.mk.injEq, PyData.bool.injEq, sh_int, sh_bool, sizeLine_eq, Nat.reduceLeDiff, Nat.reduceAdd, Nat.reduceLT, Nat.zero_le, Nat.reduceSub, true_or, or_true, false_or, or_false, and_false, false_and, Bool.false_eq_true, Bool.true_eq_false, not_true_eq_false, not_false_eq_true, exists_eq_left, exists_eq_left', exists_eq_right, exists_eq, Option.some.injEq, decide_true, decide_false, Nat.reduceEqDiff, List.length_map, boolsOf_mapf, all_mapf, any_mapf, small_0', _root_.eq_self, List.headD_cons, List.headD_nil, List.contains_cons, Nat.reduceBEq, Bool.not_false, Bool.or_self, Bool.and_self, ↓w_rest, lt_ii, le_ii, gt_ii, ge_ii, idx_lf, idx_ll, idx_t])
    rw [Rest]
    (try simp only [↓w_var, ↓w_lit, ↓w_cst, ↓w_bin, ↓w_neg, ↓w_cmp, ↓w_cmp2, ↓w_not, ↓w_and, ↓w_or, ↓w_ite, ↓w_truth, ↓w_tup, ↓w_lst, ↓w_idx, ↓w_slice, ↓w_rev, ↓w_bi, ↓w_meth, ↓w_mut, ↓w_evs_nil, ↓w_evs_cons, ↓w_evp_nil, ↓w_evp_cons, ↓w_evm_nil, ↓w_evm_cons, ↓w_seq, ↓w_range, ↓w_enum, ↓w_zip, ↓w_nil, ↓w_consR, ↓w_expr, ↓w_set, ↓w_setT, ↓w_par, ↓w_ret, ↓w_retN, ↓w_retv, ↓w_if, ↓w_pass, ↓w_brk, ↓w_cont, ↓w_turn, ↓varK_f, ↓varK_t, ↓varK_l, ↓varK_g, ↓boolK_t, ↓boolK_f, ↓boolK_b, ↓intK_i, ↓idxK_f, ↓idxK_t, ↓lstK_l, ↓slK_s, ↓seqK_l, ↓seqK_t, ↓liK_l, ↓enumK_l, ↓enumK_t, ↓enumK_s, ↓rgK_i, ↓zipK_l, ↓flK_nx, ↓flK_rt, ↓flK_bk, ↓flK_ct, ↓lpK_nx, ↓lpK_ct, ↓lpK_bk, ↓lpK_rt, ↓oK_some, ↓oK_none, ↓oK_map, ↓oK_bind, ↓oK_chk, ↓rK_some, Rho.at, List.getElem?_cons_zero, List.getElem?_cons_succ, Option.getD_some, List.set_cons_zero, List.set_cons_succ, E.quiet, quiets, It.quiet, Bool.and_true, Bool.true_and, Bool.and_false, Bool.false_and, binSem, addSem, biSem, bi1, bi2, lenSem_l, lenSem_t, fz, truth_b, truth_n, truth_i, truth_l, truth_t, partE, sliceSem, revSem, absSem, intSem, seqOf_f, seqOf_l, seqOf_t, listD_l, tupD, isiB, isNone, bindT_name, bindT_tup, bindTs_nil, bindTs_cons, ↓oK_if, T.free, Ts.free, wipeR, noRef, setParR, muSem, mu1, mu0, ownL, List.all_cons, List.all_nil, List.contains_nil, List.map_cons, List.map_nil, List.length_cons, List.length_nil, Option.bind_some, Option.map_some, List.any_cons, List.any_nil, Bool.or_false, Bool.false_or, Bool.not_true, Bool.not_false, List.cons_append, List.nil_append, List.replicate_succ, List.replicate_zero, Nat.sub_self, refsOf, outsOf, reduceCtorEq, if_true, if_false, beq_self_eq_true, String.reduceBEq, and_true, true_and, forall_const, true_implies, false_implies, implies_true, Fl.rt.injEq, Prod.mk.injEq, PyData.bool.injEq, sh_int, sh_bool, sizeLine_eq, Nat.reduceLeDiff, Nat.reduceAdd, Nat.reduceLT, Nat.zero_le, Nat.reduceSub, true_or, or_true, false_or, or_false, and_false, false_and, Bool.false_eq_true, Bool.true_eq_false, not_true_eq_false, not_false_eq_true, exists_eq_left, exists_eq_left', exists_eq_right, exists_eq, Option.some.injEq, decide_true, decide_false, Nat.reduceEqDiff, List.length_map, boolsOf_mapf, all_mapf, any_mapf, small_0', _root_.eq_self, List.headD_cons, List.headD_nil, List.contains_cons, Nat.reduceBEq, Bool.not_false, Bool.or_self, Bool.and_self, ↓w_rest, lt_ii, le_ii, gt_ii, ge_ii, idx_lf, idx_ll, idx_t])
    show W (ev (Phi_3 rounds) true (.comp (.call 2 [.var 0, .var 1]) (.name 2) (.range (.lit (.int 0)) (.call 1 [.var 0, .lit (.int 24)])) (.lit (.bool true)) [2]) [some (dl ns n), some (.list (piecesS.map PyData.str), .l), none]) _
    rw [pieces_eq]
    refine W.compI (fun xs acc ρ => ∃ (l : List (List Nat)) (ns : List Int) (n : Int) (o : O), Good ns n ∧ ρ = [some (dl ns n), some (.list (pieces.map tx), o), none] ∧ (o = .f ∨ o = .l) ∧ acc = l.map tx ∧ l.length + xs.length ≤ 23 ∧ ∀ a ∈ l, a ∈ pieces) ?_
    (try simp only [↓w_var, ↓w_lit, ↓w_cst, ↓w_bin, ↓w_neg, ↓w_cmp, ↓w_cmp2, ↓w_not, ↓w_and, ↓w_or, ↓w_ite, ↓w_truth, ↓w_tup, ↓w_lst, ↓w_idx, ↓w_slice, ↓w_rev, ↓w_bi, ↓w_meth, ↓w_mut, ↓w_evs_nil, ↓w_evs_cons, ↓w_evp_nil, ↓w_evp_cons, ↓w_evm_nil, ↓w_evm_cons, ↓w_seq, ↓w_range, ↓w_enum, ↓w_zip, ↓w_nil, ↓w_consR, ↓w_expr, ↓w_set, ↓w_setT, ↓w_par, ↓w_ret, ↓w_retN, ↓w_retv, ↓w_if, ↓w_pass, ↓w_brk, ↓w_cont, ↓w_turn, ↓varK_f, ↓varK_t, ↓varK_l, ↓varK_g, ↓boolK_t, ↓boolK_f, ↓boolK_b, ↓intK_i, ↓idxK_f, ↓idxK_t, ↓lstK_l, ↓slK_s, ↓seqK_l, ↓seqK_t, ↓liK_l, ↓enumK_l, ↓enumK_t, ↓enumK_s, ↓rgK_i, ↓zipK_l, ↓flK_nx, ↓flK_rt, ↓flK_bk, ↓flK_ct, ↓lpK_nx, ↓lpK_ct, ↓lpK_bk, ↓lpK_rt, ↓oK_some, ↓oK_none, ↓oK_map, ↓oK_bind, ↓oK_chk, ↓rK_some, Rho.at, List.getElem?_cons_zero, List.getElem?_cons_succ, Option.getD_some, List.set_cons_zero, List.set_cons_succ, E.quiet, quiets, It.quiet, Bool.and_true, Bool.true_and, Bool.and_false, Bool.false_and, binSem, addSem, biSem, bi1, bi2, lenSem_l, lenSem_t, fz, truth_b, truth_n, truth_i, truth_l, truth_t, partE, sliceSem, revSem, absSem, intSem, seqOf_f, seqOf_l, seqOf_t, listD_l, tupD, isiB, isNone, bindT_name, bindT_tup, bindTs_nil, bindTs_cons, ↓oK_if, T.free, Ts.free, wipeR, noRef, setParR, muSem, mu1, mu0, ownL, List.all_cons, List.all_nil, List.contains_nil, List.map_cons, List.map_nil, List.length_cons, List.length_nil, Option.bind_some, Option.map_some, List.any_cons, List.any_nil, Bool.or_false, Bool.false_or, Bool.not_true, Bool.not_false, List.cons_append, List.nil_append, List.replicate_succ, List.replicate_zero, Nat.sub_self, refsOf, outsOf, reduceCtorEq, if_true, if_false, beq_self_eq_true, String.reduceBEq, and_true, true_and, forall_const, true_implies, false_implies, implies_true, Fl.rt.injEq, Prod.mk.injEq, PyData.bool.injEq, sh_int, sh_bool, sizeLine_eq, Nat.reduceLeDiff, Nat.reduceAdd, Nat.reduceLT, Nat.zero_le, Nat.reduceSub, true_or, or_true, false_or, or_false, and_false, false_and, Bool.false_eq_true, Bool.true_eq_false, not_true_eq_false, not_false_eq_true, exists_eq_left, exists_eq_left', exists_eq_right, exists_eq, Option.some.injEq, decide_true, decide_false, Nat.reduceEqDiff, List.length_map, boolsOf_mapf, all_mapf, any_mapf, small_0', _root_.eq_self, List.headD_cons, List.headD_nil, List.contains_cons, Nat.reduceBEq, Bool.not_false, Bool.or_self, Bool.and_self, ↓w_rest, lt_ii, le_ii, gt_ii, ge_ii, idx_lf, idx_ll, idx_t])
    refine W.dr hany rfl g ?_
    (try simp only [↓w_var, ↓w_lit, ↓w_cst, ↓w_bin, ↓w_neg, ↓w_cmp, ↓w_cmp2, ↓w_not, ↓w_and, ↓w_or, ↓w_ite, ↓w_truth, ↓w_tup, ↓w_lst, ↓w_idx, ↓w_slice, ↓w_rev, ↓w_bi, ↓w_meth, ↓w_mut, ↓w_evs_nil, ↓w_evs_cons, ↓w_evp_nil, ↓w_evp_cons, ↓w_evm_nil, ↓w_evm_cons, ↓w_seq, ↓w_range, ↓w_enum, ↓w_zip, ↓w_nil, ↓w_consR, ↓w_expr, ↓w_set, ↓w_setT, ↓w_par, ↓w_ret, ↓w_retN, ↓w_retv, ↓w_if, ↓w_pass, ↓w_brk, ↓w_cont, ↓w_turn, ↓varK_f, ↓varK_t, ↓varK_l, ↓varK_g, ↓boolK_t, ↓boolK_f, ↓boolK_b, ↓intK_i, ↓idxK_f, ↓idxK_t, ↓lstK_l, ↓slK_s, ↓seqK_l, ↓seqK_t, ↓liK_l, ↓enumK_l, ↓enumK_t, ↓enumK_s, ↓rgK_i, ↓zipK_l, ↓flK_nx, ↓flK_rt, ↓flK_bk, ↓flK_ct, ↓lpK_nx, ↓lpK_ct, ↓lpK_bk, ↓lpK_rt, ↓oK_some, ↓oK_none, ↓oK_map, ↓oK_bind, ↓oK_chk, ↓rK_some, Rho.at, List.getElem?_cons_zero, List.getElem?_cons_succ, Option.getD_some, List.set_cons_zero, List.set_cons_succ, E.quiet, quiets, It.quiet, Bool.and_true, Bool.true_and, Bool.and_false, Bool.false_and, binSem, addSem, biSem, bi1, bi2, lenSem_l, lenSem_t, fz, truth_b, truth_n, truth_i, truth_l, truth_t, partE, sliceSem, revSem, absSem, intSem, seqOf_f, seqOf_l, seqOf_t, listD_l, tupD, isiB, isNone, bindT_name, bindT_tup, bindTs_nil, bindTs_cons, ↓oK_if, T.free, Ts.free, wipeR, noRef, setParR, muSem, mu1, mu0, ownL, List.all_cons, List.all_nil, List.contains_nil, List.map_cons, List.map_nil, List.length_cons, List.length_nil, Option.bind_some, Option.map_some, List.any_cons, List.any_nil, Bool.or_false, Bool.false_or, Bool.not_true, Bool.not_false, List.cons_append, List.nil_append, List.replicate_succ, List.replicate_zero, Nat.sub_self, refsOf, outsOf, reduceCtorEq, if_true, if_false, beq_self_eq_true, String.reduceBEq, and_true, true_and, forall_const, true_implies, false_implies, implies_true, Fl.rt.injEq, Prod.mk.injEq, PyData.bool.injEq, sh_int, sh_bool, sizeLine_eq, Nat.reduceLeDiff, Nat.reduceAdd, Nat.reduceLT, Nat.zero_le, Nat.reduceSub, true_or, or_true, false_or, or_false, and_false, false_and, Bool.false_eq_true, Bool.true_eq_false, not_true_eq_false, not_false_eq_true, exists_eq_left, exists_eq_left', exists_eq_right, exists_eq, Option.some.injEq, decide_true, decide_false, Nat.reduceEqDiff, List.length_map, boolsOf_mapf, all_mapf, any_mapf, small_0', _root_.eq_self, List.headD_cons, List.headD_nil, List.contains_cons, Nat.reduceBEq, Bool.not_false, Bool.or_self, Bool.and_self, ↓w_rest, lt_ii, le_ii, gt_ii, ge_ii, idx_lf, idx_ll, idx_t])
    refine ⟨by decide, fun v ns1 n1 v0 v1 g1 => ?_⟩
    have hv : small62 v = true := small_int (by omega) (by omega)
    (try simp only [↓w_var, ↓w_lit, ↓w_cst, ↓w_bin, ↓w_neg, ↓w_cmp, ↓w_cmp2, ↓w_not, ↓w_and, ↓w_or, ↓w_ite, ↓w_truth, ↓w_tup, ↓w_lst, ↓w_idx, ↓w_slice, ↓w_rev, ↓w_bi, ↓w_meth, ↓w_mut, ↓w_evs_nil, ↓w_evs_cons, ↓w_evp_nil, ↓w_evp_cons, ↓w_evm_nil, ↓w_evm_cons, ↓w_seq, ↓w_range, ↓w_enum, ↓w_zip, ↓w_nil, ↓w_consR, ↓w_expr, ↓w_set, ↓w_setT, ↓w_par, ↓w_ret, ↓w_retN, ↓w_retv, ↓w_if, ↓w_pass, ↓w_brk, ↓w_cont, ↓w_turn, ↓varK_f, ↓varK_t, ↓varK_l, ↓varK_g, ↓boolK_t, ↓boolK_f, ↓boolK_b, ↓intK_i, ↓idxK_f, ↓idxK_t, ↓lstK_l, ↓slK_s, ↓seqK_l, ↓seqK_t, ↓liK_l, ↓enumK_l, ↓enumK_t, ↓enumK_s, ↓rgK_i, ↓zipK_l, ↓flK_nx, ↓flK_rt, ↓flK_bk, ↓flK_ct, ↓lpK_nx, ↓lpK_ct, ↓lpK_bk, ↓lpK_rt, ↓oK_some, ↓oK_none, ↓oK_map, ↓oK_bind, ↓oK_chk, ↓rK_some, Rho.at, List.getElem?_cons_zero, List.getElem?_cons_succ, Option.getD_some, List.set_cons_zero, List.set_cons_succ, E.quiet, quiets, It.quiet, Bool.and_true, Bool.true_and, Bool.and_false, Bool.false_and, binSem, addSem, biSem, bi1, bi2, lenSem_l, lenSem_t, fz, truth_b, truth_n, truth_i, truth_l, truth_t, partE, sliceSem, revSem, absSem, intSem, seqOf_f, seqOf_l, seqOf_t, listD_l, tupD, isiB, isNone, bindT_name, bindT_tup, bindTs_nil, bindTs_cons, ↓oK_if, T.free, Ts.free, wipeR, noRef, setParR, muSem, mu1, mu0, ownL, List.all_cons, List.all_nil, List.contains_nil, List.map_cons, List.map_nil, List.length_cons, List.length_nil, Option.bind_some, Option.map_some, List.any_cons, List.any_nil, Bool.or_false, Bool.false_or, Bool.not_true, Bool.not_false, List.cons_append, List.nil_append, List.replicate_succ, List.replicate_zero, Nat.sub_self, refsOf, outsOf, reduceCtorEq, if_true, if_false, beq_self_eq_true, String.reduceBEq, and_true, true_and, forall_const, true_implies, false_implies, implies_true, Fl.rt.injEq, Prod.mk.injEq, PyData.bool.injEq, sh_int, sh_bool, sizeLine_eq, Nat.reduceLeDiff, Nat.reduceAdd, Nat.reduceLT, Nat.zero_le, Nat.reduceSub, true_or, or_true, false_or, or_false, and_false, false_and, Bool.false_eq_true, Bool.true_eq_false, not_true_eq_false, not_false_eq_true, exists_eq_left, exists_eq_left', exists_eq_right, exists_eq, Option.some.injEq, decide_true, decide_false, Nat.reduceEqDiff, List.length_map, boolsOf_mapf, all_mapf, any_mapf, small_0', _root_.eq_self, List.headD_cons, List.headD_nil, List.contains_cons, Nat.reduceBEq, Bool.not_false, Bool.or_self, Bool.and_self, ↓w_rest, lt_ii, le_ii, gt_ii, ge_ii, idx_lf, idx_ll, idx_t, hv])
    refine ⟨⟨[], ns1, n1, .l, g1, rfl, .inr rfl, rfl, by rw [len_rg]; simp; omega, fun a h => (nomatch h)⟩, by rw [len_rg]; omega, ?_, ?_⟩
    · rintro x xs acc ρ ⟨l, ns2, n2, o, g2, rfl, ho, rfl, hl, hm⟩
      obtain ⟨d, ns3, n3, hd, g3, e3⟩ := r_of g2 (ds := pieces.map tx) (by decide) (by decide)
      obtain ⟨a, ha, rfl⟩ := List.mem_map.mp hd
      have hl : l.length + (xs.length + 1) ≤ 23 := hl
      have go : ∃ (l2 : List (List Nat)) (ns : List Int) (n : Int) (o : O), Good ns n ∧ [some (dl ns3 n3), some (.list (pieces.map tx), O.f), none] = [some (dl ns n), some (.list (pieces.map tx), o), none] ∧ (o = .f ∨ o = .l) ∧ l.map tx ++ [tx a] = l2.map tx ∧ l2.length + xs.length ≤ 23 ∧ ∀ a ∈ l2, a ∈ pieces :=
        ⟨l ++ [a], ns3, n3, .f, g3, rfl, .inl rfl, by simp, by simp; omega, fun b hb => by
          rcases List.mem_append.mp hb with hb | hb
          · exact hm b hb
          · rw [List.mem_singleton.mp hb]; exact ha⟩
      rcases ho with rfl | rfl
      · (try simp only [↓w_var, ↓w_lit, ↓w_cst, ↓w_bin, ↓w_neg, ↓w_cmp, ↓w_cmp2, ↓w_not, ↓w_and, ↓w_or, ↓w_ite, ↓w_truth, ↓w_tup, ↓w_lst, ↓w_idx, ↓w_slice, ↓w_rev, ↓w_bi, ↓w_meth, ↓w_mut, ↓w_evs_nil, ↓w_evs_cons, ↓w_evp_nil, ↓w_evp_cons, ↓w_evm_nil, ↓w_evm_cons, ↓w_seq, ↓w_range, ↓w_enum, ↓w_zip, ↓w_nil, ↓w_consR, ↓w_expr, ↓w_set, ↓w_setT, ↓w_par, ↓w_ret, ↓w_retN, ↓w_retv, ↓w_if, ↓w_pass, ↓w_brk, ↓w_cont, ↓w_turn, ↓varK_f, ↓varK_t, ↓varK_l, ↓varK_g, ↓boolK_t, ↓boolK_f, ↓boolK_b, ↓intK_i, ↓idxK_f, ↓idxK_t, ↓lstK_l, ↓slK_s, ↓seqK_l, ↓seqK_t, ↓liK_l, ↓enumK_l, ↓enumK_t, ↓enumK_s, ↓rgK_i, ↓zipK_l, ↓flK_nx, ↓flK_rt, ↓flK_bk, ↓flK_ct, ↓lpK_nx, ↓lpK_ct, ↓lpK_bk, ↓lpK_rt, ↓oK_some, ↓oK_none, ↓oK_map, ↓oK_bind, ↓oK_chk, ↓rK_some, Rho.at, List.getElem?_cons_zero, List.getElem?_cons_succ, Option.getD_some, List.set_cons_zero, List.set_cons_succ, E.quiet, quiets, It.quiet, Bool.and_true, Bool.true_and, Bool.and_false, Bool.false_and, binSem, addSem, biSem, bi1, bi2, lenSem_l, lenSem_t, fz, truth_b, truth_n, truth_i, truth_l, truth_t, partE, sliceSem, revSem, absSem, intSem, seqOf_f, seqOf_l, seqOf_t, listD_l, tupD, isiB, isNone, bindT_name, bindT_tup, bindTs_nil, bindTs_cons, ↓oK_if, T.free, Ts.free, wipeR, noRef, setParR, muSem, mu1, mu0, ownL, List.all_cons, List.all_nil, List.contains_nil, List.map_cons, List.map_nil, List.length_cons, List.length_nil, Option.bind_some, Option.map_some, List.any_cons, List.any_nil, Bool.or_false, Bool.false_or, Bool.not_true, Bool.not_false, List.cons_append, List.nil_append, List.replicate_succ, List.replicate_zero, Nat.sub_self, refsOf, outsOf, reduceCtorEq, if_true, if_false, beq_self_eq_true, String.reduceBEq, and_true, true_and, forall_const, true_implies, false_implies, implies_true, Fl.rt.injEq, Prod.mk.injEq, PyData.bool.injEq, sh_int, sh_bool, sizeLine_eq, Nat.reduceLeDiff, Nat.reduceAdd, Nat.reduceLT, Nat.zero_le, Nat.reduceSub, true_or, or_true, false_or, or_false, and_false, false_and, Bool.false_eq_true, Bool.true_eq_false, not_true_eq_false, not_false_eq_true, exists_eq_left, exists_eq_left', exists_eq_right, exists_eq, Option.some.injEq, decide_true, decide_false, Nat.reduceEqDiff, List.length_map, boolsOf_mapf, all_mapf, any_mapf, small_0', _root_.eq_self, List.headD_cons, List.headD_nil, List.contains_cons, Nat.reduceBEq, Bool.not_false, Bool.or_self, Bool.and_self, ↓w_rest, lt_ii, le_ii, gt_ii, ge_ii, idx_lf, idx_ll, idx_t])
        refine W.call_g (bs := [false]) fn_3_2 rfl (by decide) rfl rfl ?_
        (try simp only [↓w_var, ↓w_lit, ↓w_cst, ↓w_bin, ↓w_neg, ↓w_cmp, ↓w_cmp2, ↓w_not, ↓w_and, ↓w_or, ↓w_ite, ↓w_truth, ↓w_tup, ↓w_lst, ↓w_idx, ↓w_slice, ↓w_rev, ↓w_bi, ↓w_meth, ↓w_mut, ↓w_evs_nil, ↓w_evs_cons, ↓w_evp_nil, ↓w_evp_cons, ↓w_evm_nil, ↓w_evm_cons, ↓w_seq, ↓w_range, ↓w_enum, ↓w_zip, ↓w_nil, ↓w_consR, ↓w_expr, ↓w_set, ↓w_setT, ↓w_par, ↓w_ret, ↓w_retN, ↓w_retv, ↓w_if, ↓w_pass, ↓w_brk, ↓w_cont, ↓w_turn, ↓varK_f, ↓varK_t, ↓varK_l, ↓varK_g, ↓boolK_t, ↓boolK_f, ↓boolK_b, ↓intK_i, ↓idxK_f, ↓idxK_t, ↓lstK_l, ↓slK_s, ↓seqK_l, ↓seqK_t, ↓liK_l, ↓enumK_l, ↓enumK_t, ↓enumK_s, ↓rgK_i, ↓zipK_l, ↓flK_nx, ↓flK_rt, ↓flK_bk, ↓flK_ct, ↓lpK_nx, ↓lpK_ct, ↓lpK_bk, ↓lpK_rt, ↓oK_some, ↓oK_none, ↓oK_map, ↓oK_bind, ↓oK_chk, ↓rK_some, Rho.at, List.getElem?_cons_zero, List.getElem?_cons_succ, Option.getD_some, List.set_cons_zero, List.set_cons_succ, E.quiet, quiets, It.quiet, Bool.and_true, Bool.true_and, Bool.and_false, Bool.false_and, binSem, addSem, biSem, bi1, bi2, lenSem_l, lenSem_t, fz, truth_b, truth_n, truth_i, truth_l, truth_t, partE, sliceSem, revSem, absSem, intSem, seqOf_f, seqOf_l, seqOf_t, listD_l, tupD, isiB, isNone, bindT_name, bindT_tup, bindTs_nil, bindTs_cons, ↓oK_if, T.free, Ts.free, wipeR, noRef, setParR, muSem, mu1, mu0, ownL, List.all_cons, List.all_nil, List.contains_nil, List.map_cons, List.map_nil, List.length_cons, List.length_nil, Option.bind_some, Option.map_some, List.any_cons, List.any_nil, Bool.or_false, Bool.false_or, Bool.not_true, Bool.not_false, List.cons_append, List.nil_append, List.replicate_succ, List.replicate_zero, Nat.sub_self, refsOf, outsOf, reduceCtorEq, if_true, if_false, beq_self_eq_true, String.reduceBEq, and_true, true_and, forall_const, true_implies, false_implies, implies_true, Fl.rt.injEq, Prod.mk.injEq, PyData.bool.injEq, sh_int, sh_bool, sizeLine_eq, Nat.reduceLeDiff, Nat.reduceAdd, Nat.reduceLT, Nat.zero_le, Nat.reduceSub, true_or, or_true, false_or, or_false, and_false, false_and, Bool.false_eq_true, Bool.true_eq_false, not_true_eq_false, not_false_eq_true, exists_eq_left, exists_eq_left', exists_eq_right, exists_eq, Option.some.injEq, decide_true, decide_false, Nat.reduceEqDiff, List.length_map, boolsOf_mapf, all_mapf, any_mapf, small_0', _root_.eq_self, List.headD_cons, List.headD_nil, List.contains_cons, Nat.reduceBEq, Bool.not_false, Bool.or_self, Bool.and_self, ↓w_rest, lt_ii, le_ii, gt_ii, ge_ii, idx_lf, idx_ll, idx_t, e3])
        exact go
      · (try simp only [↓w_var, ↓w_lit, ↓w_cst, ↓w_bin, ↓w_neg, ↓w_cmp, ↓w_cmp2, ↓w_not, ↓w_and, ↓w_or, ↓w_ite, ↓w_truth, ↓w_tup, ↓w_lst, ↓w_idx, ↓w_slice, ↓w_rev, ↓w_bi, ↓w_meth, ↓w_mut, ↓w_evs_nil, ↓w_evs_cons, ↓w_evp_nil, ↓w_evp_cons, ↓w_evm_nil, ↓w_evm_cons, ↓w_seq, ↓w_range, ↓w_enum, ↓w_zip, ↓w_nil, ↓w_consR, ↓w_expr, ↓w_set, ↓w_setT, ↓w_par, ↓w_ret, ↓w_retN, ↓w_retv, ↓w_if, ↓w_pass, ↓w_brk, ↓w_cont, ↓w_turn, ↓varK_f, ↓varK_t, ↓varK_l, ↓varK_g, ↓boolK_t, ↓boolK_f, ↓boolK_b, ↓intK_i, ↓idxK_f, ↓idxK_t, ↓lstK_l, ↓slK_s, ↓seqK_l, ↓seqK_t, ↓liK_l, ↓enumK_l, ↓enumK_t, ↓enumK_s, ↓rgK_i, ↓zipK_l, ↓flK_nx, ↓flK_rt, ↓flK_bk, ↓flK_ct, ↓lpK_nx, ↓lpK_ct, ↓lpK_bk, ↓lpK_rt, ↓oK_some, ↓oK_none, ↓oK_map, ↓oK_bind, ↓oK_chk, ↓rK_some, Rho.at, List.getElem?_cons_zero, List.getElem?_cons_succ, Option.getD_some, List.set_cons_zero, List.set_cons_succ, E.quiet, quiets, It.quiet, Bool.and_true, Bool.true_and, Bool.and_false, Bool.false_and, binSem, addSem, biSem, bi1, bi2, lenSem_l, lenSem_t, fz, truth_b, truth_n, truth_i, truth_l, truth_t, partE, sliceSem, revSem, absSem, intSem, seqOf_f, seqOf_l, seqOf_t, listD_l, tupD, isiB, isNone, bindT_name, bindT_tup, bindTs_nil, bindTs_cons, ↓oK_if, T.free, Ts.free, wipeR, noRef, setParR, muSem, mu1, mu0, ownL, List.all_cons, List.all_nil, List.contains_nil, List.map_cons, List.map_nil, List.length_cons, List.length_nil, Option.bind_some, Option.map_some, List.any_cons, List.any_nil, Bool.or_false, Bool.false_or, Bool.not_true, Bool.not_false, List.cons_append, List.nil_append, List.replicate_succ, List.replicate_zero, Nat.sub_self, refsOf, outsOf, reduceCtorEq, if_true, if_false, beq_self_eq_true, String.reduceBEq, and_true, true_and, forall_const, true_implies, false_implies, implies_true, Fl.rt.injEq, Prod.mk.injEq, PyData.bool.injEq, sh_int, sh_bool, sizeLine_eq, Nat.reduceLeDiff, Nat.reduceAdd, Nat.reduceLT, Nat.zero_le, Nat.reduceSub, true_or, or_true, false_or, or_false, and_false, false_and, Bool.false_eq_true, Bool.true_eq_false, not_true_eq_false, not_false_eq_true, exists_eq_left, exists_eq_left', exists_eq_right, exists_eq, Option.some.injEq, decide_true, decide_false, Nat.reduceEqDiff, List.length_map, boolsOf_mapf, all_mapf, any_mapf, small_0', _root_.eq_self, List.headD_cons, List.headD_nil, List.contains_cons, Nat.reduceBEq, Bool.not_false, Bool.or_self, Bool.and_self, ↓w_rest, lt_ii, le_ii, gt_ii, ge_ii, idx_lf, idx_ll, idx_t])
        refine W.call_g (bs := [false]) fn_3_2 rfl (by decide) rfl rfl ?_
        (try simp only [↓w_var, ↓w_lit, ↓w_cst, ↓w_bin, ↓w_neg, ↓w_cmp, ↓w_cmp2, ↓w_not, ↓w_and, ↓w_or, ↓w_ite, ↓w_truth, ↓w_tup, ↓w_lst, ↓w_idx, ↓w_slice, ↓w_rev, ↓w_bi, ↓w_meth, ↓w_mut, ↓w_evs_nil, ↓w_evs_cons, ↓w_evp_nil, ↓w_evp_cons, ↓w_evm_nil, ↓w_evm_cons, ↓w_seq, ↓w_range, ↓w_enum, ↓w_zip, ↓w_nil, ↓w_consR, ↓w_expr, ↓w_set, ↓w_setT, ↓w_par, ↓w_ret, ↓w_retN, ↓w_retv, ↓w_if, ↓w_pass, ↓w_brk, ↓w_cont, ↓w_turn, ↓varK_f, ↓varK_t, ↓varK_l, ↓varK_g, ↓boolK_t, ↓boolK_f, ↓boolK_b, ↓intK_i, ↓idxK_f, ↓idxK_t, ↓lstK_l, ↓slK_s, ↓seqK_l, ↓seqK_t, ↓liK_l, ↓enumK_l, ↓enumK_t, ↓enumK_s, ↓rgK_i, ↓zipK_l, ↓flK_nx, ↓flK_rt, ↓flK_bk, ↓flK_ct, ↓lpK_nx, ↓lpK_ct, ↓lpK_bk, ↓lpK_rt, ↓oK_some, ↓oK_none, ↓oK_map, ↓oK_bind, ↓oK_chk, ↓rK_some, Rho.at, List.getElem?_cons_zero, List.getElem?_cons_succ, Option.getD_some, List.set_cons_zero, List.set_cons_succ, E.quiet, quiets, It.quiet, Bool.and_true, Bool.true_and, Bool.and_false, Bool.false_and, binSem, addSem, biSem, bi1, bi2, lenSem_l, lenSem_t, fz, truth_b, truth_n, truth_i, truth_l, truth_t, partE, sliceSem, revSem, absSem, intSem, seqOf_f, seqOf_l, seqOf_t, listD_l, tupD, isiB, isNone, bindT_name, bindT_tup, bindTs_nil, bindTs_cons, ↓oK_if, T.free, Ts.free, wipeR, noRef, setParR, muSem, mu1, mu0, ownL, List.all_cons, List.all_nil, List.contains_nil, List.map_cons, List.map_nil, List.length_cons, List.length_nil, Option.bind_some, Option.map_some, List.any_cons, List.any_nil, Bool.or_false, Bool.false_or, Bool.not_true, Bool.not_false, List.cons_append, List.nil_append, List.replicate_succ, List.replicate_zero, Nat.sub_self, refsOf, outsOf, reduceCtorEq, if_true, if_false, beq_self_eq_true, String.reduceBEq, and_true, true_and, forall_const, true_implies, false_implies, implies_true, Fl.rt.injEq, Prod.mk.injEq, PyData.bool.injEq, sh_int, sh_bool, sizeLine_eq, Nat.reduceLeDiff, Nat.reduceAdd, Nat.reduceLT, Nat.zero_le, Nat.reduceSub, true_or, or_true, false_or, or_false, and_false, false_and, Bool.false_eq_true, Bool.true_eq_false, not_true_eq_false, not_false_eq_true, exists_eq_left, exists_eq_left', exists_eq_right, exists_eq, Option.some.injEq, decide_true, decide_false, Nat.reduceEqDiff, List.length_map, boolsOf_mapf, all_mapf, any_mapf, small_0', _root_.eq_self, List.headD_cons, List.headD_nil, List.contains_cons, Nat.reduceBEq, Bool.not_false, Bool.or_self, Bool.and_self, ↓w_rest, lt_ii, le_ii, gt_ii, ge_ii, idx_lf, idx_ll, idx_t, e3])
        exact go
    · rintro ys ρ' ⟨l, ns2, n2, o, g2, rfl, ho, rfl, hl, hm⟩
      have hsum : (l.map List.length).sum ≤ 299 := by
        have hl : l.length ≤ 23 := hl
        have : ∀ l : List (List Nat), (∀ a ∈ l, a ∈ pieces) → (l.map List.length).sum ≤ 13 * l.length := by
          intro l
          induction l with
          | nil => intro _; exact Nat.le_refl _
          | cons a l ih =>
            intro h
            have h1 := (pieces_ok a (h a List.mem_cons_self)).1
            have h2 := ih fun b hb => h b (List.mem_cons_of_mem _ hb)
            simp only [List.map_cons, List.sum_cons, List.length_cons]
            omega
        have := this l hm
        omega
      have jn0 := join_0 (x := (.list (l.map tx), .l)) (ts := l) rfl (by omega) .f
      simp only [l_em]
      rw [jn0]
      (try simp only [↓w_var, ↓w_lit, ↓w_cst, ↓w_bin, ↓w_neg, ↓w_cmp, ↓w_cmp2, ↓w_not, ↓w_and, ↓w_or, ↓w_ite, ↓w_truth, ↓w_tup, ↓w_lst, ↓w_idx, ↓w_slice, ↓w_rev, ↓w_bi, ↓w_meth, ↓w_mut, ↓w_evs_nil, ↓w_evs_cons, ↓w_evp_nil, ↓w_evp_cons, ↓w_evm_nil, ↓w_evm_cons, ↓w_seq, ↓w_range, ↓w_enum, ↓w_zip, ↓w_nil, ↓w_consR, ↓w_expr, ↓w_set, ↓w_setT, ↓w_par, ↓w_ret, ↓w_retN, ↓w_retv, ↓w_if, ↓w_pass, ↓w_brk, ↓w_cont, ↓w_turn, ↓varK_f, ↓varK_t, ↓varK_l, ↓varK_g, ↓boolK_t, ↓boolK_f, ↓boolK_b, ↓intK_i, ↓idxK_f, ↓idxK_t, ↓lstK_l, ↓slK_s, ↓seqK_l, ↓seqK_t, ↓liK_l, ↓enumK_l, ↓enumK_t, ↓enumK_s, ↓rgK_i, ↓zipK_l, ↓flK_nx, ↓flK_rt, ↓flK_bk, ↓flK_ct, ↓lpK_nx, ↓lpK_ct, ↓lpK_bk, ↓lpK_rt, ↓oK_some, ↓oK_none, ↓oK_map, ↓oK_bind, ↓oK_chk, ↓rK_some, Rho.at, List.getElem?_cons_zero, List.getElem?_cons_succ, Option.getD_some, List.set_cons_zero, List.set_cons_succ, E.quiet, quiets, It.quiet, Bool.and_true, Bool.true_and, Bool.and_false, Bool.false_and, binSem, addSem, biSem, bi1, bi2, lenSem_l, lenSem_t, fz, truth_b, truth_n, truth_i, truth_l, truth_t, partE, sliceSem, revSem, absSem, intSem, seqOf_f, seqOf_l, seqOf_t, listD_l, tupD, isiB, isNone, bindT_name, bindT_tup, bindTs_nil, bindTs_cons, ↓oK_if, T.free, Ts.free, wipeR, noRef, setParR, muSem, mu1, mu0, ownL, List.all_cons, List.all_nil, List.contains_nil, List.map_cons, List.map_nil, List.length_cons, List.length_nil, Option.bind_some, Option.map_some, List.any_cons, List.any_nil, Bool.or_false, Bool.false_or, Bool.not_true, Bool.not_false, List.cons_append, List.nil_append, List.replicate_succ, List.replicate_zero, Nat.sub_self, refsOf, outsOf, reduceCtorEq, if_true, if_false, beq_self_eq_true, String.reduceBEq, and_true, true_and, forall_const, true_implies, false_implies, implies_true, Fl.rt.injEq, Prod.mk.injEq, PyData.bool.injEq, sh_int, sh_bool, sizeLine_eq, Nat.reduceLeDiff, Nat.reduceAdd, Nat.reduceLT, Nat.zero_le, Nat.reduceSub, true_or, or_true, false_or, or_false, and_false, false_and, Bool.false_eq_true, Bool.true_eq_false, not_true_eq_false, not_false_eq_true, exists_eq_left, exists_eq_left', exists_eq_right, exists_eq, Option.some.injEq, decide_true, decide_false, Nat.reduceEqDiff, List.length_map, boolsOf_mapf, all_mapf, any_mapf, small_0', _root_.eq_self, List.headD_cons, List.headD_nil, List.contains_cons, Nat.reduceBEq, Bool.not_false, Bool.or_self, Bool.and_self, ↓w_rest, lt_ii, le_ii, gt_ii, ge_ii, idx_lf, idx_ll, idx_t])
      refine ⟨l.flatten, ns2, n2, fun c hc => ?_, by rw [List.length_flatten]; exact hsum, g2, rfl, rfl⟩
      obtain ⟨a, ha, hc⟩ := List.mem_flatten.mp hc
      exact (pieces_ok a (hm a ha)).2 c hc
  obtain ⟨r, os, e, s, ns', n', h1, h2, h3, rfl, rfl⟩ := main
  exact ⟨s, ns', n', h1, h2, h3, e⟩
end Law
/-! k05: the law. -/
namespace Law
set_option maxHeartbeats 4000000
open Ev PySem PySem.Spec L2
theorem permV_0 {α : Type} (a : α) : permV [0] [a] = some [a] := rfl
theorem intsOf_mapf {α : Type} (l : List α) (f : α → Int) : intsOf (l.map fun a => PyData.int (f a)) = some (l.map f) := by
  rw [show (l.map fun a => PyData.int (f a)) = (l.map f).map PyData.int by rw [List.map_map]; rfl]
  exact intsOf_map _
theorem sum_cast (l : List (Nat × List Nat)) : (l.map fun p => (p.2.length : Int) + 1).sum = ((l.map fun p => p.2.length + 1).sum : Nat) := by
  induction l with
  | nil => rfl
  | cons a l ih => rw [List.map_cons, List.map_cons, List.sum_cons, List.sum_cons, ih]; omega
theorem rg0 (n : Nat) : rangeD 0 n = (List.range n).map fun j : Nat => PyData.int (j : Int) := by
  rw [rangeD_map, rgI, List.map_map]
  refine List.map_congr_left fun j _ => ?_
  show PyData.int (0 + (j : Int)) = _
  rw [Int.zero_add]
theorem pk_bound {s : List Nat} {L : List (Nat × List Nat)} (hp : Pk 0 s L) (hs : Asc s) (hl : s.length ≤ 700) : ∀ p ∈ L, Asc p.2 ∧ p.2.length ≤ 700 ∧ p.1 ≤ 10000 := fun p hm => by
  obtain ⟨b1, b2, b3⟩ := hp.at_ s rfl p hm
  refine ⟨fun c hc => hs c (hp.sub p hm c hc), ?_, by omega⟩
  rw [← b3, List.length_take, List.length_drop]
  omega
def insL : List Nat := [35, 32, 45, 62, 32, 51, 32, 59, 32, 120, 10]
theorem ins_sk (y : List Nat) : skL false (insL ++ y) = insL.length + skL false y := by
  simp [insL, skL, gapC]
  omega
theorem asc_ins : Asc insL := by unfold Asc; decide
theorem tm_toks {L : List (Nat × List Nat)} (h : ∀ p ∈ L, Asc p.2 ∧ p.2.length ≤ 700) (hl : L.length ≤ 700) : Tame (.tuple (L.map fun p => tx p.2)) :=
  (Sz.tup (n := 700) (fun d hd => by
    obtain ⟨p, hp, rfl⟩ := List.mem_map.mp hd
    exact Sz.tx (h p hp).1 (h p hp).2) (by rw [List.length_map]; exact hl)).tame (by decide) (by decide)
theorem tm_ints {α : Type} {L : List α} {f : α → Int} (h : ∀ p ∈ L, 0 ≤ f p ∧ f p ≤ 10000) (hl : L.length ≤ 700) : Tame (.tuple (L.map fun p => .int (f p))) :=
  (Sz.tup (n := 700) (fun d hd => by
    obtain ⟨p, hp, rfl⟩ := List.mem_map.mp hd
    have := h p hp
    exact Sz.int (by omega)) (by rw [List.length_map]; exact hl)).tame (by decide) (by decide)
theorem tm_due {L : List (Nat × List Nat)} (h : ∀ p ∈ L, Asc p.2 ∧ p.2.length ≤ 700 ∧ p.1 ≤ 10000) (hl : L.length ≤ 700) : Tame (.list (L.map enc5)) :=
  (Sz.lst (n := 700) (w := 2 * 701) (k := 1) (fun d hd => by
    obtain ⟨p, hp, rfl⟩ := List.mem_map.mp hd
    obtain ⟨h1, h2, h3⟩ := h p hp
    refine Sz.tup (n := 2) (k := 0) (w := 700) (fun d hd => ?_) (by simp)
    rcases List.mem_cons.mp hd with rfl | hd
    · exact (Sz.int (by omega)).mono (by decide) (by decide)
    · rw [List.mem_singleton.mp hd]
      exact Sz.tx h1 h2) (by rw [List.length_map]; exact hl)).tame (by decide) (by decide)
theorem tm_nil : Tame (.tuple []) := (Sz.tup (k := 0) (w := 0) (n := 0) (fun d hd => by cases hd) (by simp)).tame (by decide) (by decide)
theorem ne_empty {L : List (Nat × List Nat)} (t : Tame (.list (L.map enc5))) (o o2 : O) : cmpSem .ne (.list (L.map enc5), o) (.list [], o2) = some (!L.isEmpty) := by
  show chk (SeqAt.shaped (.list (L.map enc5)) = true ∧ SeqAt.shaped (.list []) = true) (!PyData.eqv (.list (L.map enc5)) (.list [])) = _
  unfold chk
  rw [if_pos ⟨t.shaped, by decide +kernel⟩]
  cases L <;> simp [PyData.eqv, PyData.eqvAll]
theorem law_true : ∀ ns : List Int, ns.length ≤ 63 → (∀ z ∈ ns, Builtin.Int.intBits z ≤ 1048576) → ∃ o os, (c_law).run (Phi_10 rounds) [(.list (ns.map PyData.int), .f)] = some ((.bool true, o), os) := by
  intro ks _ _
  obtain ⟨ns, n, g, rd⟩ := draw_run (Φ := Phi_0 rounds) (ns := ks) (salt := 5) (by decide) (by decide)
  have rd : (c__law_draw).run (Phi_0 rounds) [(.list (ks.map PyData.int), .f), (.int 5, .f)] = some (dl ns n, [none, none]) := rd
  obtain ⟨s, ns1, n1, hs, hl, g1, rt⟩ := r_text g
  have rw1 := r_walk hs (by omega)
  obtain ⟨L, hp, hw⟩ := wk_pk s.length s 0 (Nat.le_refl _)
  rw [hw []] at rw1
  have hlen := hp.len
  have hL := pk_bound hp hs (by omega)
  have tT := tm_toks (L := L) (fun p hm => ⟨(hL p hm).1, (hL p hm).2.1⟩) (by omega)
  have tP := tm_ints (L := L) (f := fun p => ((p.1 : Nat) : Int)) (fun p hm => by have := (hL p hm).2.2; omega) (by omega)
  have rtok := r_tokens_of hs (by omega) hp
  have rplc := r_token_places hs (by omega) hp
  have neT := ne_text tT
  have neP := ne_text tP
  have reT := tT.repr
  have reP := tP.repr
  suffices h : rK ((c_law).run (Phi_10 rounds) [(.list (ks.map PyData.int), .f)]) fun d _ => d = (.bool true, .f) by
    obtain ⟨d, os, e, rfl⟩ := h
    exact ⟨_, _, e⟩
  refine run_rK ?_
  unfold c_law
  simp only [l_nl, l_sp, l_em, l_ha, l_ins]
  (try simp only [↓w_var, ↓w_lit, ↓w_cst, ↓w_bin, ↓w_neg, ↓w_cmp, ↓w_cmp2, ↓w_not, ↓w_and, ↓w_or, ↓w_ite, ↓w_truth, ↓w_tup, ↓w_lst, ↓w_idx, ↓w_slice, ↓w_rev, ↓w_bi, ↓w_meth, ↓w_mut, ↓w_evs_nil, ↓w_evs_cons, ↓w_evp_nil, ↓w_evp_cons, ↓w_evm_nil, ↓w_evm_cons, ↓w_seq, ↓w_range, ↓w_enum, ↓w_zip, ↓w_nil, ↓w_consR, ↓w_expr, ↓w_set, ↓w_setT, ↓w_par, ↓w_ret, ↓w_retN, ↓w_retv, ↓w_if, ↓w_pass, ↓w_brk, ↓w_cont, ↓w_turn, ↓varK_f, ↓varK_t, ↓varK_l, ↓varK_g, ↓boolK_t, ↓boolK_f, ↓boolK_b, ↓intK_i, ↓idxK_f, ↓idxK_t, ↓lstK_l, ↓slK_s, ↓seqK_l, ↓seqK_t, ↓liK_l, ↓enumK_l, ↓enumK_t, ↓enumK_s, ↓rgK_i, ↓zipK_l, ↓flK_nx, ↓flK_rt, ↓flK_bk, ↓flK_ct, ↓lpK_nx, ↓lpK_ct, ↓lpK_bk, ↓lpK_rt, ↓oK_some, ↓oK_none, ↓oK_map, ↓oK_bind, ↓oK_chk, ↓rK_some, Rho.at, List.getElem?_cons_zero, List.getElem?_cons_succ, Option.getD_some, List.set_cons_zero, List.set_cons_succ, E.quiet, quiets, It.quiet, Bool.and_true, Bool.true_and, Bool.and_false, Bool.false_and, binSem, addSem, biSem, bi1, bi2, lenSem_l, lenSem_t, fz, truth_b, truth_n, truth_i, truth_l, truth_t, partE, sliceSem, revSem, absSem, intSem, seqOf_f, seqOf_l, seqOf_t, listD_l, tupD, isiB, isNone, bindT_name, bindT_tup, bindTs_nil, bindTs_cons, ↓oK_if, T.free, Ts.free, wipeR, noRef, setParR, muSem, mu1, mu0, ownL, List.all_cons, List.all_nil, List.contains_nil, List.map_cons, List.map_nil, List.length_cons, List.length_nil, Option.bind_some, Option.map_some, List.any_cons, List.any_nil, Bool.or_false, Bool.false_or, Bool.not_true, Bool.not_false, List.cons_append, List.nil_append, List.replicate_succ, List.replicate_zero, Nat.sub_self, refsOf, outsOf, reduceCtorEq, if_true, if_false, beq_self_eq_true, String.reduceBEq, and_true, true_and, forall_const, true_implies, false_implies, implies_true, Fl.rt.injEq, Prod.mk.injEq, PyData.bool.injEq, sh_int, sh_bool, sizeLine_eq, Nat.reduceLeDiff, Nat.reduceAdd, Nat.reduceLT, Nat.zero_le, Nat.reduceSub, true_or, or_true, false_or, or_false, and_false, false_and, Bool.false_eq_true, Bool.true_eq_false, not_true_eq_false, not_false_eq_true, exists_eq_left, exists_eq_left', exists_eq_right, exists_eq, Option.some.injEq, decide_true, decide_false, Nat.reduceEqDiff, List.length_map, boolsOf_mapf, all_mapf, any_mapf, small_0', _root_.eq_self, List.headD_cons, List.headD_nil, List.contains_cons, Nat.reduceBEq, Bool.not_false, Bool.or_self, Bool.and_self, ↓w_rest, lt_ii, le_ii, gt_ii, ge_ii, idx_lf, idx_ll, idx_t, pu_10_0, wc_10_0, pu_10_1, pu_10_3, pu_10_5, wc_10_5, pu_10_8, wc_10_8, wk_10_8, pu_10_9, wc_10_9, wk_10_9, rd])
  rw [Rest]
  (try simp only [↓w_var, ↓w_lit, ↓w_cst, ↓w_bin, ↓w_neg, ↓w_cmp, ↓w_cmp2, ↓w_not, ↓w_and, ↓w_or, ↓w_ite, ↓w_truth, ↓w_tup, ↓w_lst, ↓w_idx, ↓w_slice, ↓w_rev, ↓w_bi, ↓w_meth, ↓w_mut, ↓w_evs_nil, ↓w_evs_cons, ↓w_evp_nil, ↓w_evp_cons, ↓w_evm_nil, ↓w_evm_cons, ↓w_seq, ↓w_range, ↓w_enum, ↓w_zip, ↓w_nil, ↓w_consR, ↓w_expr, ↓w_set, ↓w_setT, ↓w_par, ↓w_ret, ↓w_retN, ↓w_retv, ↓w_if, ↓w_pass, ↓w_brk, ↓w_cont, ↓w_turn, ↓varK_f, ↓varK_t, ↓varK_l, ↓varK_g, ↓boolK_t, ↓boolK_f, ↓boolK_b, ↓intK_i, ↓idxK_f, ↓idxK_t, ↓lstK_l, ↓slK_s, ↓seqK_l, ↓seqK_t, ↓liK_l, ↓enumK_l, ↓enumK_t, ↓enumK_s, ↓rgK_i, ↓zipK_l, ↓flK_nx, ↓flK_rt, ↓flK_bk, ↓flK_ct, ↓lpK_nx, ↓lpK_ct, ↓lpK_bk, ↓lpK_rt, ↓oK_some, ↓oK_none, ↓oK_map, ↓oK_bind, ↓oK_chk, ↓rK_some, Rho.at, List.getElem?_cons_zero, List.getElem?_cons_succ, Option.getD_some, List.set_cons_zero, List.set_cons_succ, E.quiet, quiets, It.quiet, Bool.and_true, Bool.true_and, Bool.and_false, Bool.false_and, binSem, addSem, biSem, bi1, bi2, lenSem_l, lenSem_t, fz, truth_b, truth_n, truth_i, truth_l, truth_t, partE, sliceSem, revSem, absSem, intSem, seqOf_f, seqOf_l, seqOf_t, listD_l, tupD, isiB, isNone, bindT_name, bindT_tup, bindTs_nil, bindTs_cons, ↓oK_if, T.free, Ts.free, wipeR, noRef, setParR, muSem, mu1, mu0, ownL, List.all_cons, List.all_nil, List.contains_nil, List.map_cons, List.map_nil, List.length_cons, List.length_nil, Option.bind_some, Option.map_some, List.any_cons, List.any_nil, Bool.or_false, Bool.false_or, Bool.not_true, Bool.not_false, List.cons_append, List.nil_append, List.replicate_succ, List.replicate_zero, Nat.sub_self, refsOf, outsOf, reduceCtorEq, if_true, if_false, beq_self_eq_true, String.reduceBEq, and_true, true_and, forall_const, true_implies, false_implies, implies_true, Fl.rt.injEq, Prod.mk.injEq, PyData.bool.injEq, sh_int, sh_bool, sizeLine_eq, Nat.reduceLeDiff, Nat.reduceAdd, Nat.reduceLT, Nat.zero_le, Nat.reduceSub, true_or, or_true, false_or, or_false, and_false, false_and, Bool.false_eq_true, Bool.true_eq_false, not_true_eq_false, not_false_eq_true, exists_eq_left, exists_eq_left', exists_eq_right, exists_eq, Option.some.injEq, decide_true, decide_false, Nat.reduceEqDiff, List.length_map, boolsOf_mapf, all_mapf, any_mapf, small_0', _root_.eq_self, List.headD_cons, List.headD_nil, List.contains_cons, Nat.reduceBEq, Bool.not_false, Bool.or_self, Bool.and_self, ↓w_rest, lt_ii, le_ii, gt_ii, ge_ii, idx_lf, idx_ll, idx_t])
  refine W.call_g (bs := []) fn_10_3 rfl (by decide) rfl rfl ?_
  (try simp only [↓w_var, ↓w_lit, ↓w_cst, ↓w_bin, ↓w_neg, ↓w_cmp, ↓w_cmp2, ↓w_not, ↓w_and, ↓w_or, ↓w_ite, ↓w_truth, ↓w_tup, ↓w_lst, ↓w_idx, ↓w_slice, ↓w_rev, ↓w_bi, ↓w_meth, ↓w_mut, ↓w_evs_nil, ↓w_evs_cons, ↓w_evp_nil, ↓w_evp_cons, ↓w_evm_nil, ↓w_evm_cons, ↓w_seq, ↓w_range, ↓w_enum, ↓w_zip, ↓w_nil, ↓w_consR, ↓w_expr, ↓w_set, ↓w_setT, ↓w_par, ↓w_ret, ↓w_retN, ↓w_retv, ↓w_if, ↓w_pass, ↓w_brk, ↓w_cont, ↓w_turn, ↓varK_f, ↓varK_t, ↓varK_l, ↓varK_g, ↓boolK_t, ↓boolK_f, ↓boolK_b, ↓intK_i, ↓idxK_f, ↓idxK_t, ↓lstK_l, ↓slK_s, ↓seqK_l, ↓seqK_t, ↓liK_l, ↓enumK_l, ↓enumK_t, ↓enumK_s, ↓rgK_i, ↓zipK_l, ↓flK_nx, ↓flK_rt, ↓flK_bk, ↓flK_ct, ↓lpK_nx, ↓lpK_ct, ↓lpK_bk, ↓lpK_rt, ↓oK_some, ↓oK_none, ↓oK_map, ↓oK_bind, ↓oK_chk, ↓rK_some, Rho.at, List.getElem?_cons_zero, List.getElem?_cons_succ, Option.getD_some, List.set_cons_zero, List.set_cons_succ, E.quiet, quiets, It.quiet, Bool.and_true, Bool.true_and, Bool.and_false, Bool.false_and, binSem, addSem, biSem, bi1, bi2, lenSem_l, lenSem_t, fz, truth_b, truth_n, truth_i, truth_l, truth_t, partE, sliceSem, revSem, absSem, intSem, seqOf_f, seqOf_l, seqOf_t, listD_l, tupD, isiB, isNone, bindT_name, bindT_tup, bindTs_nil, bindTs_cons, ↓oK_if, T.free, Ts.free, wipeR, noRef, setParR, muSem, mu1, mu0, ownL, List.all_cons, List.all_nil, List.contains_nil, List.map_cons, List.map_nil, List.length_cons, List.length_nil, Option.bind_some, Option.map_some, List.any_cons, List.any_nil, Bool.or_false, Bool.false_or, Bool.not_true, Bool.not_false, List.cons_append, List.nil_append, List.replicate_succ, List.replicate_zero, Nat.sub_self, refsOf, outsOf, reduceCtorEq, if_true, if_false, beq_self_eq_true, String.reduceBEq, and_true, true_and, forall_const, true_implies, false_implies, implies_true, Fl.rt.injEq, Prod.mk.injEq, PyData.bool.injEq, sh_int, sh_bool, sizeLine_eq, Nat.reduceLeDiff, Nat.reduceAdd, Nat.reduceLT, Nat.zero_le, Nat.reduceSub, true_or, or_true, false_or, or_false, and_false, false_and, Bool.false_eq_true, Bool.true_eq_false, not_true_eq_false, not_false_eq_true, exists_eq_left, exists_eq_left', exists_eq_right, exists_eq, Option.some.injEq, decide_true, decide_false, Nat.reduceEqDiff, List.length_map, boolsOf_mapf, all_mapf, any_mapf, small_0', _root_.eq_self, List.headD_cons, List.headD_nil, List.contains_cons, Nat.reduceBEq, Bool.not_false, Bool.or_self, Bool.and_self, ↓w_rest, lt_ii, le_ii, gt_ii, ge_ii, idx_lf, idx_ll, idx_t, rt])
  rw [Rest]
  (try simp only [↓w_var, ↓w_lit, ↓w_cst, ↓w_bin, ↓w_neg, ↓w_cmp, ↓w_cmp2, ↓w_not, ↓w_and, ↓w_or, ↓w_ite, ↓w_truth, ↓w_tup, ↓w_lst, ↓w_idx, ↓w_slice, ↓w_rev, ↓w_bi, ↓w_meth, ↓w_mut, ↓w_evs_nil, ↓w_evs_cons, ↓w_evp_nil, ↓w_evp_cons, ↓w_evm_nil, ↓w_evm_cons, ↓w_seq, ↓w_range, ↓w_enum, ↓w_zip, ↓w_nil, ↓w_consR, ↓w_expr, ↓w_set, ↓w_setT, ↓w_par, ↓w_ret, ↓w_retN, ↓w_retv, ↓w_if, ↓w_pass, ↓w_brk, ↓w_cont, ↓w_turn, ↓varK_f, ↓varK_t, ↓varK_l, ↓varK_g, ↓boolK_t, ↓boolK_f, ↓boolK_b, ↓intK_i, ↓idxK_f, ↓idxK_t, ↓lstK_l, ↓slK_s, ↓seqK_l, ↓seqK_t, ↓liK_l, ↓enumK_l, ↓enumK_t, ↓enumK_s, ↓rgK_i, ↓zipK_l, ↓flK_nx, ↓flK_rt, ↓flK_bk, ↓flK_ct, ↓lpK_nx, ↓lpK_ct, ↓lpK_bk, ↓lpK_rt, ↓oK_some, ↓oK_none, ↓oK_map, ↓oK_bind, ↓oK_chk, ↓rK_some, Rho.at, List.getElem?_cons_zero, List.getElem?_cons_succ, Option.getD_some, List.set_cons_zero, List.set_cons_succ, E.quiet, quiets, It.quiet, Bool.and_true, Bool.true_and, Bool.and_false, Bool.false_and, binSem, addSem, biSem, bi1, bi2, lenSem_l, lenSem_t, fz, truth_b, truth_n, truth_i, truth_l, truth_t, partE, sliceSem, revSem, absSem, intSem, seqOf_f, seqOf_l, seqOf_t, listD_l, tupD, isiB, isNone, bindT_name, bindT_tup, bindTs_nil, bindTs_cons, ↓oK_if, T.free, Ts.free, wipeR, noRef, setParR, muSem, mu1, mu0, ownL, List.all_cons, List.all_nil, List.contains_nil, List.map_cons, List.map_nil, List.length_cons, List.length_nil, Option.bind_some, Option.map_some, List.any_cons, List.any_nil, Bool.or_false, Bool.false_or, Bool.not_true, Bool.not_false, List.cons_append, List.nil_append, List.replicate_succ, List.replicate_zero, Nat.sub_self, refsOf, outsOf, reduceCtorEq, if_true, if_false, beq_self_eq_true, String.reduceBEq, and_true, true_and, forall_const, true_implies, false_implies, implies_true, Fl.rt.injEq, Prod.mk.injEq, PyData.bool.injEq, sh_int, sh_bool, sizeLine_eq, Nat.reduceLeDiff, Nat.reduceAdd, Nat.reduceLT, Nat.zero_le, Nat.reduceSub, true_or, or_true, false_or, or_false, and_false, false_and, Bool.false_eq_true, Bool.true_eq_false, not_true_eq_false, not_false_eq_true, exists_eq_left, exists_eq_left', exists_eq_right, exists_eq, Option.some.injEq, decide_true, decide_false, Nat.reduceEqDiff, List.length_map, boolsOf_mapf, all_mapf, any_mapf, small_0', _root_.eq_self, List.headD_cons, List.headD_nil, List.contains_cons, Nat.reduceBEq, Bool.not_false, Bool.or_self, Bool.and_self, ↓w_rest, lt_ii, le_ii, gt_ii, ge_ii, idx_lf, idx_ll, idx_t, pu_10_0, wc_10_0, pu_10_1, pu_10_3, pu_10_5, wc_10_5, pu_10_8, wc_10_8, wk_10_8, pu_10_9, wc_10_9, wk_10_9, rw1])
  rw [Rest]
  (try simp only [↓w_var, ↓w_lit, ↓w_cst, ↓w_bin, ↓w_neg, ↓w_cmp, ↓w_cmp2, ↓w_not, ↓w_and, ↓w_or, ↓w_ite, ↓w_truth, ↓w_tup, ↓w_lst, ↓w_idx, ↓w_slice, ↓w_rev, ↓w_bi, ↓w_meth, ↓w_mut, ↓w_evs_nil, ↓w_evs_cons, ↓w_evp_nil, ↓w_evp_cons, ↓w_evm_nil, ↓w_evm_cons, ↓w_seq, ↓w_range, ↓w_enum, ↓w_zip, ↓w_nil, ↓w_consR, ↓w_expr, ↓w_set, ↓w_setT, ↓w_par, ↓w_ret, ↓w_retN, ↓w_retv, ↓w_if, ↓w_pass, ↓w_brk, ↓w_cont, ↓w_turn, ↓varK_f, ↓varK_t, ↓varK_l, ↓varK_g, ↓boolK_t, ↓boolK_f, ↓boolK_b, ↓intK_i, ↓idxK_f, ↓idxK_t, ↓lstK_l, ↓slK_s, ↓seqK_l, ↓seqK_t, ↓liK_l, ↓enumK_l, ↓enumK_t, ↓enumK_s, ↓rgK_i, ↓zipK_l, ↓flK_nx, ↓flK_rt, ↓flK_bk, ↓flK_ct, ↓lpK_nx, ↓lpK_ct, ↓lpK_bk, ↓lpK_rt, ↓oK_some, ↓oK_none, ↓oK_map, ↓oK_bind, ↓oK_chk, ↓rK_some, Rho.at, List.getElem?_cons_zero, List.getElem?_cons_succ, Option.getD_some, List.set_cons_zero, List.set_cons_succ, E.quiet, quiets, It.quiet, Bool.and_true, Bool.true_and, Bool.and_false, Bool.false_and, binSem, addSem, biSem, bi1, bi2, lenSem_l, lenSem_t, fz, truth_b, truth_n, truth_i, truth_l, truth_t, partE, sliceSem, revSem, absSem, intSem, seqOf_f, seqOf_l, seqOf_t, listD_l, tupD, isiB, isNone, bindT_name, bindT_tup, bindTs_nil, bindTs_cons, ↓oK_if, T.free, Ts.free, wipeR, noRef, setParR, muSem, mu1, mu0, ownL, List.all_cons, List.all_nil, List.contains_nil, List.map_cons, List.map_nil, List.length_cons, List.length_nil, Option.bind_some, Option.map_some, List.any_cons, List.any_nil, Bool.or_false, Bool.false_or, Bool.not_true, Bool.not_false, List.cons_append, List.nil_append, List.replicate_succ, List.replicate_zero, Nat.sub_self, refsOf, outsOf, reduceCtorEq, if_true, if_false, beq_self_eq_true, String.reduceBEq, and_true, true_and, forall_const, true_implies, false_implies, implies_true, Fl.rt.injEq, Prod.mk.injEq, PyData.bool.injEq, sh_int, sh_bool, sizeLine_eq, Nat.reduceLeDiff, Nat.reduceAdd, Nat.reduceLT, Nat.zero_le, Nat.reduceSub, true_or, or_true, false_or, or_false, and_false, false_and, Bool.false_eq_true, Bool.true_eq_false, not_true_eq_false, not_false_eq_true, exists_eq_left, exists_eq_left', exists_eq_right, exists_eq, Option.some.injEq, decide_true, decide_false, Nat.reduceEqDiff, List.length_map, boolsOf_mapf, all_mapf, any_mapf, small_0', _root_.eq_self, List.headD_cons, List.headD_nil, List.contains_cons, Nat.reduceBEq, Bool.not_false, Bool.or_self, Bool.and_self, ↓w_rest, lt_ii, le_ii, gt_ii, ge_ii, idx_lf, idx_ll, idx_t])
  refine W.compM enc5 (fun p => tx p.2) ?_
  (try simp only [↓w_var, ↓w_lit, ↓w_cst, ↓w_bin, ↓w_neg, ↓w_cmp, ↓w_cmp2, ↓w_not, ↓w_and, ↓w_or, ↓w_ite, ↓w_truth, ↓w_tup, ↓w_lst, ↓w_idx, ↓w_slice, ↓w_rev, ↓w_bi, ↓w_meth, ↓w_mut, ↓w_evs_nil, ↓w_evs_cons, ↓w_evp_nil, ↓w_evp_cons, ↓w_evm_nil, ↓w_evm_cons, ↓w_seq, ↓w_range, ↓w_enum, ↓w_zip, ↓w_nil, ↓w_consR, ↓w_expr, ↓w_set, ↓w_setT, ↓w_par, ↓w_ret, ↓w_retN, ↓w_retv, ↓w_if, ↓w_pass, ↓w_brk, ↓w_cont, ↓w_turn, ↓varK_f, ↓varK_t, ↓varK_l, ↓varK_g, ↓boolK_t, ↓boolK_f, ↓boolK_b, ↓intK_i, ↓idxK_f, ↓idxK_t, ↓lstK_l, ↓slK_s, ↓seqK_l, ↓seqK_t, ↓liK_l, ↓enumK_l, ↓enumK_t, ↓enumK_s, ↓rgK_i, ↓zipK_l, ↓flK_nx, ↓flK_rt, ↓flK_bk, ↓flK_ct, ↓lpK_nx, ↓lpK_ct, ↓lpK_bk, ↓lpK_rt, ↓oK_some, ↓oK_none, ↓oK_map, ↓oK_bind, ↓oK_chk, ↓rK_some, Rho.at, List.getElem?_cons_zero, List.getElem?_cons_succ, Option.getD_some, List.set_cons_zero, List.set_cons_succ, E.quiet, quiets, It.quiet, Bool.and_true, Bool.true_and, Bool.and_false, Bool.false_and, binSem, addSem, biSem, bi1, bi2, lenSem_l, lenSem_t, fz, truth_b, truth_n, truth_i, truth_l, truth_t, partE, sliceSem, revSem, absSem, intSem, seqOf_f, seqOf_l, seqOf_t, listD_l, tupD, isiB, isNone, bindT_name, bindT_tup, bindTs_nil, bindTs_cons, ↓oK_if, T.free, Ts.free, wipeR, noRef, setParR, muSem, mu1, mu0, ownL, List.all_cons, List.all_nil, List.contains_nil, List.map_cons, List.map_nil, List.length_cons, List.length_nil, Option.bind_some, Option.map_some, List.any_cons, List.any_nil, Bool.or_false, Bool.false_or, Bool.not_true, Bool.not_false, List.cons_append, List.nil_append, List.replicate_succ, List.replicate_zero, Nat.sub_self, refsOf, outsOf, reduceCtorEq, if_true, if_false, beq_self_eq_true, String.reduceBEq, and_true, true_and, forall_const, true_implies, false_implies, implies_true, Fl.rt.injEq, Prod.mk.injEq, PyData.bool.injEq, sh_int, sh_bool, sizeLine_eq, Nat.reduceLeDiff, Nat.reduceAdd, Nat.reduceLT, Nat.zero_le, Nat.reduceSub, true_or, or_true, false_or, or_false, and_false, false_and, Bool.false_eq_true, Bool.true_eq_false, not_true_eq_false, not_false_eq_true, exists_eq_left, exists_eq_left', exists_eq_right, exists_eq, Option.some.injEq, decide_true, decide_false, Nat.reduceEqDiff, List.length_map, boolsOf_mapf, all_mapf, any_mapf, small_0', _root_.eq_self, List.headD_cons, List.headD_nil, List.contains_cons, Nat.reduceBEq, Bool.not_false, Bool.or_self, Bool.and_self, ↓w_rest, lt_ii, le_ii, gt_ii, ge_ii, idx_lf, idx_ll, idx_t])
  refine ⟨L, rfl, by omega, fun p hm => ?_, ?_⟩
  · obtain ⟨o, t⟩ := p
    (try simp only [↓w_var, ↓w_lit, ↓w_cst, ↓w_bin, ↓w_neg, ↓w_cmp, ↓w_cmp2, ↓w_not, ↓w_and, ↓w_or, ↓w_ite, ↓w_truth, ↓w_tup, ↓w_lst, ↓w_idx, ↓w_slice, ↓w_rev, ↓w_bi, ↓w_meth, ↓w_mut, ↓w_evs_nil, ↓w_evs_cons, ↓w_evp_nil, ↓w_evp_cons, ↓w_evm_nil, ↓w_evm_cons, ↓w_seq, ↓w_range, ↓w_enum, ↓w_zip, ↓w_nil, ↓w_consR, ↓w_expr, ↓w_set, ↓w_setT, ↓w_par, ↓w_ret, ↓w_retN, ↓w_retv, ↓w_if, ↓w_pass, ↓w_brk, ↓w_cont, ↓w_turn, ↓varK_f, ↓varK_t, ↓varK_l, ↓varK_g, ↓boolK_t, ↓boolK_f, ↓boolK_b, ↓intK_i, ↓idxK_f, ↓idxK_t, ↓lstK_l, ↓slK_s, ↓seqK_l, ↓seqK_t, ↓liK_l, ↓enumK_l, ↓enumK_t, ↓enumK_s, ↓rgK_i, ↓zipK_l, ↓flK_nx, ↓flK_rt, ↓flK_bk, ↓flK_ct, ↓lpK_nx, ↓lpK_ct, ↓lpK_bk, ↓lpK_rt, ↓oK_some, ↓oK_none, ↓oK_map, ↓oK_bind, ↓oK_chk, ↓rK_some, Rho.at, List.getElem?_cons_zero, List.getElem?_cons_succ, Option.getD_some, List.set_cons_zero, List.set_cons_succ, E.quiet, quiets, It.quiet, Bool.and_true, Bool.true_and, Bool.and_false, Bool.false_and, binSem, addSem, biSem, bi1, bi2, lenSem_l, lenSem_t, fz, truth_b, truth_n, truth_i, truth_l, truth_t, partE, sliceSem, revSem, absSem, intSem, seqOf_f, seqOf_l, seqOf_t, listD_l, tupD, isiB, isNone, bindT_name, bindT_tup, bindTs_nil, bindTs_cons, ↓oK_if, T.free, Ts.free, wipeR, noRef, setParR, muSem, mu1, mu0, ownL, List.all_cons, List.all_nil, List.contains_nil, List.map_cons, List.map_nil, List.length_cons, List.length_nil, Option.bind_some, Option.map_some, List.any_cons, List.any_nil, Bool.or_false, Bool.false_or, Bool.not_true, Bool.not_false, List.cons_append, List.nil_append, List.replicate_succ, List.replicate_zero, Nat.sub_self, refsOf, outsOf, reduceCtorEq, if_true, if_false, beq_self_eq_true, String.reduceBEq, and_true, true_and, forall_const, true_implies, false_implies, implies_true, Fl.rt.injEq, Prod.mk.injEq, PyData.bool.injEq, sh_int, sh_bool, sizeLine_eq, Nat.reduceLeDiff, Nat.reduceAdd, Nat.reduceLT, Nat.zero_le, Nat.reduceSub, true_or, or_true, false_or, or_false, and_false, false_and, Bool.false_eq_true, Bool.true_eq_false, not_true_eq_false, not_false_eq_true, exists_eq_left, exists_eq_left', exists_eq_right, exists_eq, Option.some.injEq, decide_true, decide_false, Nat.reduceEqDiff, List.length_map, boolsOf_mapf, all_mapf, any_mapf, small_0', _root_.eq_self, List.headD_cons, List.headD_nil, List.contains_cons, Nat.reduceBEq, Bool.not_false, Bool.or_self, Bool.and_self, ↓w_rest, lt_ii, le_ii, gt_ii, ge_ii, idx_lf, idx_ll, idx_t, enc5_eq])
  (try simp only [↓w_var, ↓w_lit, ↓w_cst, ↓w_bin, ↓w_neg, ↓w_cmp, ↓w_cmp2, ↓w_not, ↓w_and, ↓w_or, ↓w_ite, ↓w_truth, ↓w_tup, ↓w_lst, ↓w_idx, ↓w_slice, ↓w_rev, ↓w_bi, ↓w_meth, ↓w_mut, ↓w_evs_nil, ↓w_evs_cons, ↓w_evp_nil, ↓w_evp_cons, ↓w_evm_nil, ↓w_evm_cons, ↓w_seq, ↓w_range, ↓w_enum, ↓w_zip, ↓w_nil, ↓w_consR, ↓w_expr, ↓w_set, ↓w_setT, ↓w_par, ↓w_ret, ↓w_retN, ↓w_retv, ↓w_if, ↓w_pass, ↓w_brk, ↓w_cont, ↓w_turn, ↓varK_f, ↓varK_t, ↓varK_l, ↓varK_g, ↓boolK_t, ↓boolK_f, ↓boolK_b, ↓intK_i, ↓idxK_f, ↓idxK_t, ↓lstK_l, ↓slK_s, ↓seqK_l, ↓seqK_t, ↓liK_l, ↓enumK_l, ↓enumK_t, ↓enumK_s, ↓rgK_i, ↓zipK_l, ↓flK_nx, ↓flK_rt, ↓flK_bk, ↓flK_ct, ↓lpK_nx, ↓lpK_ct, ↓lpK_bk, ↓lpK_rt, ↓oK_some, ↓oK_none, ↓oK_map, ↓oK_bind, ↓oK_chk, ↓rK_some, Rho.at, List.getElem?_cons_zero, List.getElem?_cons_succ, Option.getD_some, List.set_cons_zero, List.set_cons_succ, E.quiet, quiets, It.quiet, Bool.and_true, Bool.true_and, Bool.and_false, Bool.false_and, binSem, addSem, biSem, bi1, bi2, lenSem_l, lenSem_t, fz, truth_b, truth_n, truth_i, truth_l, truth_t, partE, sliceSem, revSem, absSem, intSem, seqOf_f, seqOf_l, seqOf_t, listD_l, tupD, isiB, isNone, bindT_name, bindT_tup, bindTs_nil, bindTs_cons, ↓oK_if, T.free, Ts.free, wipeR, noRef, setParR, muSem, mu1, mu0, ownL, List.all_cons, List.all_nil, List.contains_nil, List.map_cons, List.map_nil, List.length_cons, List.length_nil, Option.bind_some, Option.map_some, List.any_cons, List.any_nil, Bool.or_false, Bool.false_or, Bool.not_true, Bool.not_false, List.cons_append, List.nil_append, List.replicate_succ, List.replicate_zero, Nat.sub_self, refsOf, outsOf, reduceCtorEq, if_true, if_false, beq_self_eq_true, String.reduceBEq, and_true, true_and, forall_const, true_implies, false_implies, implies_true, Fl.rt.injEq, Prod.mk.injEq, PyData.bool.injEq, sh_int, sh_bool, sizeLine_eq, Nat.reduceLeDiff, Nat.reduceAdd, Nat.reduceLT, Nat.zero_le, Nat.reduceSub, true_or, or_true, false_or, or_false, and_false, false_and, Bool.false_eq_true, Bool.true_eq_false, not_true_eq_false, not_false_eq_true, exists_eq_left, exists_eq_left', exists_eq_right, exists_eq, Option.some.injEq, decide_true, decide_false, Nat.reduceEqDiff, List.length_map, boolsOf_mapf, all_mapf, any_mapf, small_0', _root_.eq_self, List.headD_cons, List.headD_nil, List.contains_cons, Nat.reduceBEq, Bool.not_false, Bool.or_self, Bool.and_self, ↓w_rest, lt_ii, le_ii, gt_ii, ge_ii, idx_lf, idx_ll, idx_t])
  refine W.compM enc5 (fun p => .int ((p.1 : Nat) : Int)) ?_
  (try simp only [↓w_var, ↓w_lit, ↓w_cst, ↓w_bin, ↓w_neg, ↓w_cmp, ↓w_cmp2, ↓w_not, ↓w_and, ↓w_or, ↓w_ite, ↓w_truth, ↓w_tup, ↓w_lst, ↓w_idx, ↓w_slice, ↓w_rev, ↓w_bi, ↓w_meth, ↓w_mut, ↓w_evs_nil, ↓w_evs_cons, ↓w_evp_nil, ↓w_evp_cons, ↓w_evm_nil, ↓w_evm_cons, ↓w_seq, ↓w_range, ↓w_enum, ↓w_zip, ↓w_nil, ↓w_consR, ↓w_expr, ↓w_set, ↓w_setT, ↓w_par, ↓w_ret, ↓w_retN, ↓w_retv, ↓w_if, ↓w_pass, ↓w_brk, ↓w_cont, ↓w_turn, ↓varK_f, ↓varK_t, ↓varK_l, ↓varK_g, ↓boolK_t, ↓boolK_f, ↓boolK_b, ↓intK_i, ↓idxK_f, ↓idxK_t, ↓lstK_l, ↓slK_s, ↓seqK_l, ↓seqK_t, ↓liK_l, ↓enumK_l, ↓enumK_t, ↓enumK_s, ↓rgK_i, ↓zipK_l, ↓flK_nx, ↓flK_rt, ↓flK_bk, ↓flK_ct, ↓lpK_nx, ↓lpK_ct, ↓lpK_bk, ↓lpK_rt, ↓oK_some, ↓oK_none, ↓oK_map, ↓oK_bind, ↓oK_chk, ↓rK_some, Rho.at, List.getElem?_cons_zero, List.getElem?_cons_succ, Option.getD_some, List.set_cons_zero, List.set_cons_succ, E.quiet, quiets, It.quiet, Bool.and_true, Bool.true_and, Bool.and_false, Bool.false_and, binSem, addSem, biSem, bi1, bi2, lenSem_l, lenSem_t, fz, truth_b, truth_n, truth_i, truth_l, truth_t, partE, sliceSem, revSem, absSem, intSem, seqOf_f, seqOf_l, seqOf_t, listD_l, tupD, isiB, isNone, bindT_name, bindT_tup, bindTs_nil, bindTs_cons, ↓oK_if, T.free, Ts.free, wipeR, noRef, setParR, muSem, mu1, mu0, ownL, List.all_cons, List.all_nil, List.contains_nil, List.map_cons, List.map_nil, List.length_cons, List.length_nil, Option.bind_some, Option.map_some, List.any_cons, List.any_nil, Bool.or_false, Bool.false_or, Bool.not_true, Bool.not_false, List.cons_append, List.nil_append, List.replicate_succ, List.replicate_zero, Nat.sub_self, refsOf, outsOf, reduceCtorEq, if_true, if_false, beq_self_eq_true, String.reduceBEq, and_true, true_and, forall_const, true_implies, false_implies, implies_true, Fl.rt.injEq, Prod.mk.injEq, PyData.bool.injEq, sh_int, sh_bool, sizeLine_eq, Nat.reduceLeDiff, Nat.reduceAdd, Nat.reduceLT, Nat.zero_le, Nat.reduceSub, true_or, or_true, false_or, or_false, and_false, false_and, Bool.false_eq_true, Bool.true_eq_false, not_true_eq_false, not_false_eq_true, exists_eq_left, exists_eq_left', exists_eq_right, exists_eq, Option.some.injEq, decide_true, decide_false, Nat.reduceEqDiff, List.length_map, boolsOf_mapf, all_mapf, any_mapf, small_0', _root_.eq_self, List.headD_cons, List.headD_nil, List.contains_cons, Nat.reduceBEq, Bool.not_false, Bool.or_self, Bool.and_self, ↓w_rest, lt_ii, le_ii, gt_ii, ge_ii, idx_lf, idx_ll, idx_t])
  refine ⟨L, rfl, by omega, fun p hm => ?_, ?_⟩
  · obtain ⟨o, t⟩ := p
    (try simp only [↓w_var, ↓w_lit, ↓w_cst, ↓w_bin, ↓w_neg, ↓w_cmp, ↓w_cmp2, ↓w_not, ↓w_and, ↓w_or, ↓w_ite, ↓w_truth, ↓w_tup, ↓w_lst, ↓w_idx, ↓w_slice, ↓w_rev, ↓w_bi, ↓w_meth, ↓w_mut, ↓w_evs_nil, ↓w_evs_cons, ↓w_evp_nil, ↓w_evp_cons, ↓w_evm_nil, ↓w_evm_cons, ↓w_seq, ↓w_range, ↓w_enum, ↓w_zip, ↓w_nil, ↓w_consR, ↓w_expr, ↓w_set, ↓w_setT, ↓w_par, ↓w_ret, ↓w_retN, ↓w_retv, ↓w_if, ↓w_pass, ↓w_brk, ↓w_cont, ↓w_turn, ↓varK_f, ↓varK_t, ↓varK_l, ↓varK_g, ↓boolK_t, ↓boolK_f, ↓boolK_b, ↓intK_i, ↓idxK_f, ↓idxK_t, ↓lstK_l, ↓slK_s, ↓seqK_l, ↓seqK_t, ↓liK_l, ↓enumK_l, ↓enumK_t, ↓enumK_s, ↓rgK_i, ↓zipK_l, ↓flK_nx, ↓flK_rt, ↓flK_bk, ↓flK_ct, ↓lpK_nx, ↓lpK_ct, ↓lpK_bk, ↓lpK_rt, ↓oK_some, ↓oK_none, ↓oK_map, ↓oK_bind, ↓oK_chk, ↓rK_some, Rho.at, List.getElem?_cons_zero, List.getElem?_cons_succ, Option.getD_some, List.set_cons_zero, List.set_cons_succ, E.quiet, quiets, It.quiet, Bool.and_true, Bool.true_and, Bool.and_false, Bool.false_and, binSem, addSem, biSem, bi1, bi2, lenSem_l, lenSem_t, fz, truth_b, truth_n, truth_i, truth_l, truth_t, partE, sliceSem, revSem, absSem, intSem, seqOf_f, seqOf_l, seqOf_t, listD_l, tupD, isiB, isNone, bindT_name, bindT_tup, bindTs_nil, bindTs_cons, ↓oK_if, T.free, Ts.free, wipeR, noRef, setParR, muSem, mu1, mu0, ownL, List.all_cons, List.all_nil, List.contains_nil, List.map_cons, List.map_nil, List.length_cons, List.length_nil, Option.bind_some, Option.map_some, List.any_cons, List.any_nil, Bool.or_false, Bool.false_or, Bool.not_true, Bool.not_false, List.cons_append, List.nil_append, List.replicate_succ, List.replicate_zero, Nat.sub_self, refsOf, outsOf, reduceCtorEq, if_true, if_false, beq_self_eq_true, String.reduceBEq, and_true, true_and, forall_const, true_implies, false_implies, implies_true, Fl.rt.injEq, Prod.mk.injEq, PyData.bool.injEq, sh_int, sh_bool, sizeLine_eq, Nat.reduceLeDiff, Nat.reduceAdd, Nat.reduceLT, Nat.zero_le, Nat.reduceSub, true_or, or_true, false_or, or_false, and_false, false_and, Bool.false_eq_true, Bool.true_eq_false, not_true_eq_false, not_false_eq_true, exists_eq_left, exists_eq_left', exists_eq_right, exists_eq, Option.some.injEq, decide_true, decide_false, Nat.reduceEqDiff, List.length_map, boolsOf_mapf, all_mapf, any_mapf, small_0', _root_.eq_self, List.headD_cons, List.headD_nil, List.contains_cons, Nat.reduceBEq, Bool.not_false, Bool.or_self, Bool.and_self, ↓w_rest, lt_ii, le_ii, gt_ii, ge_ii, idx_lf, idx_ll, idx_t, enc5_eq])
  (try simp only [↓w_var, ↓w_lit, ↓w_cst, ↓w_bin, ↓w_neg, ↓w_cmp, ↓w_cmp2, ↓w_not, ↓w_and, ↓w_or, ↓w_ite, ↓w_truth, ↓w_tup, ↓w_lst, ↓w_idx, ↓w_slice, ↓w_rev, ↓w_bi, ↓w_meth, ↓w_mut, ↓w_evs_nil, ↓w_evs_cons, ↓w_evp_nil, ↓w_evp_cons, ↓w_evm_nil, ↓w_evm_cons, ↓w_seq, ↓w_range, ↓w_enum, ↓w_zip, ↓w_nil, ↓w_consR, ↓w_expr, ↓w_set, ↓w_setT, ↓w_par, ↓w_ret, ↓w_retN, ↓w_retv, ↓w_if, ↓w_pass, ↓w_brk, ↓w_cont, ↓w_turn, ↓varK_f, ↓varK_t, ↓varK_l, ↓varK_g, ↓boolK_t, ↓boolK_f, ↓boolK_b, ↓intK_i, ↓idxK_f, ↓idxK_t, ↓lstK_l, ↓slK_s, ↓seqK_l, ↓seqK_t, ↓liK_l, ↓enumK_l, ↓enumK_t, ↓enumK_s, ↓rgK_i, ↓zipK_l, ↓flK_nx, ↓flK_rt, ↓flK_bk, ↓flK_ct, ↓lpK_nx, ↓lpK_ct, ↓lpK_bk, ↓lpK_rt, ↓oK_some, ↓oK_none, ↓oK_map, ↓oK_bind, ↓oK_chk, ↓rK_some, Rho.at, List.getElem?_cons_zero, List.getElem?_cons_succ, Option.getD_some, List.set_cons_zero, List.set_cons_succ, E.quiet, quiets, It.quiet, Bool.and_true, Bool.true_and, Bool.and_false, Bool.false_and, binSem, addSem, biSem, bi1, bi2, lenSem_l, lenSem_t, fz, truth_b, truth_n, truth_i, truth_l, truth_t, partE, sliceSem, revSem, absSem, intSem, seqOf_f, seqOf_l, seqOf_t, listD_l, tupD, isiB, isNone, bindT_name, bindT_tup, bindTs_nil, bindTs_cons, ↓oK_if, T.free, Ts.free, wipeR, noRef, setParR, muSem, mu1, mu0, ownL, List.all_cons, List.all_nil, List.contains_nil, List.map_cons, List.map_nil, List.length_cons, List.length_nil, Option.bind_some, Option.map_some, List.any_cons, List.any_nil, Bool.or_false, Bool.false_or, Bool.not_true, Bool.not_false, List.cons_append, List.nil_append, List.replicate_succ, List.replicate_zero, Nat.sub_self, refsOf, outsOf, reduceCtorEq, if_true, if_false, beq_self_eq_true, String.reduceBEq, and_true, true_and, forall_const, true_implies, false_implies, implies_true, Fl.rt.injEq, Prod.mk.injEq, PyData.bool.injEq, sh_int, sh_bool, sizeLine_eq, Nat.reduceLeDiff, Nat.reduceAdd, Nat.reduceLT, Nat.zero_le, Nat.reduceSub, true_or, or_true, false_or, or_false, and_false, false_and, Bool.false_eq_true, Bool.true_eq_false, not_true_eq_false, not_false_eq_true, exists_eq_left, exists_eq_left', exists_eq_right, exists_eq, Option.some.injEq, decide_true, decide_false, Nat.reduceEqDiff, List.length_map, boolsOf_mapf, all_mapf, any_mapf, small_0', _root_.eq_self, List.headD_cons, List.headD_nil, List.contains_cons, Nat.reduceBEq, Bool.not_false, Bool.or_self, Bool.and_self, ↓w_rest, lt_ii, le_ii, gt_ii, ge_ii, idx_lf, idx_ll, idx_t])
  rw [Rest]
  (try simp only [↓w_var, ↓w_lit, ↓w_cst, ↓w_bin, ↓w_neg, ↓w_cmp, ↓w_cmp2, ↓w_not, ↓w_and, ↓w_or, ↓w_ite, ↓w_truth, ↓w_tup, ↓w_lst, ↓w_idx, ↓w_slice, ↓w_rev, ↓w_bi, ↓w_meth, ↓w_mut, ↓w_evs_nil, ↓w_evs_cons, ↓w_evp_nil, ↓w_evp_cons, ↓w_evm_nil, ↓w_evm_cons, ↓w_seq, ↓w_range, ↓w_enum, ↓w_zip, ↓w_nil, ↓w_consR, ↓w_expr, ↓w_set, ↓w_setT, ↓w_par, ↓w_ret, ↓w_retN, ↓w_retv, ↓w_if, ↓w_pass, ↓w_brk, ↓w_cont, ↓w_turn, ↓varK_f, ↓varK_t, ↓varK_l, ↓varK_g, ↓boolK_t, ↓boolK_f, ↓boolK_b, ↓intK_i, ↓idxK_f, ↓idxK_t, ↓lstK_l, ↓slK_s, ↓seqK_l, ↓seqK_t, ↓liK_l, ↓enumK_l, ↓enumK_t, ↓enumK_s, ↓rgK_i, ↓zipK_l, ↓flK_nx, ↓flK_rt, ↓flK_bk, ↓flK_ct, ↓lpK_nx, ↓lpK_ct, ↓lpK_bk, ↓lpK_rt, ↓oK_some, ↓oK_none, ↓oK_map, ↓oK_bind, ↓oK_chk, ↓rK_some, Rho.at, List.getElem?_cons_zero, List.getElem?_cons_succ, Option.getD_some, List.set_cons_zero, List.set_cons_succ, E.quiet, quiets, It.quiet, Bool.and_true, Bool.true_and, Bool.and_false, Bool.false_and, binSem, addSem, biSem, bi1, bi2, lenSem_l, lenSem_t, fz, truth_b, truth_n, truth_i, truth_l, truth_t, partE, sliceSem, revSem, absSem, intSem, seqOf_f, seqOf_l, seqOf_t, listD_l, tupD, isiB, isNone, bindT_name, bindT_tup, bindTs_nil, bindTs_cons, ↓oK_if, T.free, Ts.free, wipeR, noRef, setParR, muSem, mu1, mu0, ownL, List.all_cons, List.all_nil, List.contains_nil, List.map_cons, List.map_nil, List.length_cons, List.length_nil, Option.bind_some, Option.map_some, List.any_cons, List.any_nil, Bool.or_false, Bool.false_or, Bool.not_true, Bool.not_false, List.cons_append, List.nil_append, List.replicate_succ, List.replicate_zero, Nat.sub_self, refsOf, outsOf, reduceCtorEq, if_true, if_false, beq_self_eq_true, String.reduceBEq, and_true, true_and, forall_const, true_implies, false_implies, implies_true, Fl.rt.injEq, Prod.mk.injEq, PyData.bool.injEq, sh_int, sh_bool, sizeLine_eq, Nat.reduceLeDiff, Nat.reduceAdd, Nat.reduceLT, Nat.zero_le, Nat.reduceSub, true_or, or_true, false_or, or_false, and_false, false_and, Bool.false_eq_true, Bool.true_eq_false, not_true_eq_false, not_false_eq_true, exists_eq_left, exists_eq_left', exists_eq_right, exists_eq, Option.some.injEq, decide_true, decide_false, Nat.reduceEqDiff, List.length_map, boolsOf_mapf, all_mapf, any_mapf, small_0', _root_.eq_self, List.headD_cons, List.headD_nil, List.contains_cons, Nat.reduceBEq, Bool.not_false, Bool.or_self, Bool.and_self, ↓w_rest, lt_ii, le_ii, gt_ii, ge_ii, idx_lf, idx_ll, idx_t])
  refine W.for_ (fun xs ρ => ∃ s4 : Ev.Slot, ρ = [some (.list (ks.map PyData.int), .f), some (dl ns1 n1), some (tx s, .f), some (.list (L.map enc5), .f), s4, some (.tuple (L.map fun p => tx p.2), .f), some (.tuple (L.map fun p => .int ((p.1 : Nat) : Int)), .f), none, none, none, none, none]) ?_
  have hs2 : small62 2 = true := small_nat' (n := 2) (by omega)
  (try simp only [↓w_var, ↓w_lit, ↓w_cst, ↓w_bin, ↓w_neg, ↓w_cmp, ↓w_cmp2, ↓w_not, ↓w_and, ↓w_or, ↓w_ite, ↓w_truth, ↓w_tup, ↓w_lst, ↓w_idx, ↓w_slice, ↓w_rev, ↓w_bi, ↓w_meth, ↓w_mut, ↓w_evs_nil, ↓w_evs_cons, ↓w_evp_nil, ↓w_evp_cons, ↓w_evm_nil, ↓w_evm_cons, ↓w_seq, ↓w_range, ↓w_enum, ↓w_zip, ↓w_nil, ↓w_consR, ↓w_expr, ↓w_set, ↓w_setT, ↓w_par, ↓w_ret, ↓w_retN, ↓w_retv, ↓w_if, ↓w_pass, ↓w_brk, ↓w_cont, ↓w_turn, ↓varK_f, ↓varK_t, ↓varK_l, ↓varK_g, ↓boolK_t, ↓boolK_f, ↓boolK_b, ↓intK_i, ↓idxK_f, ↓idxK_t, ↓lstK_l, ↓slK_s, ↓seqK_l, ↓seqK_t, ↓liK_l, ↓enumK_l, ↓enumK_t, ↓enumK_s, ↓rgK_i, ↓zipK_l, ↓flK_nx, ↓flK_rt, ↓flK_bk, ↓flK_ct, ↓lpK_nx, ↓lpK_ct, ↓lpK_bk, ↓lpK_rt, ↓oK_some, ↓oK_none, ↓oK_map, ↓oK_bind, ↓oK_chk, ↓rK_some, Rho.at, List.getElem?_cons_zero, List.getElem?_cons_succ, Option.getD_some, List.set_cons_zero, List.set_cons_succ, E.quiet, quiets, It.quiet, Bool.and_true, Bool.true_and, Bool.and_false, Bool.false_and, binSem, addSem, biSem, bi1, bi2, lenSem_l, lenSem_t, fz, truth_b, truth_n, truth_i, truth_l, truth_t, partE, sliceSem, revSem, absSem, intSem, seqOf_f, seqOf_l, seqOf_t, listD_l, tupD, isiB, isNone, bindT_name, bindT_tup, bindTs_nil, bindTs_cons, ↓oK_if, T.free, Ts.free, wipeR, noRef, setParR, muSem, mu1, mu0, ownL, List.all_cons, List.all_nil, List.contains_nil, List.map_cons, List.map_nil, List.length_cons, List.length_nil, Option.bind_some, Option.map_some, List.any_cons, List.any_nil, Bool.or_false, Bool.false_or, Bool.not_true, Bool.not_false, List.cons_append, List.nil_append, List.replicate_succ, List.replicate_zero, Nat.sub_self, refsOf, outsOf, reduceCtorEq, if_true, if_false, beq_self_eq_true, String.reduceBEq, and_true, true_and, forall_const, true_implies, false_implies, implies_true, Fl.rt.injEq, Prod.mk.injEq, PyData.bool.injEq, sh_int, sh_bool, sizeLine_eq, Nat.reduceLeDiff, Nat.reduceAdd, Nat.reduceLT, Nat.zero_le, Nat.reduceSub, true_or, or_true, false_or, or_false, and_false, false_and, Bool.false_eq_true, Bool.true_eq_false, not_true_eq_false, not_false_eq_true, exists_eq_left, exists_eq_left', exists_eq_right, exists_eq, Option.some.injEq, decide_true, decide_false, Nat.reduceEqDiff, List.length_map, boolsOf_mapf, all_mapf, any_mapf, small_0', _root_.eq_self, List.headD_cons, List.headD_nil, List.contains_cons, Nat.reduceBEq, Bool.not_false, Bool.or_self, Bool.and_self, ↓w_rest, lt_ii, le_ii, gt_ii, ge_ii, idx_lf, idx_ll, idx_t, hs2])
  refine ⟨⟨none, rfl⟩, ?_, ?_⟩
  · rintro x ρ ⟨s4, rfl⟩
    (try simp only [↓w_var, ↓w_lit, ↓w_cst, ↓w_bin, ↓w_neg, ↓w_cmp, ↓w_cmp2, ↓w_not, ↓w_and, ↓w_or, ↓w_ite, ↓w_truth, ↓w_tup, ↓w_lst, ↓w_idx, ↓w_slice, ↓w_rev, ↓w_bi, ↓w_meth, ↓w_mut, ↓w_evs_nil, ↓w_evs_cons, ↓w_evp_nil, ↓w_evp_cons, ↓w_evm_nil, ↓w_evm_cons, ↓w_seq, ↓w_range, ↓w_enum, ↓w_zip, ↓w_nil, ↓w_consR, ↓w_expr, ↓w_set, ↓w_setT, ↓w_par, ↓w_ret, ↓w_retN, ↓w_retv, ↓w_if, ↓w_pass, ↓w_brk, ↓w_cont, ↓w_turn, ↓varK_f, ↓varK_t, ↓varK_l, ↓varK_g, ↓boolK_t, ↓boolK_f, ↓boolK_b, ↓intK_i, ↓idxK_f, ↓idxK_t, ↓lstK_l, ↓slK_s, ↓seqK_l, ↓seqK_t, ↓liK_l, ↓enumK_l, ↓enumK_t, ↓enumK_s, ↓rgK_i, ↓zipK_l, ↓flK_nx, ↓flK_rt, ↓flK_bk, ↓flK_ct, ↓lpK_nx, ↓lpK_ct, ↓lpK_bk, ↓lpK_rt, ↓oK_some, ↓oK_none, ↓oK_map, ↓oK_bind, ↓oK_chk, ↓rK_some, Rho.at, List.getElem?_cons_zero, List.getElem?_cons_succ, Option.getD_some, List.set_cons_zero, List.set_cons_succ, E.quiet, quiets, It.quiet, Bool.and_true, Bool.true_and, Bool.and_false, Bool.false_and, binSem, addSem, biSem, bi1, bi2, lenSem_l, lenSem_t, fz, truth_b, truth_n, truth_i, truth_l, truth_t, partE, sliceSem, revSem, absSem, intSem, seqOf_f, seqOf_l, seqOf_t, listD_l, tupD, isiB, isNone, bindT_name, bindT_tup, bindTs_nil, bindTs_cons, ↓oK_if, T.free, Ts.free, wipeR, noRef, setParR, muSem, mu1, mu0, ownL, List.all_cons, List.all_nil, List.contains_nil, List.map_cons, List.map_nil, List.length_cons, List.length_nil, Option.bind_some, Option.map_some, List.any_cons, List.any_nil, Bool.or_false, Bool.false_or, Bool.not_true, Bool.not_false, List.cons_append, List.nil_append, List.replicate_succ, List.replicate_zero, Nat.sub_self, refsOf, outsOf, reduceCtorEq, if_true, if_false, beq_self_eq_true, String.reduceBEq, and_true, true_and, forall_const, true_implies, false_implies, implies_true, Fl.rt.injEq, Prod.mk.injEq, PyData.bool.injEq, sh_int, sh_bool, sizeLine_eq, Nat.reduceLeDiff, Nat.reduceAdd, Nat.reduceLT, Nat.zero_le, Nat.reduceSub, true_or, or_true, false_or, or_false, and_false, false_and, Bool.false_eq_true, Bool.true_eq_false, not_true_eq_false, not_false_eq_true, exists_eq_left, exists_eq_left', exists_eq_right, exists_eq, Option.some.injEq, decide_true, decide_false, Nat.reduceEqDiff, List.length_map, boolsOf_mapf, all_mapf, any_mapf, small_0', _root_.eq_self, List.headD_cons, List.headD_nil, List.contains_cons, Nat.reduceBEq, Bool.not_false, Bool.or_self, Bool.and_self, ↓w_rest, lt_ii, le_ii, gt_ii, ge_ii, idx_lf, idx_ll, idx_t, pu_10_0, wc_10_0, pu_10_1, pu_10_3, pu_10_5, wc_10_5, pu_10_8, wc_10_8, wk_10_8, pu_10_9, wc_10_9, wk_10_9, permV_0, rtok, rplc, reT, reP, neT, neP])
    exact ⟨_, rfl⟩
  rintro ρ ⟨s4, rfl⟩
  (try simp only [↓w_var, ↓w_lit, ↓w_cst, ↓w_bin, ↓w_neg, ↓w_cmp, ↓w_cmp2, ↓w_not, ↓w_and, ↓w_or, ↓w_ite, ↓w_truth, ↓w_tup, ↓w_lst, ↓w_idx, ↓w_slice, ↓w_rev, ↓w_bi, ↓w_meth, ↓w_mut, ↓w_evs_nil, ↓w_evs_cons, ↓w_evp_nil, ↓w_evp_cons, ↓w_evm_nil, ↓w_evm_cons, ↓w_seq, ↓w_range, ↓w_enum, ↓w_zip, ↓w_nil, ↓w_consR, ↓w_expr, ↓w_set, ↓w_setT, ↓w_par, ↓w_ret, ↓w_retN, ↓w_retv, ↓w_if, ↓w_pass, ↓w_brk, ↓w_cont, ↓w_turn, ↓varK_f, ↓varK_t, ↓varK_l, ↓varK_g, ↓boolK_t, ↓boolK_f, ↓boolK_b, ↓intK_i, ↓idxK_f, ↓idxK_t, ↓lstK_l, ↓slK_s, ↓seqK_l, ↓seqK_t, ↓liK_l, ↓enumK_l, ↓enumK_t, ↓enumK_s, ↓rgK_i, ↓zipK_l, ↓flK_nx, ↓flK_rt, ↓flK_bk, ↓flK_ct, ↓lpK_nx, ↓lpK_ct, ↓lpK_bk, ↓lpK_rt, ↓oK_some, ↓oK_none, ↓oK_map, ↓oK_bind, ↓oK_chk, ↓rK_some, Rho.at, List.getElem?_cons_zero, List.getElem?_cons_succ, Option.getD_some, List.set_cons_zero, List.set_cons_succ, E.quiet, quiets, It.quiet, Bool.and_true, Bool.true_and, Bool.and_false, Bool.false_and, binSem, addSem, biSem, bi1, bi2, lenSem_l, lenSem_t, fz, truth_b, truth_n, truth_i, truth_l, truth_t, partE, sliceSem, revSem, absSem, intSem, seqOf_f, seqOf_l, seqOf_t, listD_l, tupD, isiB, isNone, bindT_name, bindT_tup, bindTs_nil, bindTs_cons, ↓oK_if, T.free, Ts.free, wipeR, noRef, setParR, muSem, mu1, mu0, ownL, List.all_cons, List.all_nil, List.contains_nil, List.map_cons, List.map_nil, List.length_cons, List.length_nil, Option.bind_some, Option.map_some, List.any_cons, List.any_nil, Bool.or_false, Bool.false_or, Bool.not_true, Bool.not_false, List.cons_append, List.nil_append, List.replicate_succ, List.replicate_zero, Nat.sub_self, refsOf, outsOf, reduceCtorEq, if_true, if_false, beq_self_eq_true, String.reduceBEq, and_true, true_and, forall_const, true_implies, false_implies, implies_true, Fl.rt.injEq, Prod.mk.injEq, PyData.bool.injEq, sh_int, sh_bool, sizeLine_eq, Nat.reduceLeDiff, Nat.reduceAdd, Nat.reduceLT, Nat.zero_le, Nat.reduceSub, true_or, or_true, false_or, or_false, and_false, false_and, Bool.false_eq_true, Bool.true_eq_false, not_true_eq_false, not_false_eq_true, exists_eq_left, exists_eq_left', exists_eq_right, exists_eq, Option.some.injEq, decide_true, decide_false, Nat.reduceEqDiff, List.length_map, boolsOf_mapf, all_mapf, any_mapf, small_0', _root_.eq_self, List.headD_cons, List.headD_nil, List.contains_cons, Nat.reduceBEq, Bool.not_false, Bool.or_self, Bool.and_self, ↓w_rest, lt_ii, le_ii, gt_ii, ge_ii, idx_lf, idx_ll, idx_t])
  rw [Rest]
  have hgood : ∀ t ∈ L.map (·.2), Good5 t := fun t ht => by
    obtain ⟨p, hm, rfl⟩ := List.mem_map.mp ht
    exact hp.good p hm
  have hsum : ((L.map (·.2)).map List.length).sum + (L.map (·.2)).length ≤ 600 := by
    rw [List.map_map, List.length_map]
    have := hlen.1
    have e : (L.map (List.length ∘ fun p => p.2)) = L.map fun p => p.2.length := rfl
    rw [e]
    omega
  have hts : ∀ t ∈ L.map (·.2), Asc t := fun t ht => by
    obtain ⟨p, hm, rfl⟩ := List.mem_map.mp ht
    exact (hL p hm).1
  have etx : (.tuple (L.map fun p => tx p.2) : PyData) = .tuple ((L.map (·.2)).map tx) := by rw [List.map_map]; rfl
  have j1 : meSem .join (tx [32], .f) [(.tuple (L.map fun p => tx p.2), .f)] = some (fz (tx (jn 32 (L.map (·.2))))) := by rw [etx]; exact join_t (by omega) _ _
  have j2 : meSem .join (tx [10], .f) [(.tuple (L.map fun p => tx p.2), .f)] = some (fz (tx (jn 10 (L.map (·.2))))) := by rw [etx]; exact join_t (by omega) _ _
  have p1 := Pk.join (.inl rfl : (32 : Nat) = 32 ∨ (32 : Nat) = 10) (L.map (·.2)) 0 hgood
  have p2 := Pk.join (.inr rfl : (10 : Nat) = 32 ∨ (10 : Nat) = 10) (L.map (·.2)) 0 hgood
  have a1 := jn_asc (sep := 32) (by decide) _ hts
  have a2 := jn_asc (sep := 10) (by decide) _ hts
  have l1 := jn_len 32 (L.map (·.2))
  have l2 := jn_len 10 (L.map (·.2))
  have q1 := r_tokens_of a1 (by omega) p1
  have q2 := r_tokens_of a2 (by omega) p2
  have q3 := r_token_places a1 (by omega) p1
  have etk : ((offs 0 (L.map (·.2))).map fun p => tx p.2) = L.map fun p => tx p.2 := by
    rw [show ((offs 0 (L.map (·.2))).map fun p => tx p.2) = ((offs 0 (L.map (·.2))).map (·.2)).map tx by rw [List.map_map]; rfl, offs_snd, List.map_map]
    rfl
  have epl : ((offs 0 (L.map (·.2))).map fun p => PyData.int ((p.1 : Nat) : Int)) = (List.range L.length).map fun i => .int ((((L.take i).map fun p => p.2.length + 1).sum : Nat) : Int) := by
    rw [show ((offs 0 (L.map (·.2))).map fun p => PyData.int ((p.1 : Nat) : Int)) = ((offs 0 (L.map (·.2))).map (·.1)).map fun n : Nat => PyData.int (n : Int) by rw [List.map_map]; rfl, offs_fst, List.map_map, List.length_map]
    refine List.map_congr_left fun i _ => ?_
    show PyData.int (((0 + (((L.map (·.2)).take i).map fun t => t.length + 1).sum : Nat)) : Int) = _
    rw [Nat.zero_add, ← List.map_take, List.map_map]
    rfl
  have tR := tm_ints (L := offs 0 (L.map (·.2))) (f := fun p => ((p.1 : Nat) : Int)) (fun p hm => by have := (pk_bound p1 a1 (by omega) p hm).2.2; omega) (by have := p1.len.2; omega)
  rw [etk] at q1 q2
  rw [epl] at q3 tR
  (try simp only [↓w_var, ↓w_lit, ↓w_cst, ↓w_bin, ↓w_neg, ↓w_cmp, ↓w_cmp2, ↓w_not, ↓w_and, ↓w_or, ↓w_ite, ↓w_truth, ↓w_tup, ↓w_lst, ↓w_idx, ↓w_slice, ↓w_rev, ↓w_bi, ↓w_meth, ↓w_mut, ↓w_evs_nil, ↓w_evs_cons, ↓w_evp_nil, ↓w_evp_cons, ↓w_evm_nil, ↓w_evm_cons, ↓w_seq, ↓w_range, ↓w_enum, ↓w_zip, ↓w_nil, ↓w_consR, ↓w_expr, ↓w_set, ↓w_setT, ↓w_par, ↓w_ret, ↓w_retN, ↓w_retv, ↓w_if, ↓w_pass, ↓w_brk, ↓w_cont, ↓w_turn, ↓varK_f, ↓varK_t, ↓varK_l, ↓varK_g, ↓boolK_t, ↓boolK_f, ↓boolK_b, ↓intK_i, ↓idxK_f, ↓idxK_t, ↓lstK_l, ↓slK_s, ↓seqK_l, ↓seqK_t, ↓liK_l, ↓enumK_l, ↓enumK_t, ↓enumK_s, ↓rgK_i, ↓zipK_l, ↓flK_nx, ↓flK_rt, ↓flK_bk, ↓flK_ct, ↓lpK_nx, ↓lpK_ct, ↓lpK_bk, ↓lpK_rt, ↓oK_some, ↓oK_none, ↓oK_map, ↓oK_bind, ↓oK_chk, ↓rK_some, Rho.at, List.getElem?_cons_zero, List.getElem?_cons_succ, Option.getD_some, List.set_cons_zero, List.set_cons_succ, E.quiet, quiets, It.quiet, Bool.and_true, Bool.true_and, Bool.and_false, Bool.false_and, binSem, addSem, biSem, bi1, bi2, lenSem_l, lenSem_t, fz, truth_b, truth_n, truth_i, truth_l, truth_t, partE, sliceSem, revSem, absSem, intSem, seqOf_f, seqOf_l, seqOf_t, listD_l, tupD, isiB, isNone, bindT_name, bindT_tup, bindTs_nil, bindTs_cons, ↓oK_if, T.free, Ts.free, wipeR, noRef, setParR, muSem, mu1, mu0, ownL, List.all_cons, List.all_nil, List.contains_nil, List.map_cons, List.map_nil, List.length_cons, List.length_nil, Option.bind_some, Option.map_some, List.any_cons, List.any_nil, Bool.or_false, Bool.false_or, Bool.not_true, Bool.not_false, List.cons_append, List.nil_append, List.replicate_succ, List.replicate_zero, Nat.sub_self, refsOf, outsOf, reduceCtorEq, if_true, if_false, beq_self_eq_true, String.reduceBEq, and_true, true_and, forall_const, true_implies, false_implies, implies_true, Fl.rt.injEq, Prod.mk.injEq, PyData.bool.injEq, sh_int, sh_bool, sizeLine_eq, Nat.reduceLeDiff, Nat.reduceAdd, Nat.reduceLT, Nat.zero_le, Nat.reduceSub, true_or, or_true, false_or, or_false, and_false, false_and, Bool.false_eq_true, Bool.true_eq_false, not_true_eq_false, not_false_eq_true, exists_eq_left, exists_eq_left', exists_eq_right, exists_eq, Option.some.injEq, decide_true, decide_false, Nat.reduceEqDiff, List.length_map, boolsOf_mapf, all_mapf, any_mapf, small_0', _root_.eq_self, List.headD_cons, List.headD_nil, List.contains_cons, Nat.reduceBEq, Bool.not_false, Bool.or_self, Bool.and_self, ↓w_rest, lt_ii, le_ii, gt_ii, ge_ii, idx_lf, idx_ll, idx_t, pu_10_0, wc_10_0, pu_10_1, pu_10_3, pu_10_5, wc_10_5, pu_10_8, wc_10_8, wk_10_8, pu_10_9, wc_10_9, wk_10_9, j1, j2, q1, q2, ne_self tT])
  rw [Rest]
  (try simp only [↓w_var, ↓w_lit, ↓w_cst, ↓w_bin, ↓w_neg, ↓w_cmp, ↓w_cmp2, ↓w_not, ↓w_and, ↓w_or, ↓w_ite, ↓w_truth, ↓w_tup, ↓w_lst, ↓w_idx, ↓w_slice, ↓w_rev, ↓w_bi, ↓w_meth, ↓w_mut, ↓w_evs_nil, ↓w_evs_cons, ↓w_evp_nil, ↓w_evp_cons, ↓w_evm_nil, ↓w_evm_cons, ↓w_seq, ↓w_range, ↓w_enum, ↓w_zip, ↓w_nil, ↓w_consR, ↓w_expr, ↓w_set, ↓w_setT, ↓w_par, ↓w_ret, ↓w_retN, ↓w_retv, ↓w_if, ↓w_pass, ↓w_brk, ↓w_cont, ↓w_turn, ↓varK_f, ↓varK_t, ↓varK_l, ↓varK_g, ↓boolK_t, ↓boolK_f, ↓boolK_b, ↓intK_i, ↓idxK_f, ↓idxK_t, ↓lstK_l, ↓slK_s, ↓seqK_l, ↓seqK_t, ↓liK_l, ↓enumK_l, ↓enumK_t, ↓enumK_s, ↓rgK_i, ↓zipK_l, ↓flK_nx, ↓flK_rt, ↓flK_bk, ↓flK_ct, ↓lpK_nx, ↓lpK_ct, ↓lpK_bk, ↓lpK_rt, ↓oK_some, ↓oK_none, ↓oK_map, ↓oK_bind, ↓oK_chk, ↓rK_some, Rho.at, List.getElem?_cons_zero, List.getElem?_cons_succ, Option.getD_some, List.set_cons_zero, List.set_cons_succ, E.quiet, quiets, It.quiet, Bool.and_true, Bool.true_and, Bool.and_false, Bool.false_and, binSem, addSem, biSem, bi1, bi2, lenSem_l, lenSem_t, fz, truth_b, truth_n, truth_i, truth_l, truth_t, partE, sliceSem, revSem, absSem, intSem, seqOf_f, seqOf_l, seqOf_t, listD_l, tupD, isiB, isNone, bindT_name, bindT_tup, bindTs_nil, bindTs_cons, ↓oK_if, T.free, Ts.free, wipeR, noRef, setParR, muSem, mu1, mu0, ownL, List.all_cons, List.all_nil, List.contains_nil, List.map_cons, List.map_nil, List.length_cons, List.length_nil, Option.bind_some, Option.map_some, List.any_cons, List.any_nil, Bool.or_false, Bool.false_or, Bool.not_true, Bool.not_false, List.cons_append, List.nil_append, List.replicate_succ, List.replicate_zero, Nat.sub_self, refsOf, outsOf, reduceCtorEq, if_true, if_false, beq_self_eq_true, String.reduceBEq, and_true, true_and, forall_const, true_implies, false_implies, implies_true, Fl.rt.injEq, Prod.mk.injEq, PyData.bool.injEq, sh_int, sh_bool, sizeLine_eq, Nat.reduceLeDiff, Nat.reduceAdd, Nat.reduceLT, Nat.zero_le, Nat.reduceSub, true_or, or_true, false_or, or_false, and_false, false_and, Bool.false_eq_true, Bool.true_eq_false, not_true_eq_false, not_false_eq_true, exists_eq_left, exists_eq_left', exists_eq_right, exists_eq, Option.some.injEq, decide_true, decide_false, Nat.reduceEqDiff, List.length_map, boolsOf_mapf, all_mapf, any_mapf, small_0', _root_.eq_self, List.headD_cons, List.headD_nil, List.contains_cons, Nat.reduceBEq, Bool.not_false, Bool.or_self, Bool.and_self, ↓w_rest, lt_ii, le_ii, gt_ii, ge_ii, idx_lf, idx_ll, idx_t, pu_10_0, wc_10_0, pu_10_1, pu_10_3, pu_10_5, wc_10_5, pu_10_8, wc_10_8, wk_10_8, pu_10_9, wc_10_9, wk_10_9, j1, q3])
  refine W.compM (fun j : Nat => .int (j : Int)) (fun i => .int ((((L.take i).map fun p => p.2.length + 1).sum : Nat) : Int)) ?_
  have hsn : small62 (L.length : Int) = true := small_nat' (by omega)
  (try simp only [↓w_var, ↓w_lit, ↓w_cst, ↓w_bin, ↓w_neg, ↓w_cmp, ↓w_cmp2, ↓w_not, ↓w_and, ↓w_or, ↓w_ite, ↓w_truth, ↓w_tup, ↓w_lst, ↓w_idx, ↓w_slice, ↓w_rev, ↓w_bi, ↓w_meth, ↓w_mut, ↓w_evs_nil, ↓w_evs_cons, ↓w_evp_nil, ↓w_evp_cons, ↓w_evm_nil, ↓w_evm_cons, ↓w_seq, ↓w_range, ↓w_enum, ↓w_zip, ↓w_nil, ↓w_consR, ↓w_expr, ↓w_set, ↓w_setT, ↓w_par, ↓w_ret, ↓w_retN, ↓w_retv, ↓w_if, ↓w_pass, ↓w_brk, ↓w_cont, ↓w_turn, ↓varK_f, ↓varK_t, ↓varK_l, ↓varK_g, ↓boolK_t, ↓boolK_f, ↓boolK_b, ↓intK_i, ↓idxK_f, ↓idxK_t, ↓lstK_l, ↓slK_s, ↓seqK_l, ↓seqK_t, ↓liK_l, ↓enumK_l, ↓enumK_t, ↓enumK_s, ↓rgK_i, ↓zipK_l, ↓flK_nx, ↓flK_rt, ↓flK_bk, ↓flK_ct, ↓lpK_nx, ↓lpK_ct, ↓lpK_bk, ↓lpK_rt, ↓oK_some, ↓oK_none, ↓oK_map, ↓oK_bind, ↓oK_chk, ↓rK_some, Rho.at, List.getElem?_cons_zero, List.getElem?_cons_succ, Option.getD_some, List.set_cons_zero, List.set_cons_succ, E.quiet, quiets, It.quiet, Bool.and_true, Bool.true_and, Bool.and_false, Bool.false_and, binSem, addSem, biSem, bi1, bi2, lenSem_l, lenSem_t, fz, truth_b, truth_n, truth_i, truth_l, truth_t, partE, sliceSem, revSem, absSem, intSem, seqOf_f, seqOf_l, seqOf_t, listD_l, tupD, isiB, isNone, bindT_name, bindT_tup, bindTs_nil, bindTs_cons, ↓oK_if, T.free, Ts.free, wipeR, noRef, setParR, muSem, mu1, mu0, ownL, List.all_cons, List.all_nil, List.contains_nil, List.map_cons, List.map_nil, List.length_cons, List.length_nil, Option.bind_some, Option.map_some, List.any_cons, List.any_nil, Bool.or_false, Bool.false_or, Bool.not_true, Bool.not_false, List.cons_append, List.nil_append, List.replicate_succ, List.replicate_zero, Nat.sub_self, refsOf, outsOf, reduceCtorEq, if_true, if_false, beq_self_eq_true, String.reduceBEq, and_true, true_and, forall_const, true_implies, false_implies, implies_true, Fl.rt.injEq, Prod.mk.injEq, PyData.bool.injEq, sh_int, sh_bool, sizeLine_eq, Nat.reduceLeDiff, Nat.reduceAdd, Nat.reduceLT, Nat.zero_le, Nat.reduceSub, true_or, or_true, false_or, or_false, and_false, false_and, Bool.false_eq_true, Bool.true_eq_false, not_true_eq_false, not_false_eq_true, exists_eq_left, exists_eq_left', exists_eq_right, exists_eq, Option.some.injEq, decide_true, decide_false, Nat.reduceEqDiff, List.length_map, boolsOf_mapf, all_mapf, any_mapf, small_0', _root_.eq_self, List.headD_cons, List.headD_nil, List.contains_cons, Nat.reduceBEq, Bool.not_false, Bool.or_self, Bool.and_self, ↓w_rest, lt_ii, le_ii, gt_ii, ge_ii, idx_lf, idx_ll, idx_t, List.length_map, hsn])
  refine ⟨List.range L.length, ?_, by rw [List.length_range]; omega, fun j hj => ?_, ?_⟩
  · rw [Int.sub_zero, Int.toNat_natCast, rg0]
  · (try simp only [↓w_var, ↓w_lit, ↓w_cst, ↓w_bin, ↓w_neg, ↓w_cmp, ↓w_cmp2, ↓w_not, ↓w_and, ↓w_or, ↓w_ite, ↓w_truth, ↓w_tup, ↓w_lst, ↓w_idx, ↓w_slice, ↓w_rev, ↓w_bi, ↓w_meth, ↓w_mut, ↓w_evs_nil, ↓w_evs_cons, ↓w_evp_nil, ↓w_evp_cons, ↓w_evm_nil, ↓w_evm_cons, ↓w_seq, ↓w_range, ↓w_enum, ↓w_zip, ↓w_nil, ↓w_consR, ↓w_expr, ↓w_set, ↓w_setT, ↓w_par, ↓w_ret, ↓w_retN, ↓w_retv, ↓w_if, ↓w_pass, ↓w_brk, ↓w_cont, ↓w_turn, ↓varK_f, ↓varK_t, ↓varK_l, ↓varK_g, ↓boolK_t, ↓boolK_f, ↓boolK_b, ↓intK_i, ↓idxK_f, ↓idxK_t, ↓lstK_l, ↓slK_s, ↓seqK_l, ↓seqK_t, ↓liK_l, ↓enumK_l, ↓enumK_t, ↓enumK_s, ↓rgK_i, ↓zipK_l, ↓flK_nx, ↓flK_rt, ↓flK_bk, ↓flK_ct, ↓lpK_nx, ↓lpK_ct, ↓lpK_bk, ↓lpK_rt, ↓oK_some, ↓oK_none, ↓oK_map, ↓oK_bind, ↓oK_chk, ↓rK_some, Rho.at, List.getElem?_cons_zero, List.getElem?_cons_succ, Option.getD_some, List.set_cons_zero, List.set_cons_succ, E.quiet, quiets, It.quiet, Bool.and_true, Bool.true_and, Bool.and_false, Bool.false_and, binSem, addSem, biSem, bi1, bi2, lenSem_l, lenSem_t, fz, truth_b, truth_n, truth_i, truth_l, truth_t, partE, sliceSem, revSem, absSem, intSem, seqOf_f, seqOf_l, seqOf_t, listD_l, tupD, isiB, isNone, bindT_name, bindT_tup, bindTs_nil, bindTs_cons, ↓oK_if, T.free, Ts.free, wipeR, noRef, setParR, muSem, mu1, mu0, ownL, List.all_cons, List.all_nil, List.contains_nil, List.map_cons, List.map_nil, List.length_cons, List.length_nil, Option.bind_some, Option.map_some, List.any_cons, List.any_nil, Bool.or_false, Bool.false_or, Bool.not_true, Bool.not_false, List.cons_append, List.nil_append, List.replicate_succ, List.replicate_zero, Nat.sub_self, refsOf, outsOf, reduceCtorEq, if_true, if_false, beq_self_eq_true, String.reduceBEq, and_true, true_and, forall_const, true_implies, false_implies, implies_true, Fl.rt.injEq, Prod.mk.injEq, PyData.bool.injEq, sh_int, sh_bool, sizeLine_eq, Nat.reduceLeDiff, Nat.reduceAdd, Nat.reduceLT, Nat.zero_le, Nat.reduceSub, true_or, or_true, false_or, or_false, and_false, false_and, Bool.false_eq_true, Bool.true_eq_false, not_true_eq_false, not_false_eq_true, exists_eq_left, exists_eq_left', exists_eq_right, exists_eq, Option.some.injEq, decide_true, decide_false, Nat.reduceEqDiff, List.length_map, boolsOf_mapf, all_mapf, any_mapf, small_0', _root_.eq_self, List.headD_cons, List.headD_nil, List.contains_cons, Nat.reduceBEq, Bool.not_false, Bool.or_self, Bool.and_self, ↓w_rest, lt_ii, le_ii, gt_ii, ge_ii, idx_lf, idx_ll, idx_t])
    refine W.compM (fun p : Nat × List Nat => tx p.2) (fun p => .int ((p.2.length : Int) + 1)) ?_
    (try simp only [↓w_var, ↓w_lit, ↓w_cst, ↓w_bin, ↓w_neg, ↓w_cmp, ↓w_cmp2, ↓w_not, ↓w_and, ↓w_or, ↓w_ite, ↓w_truth, ↓w_tup, ↓w_lst, ↓w_idx, ↓w_slice, ↓w_rev, ↓w_bi, ↓w_meth, ↓w_mut, ↓w_evs_nil, ↓w_evs_cons, ↓w_evp_nil, ↓w_evp_cons, ↓w_evm_nil, ↓w_evm_cons, ↓w_seq, ↓w_range, ↓w_enum, ↓w_zip, ↓w_nil, ↓w_consR, ↓w_expr, ↓w_set, ↓w_setT, ↓w_par, ↓w_ret, ↓w_retN, ↓w_retv, ↓w_if, ↓w_pass, ↓w_brk, ↓w_cont, ↓w_turn, ↓varK_f, ↓varK_t, ↓varK_l, ↓varK_g, ↓boolK_t, ↓boolK_f, ↓boolK_b, ↓intK_i, ↓idxK_f, ↓idxK_t, ↓lstK_l, ↓slK_s, ↓seqK_l, ↓seqK_t, ↓liK_l, ↓enumK_l, ↓enumK_t, ↓enumK_s, ↓rgK_i, ↓zipK_l, ↓flK_nx, ↓flK_rt, ↓flK_bk, ↓flK_ct, ↓lpK_nx, ↓lpK_ct, ↓lpK_bk, ↓lpK_rt, ↓oK_some, ↓oK_none, ↓oK_map, ↓oK_bind, ↓oK_chk, ↓rK_some, Rho.at, List.getElem?_cons_zero, List.getElem?_cons_succ, Option.getD_some, List.set_cons_zero, List.set_cons_succ, E.quiet, quiets, It.quiet, Bool.and_true, Bool.true_and, Bool.and_false, Bool.false_and, binSem, addSem, biSem, bi1, bi2, lenSem_l, lenSem_t, fz, truth_b, truth_n, truth_i, truth_l, truth_t, partE, sliceSem, revSem, absSem, intSem, seqOf_f, seqOf_l, seqOf_t, listD_l, tupD, isiB, isNone, bindT_name, bindT_tup, bindTs_nil, bindTs_cons, ↓oK_if, T.free, Ts.free, wipeR, noRef, setParR, muSem, mu1, mu0, ownL, List.all_cons, List.all_nil, List.contains_nil, List.map_cons, List.map_nil, List.length_cons, List.length_nil, Option.bind_some, Option.map_some, List.any_cons, List.any_nil, Bool.or_false, Bool.false_or, Bool.not_true, Bool.not_false, List.cons_append, List.nil_append, List.replicate_succ, List.replicate_zero, Nat.sub_self, refsOf, outsOf, reduceCtorEq, if_true, if_false, beq_self_eq_true, String.reduceBEq, and_true, true_and, forall_const, true_implies, false_implies, implies_true, Fl.rt.injEq, Prod.mk.injEq, PyData.bool.injEq, sh_int, sh_bool, sizeLine_eq, Nat.reduceLeDiff, Nat.reduceAdd, Nat.reduceLT, Nat.zero_le, Nat.reduceSub, true_or, or_true, false_or, or_false, and_false, false_and, Bool.false_eq_true, Bool.true_eq_false, not_true_eq_false, not_false_eq_true, exists_eq_left, exists_eq_left', exists_eq_right, exists_eq, Option.some.injEq, decide_true, decide_false, Nat.reduceEqDiff, List.length_map, boolsOf_mapf, all_mapf, any_mapf, small_0', _root_.eq_self, List.headD_cons, List.headD_nil, List.contains_cons, Nat.reduceBEq, Bool.not_false, Bool.or_self, Bool.and_self, ↓w_rest, lt_ii, le_ii, gt_ii, ge_ii, idx_lf, idx_ll, idx_t])
    refine ⟨L.take j, ?_, ?_, fun p hm => ?_, ?_⟩
    · rw [cut_lo, List.map_take]
    · rw [List.length_take]; omega
    · have hlt := len_tx (l := p.2) (by have := (hL p (List.mem_of_mem_take hm)).2.1; omega)
      (try simp only [↓w_var, ↓w_lit, ↓w_cst, ↓w_bin, ↓w_neg, ↓w_cmp, ↓w_cmp2, ↓w_not, ↓w_and, ↓w_or, ↓w_ite, ↓w_truth, ↓w_tup, ↓w_lst, ↓w_idx, ↓w_slice, ↓w_rev, ↓w_bi, ↓w_meth, ↓w_mut, ↓w_evs_nil, ↓w_evs_cons, ↓w_evp_nil, ↓w_evp_cons, ↓w_evm_nil, ↓w_evm_cons, ↓w_seq, ↓w_range, ↓w_enum, ↓w_zip, ↓w_nil, ↓w_consR, ↓w_expr, ↓w_set, ↓w_setT, ↓w_par, ↓w_ret, ↓w_retN, ↓w_retv, ↓w_if, ↓w_pass, ↓w_brk, ↓w_cont, ↓w_turn, ↓varK_f, ↓varK_t, ↓varK_l, ↓varK_g, ↓boolK_t, ↓boolK_f, ↓boolK_b, ↓intK_i, ↓idxK_f, ↓idxK_t, ↓lstK_l, ↓slK_s, ↓seqK_l, ↓seqK_t, ↓liK_l, ↓enumK_l, ↓enumK_t, ↓enumK_s, ↓rgK_i, ↓zipK_l, ↓flK_nx, ↓flK_rt, ↓flK_bk, ↓flK_ct, ↓lpK_nx, ↓lpK_ct, ↓lpK_bk, ↓lpK_rt, ↓oK_some, ↓oK_none, ↓oK_map, ↓oK_bind, ↓oK_chk, ↓rK_some, Rho.at, List.getElem?_cons_zero, List.getElem?_cons_succ, Option.getD_some, List.set_cons_zero, List.set_cons_succ, E.quiet, quiets, It.quiet, Bool.and_true, Bool.true_and, Bool.and_false, Bool.false_and, binSem, addSem, biSem, bi1, bi2, lenSem_l, lenSem_t, fz, truth_b, truth_n, truth_i, truth_l, truth_t, partE, sliceSem, revSem, absSem, intSem, seqOf_f, seqOf_l, seqOf_t, listD_l, tupD, isiB, isNone, bindT_name, bindT_tup, bindTs_nil, bindTs_cons, ↓oK_if, T.free, Ts.free, wipeR, noRef, setParR, muSem, mu1, mu0, ownL, List.all_cons, List.all_nil, List.contains_nil, List.map_cons, List.map_nil, List.length_cons, List.length_nil, Option.bind_some, Option.map_some, List.any_cons, List.any_nil, Bool.or_false, Bool.false_or, Bool.not_true, Bool.not_false, List.cons_append, List.nil_append, List.replicate_succ, List.replicate_zero, Nat.sub_self, refsOf, outsOf, reduceCtorEq, if_true, if_false, beq_self_eq_true, String.reduceBEq, and_true, true_and, forall_const, true_implies, false_implies, implies_true, Fl.rt.injEq, Prod.mk.injEq, PyData.bool.injEq, sh_int, sh_bool, sizeLine_eq, Nat.reduceLeDiff, Nat.reduceAdd, Nat.reduceLT, Nat.zero_le, Nat.reduceSub, true_or, or_true, false_or, or_false, and_false, false_and, Bool.false_eq_true, Bool.true_eq_false, not_true_eq_false, not_false_eq_true, exists_eq_left, exists_eq_left', exists_eq_right, exists_eq, Option.some.injEq, decide_true, decide_false, Nat.reduceEqDiff, List.length_map, boolsOf_mapf, all_mapf, any_mapf, small_0', _root_.eq_self, List.headD_cons, List.headD_nil, List.contains_cons, Nat.reduceBEq, Bool.not_false, Bool.or_self, Bool.and_self, ↓w_rest, lt_ii, le_ii, gt_ii, ge_ii, idx_lf, idx_ll, idx_t, hlt])
    · (try simp only [↓w_var, ↓w_lit, ↓w_cst, ↓w_bin, ↓w_neg, ↓w_cmp, ↓w_cmp2, ↓w_not, ↓w_and, ↓w_or, ↓w_ite, ↓w_truth, ↓w_tup, ↓w_lst, ↓w_idx, ↓w_slice, ↓w_rev, ↓w_bi, ↓w_meth, ↓w_mut, ↓w_evs_nil, ↓w_evs_cons, ↓w_evp_nil, ↓w_evp_cons, ↓w_evm_nil, ↓w_evm_cons, ↓w_seq, ↓w_range, ↓w_enum, ↓w_zip, ↓w_nil, ↓w_consR, ↓w_expr, ↓w_set, ↓w_setT, ↓w_par, ↓w_ret, ↓w_retN, ↓w_retv, ↓w_if, ↓w_pass, ↓w_brk, ↓w_cont, ↓w_turn, ↓varK_f, ↓varK_t, ↓varK_l, ↓varK_g, ↓boolK_t, ↓boolK_f, ↓boolK_b, ↓intK_i, ↓idxK_f, ↓idxK_t, ↓lstK_l, ↓slK_s, ↓seqK_l, ↓seqK_t, ↓liK_l, ↓enumK_l, ↓enumK_t, ↓enumK_s, ↓rgK_i, ↓zipK_l, ↓flK_nx, ↓flK_rt, ↓flK_bk, ↓flK_ct, ↓lpK_nx, ↓lpK_ct, ↓lpK_bk, ↓lpK_rt, ↓oK_some, ↓oK_none, ↓oK_map, ↓oK_bind, ↓oK_chk, ↓rK_some, Rho.at, List.getElem?_cons_zero, List.getElem?_cons_succ, Option.getD_some, List.set_cons_zero, List.set_cons_succ, E.quiet, quiets, It.quiet, Bool.and_true, Bool.true_and, Bool.and_false, Bool.false_and, binSem, addSem, biSem, bi1, bi2, lenSem_l, lenSem_t, fz, truth_b, truth_n, truth_i, truth_l, truth_t, partE, sliceSem, revSem, absSem, intSem, seqOf_f, seqOf_l, seqOf_t, listD_l, tupD, isiB, isNone, bindT_name, bindT_tup, bindTs_nil, bindTs_cons, ↓oK_if, T.free, Ts.free, wipeR, noRef, setParR, muSem, mu1, mu0, ownL, List.all_cons, List.all_nil, List.contains_nil, List.map_cons, List.map_nil, List.length_cons, List.length_nil, Option.bind_some, Option.map_some, List.any_cons, List.any_nil, Bool.or_false, Bool.false_or, Bool.not_true, Bool.not_false, List.cons_append, List.nil_append, List.replicate_succ, List.replicate_zero, Nat.sub_self, refsOf, outsOf, reduceCtorEq, if_true, if_false, beq_self_eq_true, String.reduceBEq, and_true, true_and, forall_const, true_implies, false_implies, implies_true, Fl.rt.injEq, Prod.mk.injEq, PyData.bool.injEq, sh_int, sh_bool, sizeLine_eq, Nat.reduceLeDiff, Nat.reduceAdd, Nat.reduceLT, Nat.zero_le, Nat.reduceSub, true_or, or_true, false_or, or_false, and_false, false_and, Bool.false_eq_true, Bool.true_eq_false, not_true_eq_false, not_false_eq_true, exists_eq_left, exists_eq_left', exists_eq_right, exists_eq, Option.some.injEq, decide_true, decide_false, Nat.reduceEqDiff, List.length_map, boolsOf_mapf, all_mapf, any_mapf, small_0', _root_.eq_self, List.headD_cons, List.headD_nil, List.contains_cons, Nat.reduceBEq, Bool.not_false, Bool.or_self, Bool.and_self, ↓w_rest, lt_ii, le_ii, gt_ii, ge_ii, idx_lf, idx_ll, idx_t, intsOf_mapf, sum_cast])
  (try simp only [↓w_var, ↓w_lit, ↓w_cst, ↓w_bin, ↓w_neg, ↓w_cmp, ↓w_cmp2, ↓w_not, ↓w_and, ↓w_or, ↓w_ite, ↓w_truth, ↓w_tup, ↓w_lst, ↓w_idx, ↓w_slice, ↓w_rev, ↓w_bi, ↓w_meth, ↓w_mut, ↓w_evs_nil, ↓w_evs_cons, ↓w_evp_nil, ↓w_evp_cons, ↓w_evm_nil, ↓w_evm_cons, ↓w_seq, ↓w_range, ↓w_enum, ↓w_zip, ↓w_nil, ↓w_consR, ↓w_expr, ↓w_set, ↓w_setT, ↓w_par, ↓w_ret, ↓w_retN, ↓w_retv, ↓w_if, ↓w_pass, ↓w_brk, ↓w_cont, ↓w_turn, ↓varK_f, ↓varK_t, ↓varK_l, ↓varK_g, ↓boolK_t, ↓boolK_f, ↓boolK_b, ↓intK_i, ↓idxK_f, ↓idxK_t, ↓lstK_l, ↓slK_s, ↓seqK_l, ↓seqK_t, ↓liK_l, ↓enumK_l, ↓enumK_t, ↓enumK_s, ↓rgK_i, ↓zipK_l, ↓flK_nx, ↓flK_rt, ↓flK_bk, ↓flK_ct, ↓lpK_nx, ↓lpK_ct, ↓lpK_bk, ↓lpK_rt, ↓oK_some, ↓oK_none, ↓oK_map, ↓oK_bind, ↓oK_chk, ↓rK_some, Rho.at, List.getElem?_cons_zero, List.getElem?_cons_succ, Option.getD_some, List.set_cons_zero, List.set_cons_succ, E.quiet, quiets, It.quiet, Bool.and_true, Bool.true_and, Bool.and_false, Bool.false_and, binSem, addSem, biSem, bi1, bi2, lenSem_l, lenSem_t, fz, truth_b, truth_n, truth_i, truth_l, truth_t, partE, sliceSem, revSem, absSem, intSem, seqOf_f, seqOf_l, seqOf_t, listD_l, tupD, isiB, isNone, bindT_name, bindT_tup, bindTs_nil, bindTs_cons, ↓oK_if, T.free, Ts.free, wipeR, noRef, setParR, muSem, mu1, mu0, ownL, List.all_cons, List.all_nil, List.contains_nil, List.map_cons, List.map_nil, List.length_cons, List.length_nil, Option.bind_some, Option.map_some, List.any_cons, List.any_nil, Bool.or_false, Bool.false_or, Bool.not_true, Bool.not_false, List.cons_append, List.nil_append, List.replicate_succ, List.replicate_zero, Nat.sub_self, refsOf, outsOf, reduceCtorEq, if_true, if_false, beq_self_eq_true, String.reduceBEq, and_true, true_and, forall_const, true_implies, false_implies, implies_true, Fl.rt.injEq, Prod.mk.injEq, PyData.bool.injEq, sh_int, sh_bool, sizeLine_eq, Nat.reduceLeDiff, Nat.reduceAdd, Nat.reduceLT, Nat.zero_le, Nat.reduceSub, true_or, or_true, false_or, or_false, and_false, false_and, Bool.false_eq_true, Bool.true_eq_false, not_true_eq_false, not_false_eq_true, exists_eq_left, exists_eq_left', exists_eq_right, exists_eq, Option.some.injEq, decide_true, decide_false, Nat.reduceEqDiff, List.length_map, boolsOf_mapf, all_mapf, any_mapf, small_0', _root_.eq_self, List.headD_cons, List.headD_nil, List.contains_cons, Nat.reduceBEq, Bool.not_false, Bool.or_self, Bool.and_self, ↓w_rest, lt_ii, le_ii, gt_ii, ge_ii, idx_lf, idx_ll, idx_t, ne_self tR])
  rw [Rest]
  have f1 : (c_tokens_of).run (Phi_9 rounds) [(tx [], .f)] = some ((.tuple [], .f), [none]) := r_tokens_of Asc.nil (Nat.zero_le _) (Pk.nil rfl)
  have f2 : (c_token_places).run (Phi_8 rounds) [(tx [35, 32, 97], .f)] = some ((.tuple [], .f), [none]) := r_token_places (by unfold Asc; decide) (by decide) (Pk.nil (by decide))
  have nE := ne_empty (tm_due hL (by omega))
  have last : ∀ ρ : Rho, Rest (Phi_10 rounds) [] [.ret (.and_ (.cmp .eq (.call 9 [.lit (tx [])]) (.tup [])) (.cmp .eq (.call 8 [.lit (tx [35, 32, 97])]) (.tup [])))] (fun f ρ => f = Fl.rt (PyData.bool true, O.f)) ρ := fun ρ => by
    rw [Rest]
    (try simp only [↓w_var, ↓w_lit, ↓w_cst, ↓w_bin, ↓w_neg, ↓w_cmp, ↓w_cmp2, ↓w_not, ↓w_and, ↓w_or, ↓w_ite, ↓w_truth, ↓w_tup, ↓w_lst, ↓w_idx, ↓w_slice, ↓w_rev, ↓w_bi, ↓w_meth, ↓w_mut, ↓w_evs_nil, ↓w_evs_cons, ↓w_evp_nil, ↓w_evp_cons, ↓w_evm_nil, ↓w_evm_cons, ↓w_seq, ↓w_range, ↓w_enum, ↓w_zip, ↓w_nil, ↓w_consR, ↓w_expr, ↓w_set, ↓w_setT, ↓w_par, ↓w_ret, ↓w_retN, ↓w_retv, ↓w_if, ↓w_pass, ↓w_brk, ↓w_cont, ↓w_turn, ↓varK_f, ↓varK_t, ↓varK_l, ↓varK_g, ↓boolK_t, ↓boolK_f, ↓boolK_b, ↓intK_i, ↓idxK_f, ↓idxK_t, ↓lstK_l, ↓slK_s, ↓seqK_l, ↓seqK_t, ↓liK_l, ↓enumK_l, ↓enumK_t, ↓enumK_s, ↓rgK_i, ↓zipK_l, ↓flK_nx, ↓flK_rt, ↓flK_bk, ↓flK_ct, ↓lpK_nx, ↓lpK_ct, ↓lpK_bk, ↓lpK_rt, ↓oK_some, ↓oK_none, ↓oK_map, ↓oK_bind, ↓oK_chk, ↓rK_some, Rho.at, List.getElem?_cons_zero, List.getElem?_cons_succ, Option.getD_some, List.set_cons_zero, List.set_cons_succ, E.quiet, quiets, It.quiet, Bool.and_true, Bool.true_and, Bool.and_false, Bool.false_and, binSem, addSem, biSem, bi1, bi2, lenSem_l, lenSem_t, fz, truth_b, truth_n, truth_i, truth_l, truth_t, partE, sliceSem, revSem, absSem, intSem, seqOf_f, seqOf_l, seqOf_t, listD_l, tupD, isiB, isNone, bindT_name, bindT_tup, bindTs_nil, bindTs_cons, ↓oK_if, T.free, Ts.free, wipeR, noRef, setParR, muSem, mu1, mu0, ownL, List.all_cons, List.all_nil, List.contains_nil, List.map_cons, List.map_nil, List.length_cons, List.length_nil, Option.bind_some, Option.map_some, List.any_cons, List.any_nil, Bool.or_false, Bool.false_or, Bool.not_true, Bool.not_false, List.cons_append, List.nil_append, List.replicate_succ, List.replicate_zero, Nat.sub_self, refsOf, outsOf, reduceCtorEq, if_true, if_false, beq_self_eq_true, String.reduceBEq, and_true, true_and, forall_const, true_implies, false_implies, implies_true, Fl.rt.injEq, Prod.mk.injEq, PyData.bool.injEq, sh_int, sh_bool, sizeLine_eq, Nat.reduceLeDiff, Nat.reduceAdd, Nat.reduceLT, Nat.zero_le, Nat.reduceSub, true_or, or_true, false_or, or_false, and_false, false_and, Bool.false_eq_true, Bool.true_eq_false, not_true_eq_false, not_false_eq_true, exists_eq_left, exists_eq_left', exists_eq_right, exists_eq, Option.some.injEq, decide_true, decide_false, Nat.reduceEqDiff, List.length_map, boolsOf_mapf, all_mapf, any_mapf, small_0', _root_.eq_self, List.headD_cons, List.headD_nil, List.contains_cons, Nat.reduceBEq, Bool.not_false, Bool.or_self, Bool.and_self, ↓w_rest, lt_ii, le_ii, gt_ii, ge_ii, idx_lf, idx_ll, idx_t, pu_10_0, wc_10_0, pu_10_1, pu_10_3, pu_10_5, wc_10_5, pu_10_8, wc_10_8, wk_10_8, pu_10_9, wc_10_9, wk_10_9, f1, f2, Ev.eq_self tm_nil])
  cases hLe : L.isEmpty with
  | true =>
    (try simp only [↓w_var, ↓w_lit, ↓w_cst, ↓w_bin, ↓w_neg, ↓w_cmp, ↓w_cmp2, ↓w_not, ↓w_and, ↓w_or, ↓w_ite, ↓w_truth, ↓w_tup, ↓w_lst, ↓w_idx, ↓w_slice, ↓w_rev, ↓w_bi, ↓w_meth, ↓w_mut, ↓w_evs_nil, ↓w_evs_cons, ↓w_evp_nil, ↓w_evp_cons, ↓w_evm_nil, ↓w_evm_cons, ↓w_seq, ↓w_range, ↓w_enum, ↓w_zip, ↓w_nil, ↓w_consR, ↓w_expr, ↓w_set, ↓w_setT, ↓w_par, ↓w_ret, ↓w_retN, ↓w_retv, ↓w_if, ↓w_pass, ↓w_brk, ↓w_cont, ↓w_turn, ↓varK_f, ↓varK_t, ↓varK_l, ↓varK_g, ↓boolK_t, ↓boolK_f, ↓boolK_b, ↓intK_i, ↓idxK_f, ↓idxK_t, ↓lstK_l, ↓slK_s, ↓seqK_l, ↓seqK_t, ↓liK_l, ↓enumK_l, ↓enumK_t, ↓enumK_s, ↓rgK_i, ↓zipK_l, ↓flK_nx, ↓flK_rt, ↓flK_bk, ↓flK_ct, ↓lpK_nx, ↓lpK_ct, ↓lpK_bk, ↓lpK_rt, ↓oK_some, ↓oK_none, ↓oK_map, ↓oK_bind, ↓oK_chk, ↓rK_some, Rho.at, List.getElem?_cons_zero, List.getElem?_cons_succ, Option.getD_some, List.set_cons_zero, List.set_cons_succ, E.quiet, quiets, It.quiet, Bool.and_true, Bool.true_and, Bool.and_false, Bool.false_and, binSem, addSem, biSem, bi1, bi2, lenSem_l, lenSem_t, fz, truth_b, truth_n, truth_i, truth_l, truth_t, partE, sliceSem, revSem, absSem, intSem, seqOf_f, seqOf_l, seqOf_t, listD_l, tupD, isiB, isNone, bindT_name, bindT_tup, bindTs_nil, bindTs_cons, ↓oK_if, T.free, Ts.free, wipeR, noRef, setParR, muSem, mu1, mu0, ownL, List.all_cons, List.all_nil, List.contains_nil, List.map_cons, List.map_nil, List.length_cons, List.length_nil, Option.bind_some, Option.map_some, List.any_cons, List.any_nil, Bool.or_false, Bool.false_or, Bool.not_true, Bool.not_false, List.cons_append, List.nil_append, List.replicate_succ, List.replicate_zero, Nat.sub_self, refsOf, outsOf, reduceCtorEq, if_true, if_false, beq_self_eq_true, String.reduceBEq, and_true, true_and, forall_const, true_implies, false_implies, implies_true, Fl.rt.injEq, Prod.mk.injEq, PyData.bool.injEq, sh_int, sh_bool, sizeLine_eq, Nat.reduceLeDiff, Nat.reduceAdd, Nat.reduceLT, Nat.zero_le, Nat.reduceSub, true_or, or_true, false_or, or_false, and_false, false_and, Bool.false_eq_true, Bool.true_eq_false, not_true_eq_false, not_false_eq_true, exists_eq_left, exists_eq_left', exists_eq_right, exists_eq, Option.some.injEq, decide_true, decide_false, Nat.reduceEqDiff, List.length_map, boolsOf_mapf, all_mapf, any_mapf, small_0', _root_.eq_self, List.headD_cons, List.headD_nil, List.contains_cons, Nat.reduceBEq, Bool.not_false, Bool.or_self, Bool.and_self, ↓w_rest, lt_ii, le_ii, gt_ii, ge_ii, idx_lf, idx_ll, idx_t, nE, hLe])
    exact last _
  | false =>
    have hL0 : 0 < L.length := List.length_pos_iff.mpr (by rintro rfl; cases hLe)
    have hany : HasAny (Phi_10 rounds) 1 := any_ok fn_10_1
    (try simp only [↓w_var, ↓w_lit, ↓w_cst, ↓w_bin, ↓w_neg, ↓w_cmp, ↓w_cmp2, ↓w_not, ↓w_and, ↓w_or, ↓w_ite, ↓w_truth, ↓w_tup, ↓w_lst, ↓w_idx, ↓w_slice, ↓w_rev, ↓w_bi, ↓w_meth, ↓w_mut, ↓w_evs_nil, ↓w_evs_cons, ↓w_evp_nil, ↓w_evp_cons, ↓w_evm_nil, ↓w_evm_cons, ↓w_seq, ↓w_range, ↓w_enum, ↓w_zip, ↓w_nil, ↓w_consR, ↓w_expr, ↓w_set, ↓w_setT, ↓w_par, ↓w_ret, ↓w_retN, ↓w_retv, ↓w_if, ↓w_pass, ↓w_brk, ↓w_cont, ↓w_turn, ↓varK_f, ↓varK_t, ↓varK_l, ↓varK_g, ↓boolK_t, ↓boolK_f, ↓boolK_b, ↓intK_i, ↓idxK_f, ↓idxK_t, ↓lstK_l, ↓slK_s, ↓seqK_l, ↓seqK_t, ↓liK_l, ↓enumK_l, ↓enumK_t, ↓enumK_s, ↓rgK_i, ↓zipK_l, ↓flK_nx, ↓flK_rt, ↓flK_bk, ↓flK_ct, ↓lpK_nx, ↓lpK_ct, ↓lpK_bk, ↓lpK_rt, ↓oK_some, ↓oK_none, ↓oK_map, ↓oK_bind, ↓oK_chk, ↓rK_some, Rho.at, List.getElem?_cons_zero, List.getElem?_cons_succ, Option.getD_some, List.set_cons_zero, List.set_cons_succ, E.quiet, quiets, It.quiet, Bool.and_true, Bool.true_and, Bool.and_false, Bool.false_and, binSem, addSem, biSem, bi1, bi2, lenSem_l, lenSem_t, fz, truth_b, truth_n, truth_i, truth_l, truth_t, partE, sliceSem, revSem, absSem, intSem, seqOf_f, seqOf_l, seqOf_t, listD_l, tupD, isiB, isNone, bindT_name, bindT_tup, bindTs_nil, bindTs_cons, ↓oK_if, T.free, Ts.free, wipeR, noRef, setParR, muSem, mu1, mu0, ownL, List.all_cons, List.all_nil, List.contains_nil, List.map_cons, List.map_nil, List.length_cons, List.length_nil, Option.bind_some, Option.map_some, List.any_cons, List.any_nil, Bool.or_false, Bool.false_or, Bool.not_true, Bool.not_false, List.cons_append, List.nil_append, List.replicate_succ, List.replicate_zero, Nat.sub_self, refsOf, outsOf, reduceCtorEq, if_true, if_false, beq_self_eq_true, String.reduceBEq, and_true, true_and, forall_const, true_implies, false_implies, implies_true, Fl.rt.injEq, Prod.mk.injEq, PyData.bool.injEq, sh_int, sh_bool, sizeLine_eq, Nat.reduceLeDiff, Nat.reduceAdd, Nat.reduceLT, Nat.zero_le, Nat.reduceSub, true_or, or_true, false_or, or_false, and_false, false_and, Bool.false_eq_true, Bool.true_eq_false, not_true_eq_false, not_false_eq_true, exists_eq_left, exists_eq_left', exists_eq_right, exists_eq, Option.some.injEq, decide_true, decide_false, Nat.reduceEqDiff, List.length_map, boolsOf_mapf, all_mapf, any_mapf, small_0', _root_.eq_self, List.headD_cons, List.headD_nil, List.contains_cons, Nat.reduceBEq, Bool.not_false, Bool.or_self, Bool.and_self, ↓w_rest, lt_ii, le_ii, gt_ii, ge_ii, idx_lf, idx_ll, idx_t, nE, hLe])
    refine W.dr hany rfl g1 ?_
    (try simp only [↓w_var, ↓w_lit, ↓w_cst, ↓w_bin, ↓w_neg, ↓w_cmp, ↓w_cmp2, ↓w_not, ↓w_and, ↓w_or, ↓w_ite, ↓w_truth, ↓w_tup, ↓w_lst, ↓w_idx, ↓w_slice, ↓w_rev, ↓w_bi, ↓w_meth, ↓w_mut, ↓w_evs_nil, ↓w_evs_cons, ↓w_evp_nil, ↓w_evp_cons, ↓w_evm_nil, ↓w_evm_cons, ↓w_seq, ↓w_range, ↓w_enum, ↓w_zip, ↓w_nil, ↓w_consR, ↓w_expr, ↓w_set, ↓w_setT, ↓w_par, ↓w_ret, ↓w_retN, ↓w_retv, ↓w_if, ↓w_pass, ↓w_brk, ↓w_cont, ↓w_turn, ↓varK_f, ↓varK_t, ↓varK_l, ↓varK_g, ↓boolK_t, ↓boolK_f, ↓boolK_b, ↓intK_i, ↓idxK_f, ↓idxK_t, ↓lstK_l, ↓slK_s, ↓seqK_l, ↓seqK_t, ↓liK_l, ↓enumK_l, ↓enumK_t, ↓enumK_s, ↓rgK_i, ↓zipK_l, ↓flK_nx, ↓flK_rt, ↓flK_bk, ↓flK_ct, ↓lpK_nx, ↓lpK_ct, ↓lpK_bk, ↓lpK_rt, ↓oK_some, ↓oK_none, ↓oK_map, ↓oK_bind, ↓oK_chk, ↓rK_some, Rho.at, List.getElem?_cons_zero, List.getElem?_cons_succ, Option.getD_some, List.set_cons_zero, List.set_cons_succ, E.quiet, quiets, It.quiet, Bool.and_true, Bool.true_and, Bool.and_false, Bool.false_and, binSem, addSem, biSem, bi1, bi2, lenSem_l, lenSem_t, fz, truth_b, truth_n, truth_i, truth_l, truth_t, partE, sliceSem, revSem, absSem, intSem, seqOf_f, seqOf_l, seqOf_t, listD_l, tupD, isiB, isNone, bindT_name, bindT_tup, bindTs_nil, bindTs_cons, ↓oK_if, T.free, Ts.free, wipeR, noRef, setParR, muSem, mu1, mu0, ownL, List.all_cons, List.all_nil, List.contains_nil, List.map_cons, List.map_nil, List.length_cons, List.length_nil, Option.bind_some, Option.map_some, List.any_cons, List.any_nil, Bool.or_false, Bool.false_or, Bool.not_true, Bool.not_false, List.cons_append, List.nil_append, List.replicate_succ, List.replicate_zero, Nat.sub_self, refsOf, outsOf, reduceCtorEq, if_true, if_false, beq_self_eq_true, String.reduceBEq, and_true, true_and, forall_const, true_implies, false_implies, implies_true, Fl.rt.injEq, Prod.mk.injEq, PyData.bool.injEq, sh_int, sh_bool, sizeLine_eq, Nat.reduceLeDiff, Nat.reduceAdd, Nat.reduceLT, Nat.zero_le, Nat.reduceSub, true_or, or_true, false_or, or_false, and_false, false_and, Bool.false_eq_true, Bool.true_eq_false, not_true_eq_false, not_false_eq_true, exists_eq_left, exists_eq_left', exists_eq_right, exists_eq, Option.some.injEq, decide_true, decide_false, Nat.reduceEqDiff, List.length_map, boolsOf_mapf, all_mapf, any_mapf, small_0', _root_.eq_self, List.headD_cons, List.headD_nil, List.contains_cons, Nat.reduceBEq, Bool.not_false, Bool.or_self, Bool.and_self, ↓w_rest, lt_ii, le_ii, gt_ii, ge_ii, idx_lf, idx_ll, idx_t, List.length_map])
    refine ⟨⟨by omega, by omega⟩, fun v ns2 n2 v0 v1 g2 => ?_⟩
    obtain ⟨j, rfl⟩ : ∃ j : Nat, v = (j : Int) := ⟨v.toNat, by omega⟩
    have hj : j < L.length := by omega
    obtain ⟨⟨o, t⟩, hot⟩ : ∃ p, L[j] = p := ⟨_, rfl⟩
    have hgj : L[j]? = some (o, t) := by rw [List.getElem?_eq_getElem hj, hot]
    have hmj : (o, t) ∈ L := by rw [← hot]; exact List.getElem_mem hj
    have ha : atI (L.map enc5) (j : Int) = some (enc5 (o, t)) := atI_nat (by rw [List.getElem?_map, hgj]; rfl)
    obtain ⟨e, he, hes, _, pm⟩ := hp.more ins_sk ⟨_, rfl⟩ j (o, t) hgj
    have he : o + t.length = 0 + e := he
    have hlt := len_tx (l := t) (by have := (hL _ hmj).2.1; omega)
    have sl1 : sliceSem (tx s, .f) none (some ((o : Int) + (t.length : Int))) = some (fz (tx (s.take e))) := by
      rw [show ((o : Int) + (t.length : Int)) = ((e : Nat) : Int) by omega]
      exact slice_to (by omega) e .f
    have sl2 : sliceSem (tx s, .f) (some ((o : Int) + (t.length : Int))) none = some (fz (tx (s.drop e))) := by
      rw [show ((o : Int) + (t.length : Int)) = ((e : Nat) : Int) by omega]
      exact slice_fr (by omega) e .f
    have hle : (s.take e).length ≤ 299 := by rw [List.length_take]; omega
    have hld : (s.drop e).length ≤ 299 := by rw [List.length_drop]; omega
    have ad1 : addSem (tx (s.take e), .f) (tx [35, 32, 45, 62, 32, 51, 32, 59, 32, 120, 10], .f) = some (fz (tx (s.take e ++ insL))) := add_tx (by simp at hle ⊢; omega) _ _
    have hl3 : (s.take e ++ insL).length ≤ 310 := by rw [List.length_append]; have : insL.length = 11 := rfl; omega
    have ad2 : addSem (tx (s.take e ++ insL), .f) (tx (s.drop e), .f) = some (fz (tx (s.take e ++ (insL ++ s.drop e)))) := by
      rw [← List.append_assoc]
      exact add_tx (by omega) _ _
    have am : Asc (s.take e ++ (insL ++ s.drop e)) := (hs.take e).app (asc_ins.app (hs.drop e))
    have lm : (s.take e ++ (insL ++ s.drop e)).length ≤ 620 := by
      rw [← List.append_assoc, List.length_append]
      omega
    have m1 := r_tokens_of am (by omega) pm
    have m2 := r_token_places am (by omega) pm
    have em1 : ((L.take (j + 1) ++ (L.drop (j + 1)).map fun p => (p.1 + insL.length, p.2)).map fun p => tx p.2) = L.map fun p => tx p.2 := by
      rw [List.map_append, List.map_map]
      show (L.take (j + 1)).map (fun p => tx p.2) ++ (L.drop (j + 1)).map (fun p => tx p.2) = _
      rw [← List.map_append, List.take_append_drop]
    have em2 : ((L.take (j + 1) ++ (L.drop (j + 1)).map fun p => (p.1 + insL.length, p.2)).map fun p => PyData.int ((p.1 : Nat) : Int)).drop (j + 1) = (L.drop (j + 1)).map fun p => PyData.int (((p.1 : Nat) : Int) + 11) := by
      rw [List.map_append, List.map_map, List.drop_left' (by rw [List.length_map, List.length_take]; omega)]
      refine List.map_congr_left fun p _ => ?_
      show PyData.int ((p.1 + 11 : Nat) : Int) = _
      rw [Int.natCast_add]
      rfl
    have tM := tm_ints (L := L.drop (j + 1)) (f := fun p => ((p.1 : Nat) : Int) + 11) (fun p hm => by
      have h2 := (pk_bound pm am (by omega) (p.1 + 11, p.2) (List.mem_append_right _ (List.mem_map.mpr ⟨p, hm, rfl⟩))).2.2
      have h2 : p.1 + 11 ≤ 10000 := h2
      omega) (by rw [List.length_drop]; omega)
    rw [em1] at m1
    have cj : ∀ ds : List PyData, cutD ds (some ((j : Int) + 1)) none = ds.drop (j + 1) := fun ds => cut_hi ds (j + 1)
    rw [Rest]
    (try simp only [↓w_var, ↓w_lit, ↓w_cst, ↓w_bin, ↓w_neg, ↓w_cmp, ↓w_cmp2, ↓w_not, ↓w_and, ↓w_or, ↓w_ite, ↓w_truth, ↓w_tup, ↓w_lst, ↓w_idx, ↓w_slice, ↓w_rev, ↓w_bi, ↓w_meth, ↓w_mut, ↓w_evs_nil, ↓w_evs_cons, ↓w_evp_nil, ↓w_evp_cons, ↓w_evm_nil, ↓w_evm_cons, ↓w_seq, ↓w_range, ↓w_enum, ↓w_zip, ↓w_nil, ↓w_consR, ↓w_expr, ↓w_set, ↓w_setT, ↓w_par, ↓w_ret, ↓w_retN, ↓w_retv, ↓w_if, ↓w_pass, ↓w_brk, ↓w_cont, ↓w_turn, ↓varK_f, ↓varK_t, ↓varK_l, ↓varK_g, ↓boolK_t, ↓boolK_f, ↓boolK_b, ↓intK_i, ↓idxK_f, ↓idxK_t, ↓lstK_l, ↓slK_s, ↓seqK_l, ↓seqK_t, ↓liK_l, ↓enumK_l, ↓enumK_t, ↓enumK_s, ↓rgK_i, ↓zipK_l, ↓flK_nx, ↓flK_rt, ↓flK_bk, ↓flK_ct, ↓lpK_nx, ↓lpK_ct, ↓lpK_bk, ↓lpK_rt, ↓oK_some, ↓oK_none, ↓oK_map, ↓oK_bind, ↓oK_chk, ↓rK_some, Rho.at, List.getElem?_cons_zero, List.getElem?_cons_succ, Option.getD_some, List.set_cons_zero, List.set_cons_succ, E.quiet, quiets, It.quiet, Bool.and_true, Bool.true_and, Bool.and_false, Bool.false_and, binSem, addSem, biSem, bi1, bi2, lenSem_l, lenSem_t, fz, truth_b, truth_n, truth_i, truth_l, truth_t, partE, sliceSem, revSem, absSem, intSem, seqOf_f, seqOf_l, seqOf_t, listD_l, tupD, isiB, isNone, bindT_name, bindT_tup, bindTs_nil, bindTs_cons, ↓oK_if, T.free, Ts.free, wipeR, noRef, setParR, muSem, mu1, mu0, ownL, List.all_cons, List.all_nil, List.contains_nil, List.map_cons, List.map_nil, List.length_cons, List.length_nil, Option.bind_some, Option.map_some, List.any_cons, List.any_nil, Bool.or_false, Bool.false_or, Bool.not_true, Bool.not_false, List.cons_append, List.nil_append, List.replicate_succ, List.replicate_zero, Nat.sub_self, refsOf, outsOf, reduceCtorEq, if_true, if_false, beq_self_eq_true, String.reduceBEq, and_true, true_and, forall_const, true_implies, false_implies, implies_true, Fl.rt.injEq, Prod.mk.injEq, PyData.bool.injEq, sh_int, sh_bool, sizeLine_eq, Nat.reduceLeDiff, Nat.reduceAdd, Nat.reduceLT, Nat.zero_le, Nat.reduceSub, true_or, or_true, false_or, or_false, and_false, false_and, Bool.false_eq_true, Bool.true_eq_false, not_true_eq_false, not_false_eq_true, exists_eq_left, exists_eq_left', exists_eq_right, exists_eq, Option.some.injEq, decide_true, decide_false, Nat.reduceEqDiff, List.length_map, boolsOf_mapf, all_mapf, any_mapf, small_0', _root_.eq_self, List.headD_cons, List.headD_nil, List.contains_cons, Nat.reduceBEq, Bool.not_false, Bool.or_self, Bool.and_self, ↓w_rest, lt_ii, le_ii, gt_ii, ge_ii, idx_lf, idx_ll, idx_t, ha, enc5_eq, at0, at1, hlt])
    rw [Rest]
    (try simp only [↓w_var, ↓w_lit, ↓w_cst, ↓w_bin, ↓w_neg, ↓w_cmp, ↓w_cmp2, ↓w_not, ↓w_and, ↓w_or, ↓w_ite, ↓w_truth, ↓w_tup, ↓w_lst, ↓w_idx, ↓w_slice, ↓w_rev, ↓w_bi, ↓w_meth, ↓w_mut, ↓w_evs_nil, ↓w_evs_cons, ↓w_evp_nil, ↓w_evp_cons, ↓w_evm_nil, ↓w_evm_cons, ↓w_seq, ↓w_range, ↓w_enum, ↓w_zip, ↓w_nil, ↓w_consR, ↓w_expr, ↓w_set, ↓w_setT, ↓w_par, ↓w_ret, ↓w_retN, ↓w_retv, ↓w_if, ↓w_pass, ↓w_brk, ↓w_cont, ↓w_turn, ↓varK_f, ↓varK_t, ↓varK_l, ↓varK_g, ↓boolK_t, ↓boolK_f, ↓boolK_b, ↓intK_i, ↓idxK_f, ↓idxK_t, ↓lstK_l, ↓slK_s, ↓seqK_l, ↓seqK_t, ↓liK_l, ↓enumK_l, ↓enumK_t, ↓enumK_s, ↓rgK_i, ↓zipK_l, ↓flK_nx, ↓flK_rt, ↓flK_bk, ↓flK_ct, ↓lpK_nx, ↓lpK_ct, ↓lpK_bk, ↓lpK_rt, ↓oK_some, ↓oK_none, ↓oK_map, ↓oK_bind, ↓oK_chk, ↓rK_some, Rho.at, List.getElem?_cons_zero, List.getElem?_cons_succ, Option.getD_some, List.set_cons_zero, List.set_cons_succ, E.quiet, quiets, It.quiet, Bool.and_true, Bool.true_and, Bool.and_false, Bool.false_and, binSem, biSem, bi1, bi2, lenSem_l, lenSem_t, fz, truth_b, truth_n, truth_i, truth_l, truth_t, partE, revSem, absSem, intSem, seqOf_f, seqOf_l, seqOf_t, listD_l, tupD, isiB, isNone, bindT_name, bindT_tup, bindTs_nil, bindTs_cons, ↓oK_if, T.free, Ts.free, wipeR, noRef, setParR, muSem, mu1, mu0, ownL, List.all_cons, List.all_nil, List.contains_nil, List.map_cons, List.map_nil, List.length_cons, List.length_nil, Option.bind_some, Option.map_some, List.any_cons, List.any_nil, Bool.or_false, Bool.false_or, Bool.not_true, Bool.not_false, List.cons_append, List.nil_append, List.replicate_succ, List.replicate_zero, Nat.sub_self, refsOf, outsOf, reduceCtorEq, if_true, if_false, beq_self_eq_true, String.reduceBEq, and_true, true_and, forall_const, true_implies, false_implies, implies_true, Fl.rt.injEq, Prod.mk.injEq, PyData.bool.injEq, sh_int, sh_bool, sizeLine_eq, Nat.reduceLeDiff, Nat.reduceAdd, Nat.reduceLT, Nat.zero_le, Nat.reduceSub, true_or, or_true, false_or, or_false, and_false, false_and, Bool.false_eq_true, Bool.true_eq_false, not_true_eq_false, not_false_eq_true, exists_eq_left, exists_eq_left', exists_eq_right, exists_eq, Option.some.injEq, decide_true, decide_false, Nat.reduceEqDiff, List.length_map, boolsOf_mapf, all_mapf, any_mapf, small_0', _root_.eq_self, List.headD_cons, List.headD_nil, List.contains_cons, Nat.reduceBEq, Bool.not_false, Bool.or_self, Bool.and_self, ↓w_rest, lt_ii, le_ii, gt_ii, ge_ii, idx_lf, idx_ll, idx_t, sl1, sl2, ad1, ad2])
    rw [Rest]
    (try simp only [↓w_var, ↓w_lit, ↓w_cst, ↓w_bin, ↓w_neg, ↓w_cmp, ↓w_cmp2, ↓w_not, ↓w_and, ↓w_or, ↓w_ite, ↓w_truth, ↓w_tup, ↓w_lst, ↓w_idx, ↓w_slice, ↓w_rev, ↓w_bi, ↓w_meth, ↓w_mut, ↓w_evs_nil, ↓w_evs_cons, ↓w_evp_nil, ↓w_evp_cons, ↓w_evm_nil, ↓w_evm_cons, ↓w_seq, ↓w_range, ↓w_enum, ↓w_zip, ↓w_nil, ↓w_consR, ↓w_expr, ↓w_set, ↓w_setT, ↓w_par, ↓w_ret, ↓w_retN, ↓w_retv, ↓w_if, ↓w_pass, ↓w_brk, ↓w_cont, ↓w_turn, ↓varK_f, ↓varK_t, ↓varK_l, ↓varK_g, ↓boolK_t, ↓boolK_f, ↓boolK_b, ↓intK_i, ↓idxK_f, ↓idxK_t, ↓lstK_l, ↓slK_s, ↓seqK_l, ↓seqK_t, ↓liK_l, ↓enumK_l, ↓enumK_t, ↓enumK_s, ↓rgK_i, ↓zipK_l, ↓flK_nx, ↓flK_rt, ↓flK_bk, ↓flK_ct, ↓lpK_nx, ↓lpK_ct, ↓lpK_bk, ↓lpK_rt, ↓oK_some, ↓oK_none, ↓oK_map, ↓oK_bind, ↓oK_chk, ↓rK_some, Rho.at, List.getElem?_cons_zero, List.getElem?_cons_succ, Option.getD_some, List.set_cons_zero, List.set_cons_succ, E.quiet, quiets, It.quiet, Bool.and_true, Bool.true_and, Bool.and_false, Bool.false_and, binSem, addSem, biSem, bi1, bi2, lenSem_l, lenSem_t, fz, truth_b, truth_n, truth_i, truth_l, truth_t, partE, sliceSem, revSem, absSem, intSem, seqOf_f, seqOf_l, seqOf_t, listD_l, tupD, isiB, isNone, bindT_name, bindT_tup, bindTs_nil, bindTs_cons, ↓oK_if, T.free, Ts.free, wipeR, noRef, setParR, muSem, mu1, mu0, ownL, List.all_cons, List.all_nil, List.contains_nil, List.map_cons, List.map_nil, List.length_cons, List.length_nil, Option.bind_some, Option.map_some, List.any_cons, List.any_nil, Bool.or_false, Bool.false_or, Bool.not_true, Bool.not_false, List.cons_append, List.nil_append, List.replicate_succ, List.replicate_zero, Nat.sub_self, refsOf, outsOf, reduceCtorEq, if_true, if_false, beq_self_eq_true, String.reduceBEq, and_true, true_and, forall_const, true_implies, false_implies, implies_true, Fl.rt.injEq, Prod.mk.injEq, PyData.bool.injEq, sh_int, sh_bool, sizeLine_eq, Nat.reduceLeDiff, Nat.reduceAdd, Nat.reduceLT, Nat.zero_le, Nat.reduceSub, true_or, or_true, false_or, or_false, and_false, false_and, Bool.false_eq_true, Bool.true_eq_false, not_true_eq_false, not_false_eq_true, exists_eq_left, exists_eq_left', exists_eq_right, exists_eq, Option.some.injEq, decide_true, decide_false, Nat.reduceEqDiff, List.length_map, boolsOf_mapf, all_mapf, any_mapf, small_0', _root_.eq_self, List.headD_cons, List.headD_nil, List.contains_cons, Nat.reduceBEq, Bool.not_false, Bool.or_self, Bool.and_self, ↓w_rest, lt_ii, le_ii, gt_ii, ge_ii, idx_lf, idx_ll, idx_t, pu_10_0, wc_10_0, pu_10_1, pu_10_3, pu_10_5, wc_10_5, pu_10_8, wc_10_8, wk_10_8, pu_10_9, wc_10_9, wk_10_9, m1, m2, ne_self tT, cj, em2])
    refine W.compM (fun p : Nat × List Nat => .int ((p.1 : Nat) : Int)) (fun p => .int (((p.1 : Nat) : Int) + 11)) ?_
    (try simp only [↓w_var, ↓w_lit, ↓w_cst, ↓w_bin, ↓w_neg, ↓w_cmp, ↓w_cmp2, ↓w_not, ↓w_and, ↓w_or, ↓w_ite, ↓w_truth, ↓w_tup, ↓w_lst, ↓w_idx, ↓w_slice, ↓w_rev, ↓w_bi, ↓w_meth, ↓w_mut, ↓w_evs_nil, ↓w_evs_cons, ↓w_evp_nil, ↓w_evp_cons, ↓w_evm_nil, ↓w_evm_cons, ↓w_seq, ↓w_range, ↓w_enum, ↓w_zip, ↓w_nil, ↓w_consR, ↓w_expr, ↓w_set, ↓w_setT, ↓w_par, ↓w_ret, ↓w_retN, ↓w_retv, ↓w_if, ↓w_pass, ↓w_brk, ↓w_cont, ↓w_turn, ↓varK_f, ↓varK_t, ↓varK_l, ↓varK_g, ↓boolK_t, ↓boolK_f, ↓boolK_b, ↓intK_i, ↓idxK_f, ↓idxK_t, ↓lstK_l, ↓slK_s, ↓seqK_l, ↓seqK_t, ↓liK_l, ↓enumK_l, ↓enumK_t, ↓enumK_s, ↓rgK_i, ↓zipK_l, ↓flK_nx, ↓flK_rt, ↓flK_bk, ↓flK_ct, ↓lpK_nx, ↓lpK_ct, ↓lpK_bk, ↓lpK_rt, ↓oK_some, ↓oK_none, ↓oK_map, ↓oK_bind, ↓oK_chk, ↓rK_some, Rho.at, List.getElem?_cons_zero, List.getElem?_cons_succ, Option.getD_some, List.set_cons_zero, List.set_cons_succ, E.quiet, quiets, It.quiet, Bool.and_true, Bool.true_and, Bool.and_false, Bool.false_and, binSem, addSem, biSem, bi1, bi2, lenSem_l, lenSem_t, fz, truth_b, truth_n, truth_i, truth_l, truth_t, partE, sliceSem, revSem, absSem, intSem, seqOf_f, seqOf_l, seqOf_t, listD_l, tupD, isiB, isNone, bindT_name, bindT_tup, bindTs_nil, bindTs_cons, ↓oK_if, T.free, Ts.free, wipeR, noRef, setParR, muSem, mu1, mu0, ownL, List.all_cons, List.all_nil, List.contains_nil, List.map_cons, List.map_nil, List.length_cons, List.length_nil, Option.bind_some, Option.map_some, List.any_cons, List.any_nil, Bool.or_false, Bool.false_or, Bool.not_true, Bool.not_false, List.cons_append, List.nil_append, List.replicate_succ, List.replicate_zero, Nat.sub_self, refsOf, outsOf, reduceCtorEq, if_true, if_false, beq_self_eq_true, String.reduceBEq, and_true, true_and, forall_const, true_implies, false_implies, implies_true, Fl.rt.injEq, Prod.mk.injEq, PyData.bool.injEq, sh_int, sh_bool, sizeLine_eq, Nat.reduceLeDiff, Nat.reduceAdd, Nat.reduceLT, Nat.zero_le, Nat.reduceSub, true_or, or_true, false_or, or_false, and_false, false_and, Bool.false_eq_true, Bool.true_eq_false, not_true_eq_false, not_false_eq_true, exists_eq_left, exists_eq_left', exists_eq_right, exists_eq, Option.some.injEq, decide_true, decide_false, Nat.reduceEqDiff, List.length_map, boolsOf_mapf, all_mapf, any_mapf, small_0', _root_.eq_self, List.headD_cons, List.headD_nil, List.contains_cons, Nat.reduceBEq, Bool.not_false, Bool.or_self, Bool.and_self, ↓w_rest, lt_ii, le_ii, gt_ii, ge_ii, idx_lf, idx_ll, idx_t, cj])
    refine ⟨L.drop (j + 1), ?_, ?_, ?_⟩
    · rw [List.map_drop]
    · rw [List.length_drop]; omega
    (try simp only [↓w_var, ↓w_lit, ↓w_cst, ↓w_bin, ↓w_neg, ↓w_cmp, ↓w_cmp2, ↓w_not, ↓w_and, ↓w_or, ↓w_ite, ↓w_truth, ↓w_tup, ↓w_lst, ↓w_idx, ↓w_slice, ↓w_rev, ↓w_bi, ↓w_meth, ↓w_mut, ↓w_evs_nil, ↓w_evs_cons, ↓w_evp_nil, ↓w_evp_cons, ↓w_evm_nil, ↓w_evm_cons, ↓w_seq, ↓w_range, ↓w_enum, ↓w_zip, ↓w_nil, ↓w_consR, ↓w_expr, ↓w_set, ↓w_setT, ↓w_par, ↓w_ret, ↓w_retN, ↓w_retv, ↓w_if, ↓w_pass, ↓w_brk, ↓w_cont, ↓w_turn, ↓varK_f, ↓varK_t, ↓varK_l, ↓varK_g, ↓boolK_t, ↓boolK_f, ↓boolK_b, ↓intK_i, ↓idxK_f, ↓idxK_t, ↓lstK_l, ↓slK_s, ↓seqK_l, ↓seqK_t, ↓liK_l, ↓enumK_l, ↓enumK_t, ↓enumK_s, ↓rgK_i, ↓zipK_l, ↓flK_nx, ↓flK_rt, ↓flK_bk, ↓flK_ct, ↓lpK_nx, ↓lpK_ct, ↓lpK_bk, ↓lpK_rt, ↓oK_some, ↓oK_none, ↓oK_map, ↓oK_bind, ↓oK_chk, ↓rK_some, Rho.at, List.getElem?_cons_zero, List.getElem?_cons_succ, Option.getD_some, List.set_cons_zero, List.set_cons_succ, E.quiet, quiets, It.quiet, Bool.and_true, Bool.true_and, Bool.and_false, Bool.false_and, binSem, addSem, biSem, bi1, bi2, lenSem_l, lenSem_t, fz, truth_b, truth_n, truth_i, truth_l, truth_t, partE, sliceSem, revSem, absSem, intSem, seqOf_f, seqOf_l, seqOf_t, listD_l, tupD, isiB, isNone, bindT_name, bindT_tup, bindTs_nil, bindTs_cons, ↓oK_if, T.free, Ts.free, wipeR, noRef, setParR, muSem, mu1, mu0, ownL, List.all_cons, List.all_nil, List.contains_nil, List.map_cons, List.map_nil, List.length_cons, List.length_nil, Option.bind_some, Option.map_some, List.any_cons, List.any_nil, Bool.or_false, Bool.false_or, Bool.not_true, Bool.not_false, List.cons_append, List.nil_append, List.replicate_succ, List.replicate_zero, Nat.sub_self, refsOf, outsOf, reduceCtorEq, if_true, if_false, beq_self_eq_true, String.reduceBEq, and_true, true_and, forall_const, true_implies, false_implies, implies_true, Fl.rt.injEq, Prod.mk.injEq, PyData.bool.injEq, sh_int, sh_bool, sizeLine_eq, Nat.reduceLeDiff, Nat.reduceAdd, Nat.reduceLT, Nat.zero_le, Nat.reduceSub, true_or, or_true, false_or, or_false, and_false, false_and, Bool.false_eq_true, Bool.true_eq_false, not_true_eq_false, not_false_eq_true, exists_eq_left, exists_eq_left', exists_eq_right, exists_eq, Option.some.injEq, decide_true, decide_false, Nat.reduceEqDiff, List.length_map, boolsOf_mapf, all_mapf, any_mapf, small_0', _root_.eq_self, List.headD_cons, List.headD_nil, List.contains_cons, Nat.reduceBEq, Bool.not_false, Bool.or_self, Bool.and_self, ↓w_rest, lt_ii, le_ii, gt_ii, ge_ii, idx_lf, idx_ll, idx_t, ne_self tM])
    exact last _
end Law
open PySem PySem.W PyProof.Rows
open PySem PySem.W PyProof.Rows
set_option maxRecDepth 100000 in
set_option maxHeartbeats 0 in
theorem PySem.Challenge.cw_lookalike_k05_tokens_and_their_places_holds : PySem.Challenge.rw_lookalike_k05_tokens_and_their_places.Holds := by
  w_on; o_law; k_head; (case hw => w_witness2)
  k_fill
  refine Ev.walk_G (l := PySem.Challenge.rw_lookalike_k05_tokens_and_their_places) (n := 63) (k := 4) (F := ⟨[false], (Law.c_law).run (Law.Phi_10 Law.rounds)⟩) (x := "_law_script") rfl (by decide) rfl ⟨rfl, by decide, by decide⟩ (fun w h Y => PySem.W.kIn_of Y) rfl Law.law_true ?F
  case F =>
    intro w mg fa h KX G hmg
    refine' Law.all_mk Law.rounds KX G hmg ?a0 ?l0 ?e0 ?k0 ?a1 ?l1 ?e1 ?k1 ?a2 ?l2 ?e2 ?k2 ?a3 ?l3 ?e3 ?k3 ?a4 ?l4 ?e4 ?k4 ?a5 ?l5 ?e5 ?k5 ?a6 ?l6 ?e6 ?k6 ?a7 ?l7 ?e7 ?k7 ?a8 ?l8 ?e8 ?k8 ?a9 ?l9 ?e9 ?k9 ?a10 ?l10 ?e10 ?k10 ?z0 ?z1 ?z2 ?z3 ?z4 ?z5 ?z6 ?z7 ?z8 ?c0 ?r0
    (case a0 => k_is); (case l0 => k_is); (case e0 => k_is); (case k0 => k_is)
    (case a1 => k_is); (case l1 => k_is); (case e1 => k_is); (case k1 => k_is)
    (case a2 => k_is); (case l2 => k_is); (case e2 => k_is); (case k2 => k_is)
    (case a3 => k_is); (case l3 => k_is); (case e3 => k_is); (case k3 => k_is)
    (case a4 => k_is); (case l4 => k_is); (case e4 => k_is); (case k4 => k_is)
    (case a5 => k_is); (case l5 => k_is); (case e5 => k_is); (case k5 => k_is)
    (case a6 => k_is); (case l6 => k_is); (case e6 => k_is); (case k6 => k_is)
    (case a7 => k_is); (case l7 => k_is); (case e7 => k_is); (case k7 => k_is)
    (case a8 => k_is); (case l8 => k_is); (case e8 => k_is); (case k8 => k_is)
    (case a9 => k_is); (case l9 => k_is); (case e9 => k_is); (case k9 => k_is)
    (case a10 => k_is); (case l10 => k_is); (case e10 => k_is); (case k10 => k_is)
    (case z0 => k_is)
    (case z1 => k_is)
    (case z2 => k_is)
    (case z3 => k_is)
    (case z4 => k_is)
    (case z5 => k_is)
    (case z6 => k_is)
    (case z7 => k_is)
    (case z8 => k_is)
    (case c0 => k_is); (case r0 => exact ⟨_, rfl⟩)
