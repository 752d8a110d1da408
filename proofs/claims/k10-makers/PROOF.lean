import PyProof.Rows.All
import Wide.All
import OpenK.AllK
import Wide.FinOn
import HandS.ForMost
import HandS.HeadHook2
import HandS.IsInst
import HandS.ForSpec
import HandS.DeepEq
import KE.KEqNest
import HandS.TupAny
import HandS.MakeKwOnly
import HandS.CallSlots
import HandS.ExcOwn
import HandS.HeadWalk
import HandS.Zip
import HandS.Style
import HandS.SetBool
import HandS.TupSets
import HandS.Strs
import HandS.More
import KE.KCallOwn
import HandS.FStr
import KE.KRevSl
import HandS.Dict
import HandS.Ends
import HandS.HeadEnd
import HandS.HeadHook4
import HandS.Head0
import HandS.Head1
import HandS.Head2
import HandS.Words
import PySem.Challenge.RW_pixelstages_k10_makers
import HandS.Codes
set_option Elab.async false
set_option linter.all false
set_option maxRecDepth 100000
set_option maxHeartbeats 0
/-! Vm, part A: values, stores, how they lie in the abstract heap. -/
namespace Vm
open PySem L2

/-- values: data (never changed), objects of the store by their place -/
inductive W where
  | non
  | bl (b : Bool)
  | int (i : Int)
  | str (s : Str)
  | tup (xs : List W)
  | fl (xs : List W)
  | kl (xs : List W)
  | fd (ks : List Key) (ws : List W)
  | obj (c : Str) (ns : List Str) (ws : List W)
  | ref (i : Nat)
  | glob (x : Str)
  | ty (n : String)
  deriving Inhabited

/-- what stands in the store -/
inductive O where
  | lst (xs : List W)
  | dct (ks : List Key) (ws : List W)
  | ins (c : Str) (ns : List Str) (ws : List W)
  deriving Inhabited
abbrev Sto := List O

/-- a list that is locked, or one of the module's own -/
def KlR (K : PySem.W.Frag) (H : Hp) (a : Addr) (vs : List V) : Prop :=
  (∃ o, H a = some (.frz o (.lst vs))) ∨ ∃ (o : Obj) (its : Array Value) (n : Nat), K.lookup a = some o ∧ o.cls = .type "list" ∧ o.dict = none ∧ o.data = .seq its n ∧ its.size ≤ sizeLine ∧ Vals vs its.toList
theorem KlR.sq {K : PySem.W.Frag} {H : Hp} {a : Addr} {vs : List V} (h : KlR K H a vs) : SqL K H a vs := by
  rcases h with h | h
  · exact .inl (.inr h)
  · exact .inr h

/-- where things lie: the store's objects by place; data that never changes -/
structure Mu where
  m : List Addr
  d : List Addr
section
variable (K : PySem.W.Frag) (H : Hp) (μ : Mu)
mutual
/-- a value in the heap -/
def Rp : W → V → Prop
  | .non, v => v = .non
  | .bl b, v => v = .bl b
  | .int i, v => v = .int i
  | .str s, v => v = .str s
  | .tup ws, v => ∃ a vs, v = .ref a ∧ SqT K H a vs ∧ RpL ws vs
  | .fl ws, v => ∃ a vs, v = .ref a ∧ H a = some (.lst vs) ∧ a ∈ μ.d ∧ RpL ws vs
  | .kl ws, v => ∃ a vs, v = .ref a ∧ KlR K H a vs ∧ RpL ws vs
  | .fd ks ws, v => ∃ a vs, v = .ref a ∧ H a = some (.dK (ks.zip vs)) ∧ ks.length = vs.length ∧ a ∈ μ.d ∧ RpL ws vs
  | .obj c ns ws, v => ∃ a dx vs, v = .ref a ∧ H a = some (.ins (He.ga K c) dx (ns.zip vs)) ∧ ns.length = vs.length ∧ a ∈ μ.d ∧ RpL ws vs
  | .ref i, v => ∃ a, v = .ref a ∧ μ.m[i]? = some a
  | .glob x, v => v = .ref (He.ga K x)
  | .ty n, v => v = .ty n
def RpL : List W → List V → Prop
  | [], vs => vs = []
  | w :: ws, vs => ∃ v r, vs = v :: r ∧ Rp w v ∧ RpL ws r
end
/-- an object of the store in the heap -/
def ObR : O → Option HO → Prop
  | .lst ws, o => ∃ vs, o = some (.lst vs) ∧ RpL K H μ ws vs
  | .dct ks ws, o => ∃ vs, o = some (.dK (ks.zip vs)) ∧ ks.length = vs.length ∧ RpL K H μ ws vs
  | .ins c ns ws, o => ∃ dx vs, o = some (.ins (He.ga K c) dx (ns.zip vs)) ∧ ns.length = vs.length ∧ RpL K H μ ws vs
end

structure StR (K : PySem.W.Frag) (H : Hp) (μ : Mu) (st : Sto) : Prop where
  len : μ.m.length = st.length
  nd : μ.m.Nodup
  dis : ∀ a, a ∈ μ.d → a ∉ μ.m
  hd : ∀ a, a ∈ μ.d → ∃ o, H a = some o
  at_ : ∀ (i : Nat) (o : O) (a : Addr), st[i]? = some o → μ.m[i]? = some a → ObR K H μ o (H a)

/-- what a piece of code may do to the heap: change the store's own objects, lay new ones -/
structure Ext (H : Hp) (μ : Mu) (H' : Hp) (μ' : Mu) : Prop where
  pre : ∃ m, μ'.m = μ.m ++ m
  sub : ∀ a, a ∈ μ.d → a ∈ μ'.d
  new : ∀ a, a ∈ μ'.m → a ∉ μ.m → H a = none
  newd : ∀ a, a ∈ μ'.d → a ∉ μ.d → H a = none
  keep : ∀ a o, H a = some o → a ∉ μ.m → H' a = some o
  stay : ∀ a o, H a = some o → ∃ o', H' a = some o'
/-- what values lean on stays -/
structure Kp (H : Hp) (μ : Mu) (H' : Hp) (μ' : Mu) : Prop where
  tup : ∀ a vs, H a = some (.tup vs) → H' a = some (.tup vs)
  frz : ∀ a o u, H a = some (.frz o u) → H' a = some (.frz o u)
  dat : ∀ a o, a ∈ μ.d → H a = some o → H' a = some o
  sub : ∀ a, a ∈ μ.d → a ∈ μ'.d
  get : ∀ (i : Nat) (a : Addr), μ.m[i]? = some a → μ'.m[i]? = some a

section
variable {K : PySem.W.Frag} {H H' H'' : Hp} {μ μ' μ'' : Mu} {st : Sto}
theorem Ext.refl : Ext H μ H μ := ⟨⟨[], by simp⟩, fun _ h => h, fun a h n => absurd h n, fun a h n => absurd h n, fun _ _ h _ => h, fun _ o h => ⟨o, h⟩⟩
theorem Ext.notin (e : Ext H μ H' μ') {a : Addr} {o : HO} (h : H a = some o) (n : a ∉ μ.m) : a ∉ μ'.m := fun m => by
  have := e.new a m n
  rw [h] at this; cases this
theorem Ext.notd (e : Ext H μ H' μ') {a : Addr} {o : HO} (h : H a = some o) (n : a ∉ μ.d) : a ∉ μ'.d := fun m => by
  have := e.newd a m n
  rw [h] at this; cases this
theorem Ext.trans' (e : Ext H μ H' μ') (f : Ext H' μ' H'' μ'') : Ext H μ H'' μ'' := by
  obtain ⟨m, e1⟩ := e.pre
  obtain ⟨n, e2⟩ := f.pre
  refine ⟨⟨m ++ n, by rw [e2, e1]; simp⟩, fun a h => f.sub a (e.sub a h), fun a h1 h2 => ?_, fun a h1 h2 => ?_, fun a o h n => f.keep a o (e.keep a o h n) (e.notin h n), fun a o h => ?_⟩
  · cases q : H a with
    | none => rfl
    | some o =>
      have h3 := e.notin q h2
      have h4 := f.new a h1 h3
      rw [e.keep a o q h2] at h4
      cases h4
  · cases q : H a with
    | none => rfl
    | some o =>
      have h3 := e.notd q h2
      have h4 := f.newd a h1 h3
      obtain ⟨o', h5⟩ := e.stay a o q
      rw [h5] at h4; cases h4
  · obtain ⟨o', h5⟩ := e.stay a o h
    exact f.stay a o' h5
theorem Ext.get (e : Ext H μ H' μ') {i : Nat} {a : Addr} (h : μ.m[i]? = some a) : μ'.m[i]? = some a := by
  obtain ⟨m, e1⟩ := e.pre
  rw [e1, List.getElem?_append_left (List.getElem?_eq_some_iff.mp h).1]; exact h
theorem StR.there (S : StR K H μ st) {a : Addr} (h : a ∈ μ.m) : ∃ o, H a = some o := by
  obtain ⟨i, hi, e⟩ := List.mem_iff_getElem.mp h
  have hi' : i < st.length := by rw [← S.len]; exact hi
  have q := S.at_ i st[i] a (by simp [hi']) (by simp [hi, e])
  cases ho : st[i] with
  | lst ws => rw [ho] at q; obtain ⟨vs, e, _⟩ := q; exact ⟨_, e⟩
  | dct ks ws => rw [ho] at q; obtain ⟨vs, e, _⟩ := q; exact ⟨_, e⟩
  | ins c ns ws => rw [ho] at q; obtain ⟨dx, vs, e, _⟩ := q; exact ⟨_, e⟩
theorem StR.fresh (S : StR K H μ st) {a : Addr} (h : H a = none) : a ∉ μ.m := fun m => by
  obtain ⟨o, e⟩ := S.there m
  rw [h] at e; cases e
theorem StR.freshd (S : StR K H μ st) {a : Addr} (h : H a = none) : a ∉ μ.d := fun m => by
  obtain ⟨o, e⟩ := S.hd a m
  rw [h] at e; cases e
/-- what is in the store is no tuple and not locked -/
theorem StR.kind (S : StR K H μ st) {a : Addr} {o : HO} (h : a ∈ μ.m) (e : H a = some o) : (∃ vs, o = .lst vs) ∨ (∃ k, o = .dK k) ∨ ∃ C dx fs, o = .ins C dx fs := by
  obtain ⟨i, hi, e1⟩ := List.mem_iff_getElem.mp h
  have hi' : i < st.length := by rw [← S.len]; exact hi
  have q := S.at_ i st[i] a (by simp [hi']) (by simp [hi, e1])
  cases ho : st[i] with
  | lst ws => rw [ho] at q; obtain ⟨vs, e2, _⟩ := q; rw [e] at e2; cases e2; exact .inl ⟨_, rfl⟩
  | dct ks ws => rw [ho] at q; obtain ⟨vs, e2, _⟩ := q; rw [e] at e2; cases e2; exact .inr (.inl ⟨_, rfl⟩)
  | ins c ns ws => rw [ho] at q; obtain ⟨dx, vs, e2, _⟩ := q; rw [e] at e2; cases e2; exact .inr (.inr ⟨_, _, _, rfl⟩)
theorem StR.tup (S : StR K H μ st) {a : Addr} {vs : List V} (h : H a = some (.tup vs)) : a ∉ μ.m := fun m => by
  rcases S.kind m h with ⟨_, e⟩ | ⟨_, e⟩ | ⟨_, _, _, e⟩ <;> cases e
theorem StR.frz (S : StR K H μ st) {a : Addr} {o : Obj} {u : HO} (h : H a = some (.frz o u)) : a ∉ μ.m := fun m => by
  rcases S.kind m h with ⟨_, e⟩ | ⟨_, e⟩ | ⟨_, _, _, e⟩ <;> cases e
theorem Ext.kp (S : StR K H μ st) (e : Ext H μ H' μ') : Kp H μ H' μ' :=
  ⟨fun a vs h => e.keep _ _ h (S.tup h), fun a o u h => e.keep _ _ h (S.frz h), fun a o hd h => e.keep _ _ h (S.dis a hd), e.sub, fun i a h => e.get h⟩

theorem Kp.refl : Kp H μ H μ := ⟨fun _ _ h => h, fun _ _ _ h => h, fun _ _ _ h => h, fun _ h => h, fun _ _ h => h⟩
theorem Kp.trans' (e : Kp H μ H' μ') (f : Kp H' μ' H'' μ'') : Kp H μ H'' μ'' := ⟨fun a vs h => f.tup _ _ (e.tup _ _ h), fun a o u h => f.frz _ _ _ (e.frz _ _ _ h), fun a o hd h => f.dat _ _ (e.sub a hd) (e.dat _ _ hd h), fun a h => f.sub a (e.sub a h), fun i a h => f.get _ _ (e.get _ _ h)⟩
mutual
theorem Rp.kp (e : Kp H μ H' μ') : ∀ {w : W} {v : V}, Rp K H μ w v → Rp K H' μ' w v
  | .non, v, h => by simpa [Rp] using h
  | .bl b, v, h => by simpa [Rp] using h
  | .int i, v, h => by simpa [Rp] using h
  | .str s, v, h => by simpa [Rp] using h
  | .tup ws, v, h => by
    simp only [Rp] at h ⊢
    obtain ⟨a, vs, e1, q, r⟩ := h
    refine ⟨a, vs, e1, ?_, RpL.kp e r⟩
    rcases q with (q | ⟨o, q⟩) | q
    · exact .inl (.inl (e.tup _ _ q))
    · exact .inl (.inr ⟨o, e.frz _ _ _ q⟩)
    · exact .inr q
  | .fl ws, v, h => by
    simp only [Rp] at h ⊢
    obtain ⟨a, vs, e1, q, n, r⟩ := h
    exact ⟨a, vs, e1, e.dat _ _ n q, e.sub _ n, RpL.kp e r⟩
  | .kl ws, v, h => by
    simp only [Rp] at h ⊢
    obtain ⟨a, vs, e1, q, r⟩ := h
    refine ⟨a, vs, e1, ?_, RpL.kp e r⟩
    rcases q with ⟨o, q⟩ | q
    · exact .inl ⟨o, e.frz _ _ _ q⟩
    · exact .inr q
  | .fd ks ws, v, h => by
    simp only [Rp] at h ⊢
    obtain ⟨a, vs, e1, q, l, n, r⟩ := h
    exact ⟨a, vs, e1, e.dat _ _ n q, l, e.sub _ n, RpL.kp e r⟩
  | .obj c ns ws, v, h => by
    simp only [Rp] at h ⊢
    obtain ⟨a, dx, vs, e1, q, l, n, r⟩ := h
    exact ⟨a, dx, vs, e1, e.dat _ _ n q, l, e.sub _ n, RpL.kp e r⟩
  | .ref i, v, h => by
    simp only [Rp] at h ⊢
    obtain ⟨a, e1, q⟩ := h
    exact ⟨a, e1, e.get _ _ q⟩
  | .glob x, v, h => by simpa [Rp] using h
  | .ty n, v, h => by simpa [Rp] using h
theorem RpL.kp (e : Kp H μ H' μ') : ∀ {ws : List W} {vs : List V}, RpL K H μ ws vs → RpL K H' μ' ws vs
  | [], vs, h => by simpa [RpL] using h
  | w :: ws, vs, h => by
    simp only [RpL] at h ⊢
    obtain ⟨v, r, e1, h1, h2⟩ := h
    exact ⟨v, r, e1, Rp.kp e h1, RpL.kp e h2⟩
end
theorem ObR.kp (e : Kp H μ H' μ') {ob : O} {o : Option HO} (q : ObR K H μ ob o) : ObR K H' μ' ob o := by
  cases ob with
  | lst ws => obtain ⟨vs, e1, r⟩ := q; exact ⟨vs, e1, r.kp e⟩
  | dct ks ws => obtain ⟨vs, e1, l, r⟩ := q; exact ⟨vs, e1, l, r.kp e⟩
  | ins c ns ws => obtain ⟨dx, vs, e1, l, r⟩ := q; exact ⟨dx, vs, e1, l, r.kp e⟩
theorem Rp.mono (S : StR K H μ st) (e : Ext H μ H' μ') {w : W} {v : V} (h : Rp K H μ w v) : Rp K H' μ' w v := h.kp (e.kp S)
theorem RpL.mono (S : StR K H μ st) (e : Ext H μ H' μ') {ws : List W} {vs : List V} (h : RpL K H μ ws vs) : RpL K H' μ' ws vs := h.kp (e.kp S)
end
end Vm
/-! Vm, part B: code, and what it comes to. -/
namespace Vm
open PySem L2
noncomputable section

/-- an exception: its class (own), its fields -/
structure Xc where
  cls : Str
  ns : List Str
  ws : List W
inductive R (α : Type) where
  | ok (a : α) (st : Sto)
  | er (x : Xc) (st : Sto)
  | bad
abbrev M (α : Type) := Sto → R α
def R.bd {α β : Type} (r : R α) (f : α → M β) : R β := match r with
  | .ok a st' => f a st'
  | .er x st' => .er x st'
  | .bad => .bad
def M.bnd {α β : Type} (m : M α) (f : α → M β) : M β := fun st => (m st).bd f
instance : Monad M where
  pure a := fun st => .ok a st
  bind := M.bnd
def bad {α : Type} : M α := fun _ => .bad
theorem bd_ok {α β : Type} {a : α} {st : Sto} {f : α → M β} : (R.ok a st).bd f = f a st := rfl
theorem bd_er {α β : Type} {x : Xc} {st : Sto} {f : α → M β} : (R.er x st : R α).bd f = .er x st := rfl
theorem bd_bad {α β : Type} {f : α → M β} : (R.bad : R α).bd f = .bad := rfl
theorem run_bind {α β : Type} {m : M α} {f : α → M β} {st : Sto} : (m >>= f) st = (m st).bd f := rfl
theorem run_pure {α : Type} {a : α} {st : Sto} : (pure a : M α) st = .ok a st := rfl
theorem bd_assoc {α β γ : Type} {r : R α} {f : α → M β} {g : β → M γ} : (r.bd f).bd g = r.bd (fun a => f a >>= g) := by cases r <;> rfl
theorem bind_assoc {α β γ : Type} {m : M α} {f : α → M β} {g : β → M γ} : (m >>= f >>= g) = (m >>= fun a => f a >>= g) := by
  funext st; exact bd_assoc
/-- what raises is no more told of -/
def M.noEr {α : Type} (m : M α) : M α := fun st => match m st with
  | .ok a st' => .ok a st'
  | _ => .bad
def ofO {α : Type} : Option α → M α
  | some a => pure a
  | none => bad
/-- from the store -/
def getO (i : Nat) : M O := fun st => match st[i]? with
  | some o => .ok o st
  | none => .bad
def setO (i : Nat) (o : O) : M Unit := fun st => if i < st.length then .ok () (st.set i o) else .bad
def newO (o : O) : M W := fun st => .ok (.ref st.length) (st ++ [o])

abbrev Rho := List (Option W)

/-! ### built-in functions -/
inductive Bf where
  | len | abs | max | min | sum | all | any | list | tuple | str | int | repr | bool
  deriving DecidableEq
def Bf.name : Bf → String
  | .len => "len" | .abs => "abs" | .max => "max" | .min => "min" | .sum => "sum" | .all => "all" | .any => "any" | .list => "list" | .tuple => "tuple" | .str => "str" | .int => "int" | .repr => "repr" | .bool => "bool"
/-- methods of built-in types -/
inductive Mf where
  | append | join
  deriving DecidableEq
def Mf.name : Mf → String
  | .append => "append" | .join => "join"
def Mf.ty : Mf → String
  | .append => "list" | .join => "str"

/-! ### the text of code -/
inductive Tg where
  | name (i : Nat)
  | tup (ts : List Tg)
/-- a class that isinstance asks -/
inductive Cl where
  | ty (n : String)
  | own (x : Str)
  deriving DecidableEq
mutual
inductive C where
  | var (i : Nat)
  | int (i : Int)
  | str (s : Str)
  | bl (b : Bool)
  | non
  | glb (x : Str)
  | bin (op : Operator) (a b : C)
  | neg (a : C)
  | not (a : C)
  | and (x : C) (xs : Cs)
  | or (x : C) (xs : Cs)
  | cmp (op : CmpOp) (a b : C)
  | chn (op op' : CmpOp) (a b c : C)
  | isN (a : C)
  | notN (a : C)
  | ife (t : Ct) (a b : C)
  | tup (xs : Cs)
  | lst (m : Bool) (xs : Cs)
  | call (f : Str) (xs : Cs) (ks : List Str) (ys : Cs)
  | mk (c : Str) (xs : Cs) (ks : List Str) (ys : Cs)
  | meth (c : Str) (o : C) (m : Str) (xs : Cs) (ks : List Str) (ys : Cs)
  | bi (f : Bf) (xs : Cs)
  | bm (m : Mf) (o : C) (xs : Cs)
  | isi (a : C) (cs : List Cl)
  | attr (o : C) (f : Str)
  | sub (o i : C)
  | sli (o : C) (lo hi : Co)
  | lc (m : Bool) (own : List (Str × Nat)) (e : C) (tg : Tg) (it : It) (ifs : Cts)
  | lc2 (m : Bool) (own : List (Str × Nat)) (vs1 : List Nat) (e : C) (tg : Tg) (it : It) (ifs : Cts) (tg1 : Tg) (it1 : It) (ifs1 : Cts)
  | lenSet (own : List (Str × Nat)) (e : C) (tg : Tg) (it : It) (ifs : Cts)
  | fst (xs : Cs)
  | lenRng (a : C)
  | cat (m : Bool) (a b : C)
  | rev (o : C)
  | dct (m : Bool) (ks : List Key) (vs : Cs)
inductive Cs where
  | nil
  | cons (c : C) (cs : Cs)
/-- tests -/
inductive Ct where
  | val (c : C)
  | cmp (op : CmpOp) (a b : C)
  | chn (op op' : CmpOp) (a b c : C)
  | isN (a : C)
  | notN (a : C)
  | not (t : Ct)
  | and (t : Ct) (ts : Cts)
  | or (t : Ct) (ts : Cts)
inductive Cts where
  | nil
  | cons (t : Ct) (ts : Cts)
inductive Co where
  | no
  | yes (c : C)
inductive It where
  | seq (c : C)
  | rng1 (a : C)
  | rng2 (a b : C)
  | zip (a b : C)
  | enum (a : C)
end
mutual
inductive S where
  | asg (tg : Tg) (e : C)
  | par (i j : Nat) (a b : C)
  | par3 (i j l : Nat) (a b c : C)
  | aug (i : Nat) (op : Operator) (e : C)
  | setI (o i e : C)
  | setA (o : C) (f : Str) (e : C)
  | exp (e : C)
  | ret (e : C)
  | retN
  | ite (t : Ct) (a b : Ss)
  | forr (tg : Tg) (it : It) (b : Ss)
  | whl (t : Ct) (b : Ss)
  | brk
  | cnt
  | pass
  | never
inductive Ss where
  | nil
  | cons (s : S) (ss : Ss)
end

/-- what is known of the module -/
structure Gm where
  /-- a def by its name, its parameters all bound -/
  fn : Str → List W → M W
  /-- how a call binds: by the def's name, how many by place, the keywords' names -/
  bnd : Str → Nat → List Str → Option (List W → List W → List W)
  glob : Str → Option W
  /-- names that the module does not bind -/
  free : Str → Bool
  /-- isinstance, where an own class comes in -/
  isa : Cl → Cl → Option Bool
  /-- own classes: of instances; by their names -/
  cls : Str → Bool
  clsv : Str → Bool
  /-- fields of a class that may be read and stored -/
  fld : Str → Str → Bool
  /-- methods: by class and name -/
  mfn : Str → Str → List W → M W
  mbnd : Str → Str → Nat → List Str → Option (List W → List W → List W)
  /-- new instances: by class -/
  kfn : Str → List W → M W
  kbnd : Str → Nat → List Str → Option (List W → List W → List W)
  /-- special methods of an own class that may be asked -/
  spc : Str → Str → Bool

/-! ### values -/
def oneI (f : Int → Int → Option W) : W → W → Option W
  | .int i, .int j => f i j
  | _, _ => none
instance (i j : Int) : Decidable (CMul i j) := by unfold CMul; exact inferInstance
instance (i j : Int) : Decidable (CPow i j) := by unfold CPow; exact inferInstance
def lstOf : O → M (List W)
  | .lst xs => pure xs
  | _ => bad
/-- a list that may be read, its items -/
def itemsOf : W → M (List W)
  | .tup xs => pure xs
  | .fl xs => pure xs
  | .kl xs => pure xs
  | .ref i => getO i >>= lstOf
  | _ => bad
def binW : Operator → W → W → M W
  | .Add, .int i, .int j => pure (.int (i + j))
  | .Add, .str a, .str b => if a.length + b.length ≤ sizeLine then pure (.str (a ++ b)) else bad
  | .Add, .tup xs, .tup ys => if xs.length + ys.length ≤ sizeLine then pure (.tup (xs ++ ys)) else bad
  | .Add, .fl xs, .fl ys => if xs.length + ys.length ≤ sizeLine then pure (.fl (xs ++ ys)) else bad
  | .Sub, .int i, .int j => pure (.int (i - j))
  | .Mult, .int i, .int j => @ite (M W) (CMul i j) (Classical.propDecidable _) (pure (.int (i * j))) bad
  | .FloorDiv, .int i, .int j => @ite (M W) (0 < j ∧ j < 1073741824) (Classical.propDecidable _) (pure (.int (i / j))) bad
  | .Mod, .int i, .int j => @ite (M W) (0 < j) (Classical.propDecidable _) (pure (.int (i % j))) bad
  | .Pow, .int i, .int j => @ite (M W) (CPow i j) (Classical.propDecidable _) (pure (.int (i ^ j.toNat))) bad
  | .LShift, .int i, .int j => @ite (M W) (CPow i j) (Classical.propDecidable _) (pure (.int (i * 2 ^ j.toNat))) bad
  | .RShift, .int i, .int j => @ite (M W) (0 ≤ j) (Classical.propDecidable _) (pure (.int (i / 2 ^ j.toNat))) bad
  | .BitAnd, .int i, .int j => pure (.int (Builtin.bitAnd i j))
  | .BitOr, .int i, .int j => pure (.int (Builtin.bitOr i j))
  | _, _, _ => bad
mutual
/-- a value as plain data -/
def pd : W → Option PyData
  | .non => some .none
  | .bl b => some (.bool b)
  | .int i => some (.int i)
  | .str s => some (.str s)
  | .tup xs => (pdL xs).map .tuple
  | .fl xs => (pdL xs).map .list
  | .kl xs => (pdL xs).map .list
  | _ => none
def pdL : List W → Option (List PyData)
  | [] => some []
  | x :: xs => (pd x).bind fun d => (pdL xs).map (d :: ·)
end
def scalW : W → W → Option Bool
  | .int i, .int j => some (decide (i = j))
  | .bl i, .bl j => some (decide (i = j))
  | .str i, .str j => some (decide (i = j))
  | _, _ => none
/-- == of data -/
def eqW (x y : W) : Option Bool := match scalW x y with
  | some b => some b
  | none => match pd x, pd y with
    | some d, some e => if SeqAt.shaped d = true ∧ SeqAt.shaped e = true then some (PyData.eqv d e) else none
    | _, _ => none
/-- alike all the way down, of nesting below n: defs and dicts too -/
def eqT : Nat → W → W → Bool
  | 0, _, _ => false
  | _ + 1, .non, .non => true
  | _ + 1, .bl a, .bl b => decide (a = b)
  | _ + 1, .int a, .int b => decide (a = b)
  | _ + 1, .str a, .str b => decide (a = b)
  | _ + 1, .glob a, .glob b => decide (a = b)
  | n + 1, .tup xs, .tup ys => decide (xs.length = ys.length) && (xs.zip ys).all fun p => eqT n p.1 p.2
  | n + 1, .fd ks ws, .fd ls us => decide (ks = ls) && decide ks.Nodup && decide (ws.length = us.length) && (ws.zip us).all fun p => eqT n p.1 p.2
  | _, _, _ => false
/-- == of data, of what is alike -/
def eqA (x y : W) : Option Bool := match eqW x y with
  | some b => some b
  | none => match x with
    | .tup _ => if eqT 50 x y = true then some true else none
    | .fd _ _ => if eqT 50 x y = true then some true else none
    | _ => none
def ordW (p : Int → Int → Bool) : W → W → M W
  | .int i, .int j => pure (.bl (p i j))
  | _, _ => bad
def cmpW : CmpOp → W → W → M W
  | .Eq, x, y => ofO ((eqA x y).map .bl)
  | .NotEq, x, y => ofO ((eqW x y).map fun b => .bl (!b))
  | .Lt, x, y => ordW (fun i j => decide (i < j)) x y
  | .LtE, x, y => ordW (fun i j => decide (i ≤ j)) x y
  | .Gt, x, y => ordW (fun i j => decide (j < i)) x y
  | .GtE, x, y => ordW (fun i j => decide (j ≤ i)) x y
  | _, _, _ => bad
def truW : W → M Bool
  | .bl b => pure b
  | .non => pure false
  | .int i => pure (i != 0)
  | _ => bad
def asB : W → M Bool
  | .bl b => pure b
  | _ => bad
def negW : W → M W
  | .int i => pure (.int (-i))
  | _ => bad
def atW (xs : List W) (i : Int) : M W := ofO (atI xs i)
def subW (o i : W) : M W := match o, i with
  | .str s, .int i => if s.length ≤ sizeLine then ofO ((atI s.cps.toList i).map fun c => .str ⟨#[c]⟩) else bad
  | o, .int i => itemsOf o >>= fun xs => atW xs i
  | _, _ => bad
def cutW (xs : List W) (lo hi : Option Int) : List W := (xs.drop (HT.sIx xs.length 0 lo)).take (HT.sIx xs.length xs.length hi - HT.sIx xs.length 0 lo)
def sliW (o : W) (lo hi : Option Int) : M W := match o with
  | .tup xs => pure (.tup (cutW xs lo hi))
  | .fl xs => pure (.fl (cutW xs lo hi))
  | .kl xs => pure (.fl (cutW xs lo hi))
  | .ref i => getO i >>= fun o => (lstOf o : M (List W)) >>= fun xs => pure (.fl (cutW xs lo hi))
  | .str s => if s.length ≤ sizeLine then pure (.str (cutS s lo hi)) else bad
  | _ => bad
def lenW : W → M W
  | .str s => if s.length ≤ sizeLine then pure (.int s.length) else bad
  | w => itemsOf w >>= fun xs => pure (.int xs.length)
def intsOf : List W → Option (List Int)
  | [] => some []
  | .int i :: r => (intsOf r).map (i :: ·)
  | _ => none
def blsOf : List W → Option (List Bool)
  | [] => some []
  | .bl i :: r => (blsOf r).map (i :: ·)
  | _ => none
def one1 (f : W → M W) : List W → M W
  | [w] => f w
  | _ => bad
def int1 (f : Int → M W) : List W → M W
  | [.int i] => f i
  | _ => bad
def int2 (f : Int → Int → M W) : List W → M W
  | [.int i, .int j] => f i j
  | _ => bad
def fl1 (f : List W → M W) : List W → M W
  | [.fl xs] => f xs
  | _ => bad
def intW : W → M W
  | .int i => pure (.int i)
  | .bl b => pure (.int (if b then 1 else 0))
  | _ => bad
/-- a plain thing, or a dict of such -/
def pdS : W → Option PyData
  | .non => some .none
  | .bl b => some (.bool b)
  | .int i => some (.int i)
  | .str s => some (.str s)
  | _ => none
def pdSL : List W → Option (List PyData)
  | [] => some []
  | x :: xs => (pdS x).bind fun d => (pdSL xs).map (d :: ·)
def kPd : Key → PyData
  | .inl i => .int i
  | .inr x => .str x
def pdD : W → Option PyData
  | .fd ks ws => if ks.length = ws.length then (pdSL ws).map fun ds => .dict ((ks.map kPd).zip ds) else none
  | w => pd w
def pdDL : List W → Option (List PyData)
  | [] => some []
  | x :: xs => (pdD x).bind fun d => (pdDL xs).map (d :: ·)
def shF (xs : List W) : Option Str := (pdDL xs).bind fun ds => if (PyData.list ds).showable = true ∧ (PyData.list ds).depth ≤ 60 ∧ (PyData.list ds).shown.length ≤ sizeLine then some (PyData.list ds).shown else none
def shW (w : W) : Option Str := match w with
  | .int i => if i.natAbs.log2 < 1920 then some (toString i) else none
  | .tup _ => (pd w).bind fun d => if d.showable = true ∧ d.hasDict = false ∧ d.depth ≤ 60 ∧ d.shown.length ≤ sizeLine then some d.shown else none
  | .fl xs => shF xs
  | _ => none
def biW : Bf → List W → M W
  | .len => one1 lenW
  | .abs => int1 fun i => pure (.int (if i < 0 then -i else i))
  | .max => int2 fun i j => pure (.int (if j > i then j else i))
  | .min => int2 fun i j => pure (.int (if j < i then j else i))
  | .sum => fl1 fun xs => ofO (intsOf xs) >>= fun ns => pure (.int ns.sum)
  | .all => fl1 fun xs => ofO (blsOf xs) >>= fun bs => pure (.bl (bs.all id))
  | .any => fl1 fun xs => ofO (blsOf xs) >>= fun bs => pure (.bl (bs.any id))
  | .list => one1 fun w => itemsOf w >>= fun xs => pure (.fl xs)
  | .tuple => one1 fun w => itemsOf w >>= fun xs => pure (.tup xs)
  | .str => int1 fun i => if i.natAbs.log2 < 1920 then pure (.str (toString i)) else bad
  | .int => one1 intW
  | .repr => one1 fun w => ofO ((shW w).map .str)
  | _ => fun _ => bad
/-- the class of a value -/
def typeOfW (Γ : Gm) (st : Sto) : W → Option Cl
  | .non => some (.ty "NoneType")
  | .bl _ => some (.ty "bool")
  | .int _ => some (.ty "int")
  | .str _ => some (.ty "str")
  | .tup _ => some (.ty "tuple")
  | .fl _ => some (.ty "list")
  | .kl _ => some (.ty "list")
  | .fd _ _ => some (.ty "dict")
  | .obj c _ _ => if Γ.cls c = true then some (.own c) else none
  | .ref i => match st[i]? with
    | some (.lst _) => some (.ty "list")
    | some (.dct _ _) => some (.ty "dict")
    | some (.ins c _ _) => if Γ.cls c = true then some (.own c) else none
    | none => none
  | _ => none
def isaW (Γ : Gm) : Cl → Cl → Option Bool
  | .ty a, .ty b => kitB a b
  | t, c => Γ.isa t c
def isiW (Γ : Gm) (w : W) (st : Sto) (c : Cl) : Option Bool := (typeOfW Γ st w).bind fun t => isaW Γ t c
def anyO : List (Option Bool) → Option Bool
  | [] => some false
  | some true :: _ => some true
  | some false :: r => anyO r
  | none :: _ => none
/-- what may be walked: it stays as it is -/
def itemsI : W → M (List W)
  | .tup xs => pure xs
  | .fl xs => pure xs
  | .kl xs => pure xs
  | _ => bad
/-- the type that a method asks -/
def tyM (T : String) : W → M Unit
  | .str _ => if T = "str" then pure () else bad
  | .fl _ => if T = "list" then pure () else bad
  | .kl _ => if T = "list" then pure () else bad
  | .fd _ _ => if T = "dict" then pure () else bad
  | .ref i => getO i >>= fun o => match o with
    | .lst _ => if T = "list" then pure () else bad
    | .dct _ _ => if T = "dict" then pure () else bad
    | _ => bad
  | _ => bad
def strsOf : List W → Option (List Str)
  | [] => some []
  | .str i :: r => (strsOf r).map (i :: ·)
  | _ => none
/-- how many signs a join has, with room -/
def joinRoom (a : Str) (ys : List Str) : Bool := decide ((ys.map (·.length)).sum + ys.length * a.length ≤ 16777216)
def bmW (m : Mf) (o : W) (ws : List W) : M W := match m with
  | .append => match o with
    | .ref i => one1 (fun w => getO i >>= lstOf >>= fun xs => if xs.length < sizeLine then setO i (.lst (xs ++ [w])) >>= fun _ => pure .non else bad) ws
    | _ => bad
  | .join => match o with
    | .str a => one1 (fun w => itemsI w >>= fun xs => ofO (strsOf xs) >>= fun ys => if joinRoom a ys = true then pure (.str (Txt.join a ys)) else bad) ws
    | _ => bad
def augW (op : Operator) (x y : W) : M W := match x with
  | .int i => binW op x y
  | .str a => match op with
    | .Add => binW op x y
    | _ => bad
  | _ => bad
def setIW (o i w : W) : M Unit := match o, i with
  | .ref a, .int k => getO a >>= lstOf >>= fun xs => ofO (ixN xs.length k) >>= fun j => setO a (.lst (xs.set j w))
  | _, _ => bad
def rngW : W → W → M (List W)
  | .int i, .int j => @ite (M (List W)) ((-(2 ^ 62) ≤ i ∧ i < 2 ^ 62) ∧ -(2 ^ 62) ≤ j ∧ j < 2 ^ 62) (Classical.propDecidable _) (pure ((List.range (j - i).toNat).map fun (k : Nat) => W.int (i + (k : Int)))) bad
  | _, _ => bad
def zipW : W → W → M (List W)
  | .fl xs, .fl ys => pure (List.zipWith (fun x y => .tup [x, y]) xs ys)
  | .tup xs, .tup ys => pure (List.zipWith (fun x y => .tup [x, y]) xs ys)
  | _, _ => bad
def enumFrom : Nat → List W → List W
  | _, [] => []
  | n, x :: xs => .tup [.int n, x] :: enumFrom (n + 1) xs
def enumW : W → M (List W)
  | .fl xs => pure (enumFrom 0 xs)
  | _ => bad
/-! ### targets -/
mutual
def bindT : Tg → W → Rho → Option Rho
  | .name i, w, ρ => some (ρ.set i (some w))
  | .tup ts, .tup ws, ρ => bindTs ts ws ρ
  | _, _, _ => none
def bindTs : List Tg → List W → Rho → Option Rho
  | [], [], ρ => some ρ
  | t :: ts, w :: ws, ρ => (bindT t w ρ).bind fun ρ' => bindTs ts ws ρ'
  | _, _, _ => none
end
mutual
def Tg.slots : Tg → List Nat
  | .name i => [i]
  | .tup ts => slotsL ts
def slotsL : List Tg → List Nat
  | [] => []
  | t :: ts => t.slots ++ slotsL ts
end
def wipeR (ρ : Rho) : List Nat → Rho
  | [] => ρ
  | v :: vs => (wipeR ρ vs).set v none
def isNon : W → Bool
  | .non => true
  | _ => false
def intO : W → M (Option Int)
  | .int i => pure (some i)
  | _ => bad
def varW (i : Nat) (ρ : Rho) : M W := match ρ[i]? with
  | some (some w) => pure w
  | _ => bad
def lcEnd (m : Bool) (ws : List W) : M W := if ws.length ≤ sizeLine then (if m = true then newO (.lst ws) else pure (.fl ws)) else bad
def lcF (tg : Tg) (fi : Rho → M Bool) (fe : Rho → M W) (ρ0 : Rho) (w : W) : M (Option W) := ofO (bindT tg w ρ0) >>= fun ρ' => fi ρ' >>= fun b => if b = true then (fe ρ' >>= fun y => pure (some y)) else pure none
/-- a comprehension's loop -/
def lcM (f : W → M (Option W)) : List W → M (List W)
  | [] => pure []
  | x :: xs => f x >>= fun o => lcM f xs >>= fun ys => pure (o.toList ++ ys)
def insU {α : Type} [DecidableEq α] (acc : List α) (k : α) : List α := if k ∈ acc then acc else acc ++ [k]
def tupI : W → Option (List Int)
  | .tup xs => intsOf xs
  | _ => none
def tupsI : List W → Option (List (List Int))
  | [] => some []
  | w :: ws => match tupI w with
    | some k => (tupsI ws).map (k :: ·)
    | none => none
def setLen (ws : List W) : M W := match intsOf ws with
  | some ns => if ns.length + 1 < 1000 then pure (.int (ns.foldl insU []).length) else bad
  | none => match tupsI ws with
    | some ks => if ks.length + 1 < 64 then pure (.int (ks.foldl insU []).length) else bad
    | none => bad
def lcM2 (f : W → M (List W)) : List W → M (List W)
  | [] => pure []
  | x :: xs => f x >>= fun o => lcM2 f xs >>= fun ys => pure (o ++ ys)
def lc2F (tg : Tg) (fi : Rho → M Bool) (fI1 : Rho → M (List W)) (tg1 : Tg) (fi1 : Rho → M Bool) (fe : Rho → M W) (vs1 : List Nat) (ρ0 : Rho) (w : W) : M (List W) :=
  ofO (bindT tg w ρ0) >>= fun ρ' => fi ρ' >>= fun b => if b = true then (fI1 ρ' >>= fun items => lcM (lcF tg1 fi1 fe (wipeR ρ' vs1)) items) else pure []
def callW (Γ : Gm) (f : Str) (ks : List Str) (ws zs : List W) : M W := match Γ.bnd f ws.length ks with
  | some g => if zs.length = ks.length then Γ.fn f (g ws zs) else bad
  | none => bad
def lookF : List Str → List W → Str → Option W
  | n :: ns, w :: ws, f => if f == n then some w else lookF ns ws f
  | _, _, _ => none
def fieldsW (Γ : Gm) (w : W) : M (Str × List Str × List W) := match w with
  | .obj c ns ws => pure (c, ns, ws)
  | .ref i => getO i >>= fun o => match o with
    | .ins c ns ws => pure (c, ns, ws)
    | _ => bad
  | _ => bad
def attrW (Γ : Gm) (f : Str) (w : W) : M W := fieldsW Γ w >>= fun x => if Γ.fld x.1 f = true then ofO (lookF x.2.1 x.2.2 f) else bad
def chkM (Γ : Gm) (c m : Str) (w : W) : M Unit := fieldsW Γ w >>= fun x => if x.1 = c ∧ m ∉ x.2.1 then pure () else bad
def methW (Γ : Gm) (c m : Str) (ks : List Str) (w : W) (ws zs : List W) : M W := match Γ.mbnd c m (ws.length + 1) ks with
  | some g => if zs.length = ks.length then Γ.mfn c m (g (w :: ws) zs) else bad
  | none => bad
def putW (f : Str) (w : W) : List Str → List W → List Str × List W
  | n :: ns, x :: ws => if n = f then (n :: ns, w :: ws) else (n :: (putW f w ns ws).1, x :: (putW f w ns ws).2)
  | _, _ => ([f], [w])
def setAW (Γ : Gm) (f : Str) (o w : W) : M Unit := match o with
  | .ref i => getO i >>= fun ob => match ob with
    | .ins c ns ws => if Γ.fld c f = true ∧ ns.length < 1000 ∧ ns.length = ws.length then setO i (.ins c (putW f w ns ws).1 (putW f w ns ws).2) else bad
    | _ => bad
  | _ => bad
def mkW (Γ : Gm) (c : Str) (ks : List Str) (ws zs : List W) : M W := match Γ.kbnd c ws.length ks with
  | some g => if zs.length = ks.length then Γ.kfn c (g ws zs) else bad
  | none => bad
def isiM (Γ : Gm) (cs : List Cl) (w : W) : M W := fun st => ofO ((anyO (cs.map (isiW Γ w st))).map .bl) st
def lenRngW : W → M W
  | .int n => @ite (M W) (-(2 ^ 62) ≤ n ∧ n < 2 ^ 62) (Classical.propDecidable _) (pure (.int n.toNat)) bad
  | _ => bad
def revW (w : W) : M W := match w with
  | .tup xs => pure (.tup xs.reverse)
  | .fl xs => pure (.fl xs.reverse)
  | .kl xs => pure (.fl xs.reverse)
  | .ref i => getO i >>= fun o => (lstOf o : M (List W)) >>= fun xs => pure (.fl xs.reverse)
  | _ => bad
/-- the items of a list that no one locked -/
def itemsU : W → M (List W)
  | .fl xs => pure xs
  | .ref i => getO i >>= lstOf
  | _ => bad
def catW (m : Bool) (x y : W) : M W := itemsU x >>= fun xs => itemsU y >>= fun ys => if xs.length + ys.length ≤ sizeLine then lcEnd m (xs ++ ys) else bad
def fmtW : W → Option Str
  | .str y => if y.length ≤ sizeLine then some y else none
  | .int i => if i.natAbs.log2 < 1920 then some (toString i) else none
  | _ => none
/-! ### own special methods -/
def clsOfW (st : Sto) : W → Option Str
  | .obj c _ _ => some c
  | .ref i => match st[i]? with
    | some (.ins c _ _) => some c
    | _ => none
  | _ => none
def plainTys : List String := ["NoneType", "bool", "int", "str", "tuple", "list", "dict"]
def okR (Γ : Gm) (st : Sto) (c : Str) (y : W) : Bool := match typeOfW Γ st y with
  | some (.ty T) => plainTys.contains T
  | some (.own d) => decide (d = c)
  | none => false
def eqoM (Γ : Gm) (ne : Bool) (c : Str) (x y : W) : M W := fun st =>
  if Γ.spc c "__eq__" = true ∧ okR Γ st c y = true then (match Γ.mbnd c "__eq__" 2 [] with
    | some g => (match Γ.mfn c "__eq__" (g [x, y] []) st with
      | .ok (.bl b) st' => .ok (.bl (if ne = true then !b else b)) st'
      | _ => .bad)
    | none => .bad) else .bad
def cmpG (Γ : Gm) (op : CmpOp) (x y : W) : M W := fun st => match clsOfW st x with
  | none => cmpW op x y st
  | some c => match op with
    | .Eq => eqoM Γ false c x y st
    | .NotEq => eqoM Γ true c x y st
    | _ => .bad
def okLen : W → Bool
  | .int n => decide (0 ≤ n ∧ n < 2 ^ 63)
  | _ => false
def okStr : W → Bool
  | .str _ => true
  | _ => false
def specM (Γ : Gm) (m : Str) (ok : W → Bool) (c : Str) (x : W) : M W := fun st =>
  if Γ.spc c m = true then (match Γ.mbnd c m 1 [] with
    | some g => (match Γ.mfn c m (g [x] []) st with
      | .ok w st' => if ok w = true then .ok w st' else .bad
      | _ => .bad)
    | none => .bad) else .bad
def biG (Γ : Gm) (f : Bf) (ws : List W) : M W := fun st => match ws with
  | [x] => (match clsOfW st x with
    | none => biW f [x] st
    | some c => match f with
      | .len => specM Γ "__len__" okLen c x st
      | .str => specM Γ "__str__" okStr c x st
      | .repr => specM Γ "__repr__" okStr c x st
      | _ => .bad)
  | ws => biW f ws st
/-! ### expressions -/
section
variable (Γ : Gm)
mutual
def evalE : C → Rho → M W
  | .var i, ρ => varW i ρ
  | .int i, _ => pure (.int i)
  | .str s, _ => pure (.str s)
  | .bl b, _ => pure (.bl b)
  | .non, _ => pure .non
  | .glb x, _ => ofO (Γ.glob x)
  | .bin op a b, ρ => do
    let x ← evalE a ρ
    let y ← evalE b ρ
    binW op x y
  | .neg a, ρ => do negW (← evalE a ρ)
  | .not a, ρ => evalE a ρ >>= asB >>= fun k => pure (.bl (!k))
  | .and x xs, ρ => evalE x ρ >>= evalAnd xs ρ
  | .or x xs, ρ => evalE x ρ >>= evalOr xs ρ
  | .cmp op a b, ρ => evalE a ρ >>= fun x => evalE b ρ >>= fun y => cmpG Γ op x y
  | .chn op op' a b c, ρ => evalE a ρ >>= fun x => evalE b ρ >>= fun y => cmpG Γ op x y >>= asB >>= fun k => if k = true then (evalE c ρ >>= fun z => cmpG Γ op' y z) else pure (.bl false)
  | .isN a, ρ => evalE a ρ >>= fun w => pure (.bl (isNon w))
  | .notN a, ρ => evalE a ρ >>= fun w => pure (.bl (!isNon w))
  | .ife t a b, ρ => evalT t ρ >>= fun k => if k = true then evalE a ρ else evalE b ρ
  | .tup xs, ρ => do
    let ws ← evalEs xs ρ
    if ws.length ≤ sizeLine then pure (.tup ws) else bad
  | .lst m xs, ρ => do
    let ws ← evalEs xs ρ
    if ws.length ≤ sizeLine then (if m then newO (.lst ws) else pure (.fl ws)) else bad
  | .call f xs ks ys, ρ => do
    let ws ← evalEs xs ρ
    let zs ← evalEs ys ρ
    callW Γ f ks ws zs
  | .mk c xs ks ys, ρ => do
    let ws ← evalEs xs ρ
    let zs ← evalEs ys ρ
    mkW Γ c ks ws zs
  | .meth c o m xs ks ys, ρ => do
    let w ← evalE o ρ
    chkM Γ c m w
    let ws ← evalEs xs ρ
    let zs ← evalEs ys ρ
    methW Γ c m ks w ws zs
  | .bi f xs, ρ => do biG Γ f (← evalEs xs ρ)
  | .bm m o xs, ρ => do
    let w ← evalE o ρ
    tyM m.ty w
    let ws ← evalEs xs ρ
    bmW m w ws
  | .isi a cs, ρ => do isiM Γ cs (← evalE a ρ)
  | .attr o f, ρ => do attrW Γ f (← evalE o ρ)
  | .sub o i, ρ => do
    let x ← evalE o ρ
    let y ← evalE i ρ
    subW x y
  | .sli o lo hi, ρ => do
    let x ← evalE o ρ
    let l ← evalO lo ρ
    let h ← evalO hi ρ
    sliW x l h
  | .lc m own e tg it ifs, ρ => do
    let items ← evalI it ρ
    let ws ← (lcM (lcF tg (fun ρ' => evalAll ifs ρ') (fun ρ' => evalE e ρ') (wipeR ρ (own.map (·.2)))) items).noEr
    lcEnd m ws
  | .lc2 m own vs1 e tg it ifs tg1 it1 ifs1, ρ => do
    let items ← evalI it ρ
    let ws ← (lcM2 (lc2F tg (fun ρ' => evalAll ifs ρ') (fun ρ' => evalI it1 ρ') tg1 (fun ρ' => evalAll ifs1 ρ') (fun ρ' => evalE e ρ') vs1 (wipeR ρ (own.map (·.2)))) items).noEr
    lcEnd m ws
  | .lenSet own e tg it ifs, ρ => do
    let items ← evalI it ρ
    let ws ← (lcM (lcF tg (fun ρ' => evalAll ifs ρ') (fun ρ' => evalE e ρ') (wipeR ρ (own.map (·.2)))) items).noEr
    setLen ws
  | .fst xs, ρ => evalF xs ρ Str.empty
  | .lenRng a, ρ => evalE a ρ >>= lenRngW
  | .cat m a b, ρ => evalE a ρ >>= fun x => evalE b ρ >>= fun y => catW m x y
  | .rev o, ρ => evalE o ρ >>= revW
  | .dct m ks vs, ρ => evalEs vs ρ >>= fun ws => if ws.length = ks.length then (if m = true then newO (.dct ks ws) else pure (.fd ks ws)) else bad
def evalF : Cs → Rho → Str → M W
  | .nil, _, acc => pure (.str acc)
  | .cons c cs, ρ, acc => evalE c ρ >>= fun w => ofO (fmtW w) >>= fun a => if (acc ++ a).length ≤ sizeLine then evalF cs ρ (acc ++ a) else bad
def evalEs : Cs → Rho → M (List W)
  | .nil, _ => pure []
  | .cons c cs, ρ => do
    let w ← evalE c ρ
    let ws ← evalEs cs ρ
    pure (w :: ws)
def evalAnd : Cs → Rho → W → M W
  | .nil, _, w => pure w
  | .cons c cs, ρ, w => asB w >>= fun k => if k = true then (evalE c ρ >>= evalAnd cs ρ) else pure (.bl false)
def evalOr : Cs → Rho → W → M W
  | .nil, _, w => pure w
  | .cons c cs, ρ, w => asB w >>= fun k => if k = true then pure (.bl true) else (evalE c ρ >>= evalOr cs ρ)
/-- a test -/
def evalT : Ct → Rho → M Bool
  | .val c, ρ => evalE c ρ >>= asB
  | .cmp op a b, ρ => (evalE a ρ >>= fun x => evalE b ρ >>= fun y => cmpG Γ op x y) >>= asB
  | .chn op op' a b c, ρ => (evalE a ρ >>= fun x => evalE b ρ >>= fun y => cmpG Γ op x y >>= asB >>= fun k => if k = true then (evalE c ρ >>= fun z => cmpG Γ op' y z) else pure (.bl false)) >>= asB
  | .isN a, ρ => evalE a ρ >>= fun w => pure (isNon w)
  | .notN a, ρ => evalE a ρ >>= fun w => pure (!isNon w)
  | .not t, ρ => evalT t ρ >>= fun k => pure (!k)
  | .and t ts, ρ => evalT t ρ >>= evalTAnd ts ρ
  | .or t ts, ρ => evalT t ρ >>= evalTOr ts ρ
def evalTAnd : Cts → Rho → Bool → M Bool
  | .nil, _, k => pure k
  | .cons t ts, ρ, k => if k = true then (evalT t ρ >>= evalTAnd ts ρ) else pure false
def evalTOr : Cts → Rho → Bool → M Bool
  | .nil, _, k => pure k
  | .cons t ts, ρ, k => if k = true then pure true else (evalT t ρ >>= evalTOr ts ρ)
def evalAll : Cts → Rho → M Bool
  | .nil, _ => pure true
  | .cons t ts, ρ => match ts with
    | .nil => evalT t ρ
    | .cons _ _ => bad
def evalO : Co → Rho → M (Option Int)
  | .no, _ => pure none
  | .yes c, ρ => evalE c ρ >>= intO
def evalI : It → Rho → M (List W)
  | .seq c, ρ => do itemsI (← evalE c ρ)
  | .rng1 a, ρ => do rngW (.int 0) (← evalE a ρ)
  | .rng2 a b, ρ => do
    let x ← evalE a ρ
    let y ← evalE b ρ
    rngW x y
  | .zip a b, ρ => do
    let x ← evalE a ρ
    let y ← evalE b ρ
    zipW x y
  | .enum a, ρ => do enumW (← evalE a ρ)
end
end
end
end Vm
/-! Vm, part C: readings by what code comes to. -/
namespace Vm
open PySem L2

/-- an exception in the heap -/
def XR (K : PySem.W.Frag) (H : Hp) (μ : Mu) (x : Xc) (cls : Value) (d : Option Addr) : Prop :=
  cls = .ref (He.ga K x.cls) ∧ ((x.ns = [] ∧ d = none) ∨ ∃ a vs, d = some a ∧ H a = some (.xd (x.ns.zip vs)) ∧ x.ns.length = vs.length ∧ RpL K H μ x.ws vs)
structure EnvR (K : PySem.W.Frag) (H : Hp) (μ : Mu) (ρ : Rho) (σ : St) : Prop where
  len : ρ.length = σ.length
  at_ : ∀ (i : Nat) (w : W), ρ[i]? = some (some w) → ∃ v, σ[i]? = some (some v) ∧ Rp K H μ w v
def Pst (K : PySem.W.Frag) (E : XK) {α : Type} (H : Hp) (μ : Mu) (r : R α) (Q : α → Sto → Hp → Mu → Prop) : Prop := match r with
  | .ok a st => ∀ H' μ', Ext H μ H' μ' → StR K H' μ' st → Q a st H' μ'
  | .er x st => ∀ cls d H' μ', Ext H μ H' μ' → StR K H' μ' st → XR K H' μ' x cls d → E cls d H'
  | .bad => False
section
variable {K : PySem.W.Frag} {E : XK} {H H1 : Hp} {μ μ1 : Mu} {α β : Type} {r : R α} {Q Q' : α → Sto → Hp → Mu → Prop} {st : Sto} {σ : St} {ρ : Rho}
theorem Pst.mono (e : Ext H μ H1 μ1) (h : Pst K E H μ r Q) : Pst K E H1 μ1 r Q := by
  cases r with
  | ok a st => exact fun H' μ' e' S => h H' μ' (e.trans' e') S
  | er x st => exact fun c d H' μ' e' S => h c d H' μ' (e.trans' e') S
  | bad => exact h
theorem Pst.imp (h : Pst K E H μ r Q) (i : ∀ a st' H' μ', Ext H μ H' μ' → StR K H' μ' st' → Q a st' H' μ' → Q' a st' H' μ') : Pst K E H μ r Q' := by
  cases r with
  | ok a st => exact fun H' μ' e' S => i a st H' μ' e' S (h H' μ' e' S)
  | er x st => exact h
  | bad => exact h
theorem Pst.bind {m : M α} {f : α → M β} {Q : β → Sto → Hp → Mu → Prop} (h : Pst K E H μ ((m >>= f) st) Q) : Pst K E H μ (m st) (fun a st1 H1 μ1 => Pst K E H1 μ1 (f a st1) Q) := by
  rw [run_bind] at h
  cases q : m st with
  | ok a st1 =>
    rw [q] at h
    exact fun H1 μ1 e1 S1 => Pst.mono e1 h
  | er x st1 =>
    rw [q] at h
    exact h
  | bad =>
    rw [q] at h
    exact h
/-- the value as it is, where one stands -/
theorem Pst.here {a : α} (S : StR K H μ st) (h : Pst K E H μ (.ok a st) Q) : Q a st H μ := h H μ Ext.refl S
theorem Pst.pure {a : α} (S : StR K H μ st) (h : Pst K E H μ ((Pure.pure a : M α) st) Q) : Q a st H μ := h H μ Ext.refl S
theorem EnvR.mono (S : StR K H μ st) (e : Ext H μ H1 μ1) (h : EnvR K H μ ρ σ) : EnvR K H1 μ1 ρ σ := ⟨h.len, fun i w q => by
  obtain ⟨v, q1, q2⟩ := h.at_ i w q
  exact ⟨v, q1, q2.mono S e⟩⟩
theorem EnvR.kp (e : Kp H μ H1 μ1) (h : EnvR K H μ ρ σ) : EnvR K H1 μ1 ρ σ := ⟨h.len, fun i w q => by
  obtain ⟨v, q1, q2⟩ := h.at_ i w q
  exact ⟨v, q1, q2.kp e⟩⟩
theorem EnvR.set {i : Nat} {w : W} {v : V} (h : EnvR K H μ ρ σ) (r : Rp K H μ w v) : EnvR K H μ (ρ.set i (some w)) (σ.set i (some v)) := by
  refine ⟨by simp [h.len], fun j w' q => ?_⟩
  by_cases e : i = j
  · subst e
    by_cases hi : i < ρ.length
    · rw [List.getElem?_set_self hi] at q
      cases q
      exact ⟨v, List.getElem?_set_self (by rw [← h.len]; exact hi), r⟩
    · rw [List.getElem?_eq_none (by simpa using hi)] at q; cases q
  · rw [List.getElem?_set_ne e] at q
    rw [List.getElem?_set_ne e]
    exact h.at_ j w' q
theorem EnvR.setN {i : Nat} (h : EnvR K H μ ρ σ) : EnvR K H μ (ρ.set i none) (σ.set i none) := by
  refine ⟨by simp [h.len], fun j w' q => ?_⟩
  by_cases e : i = j
  · subst e
    by_cases hi : i < ρ.length
    · rw [List.getElem?_set_self hi] at q
      cases q
    · rw [List.getElem?_eq_none (by simpa using hi)] at q; cases q
  · rw [List.getElem?_set_ne e] at q
    rw [List.getElem?_set_ne e]
    exact h.at_ j w' q
theorem EnvR.wipe (h : EnvR K H μ ρ σ) : ∀ vs : List Nat, EnvR K H μ (wipeR ρ vs) (L2.wipe σ vs)
  | [] => h
  | v :: vs => (EnvR.wipe h vs).setN
end

/-! ### lists of values -/
section
variable {K : PySem.W.Frag} {H H1 : Hp} {μ μ1 : Mu} {st : Sto}
theorem RpL.length : ∀ {ws : List W} {vs : List V}, RpL K H μ ws vs → ws.length = vs.length
  | [], vs, h => by simp only [RpL] at h; subst h; rfl
  | w :: ws, vs, h => by
    simp only [RpL] at h
    obtain ⟨v, r, rfl, _, h2⟩ := h
    simp [RpL.length h2]
theorem RpL.nil : RpL K H μ [] [] := by simp [RpL]
theorem RpL.cons {w : W} {v : V} {ws : List W} {vs : List V} (h : Rp K H μ w v) (hs : RpL K H μ ws vs) : RpL K H μ (w :: ws) (v :: vs) := by
  simp only [RpL]; exact ⟨v, vs, rfl, h, hs⟩
theorem RpL.uncons {w : W} {ws : List W} {vs : List V} (h : RpL K H μ (w :: ws) vs) : ∃ v r, vs = v :: r ∧ Rp K H μ w v ∧ RpL K H μ ws r := by
  simpa only [RpL] using h
theorem RpL.append : ∀ {ws : List W} {vs : List V} {xs : List W} {us : List V}, RpL K H μ ws vs → RpL K H μ xs us → RpL K H μ (ws ++ xs) (vs ++ us)
  | [], vs, xs, us, h, h2 => by simp only [RpL] at h; subst h; exact h2
  | w :: ws, vs, xs, us, h, h2 => by
    obtain ⟨v, r, rfl, h1, h3⟩ := h.uncons
    exact .cons h1 (RpL.append h3 h2)
theorem RpL.get : ∀ {ws : List W} {vs : List V} {i : Nat} {w : W}, RpL K H μ ws vs → ws[i]? = some w → ∃ v, vs[i]? = some v ∧ Rp K H μ w v
  | [], vs, i, w, h, e => by simp at e
  | x :: ws, vs, 0, w, h, e => by
    obtain ⟨v, r, rfl, h1, h3⟩ := h.uncons
    simp at e; subst e
    exact ⟨v, rfl, h1⟩
  | x :: ws, vs, i + 1, w, h, e => by
    obtain ⟨v, r, rfl, h1, h3⟩ := h.uncons
    obtain ⟨v', e', h'⟩ := RpL.get (i := i) h3 (by simpa using e)
    exact ⟨v', by simpa using e', h'⟩
theorem RpL.getV : ∀ {ws : List W} {vs : List V} {i : Nat} {v : V}, RpL K H μ ws vs → vs[i]? = some v → ∃ w, ws[i]? = some w ∧ Rp K H μ w v
  | [], vs, i, v, h, e => by simp only [RpL] at h; subst h; simp at e
  | x :: ws, vs, 0, v, h, e => by
    obtain ⟨v', r, rfl, h1, h3⟩ := h.uncons
    simp at e; subst e
    exact ⟨x, rfl, h1⟩
  | x :: ws, vs, i + 1, v, h, e => by
    obtain ⟨v', r, rfl, h1, h3⟩ := h.uncons
    obtain ⟨w', e', h'⟩ := RpL.getV (i := i) h3 (by simpa using e)
    exact ⟨w', by simpa using e', h'⟩
theorem RpL.take : ∀ {ws : List W} {vs : List V} (n : Nat), RpL K H μ ws vs → RpL K H μ (ws.take n) (vs.take n)
  | _, _, 0, _ => .nil
  | [], vs, n + 1, h => by simp only [RpL] at h; subst h; exact .nil
  | w :: ws, vs, n + 1, h => by
    obtain ⟨v, r, rfl, h1, h3⟩ := h.uncons
    exact .cons h1 (RpL.take n h3)
theorem RpL.drop : ∀ {ws : List W} {vs : List V} (n : Nat), RpL K H μ ws vs → RpL K H μ (ws.drop n) (vs.drop n)
  | _, _, 0, h => h
  | [], vs, n + 1, h => by simp only [RpL] at h; subst h; exact .nil
  | w :: ws, vs, n + 1, h => by
    obtain ⟨v, r, rfl, h1, h3⟩ := h.uncons
    exact RpL.drop n h3
theorem RpL.set {w : W} {v : V} (h : Rp K H μ w v) : ∀ {ws : List W} {vs : List V} (i : Nat), RpL K H μ ws vs → RpL K H μ (ws.set i w) (vs.set i v)
  | [], vs, i, h1 => by simp only [RpL] at h1; subst h1; exact .nil
  | x :: ws, vs, 0, h1 => by
    obtain ⟨v', r, rfl, h2, h3⟩ := h1.uncons
    exact .cons h h3
  | x :: ws, vs, i + 1, h1 => by
    obtain ⟨v', r, rfl, h2, h3⟩ := h1.uncons
    exact .cons h2 (RpL.set h i h3)
/-- a new object that the store does not know -/
theorem Ext.laid (S : StR K H μ st) {p : Addr} {o : HO} (hp : H p = none) : Ext H μ (upd H p o) μ :=
  ⟨⟨[], by simp⟩, fun _ h => h, fun a h n => absurd h n, fun a h n => absurd h n, fun a u h n => by rw [upd_ne (ne_of_none h hp)]; exact h, fun a u h => ⟨u, by rw [upd_ne (ne_of_none h hp)]; exact h⟩⟩
theorem StR.laid (S : StR K H μ st) {p : Addr} {o : HO} (hp : H p = none) : StR K (upd H p o) μ st :=
  ⟨S.len, S.nd, S.dis, fun a h => by
    obtain ⟨u, hu⟩ := S.hd a h
    exact ⟨u, by rw [upd_ne (ne_of_none hu hp)]; exact hu⟩, fun i ob a h1 h2 => by
    have e := Ext.laid (o := o) S hp
    have q := S.at_ i ob a h1 h2
    have hne : a ≠ p := fun z => by
      subst z
      exact S.fresh hp (List.mem_of_getElem? h2)
    rw [upd_ne hne]
    exact q.kp (e.kp S)⟩
/-- .. as data -/
abbrev Mu.dat (μ : Mu) (p : Addr) : Mu := ⟨μ.m, p :: μ.d⟩
theorem Ext.laidD (S : StR K H μ st) {p : Addr} {o : HO} (hp : H p = none) : Ext H μ (upd H p o) (μ.dat p) :=
  ⟨⟨[], by simp⟩, fun _ h => List.mem_cons_of_mem _ h, fun a h n => absurd h n, fun a h n => by
    rcases List.mem_cons.mp h with h | h
    · rw [h]; exact hp
    · exact absurd h n, fun a u h n => by rw [upd_ne (ne_of_none h hp)]; exact h, fun a u h => ⟨u, by rw [upd_ne (ne_of_none h hp)]; exact h⟩⟩
theorem StR.laidD (S : StR K H μ st) {p : Addr} {o : HO} (hp : H p = none) : StR K (upd H p o) (μ.dat p) st :=
  ⟨S.len, S.nd, fun a h => by
    rcases List.mem_cons.mp h with h | h
    · rw [h]; exact S.fresh hp
    · exact S.dis a h, fun a h => by
    rcases List.mem_cons.mp h with h | h
    · rw [h]; exact ⟨o, upd_same⟩
    · obtain ⟨u, hu⟩ := S.hd a h
      exact ⟨u, by rw [upd_ne (ne_of_none hu hp)]; exact hu⟩, fun i ob a h1 h2 => by
    have e := Ext.laidD (o := o) S hp
    have q := S.at_ i ob a h1 h2
    have hne : a ≠ p := fun z => by
      subst z
      exact S.fresh hp (List.mem_of_getElem? h2)
    rw [upd_ne hne]
    exact q.kp (e.kp S)⟩
/-- a new object that the store takes -/
abbrev Mu.add (μ : Mu) (p : Addr) : Mu := ⟨μ.m ++ [p], μ.d⟩
theorem Ext.push (S : StR K H μ st) {p : Addr} {o : HO} (hp : H p = none) : Ext H μ (upd H p o) (μ.add p) :=
  ⟨⟨[p], rfl⟩, fun _ h => h, fun a h n => by
    rcases List.mem_append.mp h with h | h
    · exact absurd h n
    · simp at h; subst h; exact hp, fun a h n => absurd h n, fun a u h n => by rw [upd_ne (ne_of_none h hp)]; exact h, fun a u h => ⟨u, by rw [upd_ne (ne_of_none h hp)]; exact h⟩⟩
theorem StR.push (S : StR K H μ st) {p : Addr} {o : HO} {ob : O} (hp : H p = none) (hob : ObR K (upd H p o) (μ.add p) ob (some o)) : StR K (upd H p o) (μ.add p) (st ++ [ob]) := by
  have e := Ext.push (o := o) S hp
  have hn := S.fresh hp
  refine ⟨by simp [S.len], List.nodup_append.mpr ⟨S.nd, by simp, fun a ha b hb => by simp at hb; subst hb; intro z; subst z; exact hn ha⟩, fun a h h2 => ?_, fun a h => ?_, fun i ob' a h1 h2 => ?_⟩
  · rcases List.mem_append.mp h2 with h2 | h2
    · exact S.dis a h h2
    · simp at h2
      subst h2
      exact S.freshd hp h
  · obtain ⟨u, hu⟩ := S.hd a h
    exact ⟨u, by rw [upd_ne (ne_of_none hu hp)]; exact hu⟩
  by_cases hi : i < st.length
  · rw [List.getElem?_append_left hi] at h1
    rw [List.getElem?_append_left (by rw [S.len]; exact hi)] at h2
    have q := S.at_ i ob' a h1 h2
    have hne : a ≠ p := fun z => by
      subst z
      exact hn (List.mem_of_getElem? h2)
    rw [upd_ne hne]
    exact q.kp (e.kp S)
  · have hi' : i = st.length := by
      have := (List.getElem?_eq_some_iff.mp h1).1
      simp at this
      omega
    subst hi'
    rw [List.getElem?_append_right (Nat.le_refl _)] at h1
    rw [List.getElem?_append_right (by rw [S.len]; exact Nat.le_refl _)] at h2
    simp at h1
    rw [S.len] at h2
    simp at h2
    subst h1 h2
    rw [upd_same]
    exact hob
/-- an object of the store changed -/
theorem Ext.write {a : Addr} {o : HO} (h : a ∈ μ.m) : Ext H μ (upd H a o) μ :=
  ⟨⟨[], by simp⟩, fun _ h => h, fun b h n => absurd h n, fun b h n => absurd h n, fun b u hb n => by
    have z : b ≠ a := fun z => by subst z; exact n h
    rw [upd_ne z]; exact hb, fun b u hb => by
    by_cases z : b = a
    · subst z; exact ⟨o, upd_same⟩
    · exact ⟨u, by rw [upd_ne z]; exact hb⟩⟩
theorem StR.write (S : StR K H μ st) {i : Nat} {a : Addr} {o : HO} {ob : O} (ha : μ.m[i]? = some a) (hob : ObR K (upd H a o) μ ob (some o)) : StR K (upd H a o) μ (st.set i ob) := by
  have hm := List.mem_of_getElem? ha
  have e : Ext H μ (upd H a o) μ := Ext.write hm
  refine ⟨by simp [S.len], S.nd, S.dis, fun b hb => ?_, fun j ob' b h1 h2 => ?_⟩
  · obtain ⟨u, hu⟩ := S.hd b hb
    exact e.stay b u hu
  by_cases hj : i = j
  · subst hj
    have hi : i < st.length := by rw [← S.len]; exact (List.getElem?_eq_some_iff.mp ha).1
    rw [List.getElem?_set_self hi] at h1
    cases h1
    rw [ha] at h2; cases h2
    rw [upd_same]; exact hob
  · rw [List.getElem?_set_ne hj] at h1
    have hne : b ≠ a := fun z => by
      subst z
      exact hj ((List.getElem?_inj (List.getElem?_eq_some_iff.mp ha).1 S.nd).mp (ha.trans h2.symm))
    rw [upd_ne hne]
    exact (S.at_ j ob' b h1 h2).kp (e.kp S)
/-- an object that neither the store nor any data knows is changed -/
theorem kp_other {D : Addr} {L : List V} {o : HO} (h : H D = some (.lst L)) (nd : D ∉ μ.d) : Kp H μ (upd H D o) μ :=
  ⟨fun a vs q => by rw [upd_ne (ne_of q h (by intro z; cases z))]; exact q, fun a o u q => by rw [upd_ne (ne_of q h (by intro z; cases z))]; exact q,
    fun a u hd q => by rw [upd_ne (fun z => nd (by rw [← z]; exact hd))]; exact q, fun _ h => h, fun _ _ h => h⟩
theorem StR.other (S : StR K H μ st) {D : Addr} {L : List V} {o : HO} (h : H D = some (.lst L)) (nm : D ∉ μ.m) (nd : D ∉ μ.d) : StR K (upd H D o) μ st :=
  ⟨S.len, S.nd, S.dis, fun b hb => by
    by_cases z : b = D
    · subst z; exact ⟨o, upd_same⟩
    · obtain ⟨u, hu⟩ := S.hd b hb
      exact ⟨u, by rw [upd_ne z]; exact hu⟩, fun i ob a h1 h2 => by
    have hne : a ≠ D := fun z => by
      subst z
      exact nm (List.mem_of_getElem? h2)
    rw [upd_ne hne]
    exact (S.at_ i ob a h1 h2).kp (kp_other h nd)⟩
end
end Vm
/-! Vm, part D: the rules of expressions. -/
namespace Vm
open PySem L2

section
variable (K : PySem.W.Frag) (E : WX)
def TX (f : Rho → M W) : TE := fun σ H Q => ∃ μ st ρ, StR K H μ st ∧ EnvR K H μ ρ σ ∧ Pst K (fun c d H' => E c d σ H') H μ (f ρ st) (fun w _ H' μ' => ∀ v, Rp K H' μ' w v → Q v H')
def TB (f : Rho → M Bool) : TT := fun σ H Q => ∃ μ st ρ, StR K H μ st ∧ EnvR K H μ ρ σ ∧ Pst K (fun c d H' => E c d σ H') H μ (f ρ st) (fun b _ H' _ => Q b H')
def TL (f : Rho → M (List W)) : TA := fun σ H Q => ∃ μ st ρ, StR K H μ st ∧ EnvR K H μ ρ σ ∧ Pst K (fun c d H' => E c d σ H') H μ (f ρ st) (fun ws _ H' μ' => ∀ vs, RpL K H' μ' ws vs → Q vs H')
def TOp (f : Rho → M (Option Int)) : TO := fun σ H Q => ∃ μ st ρ, StR K H μ st ∧ EnvR K H μ ρ σ ∧ Pst K (fun c d H' => E c d σ H') H μ (f ρ st) (fun o _ H' _ => Q o H')
end
section
variable {X : Cx} {e : Expr} {es : List Expr}
theorem pe_imp {t t' : TE} (h : PE X e t) (i : ∀ σ H Q, t' σ H Q → t σ H Q) : PE X e t' := ⟨fun pins s σ H Q I q => h.run pins s σ H Q I (i σ H Q q)⟩
theorem pt_imp {t t' : TT} (h : PT X e t) (i : ∀ σ H Q, t' σ H Q → t σ H Q) : PT X e t' := ⟨fun pins s σ H Q I q => h.run pins s σ H Q I (i σ H Q q)⟩
theorem pw_imp {t t' : TT} (h : PW X e t) (i : ∀ σ H Q, t' σ H Q → t σ H Q) : PW X e t' := ⟨fun wh pins s σ H Q I q => h.run wh pins s σ H Q I (i σ H Q q)⟩
theorem pa_imp {t t' : TA} (h : PA X es t) (i : ∀ σ H Q, t' σ H Q → t σ H Q) : PA X es t' := ⟨fun pos pins s σ H Q I q => h.run pos pins s σ H Q I (i σ H Q q)⟩
theorem po_imp {o : Option Expr} {t t' : TO} (h : PO X o t) (i : ∀ σ H Q, t' σ H Q → t σ H Q) : PO X o t' := ⟨fun pins s σ H Q I q => h.run pins s σ H Q I (i σ H Q q)⟩
end

section
variable {K : PySem.W.Frag} {E : WX} {σ : St} {H : Hp}
/-- the store and the names go on -/
theorem go1 {α : Type} {μ : Mu} {st : Sto} {ρ : Rho} {E' : XK} {m : M α} {Q Q' : α → Sto → Hp → Mu → Prop} (S : StR K H μ st) (e : EnvR K H μ ρ σ) (p : Pst K E' H μ (m st) Q)
    (h : ∀ a st1 H1 μ1, Ext H μ H1 μ1 → StR K H1 μ1 st1 → EnvR K H1 μ1 ρ σ → Q a st1 H1 μ1 → Q' a st1 H1 μ1) : Pst K E' H μ (m st) Q' := p.imp fun a st1 H1 μ1 x S1 q => h a st1 H1 μ1 x S1 (e.mono S x) q
/-- one value -/
theorem tx1 {f : Rho → M W} {g : Rho → W → M W} {Q : VK} (h : TX K E (fun ρ => f ρ >>= g ρ) σ H Q) : TX K E f σ H (fun x H1 => ∃ μ st ρ w, StR K H1 μ st ∧ EnvR K H1 μ ρ σ ∧ Rp K H1 μ w x ∧ Pst K (fun c d H' => E c d σ H') H1 μ (g ρ w st) (fun w _ H' μ' => ∀ v, Rp K H' μ' w v → Q v H')) := by
  obtain ⟨μ, st, ρ, S, e, p⟩ := h
  exact ⟨μ, st, ρ, S, e, go1 S e p.bind fun w st1 H1 μ1 x S1 e1 q v r => ⟨μ1, st1, ρ, w, S1, e1, r, q⟩⟩
/-- two values -/
theorem tx2 {f f' : Rho → M W} {g : W → W → M W} {Q : VK} (h : TX K E (fun ρ => f ρ >>= fun x => f' ρ >>= fun y => g x y) σ H Q) :
    TX K E f σ H (fun x H1 => TX K E f' σ H1 fun y H2 => ∃ μ st wx wy, StR K H2 μ st ∧ Rp K H2 μ wx x ∧ Rp K H2 μ wy y ∧ Pst K (fun c d H' => E c d σ H') H2 μ (g wx wy st) (fun w _ H' μ' => ∀ v, Rp K H' μ' w v → Q v H')) := by
  obtain ⟨μ, st, ρ, S, e, p⟩ := h
  refine ⟨μ, st, ρ, S, e, go1 S e p.bind fun w st1 H1 μ1 x S1 e1 q v r => ⟨μ1, st1, ρ, S1, e1, go1 S1 e1 q.bind fun w2 st2 H2 μ2 x2 S2 e2 q2 v2 r2 => ⟨μ2, st2, w, w2, S2, r.mono S1 x2, r2, q2⟩⟩⟩
end

/-! ### by values -/
abbrev QW (K : PySem.W.Frag) (Q : VK) : W → Sto → Hp → Mu → Prop := fun w _ H' μ' => ∀ v, Rp K H' μ' w v → Q v H'
def Dn1 (K : PySem.W.Frag) (r : V → Hp → VK → Prop) (g : W → M W) : Prop := ∀ (E : XK) H μ st x wx Q, StR K H μ st → Rp K H μ wx x → Pst K E H μ (g wx st) (QW K Q) → r x H Q
def Dn2 (K : PySem.W.Frag) (r : R2) (g : W → W → M W) : Prop := ∀ (E : XK) H μ st x y wx wy Q, StR K H μ st → Rp K H μ wx x → Rp K H μ wy y → Pst K E H μ (g wx wy st) (QW K Q) → r x y H Q
def DnL (K : PySem.W.Frag) (r : List V → Hp → VK → Prop) (g : List W → M W) : Prop := ∀ (E : XK) H μ st xs ws Q, StR K H μ st → RpL K H μ ws xs → Pst K E H μ (g ws st) (QW K Q) → r xs H Q
def DnM (K : PySem.W.Frag) (r : V → List V → Hp → VK → Prop) (g : W → List W → M W) : Prop := ∀ (E : XK) H μ st x xs w ws Q, StR K H μ st → Rp K H μ w x → RpL K H μ ws xs → Pst K E H μ (g w ws st) (QW K Q) → r x xs H Q

section
variable {X : Cx} {E : WX} {a b c : Expr} {fa fb fc : Rho → M W} {pos : Pos}
theorem s_bin {op : Operator} {r : R2} {g : W → W → M W} (ho : OpR X (binaryOp op) r) (hd : Dn2 X.K r g) (ha : PE X a (TX X.K E fa)) (hb : PE X b (TX X.K E fb)) : PE X (.BinOp a op b pos) (TX X.K E fun ρ => fa ρ >>= fun x => fb ρ >>= fun y => g x y) :=
  pe_imp (pe_op ho ha hb) fun σ H Q h => by
    obtain ⟨μ, st, ρ, S, e, p⟩ := tx2 h
    refine ⟨μ, st, ρ, S, e, p.imp fun w st1 H1 μ1 x S1 q v rv => ?_⟩
    obtain ⟨μ2, st2, ρ2, S2, e2, p2⟩ := q v rv
    refine ⟨μ2, st2, ρ2, S2, e2, p2.imp fun w2 st3 H3 μ3 x3 S3 q3 v2 rv2 => ?_⟩
    obtain ⟨μ4, st4, wx, wy, S4, r1, r2, p4⟩ := q3 v2 rv2
    exact hd _ _ _ _ _ _ _ _ _ S4 r1 r2 p4
theorem s_cmp {op : CmpOp} {r : R2} {g : W → W → M W} (ho : OpR X (compareOp op) r) (hd : Dn2 X.K r g) (ha : PE X a (TX X.K E fa)) (hb : PE X b (TX X.K E fb)) (hm : behindInMarks op b = false) : PE X (.Compare a [op] [b] pos) (TX X.K E fun ρ => fa ρ >>= fun x => fb ρ >>= fun y => g x y) :=
  pe_imp (pe_cmpR ho ha hb hm) fun σ H Q h => by
    obtain ⟨μ, st, ρ, S, e, p⟩ := tx2 h
    refine ⟨μ, st, ρ, S, e, p.imp fun w st1 H1 μ1 x S1 q v rv => ?_⟩
    obtain ⟨μ2, st2, ρ2, S2, e2, p2⟩ := q v rv
    refine ⟨μ2, st2, ρ2, S2, e2, p2.imp fun w2 st3 H3 μ3 x3 S3 q3 v2 rv2 => ?_⟩
    obtain ⟨μ4, st4, wx, wy, S4, r1, r2, p4⟩ := q3 v2 rv2
    exact hd _ _ _ _ _ _ _ _ _ S4 r1 r2 p4
theorem s_ix {r : R2} {g : W → W → M W} (ho : IxR X r) (hd : Dn2 X.K r g) (ha : PE X a (TX X.K E fa)) (hb : PE X b (TX X.K E fb)) (hs : PlainIx b) : PE X (.Subscript a b pos) (TX X.K E fun ρ => fa ρ >>= fun x => fb ρ >>= fun y => g x y) :=
  pe_imp (pe_ix ho ha hb hs) fun σ H Q h => by
    obtain ⟨μ, st, ρ, S, e, p⟩ := tx2 h
    refine ⟨μ, st, ρ, S, e, p.imp fun w st1 H1 μ1 x S1 q v rv => ?_⟩
    obtain ⟨μ2, st2, ρ2, S2, e2, p2⟩ := q v rv
    refine ⟨μ2, st2, ρ2, S2, e2, p2.imp fun w2 st3 H3 μ3 x3 S3 q3 v2 rv2 => ?_⟩
    obtain ⟨μ4, st4, wx, wy, S4, r1, r2, p4⟩ := q3 v2 rv2
    exact hd _ _ _ _ _ _ _ _ _ S4 r1 r2 p4
theorem s_un {op : UnaryOp} {r : V → Hp → VK → Prop} {g : W → M W} (ho : UnR X (unaryOp op) r) (hd : Dn1 X.K r g) (ha : PE X a (TX X.K E fa)) : PE X (.UnaryOp op a pos) (TX X.K E fun ρ => fa ρ >>= fun x => g x) :=
  pe_imp (pe_un ho ha) fun σ H Q h => by
    obtain ⟨μ, st, ρ, S, e, p⟩ := tx1 h
    refine ⟨μ, st, ρ, S, e, p.imp fun w st1 H1 μ1 x S1 q v rv => ?_⟩
    obtain ⟨μ2, st2, ρ2, w2, S2, e2, r2, p2⟩ := q v rv
    exact hd _ _ _ _ _ _ _ S2 r2 p2
end

/-! ### names, constants -/
section
variable {X : Cx} {E : WX} {pos : Pos}
theorem s_var {i : Nat} {x : Str} (hN : X.N[i]? = some x) (hv : Vis X.env.scope x) (hd : (x == ("__debug__" : Str)) = false) (hcd : (x == ("__classdict__" : Str)) = false) :
    PE X (.Name x pos) (TX X.K E (varW i)) :=
  pe_imp (pe_var hN hv hd hcd) fun σ H Q h => by
    obtain ⟨μ, st, ρ, S, e, p⟩ := h
    unfold varW at p
    cases q : ρ[i]? with
    | none => rw [q] at p; exact p.elim
    | some o =>
      cases o with
      | none => rw [q] at p; exact p.elim
      | some w =>
        rw [q] at p
        obtain ⟨v, q1, q2⟩ := e.at_ i w q
        exact ⟨v, q1, Pst.pure S p v q2⟩
theorem s_cst {v : V} {w : W} {e : Expr} (h : PE X e (tC v)) (hw : ∀ H μ, Rp X.K H μ w v) : PE X e (TX X.K E fun _ => pure w) :=
  pe_imp h fun σ H Q h => by
    obtain ⟨μ, st, ρ, S, e, p⟩ := h
    exact Pst.pure S p v (hw _ _)
end

/-! ### tests -/
section
variable {X : Cx} {E : WX} {a b : Expr} {rest : List Expr} {fa fb : Rho → M W} {ga gb : Rho → M Bool} {pos : Pos}
theorem asB_of {K : PySem.W.Frag} {E' : XK} {H : Hp} {μ : Mu} {st : Sto} {w : W} {x : V} {Q : Bool → Sto → Hp → Mu → Prop} (S : StR K H μ st) (r : Rp K H μ w x) (p : Pst K E' H μ (asB w st) Q) : ∃ k, x = .bl k ∧ w = .bl k ∧ Q k st H μ := by
  cases w with
  | bl k =>
    simp only [Rp] at r
    exact ⟨k, r, rfl, Pst.pure S p⟩
  | _ => exact p.elim
theorem tb_val {te : TE} {f : Rho → M W} (i : ∀ σ H Q, TX X.K E f σ H Q → te σ H Q) : ∀ σ H Q, TB X.K E (fun ρ => f ρ >>= asB) σ H Q → te σ H (fun x H1 => ∃ c, x = .bl c ∧ Q c H1) := fun σ H Q h => by
  refine i σ H _ ?_
  obtain ⟨μ, st, ρ, S, e, p⟩ := h
  refine ⟨μ, st, ρ, S, e, p.bind.imp fun w st1 H1 μ1 x S1 q v r => ?_⟩
  obtain ⟨k, e1, _, q1⟩ := asB_of S1 r q
  exact ⟨k, e1, q1⟩
/-- a value as a test, no comparison -/
theorem t_val (ha : PE X a (TX X.K E fa)) (he : ∀ whole, isTrue a X.env whole = (do let v ← whole; standAt a.pos; holding [v] (truthy v))) : PT X a (TB X.K E fun ρ => fa ρ >>= asB) :=
  pt_imp (pt_val ha he) fun σ H Q h => tb_val (fun _ _ _ z => z) σ H Q h
theorem t_cmp {op : CmpOp} {r : R2} {g : W → W → M W} (ho : OpR X (compareOp op) r) (hd : Dn2 X.K r g) (ha : PE X a (TX X.K E fa)) (hb : PE X b (TX X.K E fb)) (hm : behindInMarks op b = false) : PT X (.Compare a [op] [b] pos) (TB X.K E fun ρ => (fa ρ >>= fun x => fb ρ >>= fun y => g x y) >>= asB) :=
  pt_imp (pt_cmpR ho ha hb hm) fun σ H Q h => tb_val (X := X) (E := E) (te := tOp r (TX X.K E fa) (TX X.K E fb)) (fun σ H Q h => by
    obtain ⟨μ, st, ρ, S, e, p⟩ := tx2 h
    refine ⟨μ, st, ρ, S, e, p.imp fun w st1 H1 μ1 x S1 q v rv => ?_⟩
    obtain ⟨μ2, st2, ρ2, S2, e2, p2⟩ := q v rv
    refine ⟨μ2, st2, ρ2, S2, e2, p2.imp fun w2 st3 H3 μ3 x3 S3 q3 v2 rv2 => ?_⟩
    obtain ⟨μ4, st4, wx, wy, S4, r1, r2, p4⟩ := q3 v2 rv2
    exact hd _ _ _ _ _ _ _ _ _ S4 r1 r2 p4) σ H Q h
theorem t_not (ha : PT X a (TB X.K E ga)) : PT X (.UnaryOp .Not a pos) (TB X.K E fun ρ => ga ρ >>= fun b => pure (!b)) :=
  pt_imp (pt_not ha) fun σ H Q h => by
    obtain ⟨μ, st, ρ, S, e, p⟩ := h
    exact ⟨μ, st, ρ, S, e, p.bind.imp fun k st1 H1 μ1 x S1 q => Pst.pure S1 q⟩
theorem bind_pureM {α : Type} {m : M α} : (m >>= pure) = m := by
  funext st
  show (m st).bd pure = m st
  cases m st <;> rfl
theorem pure_bindM {α β : Type} {a : α} {f : α → M β} : ((pure a : M α) >>= f) = f a := rfl
theorem w_and1 (ha : PT X a (TB X.K E ga)) : PW X (.BoolOp .And [a] pos) (TB X.K E fun ρ => ga ρ >>= fun k => pure k) := by
  have e : (fun ρ => ga ρ >>= fun k => pure k) = ga := by funext ρ; exact bind_pureM
  rw [e]; exact pw_and1 ha
theorem w_or1 (ha : PT X a (TB X.K E ga)) : PW X (.BoolOp .Or [a] pos) (TB X.K E fun ρ => ga ρ >>= fun k => pure k) := by
  have e : (fun ρ => ga ρ >>= fun k => pure k) = ga := by funext ρ; exact bind_pureM
  rw [e]; exact pw_or1 ha
theorem w_and (ha : PT X a (TB X.K E ga)) (hb : PW X (.BoolOp .And (b :: rest) pos) (TB X.K E gb)) : PW X (.BoolOp .And (a :: b :: rest) pos) (TB X.K E fun ρ => ga ρ >>= fun k => if k = true then gb ρ else pure false) :=
  pw_imp (pw_and ha hb) fun σ H Q h => by
    obtain ⟨μ, st, ρ, S, e, p⟩ := h
    refine ⟨μ, st, ρ, S, e, go1 S e p.bind fun k st1 H1 μ1 x S1 e1 q => ?_⟩
    cases k with
    | true => exact iteT ⟨μ1, st1, ρ, S1, e1, q⟩
    | false => exact iteF (Pst.pure S1 q)
theorem w_or (ha : PT X a (TB X.K E ga)) (hb : PW X (.BoolOp .Or (b :: rest) pos) (TB X.K E gb)) : PW X (.BoolOp .Or (a :: b :: rest) pos) (TB X.K E fun ρ => ga ρ >>= fun k => if k = true then pure true else gb ρ) :=
  pw_imp (pw_or ha hb) fun σ H Q h => by
    obtain ⟨μ, st, ρ, S, e, p⟩ := h
    refine ⟨μ, st, ρ, S, e, go1 S e p.bind fun k st1 H1 μ1 x S1 e1 q => ?_⟩
    cases k with
    | true => exact iteT (Pst.pure S1 q)
    | false => exact iteF ⟨μ1, st1, ρ, S1, e1, q⟩
/-- as values -/
theorem s_one {op} (ha : PE X a (TX X.K E fa)) : PE X (.BoolOp op [a] pos) (TX X.K E fun ρ => fa ρ >>= fun w => pure w) := by
  have e : (fun ρ => fa ρ >>= fun k => pure k) = fa := by funext ρ; exact bind_pureM
  rw [e]; exact pe_one ha
theorem s_and (ha : PE X a (TX X.K E fa)) (hb : PE X (.BoolOp .And (b :: rest) pos) (TX X.K E fb)) : PE X (.BoolOp .And (a :: b :: rest) pos) (TX X.K E fun ρ => fa ρ >>= fun w => asB w >>= fun k => if k = true then fb ρ else pure (.bl false)) :=
  pe_imp (pe_and ha hb) fun σ H Q h => by
    obtain ⟨μ, st, ρ, S, e, p⟩ := h
    refine ⟨μ, st, ρ, S, e, go1 S e p.bind fun w st1 H1 μ1 x S1 e1 q v r => ?_⟩
    obtain ⟨k, e2, _, q2⟩ := asB_of S1 r q.bind
    refine ⟨k, e2, ?_⟩
    cases k with
    | true => exact iteT ⟨μ1, st1, ρ, S1, e1, q2⟩
    | false => exact iteF (Pst.pure S1 q2 _ (by simp [Rp]))
theorem s_or (ha : PE X a (TX X.K E fa)) (hb : PE X (.BoolOp .Or (b :: rest) pos) (TX X.K E fb)) : PE X (.BoolOp .Or (a :: b :: rest) pos) (TX X.K E fun ρ => fa ρ >>= fun w => asB w >>= fun k => if k = true then pure (.bl true) else fb ρ) :=
  pe_imp (pe_or ha hb) fun σ H Q h => by
    obtain ⟨μ, st, ρ, S, e, p⟩ := h
    refine ⟨μ, st, ρ, S, e, go1 S e p.bind fun w st1 H1 μ1 x S1 e1 q v r => ?_⟩
    obtain ⟨k, e2, _, q2⟩ := asB_of S1 r q.bind
    refine ⟨k, e2, ?_⟩
    cases k with
    | true => exact iteT (Pst.pure S1 q2 _ (by simp [Rp]))
    | false => exact iteF ⟨μ1, st1, ρ, S1, e1, q2⟩
theorem s_not (ha : PE X a (TX X.K E fa)) : PE X (.UnaryOp .Not a pos) (TX X.K E fun ρ => fa ρ >>= asB >>= fun k => pure (.bl (!k))) :=
  pe_imp (pe_not ha) fun σ H Q h => by
    obtain ⟨μ, st, ρ, S, e, p⟩ := h
    refine ⟨μ, st, ρ, S, e, go1 S e p.bind.bind fun w st1 H1 μ1 x S1 e1 q v r => ?_⟩
    obtain ⟨k, e2, _, q2⟩ := asB_of S1 r q
    exact ⟨k, e2, Pst.pure S1 q2 _ (by simp [Rp])⟩
theorem isNon_of {K : PySem.W.Frag} {H : Hp} {μ : Mu} {w : W} {x : V} (r : Rp K H μ w x) : decide (x = .non) = isNon w := by
  cases w <;> simp only [Rp] at r
  · subst r; rfl
  · subst r; rfl
  · subst r; rfl
  · subst r; rfl
  · obtain ⟨a, _, rfl, _⟩ := r; rfl
  · obtain ⟨a, _, rfl, _⟩ := r; rfl
  · obtain ⟨a, _, rfl, _⟩ := r; rfl
  · obtain ⟨a, _, rfl, _⟩ := r; rfl
  · obtain ⟨a, _, _, rfl, _⟩ := r; rfl
  · obtain ⟨a, rfl, _⟩ := r; rfl
  · subst r; rfl
  · subst r; rfl
theorem s_isN {j pos'} (ha : PE X a (TX X.K E fa)) : PE X (.Compare a [.Is] [.Constant .none j pos'] pos) (TX X.K E fun ρ => fa ρ >>= fun w => pure (.bl (isNon w))) :=
  pe_imp (pe_cmp (pc_isN ha) rfl) fun σ H Q h => by
    obtain ⟨μ, st, ρ, S, e, p⟩ := h
    refine ⟨μ, st, ρ, S, e, p.bind.imp fun w st1 H1 μ1 x S1 q v r => ?_⟩
    dsimp only
    rw [isNon_of r]
    exact Pst.pure S1 q _ (by simp [Rp])
theorem s_notN {j pos'} (ha : PE X a (TX X.K E fa)) : PE X (.Compare a [.IsNot] [.Constant .none j pos'] pos) (TX X.K E fun ρ => fa ρ >>= fun w => pure (.bl (!isNon w))) :=
  pe_imp (pe_cmp (pc_notN ha) rfl) fun σ H Q h => by
    obtain ⟨μ, st, ρ, S, e, p⟩ := h
    refine ⟨μ, st, ρ, S, e, p.bind.imp fun w st1 H1 μ1 x S1 q v r => ?_⟩
    dsimp only
    rw [isNon_of r]
    exact Pst.pure S1 q _ (by simp [Rp])
theorem t_isN {j pos'} (ha : PE X a (TX X.K E fa)) : PT X (.Compare a [.Is] [.Constant .none j pos'] pos) (TB X.K E fun ρ => fa ρ >>= fun w => pure (isNon w)) :=
  pt_imp (pt_cmp (pc_isN ha) rfl) fun σ H Q h => by
    obtain ⟨μ, st, ρ, S, e, p⟩ := h
    refine ⟨μ, st, ρ, S, e, p.bind.imp fun w st1 H1 μ1 x S1 q v r => ⟨_, rfl, ?_⟩⟩
    rw [isNon_of r]
    exact Pst.pure S1 q
theorem t_notN {j pos'} (ha : PE X a (TX X.K E fa)) : PT X (.Compare a [.IsNot] [.Constant .none j pos'] pos) (TB X.K E fun ρ => fa ρ >>= fun w => pure (!isNon w)) :=
  pt_imp (pt_cmp (pc_notN ha) rfl) fun σ H Q h => by
    obtain ⟨μ, st, ρ, S, e, p⟩ := h
    refine ⟨μ, st, ρ, S, e, p.bind.imp fun w st1 H1 μ1 x S1 q v r => ⟨_, rfl, ?_⟩⟩
    rw [isNon_of r]
    exact Pst.pure S1 q
theorem chn_read {K : PySem.W.Frag} {r r' : R2} {gg gg' : W → W → M W} {fc : Rho → M W} (hd : Dn2 K r gg) (hd' : Dn2 K r' gg') : ∀ σ H Q, TX K E (fun ρ => fa ρ >>= fun x => fb ρ >>= fun y => gg x y >>= asB >>= fun k => if k = true then (fc ρ >>= fun z => gg' y z) else pure (.bl false)) σ H Q → tChain r r' (TX K E fa) (TX K E fb) (TX K E fc) σ H Q := fun σ H Q h => by
  obtain ⟨μ, st, ρ, S, e, p⟩ := h
  refine ⟨μ, st, ρ, S, e, go1 S e p.bind fun w st1 H1 μ1 x1 S1 e1 q1 v1 r1 => ⟨μ1, st1, ρ, S1, e1, go1 S1 e1 q1.bind fun w2 st2 H2 μ2 x2 S2 e2 q2 v2 r2 => ?_⟩⟩
  refine hd _ _ _ _ _ _ _ _ _ S2 (r1.mono S1 x2) r2 (go1 S2 e2 q2.bind.bind fun w3 st3 H3 μ3 x3 S3 e3 q3 v3 r3 => ?_)
  obtain ⟨k, ek, _, q4⟩ := asB_of S3 r3 q3
  refine ⟨k, ek, ?_⟩
  cases k with
  | true => exact iteT ⟨μ3, st3, ρ, S3, e3, Pst.imp (Pst.bind q4) fun w4 st4 H4 μ4 x4 S4 q5 v4 r4 => hd' _ _ _ _ _ _ _ _ _ S4 ((r2.mono S2 x3).mono S3 x4) r4 q5⟩
  | false => exact iteF (Pst.pure S3 q4 _ (by simp [Rp]))
theorem s_chn {op op' : CmpOp} {r r' : R2} {gg gg' : W → W → M W} {c : Expr} {fc : Rho → M W} (ho : OpR X (compareOp op) r) (ho' : OpR X (compareOp op') r') (hd : Dn2 X.K r gg) (hd' : Dn2 X.K r' gg') (ha : PE X a (TX X.K E fa)) (hb : PE X b (TX X.K E fb)) (hc : PE X c (TX X.K E fc)) (hm : lastMarks [op, op'] [b, c] = false) :
    PE X (.Compare a [op, op'] [b, c] pos) (TX X.K E fun ρ => fa ρ >>= fun x => fb ρ >>= fun y => gg x y >>= asB >>= fun k => if k = true then (fc ρ >>= fun z => gg' y z) else pure (.bl false)) :=
  pe_imp (pe_chain ho ho' ha hb hc hm) (chn_read hd hd')
theorem t_chn {op op' : CmpOp} {r r' : R2} {gg gg' : W → W → M W} {c : Expr} {fc : Rho → M W} (ho : OpR X (compareOp op) r) (ho' : OpR X (compareOp op') r') (hd : Dn2 X.K r gg) (hd' : Dn2 X.K r' gg') (ha : PE X a (TX X.K E fa)) (hb : PE X b (TX X.K E fb)) (hc : PE X c (TX X.K E fc)) (hm : lastMarks [op, op'] [b, c] = false) :
    PT X (.Compare a [op, op'] [b, c] pos) (TB X.K E fun ρ => (fa ρ >>= fun x => fb ρ >>= fun y => gg x y >>= asB >>= fun k => if k = true then (fc ρ >>= fun z => gg' y z) else pure (.bl false)) >>= asB) :=
  pt_imp (pt_chain ho ho' ha hb hc hm) fun σ H Q h => tb_val (X := X) (E := E) (chn_read hd hd') σ H Q h
theorem s_if {c : Expr} {gc : Rho → M Bool} (hc : PT X c (TB X.K E gc)) (ha : PE X a (TX X.K E fa)) (hb : PE X b (TX X.K E fb)) : PE X (.IfExp c a b pos) (TX X.K E fun ρ => gc ρ >>= fun k => if k = true then fa ρ else fb ρ) :=
  pe_imp (pe_ifExp hc ha hb) fun σ H Q h => by
    obtain ⟨μ, st, ρ, S, e, p⟩ := h
    refine ⟨μ, st, ρ, S, e, go1 S e p.bind fun k st1 H1 μ1 x S1 e1 q => ?_⟩
    cases k with
    | true => exact iteT ⟨μ1, st1, ρ, S1, e1, q⟩
    | false => exact iteF ⟨μ1, st1, ρ, S1, e1, q⟩
end

/-! ### arguments, displays -/
section
variable {X : Cx} {E : WX} {a : Expr} {es : List Expr} {fa : Rho → M W} {fs : Rho → M (List W)} {pos : Pos}
theorem a_nil : PA X [] (TL X.K E fun _ => pure []) := pa_imp pa_nil fun σ H Q h => by
  obtain ⟨μ, st, ρ, S, e, p⟩ := h
  exact Pst.pure S p _ .nil
theorem a_cons (ha : PE X a (TX X.K E fa)) (hr : PA X es (TL X.K E fs)) (hs : starEach (a :: es) X.env = (false, eval a X.env) :: starEach es X.env) : PA X (a :: es) (TL X.K E fun ρ => fa ρ >>= fun w => fs ρ >>= fun ws => pure (w :: ws)) :=
  pa_imp (pa_cons ha hr hs) fun σ H Q h => by
    obtain ⟨μ, st, ρ, S, e, p⟩ := h
    refine ⟨μ, st, ρ, S, e, go1 S e p.bind fun w st1 H1 μ1 x S1 e1 q v r => ⟨μ1, st1, ρ, S1, e1, go1 S1 e1 q.bind fun ws st2 H2 μ2 x2 S2 e2 q2 vs rs => ?_⟩⟩
    exact Pst.pure S2 q2 _ (.cons (r.mono S1 x2) rs)
theorem s_tup {x1} (h : PA X es (TL X.K E fs)) : PE X (.Tuple es x1 pos) (TX X.K E fun ρ => fs ρ >>= fun ws => if ws.length ≤ sizeLine then pure (.tup ws) else bad) :=
  pe_imp (pe_tup h) fun σ H Q h => by
    obtain ⟨μ, st, ρ, S, e, p⟩ := h
    refine ⟨μ, st, ρ, S, e, go1 S e p.bind fun ws st1 H1 μ1 x S1 e1 q vs r => ?_⟩
    by_cases hz : ws.length ≤ sizeLine
    · rw [if_pos hz] at q
      refine ⟨by rw [← r.length]; exact hz, fun a ha => ?_⟩
      refine q _ _ (Ext.laid S1 ha) (S1.laid ha) _ ?_
      simp only [Rp]
      exact ⟨a, vs, rfl, SqT.of upd_same, r.mono S1 (Ext.laid S1 ha)⟩
    · rw [if_neg hz] at q
      exact q.elim
theorem s_lst {m : Bool} (h : PA X es (TL X.K E fs)) : PE X (.List es pos) (TX X.K E fun ρ => fs ρ >>= fun ws => if ws.length ≤ sizeLine then (if m = true then newO (.lst ws) else pure (.fl ws)) else bad) :=
  pe_imp (pe_lst h) fun σ H Q h => by
    obtain ⟨μ, st, ρ, S, e, p⟩ := h
    refine ⟨μ, st, ρ, S, e, go1 S e p.bind fun ws st1 H1 μ1 x S1 e1 q vs r => ?_⟩
    by_cases hz : ws.length ≤ sizeLine
    · rw [if_pos hz] at q
      refine ⟨by rw [← r.length]; exact hz, fun a ha => ?_⟩
      cases m with
      | true =>
        have x := Ext.push (o := HO.lst vs) S1 ha
        refine q _ _ x (S1.push ha ⟨vs, rfl, r.mono S1 x⟩) _ ?_
        simp only [Rp]
        exact ⟨a, rfl, by rw [← S1.len, List.getElem?_append_right (Nat.le_refl _)]; simp⟩
      | false =>
        have x := Ext.laidD (o := HO.lst vs) S1 ha
        refine q _ _ x (S1.laidD ha) _ ?_
        simp only [Rp]
        exact ⟨a, vs, rfl, upd_same, List.mem_cons_self, r.mono S1 x⟩
    · rw [if_neg hz] at q
      exact q.elim
end
end Vm
/-! Vm, part Da: == of what is alike all the way down, tuples, dicts and defs among it. -/
namespace Vm
open PySem PySem.Spec PyProof.Rows L2

/-- two tuples, or what HandS knows -/
def TwoT (K : PySem.W.Frag) (H : Hp) (F : V → V → Prop) (x y : V) : Prop :=
  (∃ a b xs ys, (x, y) = (V.ref a, V.ref b) ∧ SqT K H a xs ∧ SqT K H b ys ∧ Paired F xs ys) ∨ EqR K H F x y
def Alk (K : PySem.W.Frag) (H : Hp) : Nat → V → V → Prop
  | 0 => fun _ _ => False
  | n + 1 => fun x y => TwoT K H (Alk K H n) x y ∨ (x, y).1 = y ∧ (flatB x = true ∨ ∃ a, x = .ref a)
section
variable {X : Cx} {pins : List (Addr × Obj)} {σ : L2.St} {H : Hp} {s : Shared}
theorem twoT_refs {K : PySem.W.Frag} {F : V → V → Prop} {x y : V} (h : TwoT K H F x y) : ∃ a b, x = .ref a ∧ y = .ref b := by
  rcases h with ⟨a, b, _, _, e, _⟩ | ⟨a, b, _, _, e1, e2, _⟩ | ⟨a, b, _, _, e1, e2, _⟩
  · cases e; exact ⟨a, b, rfl, rfl⟩
  · exact ⟨a, b, e1, e2⟩
  · exact ⟨a, b, e1, e2⟩
theorem twoT_run (I : Inv X pins σ H s) {A : Around} {F : V → V → Prop} (room : A.units < cLine) (each : ∀ x y v u, F x y → RelV x v → RelV y u → SeqAt.EqP X.prog X.w A.in1 s v u true) {x y : V} {v u : Value} (rx : RelV x v) (ry : RelV y u) (h : TwoT X.K H F x y)
    {E Q : Value → Shared → Prop} (q : Q (.bool true) s) : wpAny (model X.prog X.w) A (richCompare .Eq v u) Q E s := by
  rcases h with ⟨a, b, xs, ys, e, ha, hb, hp⟩ | h
  · cases e
    obtain rfl : v = .ref a := rx
    obtain rfl : u = .ref b := ry
    obtain ⟨ia, ra, ta, _⟩ := I.tuple ha
    obtain ⟨ib, rb, tb, _⟩ := I.tuple hb
    have same : ia.length = ib.length := by rw [← ra.length, ← rb.length]; exact hp.length
    refine SeqAt.rcIn_tuples (e := fun _ => true) ta tb room (fun j h1 h2 => ?_) ?_
    · have z := items_run each hp ra rb j (by simpa using h1) (by simpa using h2)
      intro E' Q' q'
      have z' := z E' Q' q'
      simpa using z'
    · simp only [List.size_toArray, same, beq_self_eq_true, Bool.and_true]
      rw [show ((List.range (min ib.length ib.length)).all fun _ => true) = true by simp]
      exact q
  · exact eqR_run I room each h rx ry E Q q
theorem alk_run (I : Inv X pins σ H s) (n : Nat) : ∀ (A : Around), A.units + n < cLine → ∀ (x y : V) (v u : Value), Alk X.K H n x y → RelV x v → RelV y u → SeqAt.EqP X.prog X.w A s v u true := by
  induction n with
  | zero => intro A _ x y v u h; exact h.elim
  | succ n ih =>
    intro A room x y v u h rx ry
    rcases h with h | ⟨e, h⟩
    · have run : ∀ (E Q : Value → Shared → Prop), Q (.bool true) s → wpAny (model X.prog X.w) A (richCompare .Eq v u) Q E s := fun E Q q =>
        twoT_run I (by omega) (ih A.in1 (by show A.units + 1 + n < cLine; omega)) rx ry h q
      obtain ⟨a, b, rfl, rfl⟩ := twoT_refs h
      obtain rfl : v = .ref a := rx
      obtain rfl : u = .ref b := ry
      rcases Nat.decEq a b with ne | rfl
      · exact SeqAt.eqP_refs ne run
      · exact (SeqAt.EqAt.same _).eqP
    · obtain rfl : x = y := e
      rcases h with f | ⟨a, rfl⟩
      · exact (eqAt_same rx ry f).eqP
      · obtain rfl : v = .ref a := rx
        obtain rfl : u = .ref a := ry
        exact (SeqAt.EqAt.same _).eqP
end
def rAlk (K : PySem.W.Frag) : R2 := fun x y H Q => TwoT K H (Alk K H 49) x y ∧ Q (.bl true) H
theorem op_alk {X : Cx} (hu : X.A.units + 64 < cLine) : OpR X (compareOp .Eq) (rAlk X.K) := by
  intro pins s σ H x y v u Q I rx ry h
  exact twoT_run I (by omega) (alk_run I 49 X.A.in1 (by show X.A.units + 1 + 49 < cLine; omega)) rx ry h.1 ⟨.bl true, H, I, rfl, h.2⟩
section
variable {K : PySem.W.Frag} {H : Hp} {μ : Mu}
theorem val_zip : ∀ {ks : List Key} {us : List V} {i : Nat} {k : Key} {u : V}, ks.Nodup → ks[i]? = some k → us[i]? = some u → valV (ks.zip us) k = some u
  | [], _, _, _, _, _, h, _ => by simp at h
  | _ :: _, [], _, _, _, _, _, h => by simp at h
  | k0 :: ks, u0 :: us, 0, k, u, nd, h1, h2 => by
    simp at h1 h2
    subst h1 h2
    simp [valV]
  | k0 :: ks, u0 :: us, i + 1, k, u, nd, h1, h2 => by
    simp only [List.getElem?_cons_succ] at h1 h2
    rw [List.nodup_cons] at nd
    have ne : k0 ≠ k := fun e => nd.1 (e ▸ List.mem_of_getElem? h1)
    have z := val_zip nd.2 h1 h2
    unfold valV at z ⊢
    rw [List.zip_cons_cons, List.find?_cons_of_neg (by simpa using ne)]
    exact z
theorem paired_of {F : V → V → Prop} {g : W → W → Bool} (ih : ∀ w u x y, Rp K H μ w x → Rp K H μ u y → g w u = true → F x y) : ∀ {ws us : List W} {xs ys : List V}, RpL K H μ ws xs → RpL K H μ us ys → ws.length = us.length → ((ws.zip us).all fun p => g p.1 p.2) = true → Paired F xs ys
  | [], [], xs, ys, h1, h2, _, _ => by simp only [RpL] at h1 h2; subst h1 h2; exact .nil
  | w :: ws, u :: us, xs, ys, h1, h2, hl, ha => by
    simp only [RpL] at h1 h2
    obtain ⟨x, r, rfl, a1, b1⟩ := h1
    obtain ⟨y, r', rfl, a2, b2⟩ := h2
    simp only [List.zip_cons_cons, List.all_cons, Bool.and_eq_true] at ha
    exact .cons (ih _ _ _ _ a1 a2 ha.1) (paired_of ih b1 b2 (by simpa using hl) ha.2)
  | [], _ :: _, _, _, _, _, hl, _ => by simp at hl
  | _ :: _, [], _, _, _, _, hl, _ => by simp at hl
theorem paired_get {F : V → V → Prop} {xs ys : List V} (h : Paired F xs ys) : ∀ {i : Nat} {x : V}, xs[i]? = some x → ∃ y, ys[i]? = some y ∧ F x y := by
  induction h with
  | nil => intro i x h; simp at h
  | cons h _ ih =>
    intro i x e
    cases i with
    | zero => simp at e; subst e; exact ⟨_, rfl, h⟩
    | succ i => exact ih (by simpa using e)
theorem eqT_two {n : Nat} (ih : ∀ w u x y, Rp K H μ w x → Rp K H μ u y → eqT n w u = true → Alk K H n x y) {wx wy : W} {x y : V} (rx : Rp K H μ wx x) (ry : Rp K H μ wy y) (e : eqT (n + 1) wx wy = true) :
    (∀ ws, wx ≠ .tup ws) ∧ (∀ ks ws, wx ≠ .fd ks ws) ∨ TwoT K H (Alk K H n) x y := by
  cases wx with
  | tup ws =>
    refine .inr ?_
    cases wy with
    | tup us =>
      simp only [eqT, Bool.and_eq_true, decide_eq_true_eq] at e
      simp only [Rp] at rx ry
      obtain ⟨a, vs, rfl, h1, h2⟩ := rx
      obtain ⟨b, vs', rfl, h3, h4⟩ := ry
      exact .inl ⟨a, b, vs, vs', rfl, h1, h3, paired_of ih h2 h4 e.1 e.2⟩
    | _ => simp [eqT] at e
  | fd ks ws =>
    refine .inr ?_
    cases wy with
    | fd ls us =>
      simp only [eqT, Bool.and_eq_true, decide_eq_true_eq] at e
      obtain ⟨⟨⟨rfl, nd⟩, hl⟩, ha⟩ := e
      simp only [Rp] at rx ry
      obtain ⟨a, vs, rfl, h1, l1, _, h2⟩ := rx
      obtain ⟨b, vs', rfl, h3, l2, _, h4⟩ := ry
      have pr := paired_of ih h2 h4 hl ha
      refine .inr (.inr ⟨a, b, _, _, rfl, rfl, h1, h3, by simp [l1.symm, l2.symm], fun p hp => ?_⟩)
      obtain ⟨i, hi⟩ := List.mem_iff_getElem?.mp hp
      obtain ⟨k, v⟩ := p
      rw [List.getElem?_zip_eq_some] at hi
      obtain ⟨y, hy, f⟩ := paired_get pr hi.2
      exact ⟨y, val_zip nd hi.1 hy, f⟩
    | _ => simp [eqT] at e
  | _ => exact .inl ⟨(fun _ h => nomatch h), (fun _ _ h => nomatch h)⟩
theorem eqT_of : ∀ (n : Nat) (wx wy : W) (x y : V), Rp K H μ wx x → Rp K H μ wy y → eqT n wx wy = true → Alk K H n x y
  | 0, _, _, _, _, _, _, e => by simp [eqT] at e
  | n + 1, wx, wy, x, y, rx, ry, e => by
    rcases eqT_two (eqT_of n) rx ry e with ⟨n1, n2⟩ | h
    · refine .inr ?_
      cases wx with
      | tup ws => exact absurd rfl (n1 ws)
      | fd ks ws => exact absurd rfl (n2 ks ws)
      | non => cases wy with
        | non => simp only [Rp] at rx ry; subst rx ry; exact ⟨rfl, .inl rfl⟩
        | _ => simp [eqT] at e
      | bl b => cases wy with
        | bl c => simp only [eqT, decide_eq_true_eq] at e; simp only [Rp] at rx ry; subst rx ry e; exact ⟨rfl, .inl rfl⟩
        | _ => simp [eqT] at e
      | int b => cases wy with
        | int c => simp only [eqT, decide_eq_true_eq] at e; simp only [Rp] at rx ry; subst rx ry e; exact ⟨rfl, .inl rfl⟩
        | _ => simp [eqT] at e
      | str b => cases wy with
        | str c => simp only [eqT, decide_eq_true_eq] at e; simp only [Rp] at rx ry; subst rx ry e; exact ⟨rfl, .inl rfl⟩
        | _ => simp [eqT] at e
      | glob b => cases wy with
        | glob c => simp only [eqT, decide_eq_true_eq] at e; simp only [Rp] at rx ry; subst rx ry e; exact ⟨rfl, .inr ⟨_, rfl⟩⟩
        | _ => simp [eqT] at e
      | _ => cases wy <;> simp [eqT] at e
    · exact .inl h
end
end Vm
/-! Vm, part E: operations by values. -/
namespace Vm
open PySem L2

section
variable {K : PySem.W.Frag} {E : XK} {H : Hp} {μ : Mu} {st : Sto} {Q : VK}
theorem rp_int {i : Int} {v : V} : Rp K H μ (.int i) v ↔ v = .int i := by simp [Rp]
theorem rp_bl {b : Bool} {v : V} : Rp K H μ (.bl b) v ↔ v = .bl b := by simp [Rp]
theorem rp_str {s : Str} {v : V} : Rp K H μ (.str s) v ↔ v = .str s := by simp [Rp]
theorem rp_non {v : V} : Rp K H μ .non v ↔ v = .non := by simp [Rp]
theorem rp_tup {ws : List W} {v : V} : Rp K H μ (.tup ws) v ↔ ∃ a vs, v = .ref a ∧ SqT K H a vs ∧ RpL K H μ ws vs := by simp [Rp]
theorem rp_fl {ws : List W} {v : V} : Rp K H μ (.fl ws) v ↔ ∃ a vs, v = .ref a ∧ H a = some (.lst vs) ∧ a ∈ μ.d ∧ RpL K H μ ws vs := by simp [Rp]
theorem rp_kl {ws : List W} {v : V} : Rp K H μ (.kl ws) v ↔ ∃ a vs, v = .ref a ∧ KlR K H a vs ∧ RpL K H μ ws vs := by simp [Rp]
theorem rp_ref {i : Nat} {v : V} : Rp K H μ (.ref i) v ↔ ∃ a, v = .ref a ∧ μ.m[i]? = some a := by simp [Rp]
/-- a new tuple, a new list of data -/
theorem new_tup (S : StR K H μ st) {ws : List W} {vs : List V} (r : RpL K H μ ws vs) (p : Pst K E H μ ((pure (.tup ws) : M W) st) (QW K Q)) {a : Addr} (ha : H a = none) : Q (.ref a) (upd H a (.tup vs)) := by
  refine p _ _ (Ext.laid S ha) (S.laid ha) _ ?_
  rw [rp_tup]
  exact ⟨a, vs, rfl, SqT.of upd_same, r.mono S (Ext.laid S ha)⟩
theorem new_fl (S : StR K H μ st) {ws : List W} {vs : List V} (r : RpL K H μ ws vs) (p : Pst K E H μ ((pure (.fl ws) : M W) st) (QW K Q)) {a : Addr} (ha : H a = none) : Q (.ref a) (upd H a (.lst vs)) := by
  refine p _ _ (Ext.laidD S ha) (S.laidD ha) _ ?_
  rw [rp_fl]
  exact ⟨a, vs, rfl, upd_same, List.mem_cons_self, r.mono S (Ext.laidD S ha)⟩
theorem if_ok {α : Type} {c : Prop} {_ : Decidable c} {m : M α} {Q : α → Sto → Hp → Mu → Prop} (p : Pst K E H μ ((if c then m else bad) st) Q) : c ∧ Pst K E H μ (m st) Q := by
  by_cases h : c
  · rw [if_pos h] at p; exact ⟨h, p⟩
  · rw [if_neg h] at p; exact p.elim
theorem ofO_ok {α : Type} {o : Option α} {Q : α → Sto → Hp → Mu → Prop} (p : Pst K E H μ (ofO o st) Q) : ∃ a, o = some a ∧ Pst K E H μ ((pure a : M α) st) Q := by
  cases o with
  | none => exact p.elim
  | some a => exact ⟨a, rfl, p⟩
end

/-! ### binary operators -/
def rAddA (K : PySem.W.Frag) : R2 := fun x y H Q => (∃ i j, x = .int i ∧ y = .int j ∧ Q (.int (i + j)) H) ∨ (∃ i j, x = .str i ∧ y = .str j ∧ i.length + j.length ≤ sizeLine ∧ Q (.str (i ++ j)) H) ∨ rCatA K x y H Q ∨ rCat x y H Q
theorem op_addA {X : Cx} : OpR X (binaryOp .Add) (rAddA X.K) := op_add.or (op_add_str.or (op_catA.or op_cat))
theorem dn_add {K : PySem.W.Frag} : Dn2 K (rAddA K) (binW .Add) := by
  intro E H μ st x y wx wy Q S rx ry p
  cases wx with
  | int i =>
    cases wy with
    | int j =>
      rw [rp_int] at rx ry
      exact .inl ⟨i, j, rx, ry, Pst.pure S p _ (by rw [rp_int])⟩
    | _ => exact p.elim
  | str i =>
    cases wy with
    | str j =>
      rw [rp_str] at rx ry
      obtain ⟨h1, h2⟩ := if_ok p
      exact .inr (.inl ⟨i, j, rx, ry, h1, Pst.pure S h2 _ (by rw [rp_str])⟩)
    | _ => exact p.elim
  | tup xs =>
    cases wy with
    | tup ys =>
      rw [rp_tup] at rx ry
      obtain ⟨a, vs, rfl, h1, h2⟩ := rx
      obtain ⟨b, us, rfl, h3, h4⟩ := ry
      obtain ⟨h5, h6⟩ := if_ok p
      have l1 := h2.length
      have l2 := h4.length
      refine .inr (.inr (.inl ⟨a, b, vs, us, rfl, rfl, h1, h3, by rw [← l1, ← l2]; exact h5, ?_, ?_, ?_⟩))
      · intro hz
        subst hz
        have : xs = [] := List.length_eq_zero_iff.mp (by simpa using l1)
        subst this
        exact Pst.pure S h6 _ (by rw [rp_tup]; exact ⟨b, us, rfl, h3, h4⟩)
      · intro _ hz
        subst hz
        have : ys = [] := List.length_eq_zero_iff.mp (by simpa using l2)
        subst this
        rw [List.append_nil] at h6
        exact Pst.pure S h6 _ (by rw [rp_tup]; exact ⟨a, vs, rfl, h1, h2⟩)
      · intro _ hz q hq
        exact new_tup S (h2.append h4) h6 hq
    | _ => exact p.elim
  | fl xs =>
    cases wy with
    | fl ys =>
      rw [rp_fl] at rx ry
      obtain ⟨a, vs, rfl, h1, _, h2⟩ := rx
      obtain ⟨b, us, rfl, h3, _, h4⟩ := ry
      obtain ⟨h5, h6⟩ := if_ok p
      exact .inr (.inr (.inr ⟨a, b, vs, us, rfl, rfl, h1, h3, by rw [← h2.length, ← h4.length]; exact h5, fun q hq => new_fl S (h2.append h4) h6 hq⟩))
    | _ => exact p.elim
  | _ => exact p.elim
/-- two ints alone -/
theorem dn_int {K : PySem.W.Frag} {Cc : Int → Int → Prop} {f : Int → Int → Int} {g : W → W → M W} (hg : ∀ i j st (E : XK) H μ Q, Pst K E H μ (g (.int i) (.int j) st) (QW K Q) → StR K H μ st → Cc i j ∧ Q (.int (f i j)) H)
    (hb : ∀ x y st (E : XK) H μ Q, (∀ i j, ¬ (x = .int i ∧ y = .int j)) → Pst K E H μ (g x y st) (QW K Q) → False) : Dn2 K (rI Cc fun i j => .int (f i j)) g := by
  intro E H μ st x y wx wy Q S rx ry p
  by_cases h : ∃ i j, wx = .int i ∧ wy = .int j
  · obtain ⟨i, j, rfl, rfl⟩ := h
    rw [rp_int] at rx ry
    obtain ⟨h1, h2⟩ := hg i j st E H μ Q p S
    exact ⟨i, j, rx, ry, h1, h2⟩
  · exact (hb wx wy st E H μ Q (fun i j z => h ⟨i, j, z⟩) p).elim
theorem notInts {x y : W} {P : Prop} (h : ∀ i j, ¬ (x = .int i ∧ y = .int j)) (h2 : (∀ i, x ≠ .int i) ∨ (∀ j, y ≠ .int j) → P) : P := by
  cases x with
  | int i =>
    cases y with
    | int j => exact (h i j ⟨rfl, rfl⟩).elim
    | _ => exact h2 (.inr (fun j z => nomatch z))
  | _ => exact h2 (.inl (fun j z => nomatch z))
theorem dn_sub {K : PySem.W.Frag} : Dn2 K (rI0 fun i j => .int (i - j)) (binW .Sub) := by
  intro E H μ st x y wx wy Q S rx ry p
  cases wx <;> cases wy <;> first | exact p.elim | skip
  rw [rp_int] at rx ry
  exact ⟨_, _, rx, ry, Pst.pure S p _ (by rw [rp_int])⟩
theorem dn_mul {K : PySem.W.Frag} : Dn2 K (rI CMul fun i j => .int (i * j)) (binW .Mult) := by
  intro E H μ st x y wx wy Q S rx ry p
  cases wx <;> cases wy <;> first | exact p.elim | skip
  rw [rp_int] at rx ry
  obtain ⟨h1, h2⟩ := if_ok p
  exact ⟨_, _, rx, ry, h1, Pst.pure S h2 _ (by rw [rp_int])⟩
theorem dn_div {K : PySem.W.Frag} : Dn2 K (rI CDiv fun i j => .int (i / j)) (binW .FloorDiv) := by
  intro E H μ st x y wx wy Q S rx ry p
  cases wx <;> cases wy <;> first | exact p.elim | skip
  rw [rp_int] at rx ry
  obtain ⟨h1, h2⟩ := if_ok p
  exact ⟨_, _, rx, ry, h1, Pst.pure S h2 _ (by rw [rp_int])⟩
theorem dn_mod {K : PySem.W.Frag} : Dn2 K (rI (fun _ j => 0 < j) fun i j => .int (i % j)) (binW .Mod) := by
  intro E H μ st x y wx wy Q S rx ry p
  cases wx <;> cases wy <;> first | exact p.elim | skip
  rw [rp_int] at rx ry
  obtain ⟨h1, h2⟩ := if_ok p
  exact ⟨_, _, rx, ry, h1, Pst.pure S h2 _ (by rw [rp_int])⟩
theorem dn_pow {K : PySem.W.Frag} : Dn2 K (rI CPow fun i j => .int (i ^ j.toNat)) (binW .Pow) := by
  intro E H μ st x y wx wy Q S rx ry p
  cases wx <;> cases wy <;> first | exact p.elim | skip
  rw [rp_int] at rx ry
  obtain ⟨h1, h2⟩ := if_ok p
  exact ⟨_, _, rx, ry, h1, Pst.pure S h2 _ (by rw [rp_int])⟩
theorem dn_shl {K : PySem.W.Frag} : Dn2 K (rI CPow fun i j => .int (i * 2 ^ j.toNat)) (binW .LShift) := by
  intro E H μ st x y wx wy Q S rx ry p
  cases wx <;> cases wy <;> first | exact p.elim | skip
  rw [rp_int] at rx ry
  obtain ⟨h1, h2⟩ := if_ok p
  exact ⟨_, _, rx, ry, h1, Pst.pure S h2 _ (by rw [rp_int])⟩
theorem dn_shr {K : PySem.W.Frag} : Dn2 K (rI (fun _ j => 0 ≤ j) fun i j => .int (i / 2 ^ j.toNat)) (binW .RShift) := by
  intro E H μ st x y wx wy Q S rx ry p
  cases wx <;> cases wy <;> first | exact p.elim | skip
  rw [rp_int] at rx ry
  obtain ⟨h1, h2⟩ := if_ok p
  exact ⟨_, _, rx, ry, h1, Pst.pure S h2 _ (by rw [rp_int])⟩
theorem dn_and {K : PySem.W.Frag} : Dn2 K (rI0 fun i j => .int (Builtin.bitAnd i j)) (binW .BitAnd) := by
  intro E H μ st x y wx wy Q S rx ry p
  cases wx <;> cases wy <;> first | exact p.elim | skip
  rw [rp_int] at rx ry
  exact ⟨_, _, rx, ry, Pst.pure S p _ (by rw [rp_int])⟩
theorem dn_or {K : PySem.W.Frag} : Dn2 K (rI0 fun i j => .int (Builtin.bitOr i j)) (binW .BitOr) := by
  intro E H μ st x y wx wy Q S rx ry p
  cases wx <;> cases wy <;> first | exact p.elim | skip
  rw [rp_int] at rx ry
  exact ⟨_, _, rx, ry, Pst.pure S p _ (by rw [rp_int])⟩
/-- all of them -/
def rBin (K : PySem.W.Frag) : Operator → R2
  | .Add => rAddA K
  | .Sub => rI0 fun i j => .int (i - j)
  | .Mult => rI CMul fun i j => .int (i * j)
  | .FloorDiv => rI CDiv fun i j => .int (i / j)
  | .Mod => rI (fun _ j => 0 < j) fun i j => .int (i % j)
  | .Pow => rI CPow fun i j => .int (i ^ j.toNat)
  | .LShift => rI CPow fun i j => .int (i * 2 ^ j.toNat)
  | .RShift => rI (fun _ j => 0 ≤ j) fun i j => .int (i / 2 ^ j.toNat)
  | .BitAnd => rI0 fun i j => .int (Builtin.bitAnd i j)
  | .BitOr => rI0 fun i j => .int (Builtin.bitOr i j)
  | _ => fun _ _ _ _ => False
theorem op_bin {X : Cx} : ∀ op : Operator, OpR X (binaryOp op) (rBin X.K op)
  | .Add => op_addA
  | .Sub => op_sub
  | .Mult => op_mul
  | .FloorDiv => op_fdiv
  | .Mod => op_mod
  | .Pow => op_pow
  | .LShift => op_shl
  | .RShift => op_shr
  | .BitAnd => op_and
  | .BitOr => op_or
  | .MatMult => fun _ _ _ _ _ _ _ _ _ _ _ _ h => h.elim
  | .Div => fun _ _ _ _ _ _ _ _ _ _ _ _ h => h.elim
  | .BitXor => fun _ _ _ _ _ _ _ _ _ _ _ _ h => h.elim
theorem dn_bin {K : PySem.W.Frag} : ∀ op : Operator, Dn2 K (rBin K op) (binW op)
  | .Add => dn_add
  | .Sub => dn_sub
  | .Mult => dn_mul
  | .FloorDiv => dn_div
  | .Mod => dn_mod
  | .Pow => dn_pow
  | .LShift => dn_shl
  | .RShift => dn_shr
  | .BitAnd => dn_and
  | .BitOr => dn_or
  | .MatMult => fun _ _ _ _ _ _ wx wy _ _ _ _ p => by cases wx <;> cases wy <;> exact p.elim
  | .Div => fun _ _ _ _ _ _ wx wy _ _ _ _ p => by cases wx <;> cases wy <;> exact p.elim
  | .BitXor => fun _ _ _ _ _ _ wx wy _ _ _ _ p => by cases wx <;> cases wy <;> exact p.elim

/-! ### data -/
mutual
theorem dp_of {K : PySem.W.Frag} {H : Hp} {μ : Mu} : ∀ {w : W} {v : V} {d : PyData}, Rp K H μ w v → pd w = some d → Dp K H v d
  | .non, v, d, r, e => by simp only [pd] at e; cases e; rw [rp_non] at r; subst r; exact .non
  | .bl b, v, d, r, e => by simp only [pd] at e; cases e; rw [rp_bl] at r; subst r; exact .bl b
  | .int i, v, d, r, e => by simp only [pd] at e; cases e; rw [rp_int] at r; subst r; exact .int i
  | .str s, v, d, r, e => by simp only [pd] at e; cases e; rw [rp_str] at r; subst r; exact .str s
  | .tup xs, v, d, r, e => by
    simp only [pd] at e
    rw [rp_tup] at r
    obtain ⟨a, vs, rfl, h1, h2⟩ := r
    cases q : pdL xs with
    | none => rw [q] at e; cases e
    | some ds => rw [q] at e; cases e; exact .tup h1 (dpl_of h2 q)
  | .fl xs, v, d, r, e => by
    simp only [pd] at e
    rw [rp_fl] at r
    obtain ⟨a, vs, rfl, h1, _, h2⟩ := r
    cases q : pdL xs with
    | none => rw [q] at e; cases e
    | some ds => rw [q] at e; cases e; exact .lst (SqL.of h1) (dpl_of h2 q)
  | .kl xs, v, d, r, e => by
    simp only [pd] at e
    rw [rp_kl] at r
    obtain ⟨a, vs, rfl, h1, h2⟩ := r
    cases q : pdL xs with
    | none => rw [q] at e; cases e
    | some ds => rw [q] at e; cases e; exact .lst h1.sq (dpl_of h2 q)
  | .fd ks ws, v, d, r, e => by simp [pd] at e
  | .obj c ns ws, v, d, r, e => by simp [pd] at e
  | .ref i, v, d, r, e => by simp [pd] at e
  | .glob x, v, d, r, e => by simp [pd] at e
  | .ty n, v, d, r, e => by simp [pd] at e
theorem dpl_of {K : PySem.W.Frag} {H : Hp} {μ : Mu} : ∀ {ws : List W} {vs : List V} {ds : List PyData}, RpL K H μ ws vs → pdL ws = some ds → DpAll K H vs ds
  | [], vs, ds, r, e => by
    simp only [pdL] at e; cases e
    simp only [RpL] at r; subst r; exact .nil
  | w :: ws, vs, ds, r, e => by
    obtain ⟨v, r', rfl, h1, h2⟩ := r.uncons
    simp only [pdL] at e
    cases q : pd w with
    | none => rw [q] at e; cases e
    | some d =>
      rw [q] at e
      cases q2 : pdL ws with
      | none => rw [q2] at e; cases e
      | some ds' =>
        rw [q2] at e; cases e
        exact .cons (dp_of h1 q) (dpl_of h2 q2)
end
def rEqA (K : PySem.W.Frag) : R2 := fun x y H Q => rEq x y H Q ∨ (rEqD K x y H Q ∨ rAlk K x y H Q)
def rNeA (K : PySem.W.Frag) : R2 := fun x y H Q => rNe x y H Q ∨ rNeD K x y H Q
theorem scal_of {K : PySem.W.Frag} {H : Hp} {μ : Mu} {wx wy : W} {x y : V} {b : Bool} (rx : Rp K H μ wx x) (ry : Rp K H μ wy y) (e : scalW wx wy = some b) : scal x y = true ∧ decide (x = y) = b := by
  cases wx <;> cases wy <;> first | (exact absurd (show (none : Option Bool) = some b from e) (by simp)) | skip
  · rw [rp_bl] at rx ry; subst rx ry; cases e; exact ⟨rfl, by simp⟩
  · rw [rp_int] at rx ry; subst rx ry; cases e; exact ⟨rfl, by simp⟩
  · rw [rp_str] at rx ry; subst rx ry; cases e; exact ⟨rfl, by simp⟩
theorem eqW_of {K : PySem.W.Frag} {H : Hp} {μ : Mu} {wx wy : W} {x y : V} {b : Bool} (rx : Rp K H μ wx x) (ry : Rp K H μ wy y) (e : eqW wx wy = some b) :
    (scal x y = true ∧ decide (x = y) = b) ∨ ∃ d e', Dp K H x d ∧ Dp K H y e' ∧ SeqAt.shaped d = true ∧ SeqAt.shaped e' = true ∧ PyData.eqv d e' = b := by
  unfold eqW at e
  cases q : scalW wx wy with
  | some b' => rw [q] at e; cases e; exact .inl (scal_of rx ry q)
  | none =>
    rw [q] at e
    dsimp only at e
    split at e
    · rename_i d e' h1 h2
      split at e
      · rename_i h3
        cases e
        exact .inr ⟨d, e', dp_of rx h1, dp_of ry h2, h3.1, h3.2, rfl⟩
      · cases e
    · cases e
theorem eqA_of {K : PySem.W.Frag} {H : Hp} {μ : Mu} {wx wy : W} {x y : V} {b : Bool} (rx : Rp K H μ wx x) (ry : Rp K H μ wy y) (e : eqA wx wy = some b) : eqW wx wy = some b ∨ (b = true ∧ TwoT K H (Alk K H 49) x y) := by
  unfold eqA at e
  cases q : eqW wx wy with
  | some b' => rw [q] at e; exact .inl e
  | none =>
    rw [q] at e
    refine .inr ?_
    cases wx with
    | tup ws =>
      dsimp only at e
      split at e
      · rename_i h
        cases e
        rcases eqT_two (eqT_of 49) rx ry h with ⟨n, _⟩ | z
        · exact absurd rfl (n ws)
        · exact ⟨rfl, z⟩
      · cases e
    | fd ks ws =>
      dsimp only at e
      split at e
      · rename_i h
        cases e
        rcases eqT_two (eqT_of 49) rx ry h with ⟨_, n⟩ | z
        · exact absurd rfl (n ks ws)
        · exact ⟨rfl, z⟩
      · cases e
    | _ => cases e
theorem dn_eq {K : PySem.W.Frag} : Dn2 K (rEqA K) (cmpW .Eq) := by
  intro E H μ st x y wx wy Q S rx ry p
  obtain ⟨w, e, p⟩ := ofO_ok p
  cases q : eqA wx wy with
  | none => rw [q] at e; cases e
  | some b =>
    rw [q] at e; cases e
    have z := Pst.pure S p (.bl b) (by rw [rp_bl])
    rcases eqA_of rx ry q with q | ⟨rfl, t⟩
    · rcases eqW_of rx ry q with ⟨h1, rfl⟩ | ⟨d, e', h1, h2, h3, h4, rfl⟩
      · exact .inl ⟨h1, z⟩
      · exact .inr (.inl ⟨d, e', h1, h2, h3, h4, z⟩)
    · exact .inr (.inr ⟨t, z⟩)
theorem dn_ne {K : PySem.W.Frag} : Dn2 K (rNeA K) (cmpW .NotEq) := by
  intro E H μ st x y wx wy Q S rx ry p
  obtain ⟨w, e, p⟩ := ofO_ok p
  cases q : eqW wx wy with
  | none => rw [q] at e; cases e
  | some b =>
    rw [q] at e; cases e
    have z := Pst.pure S p (.bl (!b)) (by rw [rp_bl])
    rcases eqW_of rx ry q with ⟨h1, rfl⟩ | ⟨d, e', h1, h2, h3, h4, rfl⟩
    · exact .inl ⟨h1, z⟩
    · exact .inr ⟨d, e', h1, h2, h3, h4, z⟩
theorem dn_ord {K : PySem.W.Frag} {f : Int → Int → Bool} : Dn2 K (rI0 fun i j => .bl (f i j)) (ordW f) := by
  intro E H μ st x y wx wy Q S rx ry p
  cases wx <;> cases wy <;> first | exact p.elim | skip
  rw [rp_int] at rx ry
  exact ⟨_, _, rx, ry, Pst.pure S p _ (by rw [rp_bl])⟩
def rCmp (K : PySem.W.Frag) : CmpOp → R2
  | .Eq => rEqA K
  | .NotEq => rNeA K
  | .Lt => rI0 fun i j => .bl (decide (i < j))
  | .LtE => rI0 fun i j => .bl (decide (i ≤ j))
  | .Gt => rI0 fun i j => .bl (decide (j < i))
  | .GtE => rI0 fun i j => .bl (decide (j ≤ i))
  | _ => fun _ _ _ _ => False
theorem op_cmp {X : Cx} (hu : X.A.units + 64 < cLine) : ∀ op : CmpOp, OpR X (compareOp op) (rCmp X.K op)
  | .Eq => op_eq.or ((op_eqD hu).or (op_alk hu))
  | .NotEq => op_ne.or (op_neD hu)
  | .Lt => op_lt
  | .LtE => op_le
  | .Gt => op_gt
  | .GtE => op_ge
  | .Is => fun _ _ _ _ _ _ _ _ _ _ _ _ h => h.elim
  | .IsNot => fun _ _ _ _ _ _ _ _ _ _ _ _ h => h.elim
  | .In => fun _ _ _ _ _ _ _ _ _ _ _ _ h => h.elim
  | .NotIn => fun _ _ _ _ _ _ _ _ _ _ _ _ h => h.elim
theorem dn_cmp {K : PySem.W.Frag} : ∀ op : CmpOp, Dn2 K (rCmp K op) (cmpW op)
  | .Eq => dn_eq
  | .NotEq => dn_ne
  | .Lt => dn_ord
  | .LtE => dn_ord
  | .Gt => dn_ord
  | .GtE => dn_ord
  | .Is => fun _ _ _ _ _ _ wx wy _ _ _ _ p => p.elim
  | .IsNot => fun _ _ _ _ _ _ wx wy _ _ _ _ p => p.elim
  | .In => fun _ _ _ _ _ _ wx wy _ _ _ _ p => p.elim
  | .NotIn => fun _ _ _ _ _ _ wx wy _ _ _ _ p => p.elim
end Vm
/-! Vm, part Ea: repr of a list of data and of written dicts. -/
namespace Vm
open PySem PySem.Spec PyProof.Rows L2

inductive Fl : V → PyData → Prop
  | non : Fl .non .none
  | bl (b : Bool) : Fl (.bl b) (.bool b)
  | int (i : Int) : Fl (.int i) (.int i)
  | str (x : Str) : Fl (.str x) (.str x)
/-- data, or a dict of plain things -/
def Dd (K : PySem.W.Frag) (H : Hp) (v : V) (d : PyData) : Prop :=
  Dp K H v d ∨ ∃ (b : Addr) (ks : List Key) (vs : List V) (ds : List PyData), v = .ref b ∧ H b = some (.dK (ks.zip vs)) ∧ ks.length = vs.length ∧ Paired Fl vs ds ∧ d = .dict ((ks.map kPd).zip ds)
mutual
theorem dp_nd {K : PySem.W.Frag} {H : Hp} : ∀ (d : PyData) {v : V}, Dp K H v d → d.hasDict = false
  | .none, _, _ => by simp [PyData.hasDict]
  | .bool _, _, _ => by simp [PyData.hasDict]
  | .int _, _, _ => by simp [PyData.hasDict]
  | .str _, _, _ => by simp [PyData.hasDict]
  | .list ds, _, h => by
    cases h with
    | lst _ h => simp only [PyData.hasDict]; exact dpl_nd ds h
  | .tuple ds, _, h => by
    cases h with
    | tup _ h => simp only [PyData.hasDict]; exact dpl_nd ds h
  | .dict _, _, h => by cases h
theorem dpl_nd {K : PySem.W.Frag} {H : Hp} : ∀ (ds : List PyData) {vs : List V}, DpAll K H vs ds → PyData.hasDictAll ds = false
  | [], _, _ => by simp [PyData.hasDictAll]
  | d :: ds, _, h => by
    cases h with
    | cons h1 h2 => simp only [PyData.hasDictAll, dp_nd d h1, dpl_nd ds h2, Bool.or_self]
end
theorem fl_reads {h : Heap} {v : V} {u : Value} {d : PyData} (f : Fl v d) (r : RelV v u) : Reads h u d [] := by
  cases f with
  | non => obtain rfl : u = .none := r; exact .none
  | bl b => obtain rfl : u = .bool b := r; exact .bool b
  | int i => obtain ⟨t, rfl⟩ := r; exact .int i t
  | str x => obtain ⟨t, rfl⟩ := r; exact .str x t
theorem pairs_reads {prog : Program} {w : World} {h : Heap} {es : List DictEntry} {kvs : List (Key × Value)} (p : Pairs (mixKind prog w) es kvs) : ∀ {ks : List Key} {vs : List V} {ds : List PyData}, ks.length = vs.length → KV (ks.zip vs) kvs → Paired Fl vs ds →
    ReadsAll h (es.map (·.key)) (((ks.map kPd).zip ds).map (·.1)) [] ∧ ReadsAll h (es.map (·.val)) (((ks.map kPd).zip ds).map (·.2)) [] := by
  induction p with
  | nil =>
    intro ks vs ds hl r f
    cases ks with
    | nil => exact ⟨.nil, by simpa using ReadsAll.nil⟩
    | cons k ks => cases vs with
      | nil => simp at hl
      | cons v vs => cases r
  | @cons e kv es kvs hk hv _ ih =>
    intro ks vs ds hl r f
    cases ks with
    | nil => cases r
    | cons k ks => cases vs with
      | nil => simp at hl
      | cons v vs =>
        cases f with
        | cons f1 f2 =>
          unfold KV at r
          rw [List.zip_cons_cons] at r
          cases r with
          | cons r1 r2 =>
            obtain ⟨i1, i2⟩ := ih (by simpa using hl) r2 f2
            have e1 : k = kv.1 := r1.1
            have e2 : RelV v kv.2 := r1.2
            simp only [List.map_cons, List.zip_cons_cons]
            refine ⟨?_, ?_⟩
            · have z : Reads h e.key (kPd k) [] := by
                have hk' : keyIs kv.1 e.key = true := hk
                rw [← e1] at hk'
                rcases keyIs_shape hk' with ⟨i, t, rfl, q⟩ | ⟨x, t, rfl, q⟩
                · rw [q]; exact .int i t
                · rw [q]; exact .str x t
              exact ReadsAll.cons z i1
            · rw [hv]
              exact ReadsAll.cons (fl_reads f1 e2) i2
section
variable {X : Cx} {pins : List (Addr × Obj)} {σ : L2.St} {H : Hp} {s : Shared}
theorem dd_reads (I : Inv X pins σ H s) {v : V} {u : Value} {d : PyData} (h : Dd X.K H v d) (r : RelV v u) : ∃ as, Reads s.heap u d as ∧ (d.hasDict = true → sysModules ∉ as) := by
  rcases h with h | ⟨b, ks, vs, ds, rfl, hb, hl, hf, rfl⟩
  · obtain ⟨as, q⟩ := Dp.reads I d v u h r
    exact ⟨as, q, fun e => by rw [dp_nd d h] at e; cases e⟩
  · obtain rfl : u = .ref b := r
    obtain ⟨_, nb, kvs, rkv, o, es, ep, ho, hx, hd, _, hp, _⟩ := dk_of I.hok hb
    obtain ⟨q1, q2⟩ := pairs_reads (h := s.heap) hp hl rkv hf
    refine ⟨_, Reads.dict ho hx.1 hd q1 q2, fun _ m => ?_⟩
    simp at m
    rw [← m] at nb
    simp at nb
theorem ddl_repr (I : Inv X pins σ H s) {vs : List V} {ds : List PyData} (h : Paired (Dd X.K H) vs ds) : ∀ {us : List Value}, Vals vs us → PyData.showableAll ds = true → (∀ t ∈ PyData.shownAll ds, t.length ≤ sizeLine) →
    (∃ as, ReadsAll s.heap us ds as) ∧ ∃ bs, ReadAtMost s.heap (PyData.depthAll ds) bs ∧ ReprAllK X.prog X.w bs s.heap (PyData.depthAll ds) us (PyData.shownAll ds) := by
  induction h with
  | nil =>
    intro us r _ _
    cases r
    exact ⟨⟨_, .nil⟩, [], (fun _ h => nomatch h), by simp only [PyData.shownAll]; exact .nil⟩
  | @cons v d vs ds h _ ih =>
    intro us r hs hz
    cases r with
    | @cons _ u _ us r1 r2 =>
      simp only [PyData.showableAll, Bool.and_eq_true] at hs
      simp only [PyData.shownAll, List.mem_cons, forall_eq_or_imp] at hz
      obtain ⟨⟨as2, R2⟩, bs2, A2, K2⟩ := ih r2 hs.2 hz.2
      obtain ⟨as1, R1, sm⟩ := dd_reads I h r1
      obtain ⟨bs1, A1, K1⟩ := ReprK.of_reads (prog := X.prog) (w := X.w) R1 hs.1 sm hz.1
      refine ⟨⟨_, .cons R1 R2⟩, bs1 ++ bs2, ?_, ?_⟩
      · simp only [PyData.depthAll]
        exact (A1.mono (Nat.le_max_left _ _)).append (A2.mono (Nat.le_max_right _ _))
      · simp only [PyData.depthAll, PyData.shownAll]
        exact .cons ((K1.more fun b hb => List.mem_append_left _ hb).level_le (Nat.le_max_left _ _)) (K2.more_le (fun b hb => List.mem_append_right _ hb) (Nat.le_max_right _ _))
theorem repr_dd (I : Inv X pins σ H s) (hg : X.A.guards = some []) (hu : X.A.units + 64 < cLine) {a : Addr} {vs : List V} {ds : List PyData} (hl : SqL X.K H a vs) (h : Paired (Dd X.K H) vs ds) (hs : (PyData.list ds).showable = true) (hd : (PyData.list ds).depth ≤ 60) (hz : (PyData.list ds).shown.length ≤ sizeLine)
    {E Q : Value → Shared → Prop} (q : ∀ h' u tk, (∀ b o, s.heap.get? b = some o → h'.get? b = some o) → Q (.str (PyData.list ds).shown u) { s with heap := h', toks := tk }) : wpAny (model X.prog X.w) X.A (call (.builtin "repr") [.ref a]) Q E s := by
  obtain ⟨its, rv, ⟨o, n, ho, hc, _, hdt⟩, _⟩ := I.list hl
  simp only [PyData.shown] at hz q
  simp only [PyData.depth] at hd
  simp only [PyData.showable] at hs
  obtain ⟨⟨as, R⟩, bs, hb, hk⟩ := ddl_repr I h rv hs fun t ht => Nat.le_trans (listText_mem_le ht) hz
  have hna : a ∉ bs := not_mem_of_deeper (Reads.list ho hc hdt R) (by simp only [PyData.depth]; omega) hb
  refine call_repr_slot (by omega) (T := "list") ⟨o, ho, hc⟩ F.slot_list_repr.toG ?_
  cases its with
  | nil =>
    cases R
    simp only [PyData.shownAll, listText_nil] at q
    exact call_list_repr_empty ⟨o, ho, hc⟩ ho hdt ⟨_, _, rfl, q s.heap _ _ fun _ _ e => e⟩
  | cons x l =>
    exact call_list_reprK ho hc hdt hna (by simpa using hk.length_eq) (fun i y e => hk.item i y (by simpa using e)) hg (fun b _ => Clear.nil b) (by show X.A.units + 1 + (PyData.depthAll ds + 1) < cLine; omega) (fun _ _ e => e) (fun h' u tk hk' => ⟨_, _, rfl, q h' u tk hk'⟩) hz
end
section
variable {K : PySem.W.Frag} {H : Hp} {μ : Mu}
theorem fl_of : ∀ {ws : List W} {vs : List V} {ds : List PyData}, RpL K H μ ws vs → pdSL ws = some ds → Paired Fl vs ds
  | [], vs, ds, r, e => by simp only [pdSL] at e; cases e; simp only [RpL] at r; subst r; exact .nil
  | w :: ws, vs, ds, r, e => by
    simp only [RpL] at r
    obtain ⟨v, r', rfl, h1, h2⟩ := r
    simp only [pdSL] at e
    cases q : pdS w with
    | none => rw [q] at e; cases e
    | some d =>
      rw [q] at e
      cases q2 : pdSL ws with
      | none => rw [q2] at e; cases e
      | some ds' =>
        rw [q2] at e; cases e
        refine .cons ?_ (fl_of h2 q2)
        cases w with
        | non => cases q; rw [rp_non] at h1; subst h1; exact .non
        | bl b => cases q; rw [rp_bl] at h1; subst h1; exact .bl b
        | int b => cases q; rw [rp_int] at h1; subst h1; exact .int b
        | str b => cases q; rw [rp_str] at h1; subst h1; exact .str b
        | _ => cases q
theorem dd_of {w : W} {v : V} {d : PyData} (r : Rp K H μ w v) (e : pdD w = some d) : Dd K H v d := by
  cases w with
  | fd ks ws =>
    simp only [pdD] at e
    split at e
    · rename_i hl
      cases q : pdSL ws with
      | none => rw [q] at e; cases e
      | some ds =>
        rw [q] at e; cases e
        simp only [Rp] at r
        obtain ⟨a, vs, rfl, h1, l1, _, h2⟩ := r
        exact .inr ⟨a, ks, vs, ds, rfl, h1, l1, fl_of h2 q, rfl⟩
    · cases e
  | _ => exact .inl (dp_of r e)
theorem ddl_of : ∀ {ws : List W} {vs : List V} {ds : List PyData}, RpL K H μ ws vs → pdDL ws = some ds → Paired (Dd K H) vs ds
  | [], vs, ds, r, e => by simp only [pdDL] at e; cases e; simp only [RpL] at r; subst r; exact .nil
  | w :: ws, vs, ds, r, e => by
    simp only [RpL] at r
    obtain ⟨v, r', rfl, h1, h2⟩ := r
    simp only [pdDL] at e
    cases q : pdD w with
    | none => rw [q] at e; cases e
    | some d =>
      rw [q] at e
      cases q2 : pdDL ws with
      | none => rw [q2] at e; cases e
      | some ds' =>
        rw [q2] at e; cases e
        exact .cons (dd_of h1 q) (ddl_of h2 q2)
end
end Vm
/-! Vm, part F: sequences, built-in calls. -/
namespace Vm
open PySem L2

section
variable {K : PySem.W.Frag} {E : XK} {H : Hp} {μ : Mu} {st : Sto} {α β : Type}
theorem getO_ok {i : Nat} {f : O → M β} {Q : β → Sto → Hp → Mu → Prop} (p : Pst K E H μ ((getO i >>= f) st) Q) : ∃ o, st[i]? = some o ∧ Pst K E H μ (f o st) Q := by
  rw [run_bind] at p
  unfold getO at p
  cases q : st[i]? with
  | none => rw [q] at p; exact p.elim
  | some o => rw [q] at p; exact ⟨o, rfl, p⟩
theorem setO_ok {i : Nat} {o : O} {f : Unit → M β} {Q : β → Sto → Hp → Mu → Prop} (p : Pst K E H μ ((setO i o >>= f) st) Q) : i < st.length ∧ Pst K E H μ (f () (st.set i o)) Q := by
  rw [run_bind] at p
  unfold setO at p
  by_cases h : i < st.length
  · rw [if_pos h] at p; exact ⟨h, p⟩
  · rw [if_neg h] at p; exact p.elim
theorem pure_ok {a : α} {f : α → M β} {Q : β → Sto → Hp → Mu → Prop} (p : Pst K E H μ (((pure a : M α) >>= f) st) Q) : Pst K E H μ (f a st) Q := p
theorem StR.ref {i : Nat} {o : O} {v : V} (S : StR K H μ st) (r : Rp K H μ (.ref i) v) (e : st[i]? = some o) : ∃ a, v = .ref a ∧ μ.m[i]? = some a ∧ ObR K H μ o (H a) := by
  rw [rp_ref] at r
  obtain ⟨a, rfl, h⟩ := r
  exact ⟨a, rfl, h, S.at_ i o a e h⟩
theorem items_ok {w : W} {v : V} {f : List W → M β} {Q : β → Sto → Hp → Mu → Prop} (S : StR K H μ st) (r : Rp K H μ w v) (p : Pst K E H μ ((itemsOf w >>= f) st) Q) :
    ∃ a vs ws, v = .ref a ∧ (SqL K H a vs ∨ (∃ xs, w = .tup xs) ∧ SqT K H a vs) ∧ RpL K H μ ws vs ∧ Pst K E H μ (f ws st) Q := by
  cases w with
  | tup xs =>
    rw [rp_tup] at r
    obtain ⟨a, vs, rfl, h1, h2⟩ := r
    exact ⟨a, vs, xs, rfl, .inr ⟨⟨xs, rfl⟩, h1⟩, h2, p⟩
  | fl xs =>
    rw [rp_fl] at r
    obtain ⟨a, vs, rfl, h1, _, h2⟩ := r
    exact ⟨a, vs, xs, rfl, .inl (SqL.of h1), h2, p⟩
  | kl xs =>
    rw [rp_kl] at r
    obtain ⟨a, vs, rfl, h1, h2⟩ := r
    exact ⟨a, vs, xs, rfl, .inl h1.sq, h2, p⟩
  | ref i =>
    have p' : Pst K E H μ ((getO i >>= fun o => (lstOf o : M (List W)) >>= f) st) Q := by
      rw [← bind_assoc]; exact p
    obtain ⟨o, h1, p2⟩ := getO_ok p'
    obtain ⟨a, rfl, h2, h3⟩ := S.ref r h1
    cases o with
    | lst xs =>
      obtain ⟨vs, e1, h4⟩ := h3
      exact ⟨a, vs, xs, rfl, .inl (SqL.of e1), h4, p2⟩
    | dct ks ws => exact p2.elim
    | ins c ns ws => exact p2.elim
  | _ => exact p.elim
theorem atI_rel {ws : List W} {vs : List V} {i : Int} {w : W} (r : RpL K H μ ws vs) (e : atI ws i = some w) : ∃ v, atI vs i = some v ∧ Rp K H μ w v := by
  unfold atI at e ⊢
  rw [← r.length]
  cases q : ixN ws.length i with
  | none => rw [q] at e; cases e
  | some j =>
    rw [q] at e
    exact r.get e
end

theorem dn_sub_ix {K : PySem.W.Frag} : Dn2 K (rIx K) subW := by
  intro E H μ st x y wx wy Q S rx ry p
  have key : ∀ i, wy = .int i → Pst K E H μ ((itemsOf wx >>= fun xs => atW xs i) st) (QW K Q) → rIx K x y H Q := by
    intro i e pp
    subst e
    rw [rp_int] at ry
    obtain ⟨a, vs, ws, rfl, h1, h2, p1⟩ := items_ok S rx pp
    obtain ⟨w, e, p2⟩ := ofO_ok p1
    obtain ⟨v, e2, r2⟩ := atI_rel h2 e
    have q := Pst.pure S p2 v r2
    rcases h1 with h1 | ⟨_, h1⟩
    · exact .inl ⟨a, vs, i, v, rfl, ry, h1, e2, q⟩
    · exact .inr (.inl ⟨a, vs, i, v, rfl, ry, h1, e2, q⟩)
  cases wy with
  | int i =>
    cases wx with
    | str s =>
      rw [rp_str] at rx
      rw [rp_int] at ry
      obtain ⟨h1, p1⟩ := if_ok p
      obtain ⟨w, e, p2⟩ := ofO_ok p1
      cases q : atI s.cps.toList i with
      | none => rw [q] at e; cases e
      | some c =>
        rw [q] at e; cases e
        exact .inr (.inr ⟨s, i, c, rx, ry, h1, q, Pst.pure S p2 _ (by rw [rp_str])⟩)
    | _ => exact key i rfl p
  | _ => cases wx <;> exact p.elim

/-! ### slices -/
def DnS (K : PySem.W.Frag) (r : V → Option Int → Option Int → Hp → VK → Prop) (g : W → Option Int → Option Int → M W) : Prop := ∀ (E : XK) H μ st x wx lo hi Q, StR K H μ st → Rp K H μ wx x → Pst K E H μ (g wx lo hi st) (QW K Q) → r x lo hi H Q
theorem cut_rel {K : PySem.W.Frag} {H : Hp} {μ : Mu} {ws : List W} {vs : List V} (r : RpL K H μ ws vs) (lo hi : Option Int) : RpL K H μ (cutW ws lo hi) (cutV vs lo hi) := by
  unfold cutW cutV
  rw [r.length]
  exact (r.drop _).take _


def rSl (K : PySem.W.Frag) : V → Option Int → Option Int → Hp → VK → Prop := fun x lo hi H Q => rSlA K x lo hi H Q ∨ rSlL K x lo hi H Q ∨ rSlS x lo hi H Q
theorem sl_all {X : Cx} : SlR X (rSl X.K) := sl_tupA.or (sl_list.or sl_str)
theorem dn_sli {K : PySem.W.Frag} : DnS K (rSl K) sliW := by
  intro E H μ st x wx lo hi Q S rx p
  cases wx with
  | tup xs =>
    rw [rp_tup] at rx
    obtain ⟨a, vs, rfl, h1, h2⟩ := rx
    refine .inl ⟨a, vs, rfl, h1, fun hw => ?_, fun _ q hq => new_tup S (cut_rel h2 lo hi) p hq⟩
    have e : cutW xs lo hi = xs := by
      unfold cutW
      rw [h2.length, hw.1, hw.2, List.drop_zero, Nat.sub_zero]
      exact List.take_of_length_le (Nat.le_of_eq h2.length)
    exact Pst.pure S p _ (by rw [rp_tup, e]; exact ⟨a, vs, rfl, h1, h2⟩)
  | fl xs =>
    rw [rp_fl] at rx
    obtain ⟨a, vs, rfl, h1, _, h2⟩ := rx
    exact .inr (.inl ⟨a, vs, rfl, SqL.of h1, fun q hq => new_fl S (cut_rel h2 lo hi) p hq⟩)
  | kl xs =>
    rw [rp_kl] at rx
    obtain ⟨a, vs, rfl, h1, h2⟩ := rx
    exact .inr (.inl ⟨a, vs, rfl, h1.sq, fun q hq => new_fl S (cut_rel h2 lo hi) p hq⟩)
  | str s =>
    rw [rp_str] at rx
    obtain ⟨h1, p1⟩ := if_ok p
    exact .inr (.inr ⟨s, rx, h1, Pst.pure S p1 _ (by rw [rp_str])⟩)
  | ref i =>
    obtain ⟨ob, h1, p1⟩ := getO_ok p
    obtain ⟨a, rfl, h2, h3⟩ := S.ref rx h1
    cases ob with
    | lst xs =>
      obtain ⟨vs, e1, h4⟩ := h3
      exact .inr (.inl ⟨a, vs, rfl, SqL.of e1, fun q hq => new_fl S (cut_rel h4 lo hi) p1 hq⟩)
    | dct _ _ => exact p1.elim
    | ins _ _ _ => exact p1.elim
  | _ => exact p.elim
section
variable {X : Cx} {E : WX} {e : Expr} {lo hi : Option Expr} {fe : Rho → M W} {fl fh : Rho → M (Option Int)} {pos p2 : Pos}
theorem o_no : PO X none (TOp X.K E fun _ => pure none) := po_imp po_none fun σ H Q h => by
  obtain ⟨μ, st, ρ, S, e, p⟩ := h
  exact Pst.pure S p
theorem o_yes (h : PE X e (TX X.K E fe)) : PO X (some e) (TOp X.K E fun ρ => fe ρ >>= intO) := po_imp (po_some h) fun σ H Q h => by
  obtain ⟨μ, st, ρ, S, e, p⟩ := h
  refine ⟨μ, st, ρ, S, e, p.bind.imp fun w st1 H1 μ1 x S1 q v r => ?_⟩
  cases w with
  | int i =>
    rw [rp_int] at r
    exact ⟨i, r, Pst.pure S1 q⟩
  | _ => exact q.elim
theorem s_sli (he : PE X e (TX X.K E fe)) (hl : PO X lo (TOp X.K E fl)) (hh : PO X hi (TOp X.K E fh)) :
    PE X (.Subscript e (.Slice lo hi none p2) pos) (TX X.K E fun ρ => fe ρ >>= fun x => fl ρ >>= fun l => fh ρ >>= fun h => sliW x l h) :=
  pe_imp (pe_slice sl_all he hl hh) fun σ H Q h => by
    obtain ⟨μ, st, ρ, S, e, p⟩ := h
    refine ⟨μ, st, ρ, S, e, go1 S e p.bind fun w st1 H1 μ1 x1 S1 e1 q1 v r => ⟨μ1, st1, ρ, S1, e1, go1 S1 e1 q1.bind fun l st2 H2 μ2 x2 S2 e2 q2 => ⟨μ2, st2, ρ, S2, e2, go1 S2 e2 q2.bind fun h st3 H3 μ3 x3 S3 e3 q3 => ?_⟩⟩⟩
    exact dn_sli _ _ _ _ _ _ _ _ _ S3 ((r.mono S1 x2).mono S2 x3) q3
end

/-! ### built-in functions by values -/
theorem ints_rel {K : PySem.W.Frag} {H : Hp} {μ : Mu} : ∀ {ws : List W} {vs : List V} {ns : List Int}, RpL K H μ ws vs → intsOf ws = some ns → vs = ns.map V.int
  | [], vs, ns, r, e => by simp only [intsOf] at e; cases e; simp only [RpL] at r; subst r; rfl
  | w :: ws, vs, ns, r, e => by
    obtain ⟨v, r', rfl, h1, h2⟩ := r.uncons
    cases w with
    | int i =>
      simp only [intsOf] at e
      cases q : intsOf ws with
      | none => rw [q] at e; cases e
      | some ms =>
        rw [q] at e; cases e
        rw [rp_int] at h1
        subst h1
        rw [ints_rel h2 q]; rfl
    | _ => cases e
theorem bls_rel {K : PySem.W.Frag} {H : Hp} {μ : Mu} : ∀ {ws : List W} {vs : List V} {ns : List Bool}, RpL K H μ ws vs → blsOf ws = some ns → vs = ns.map V.bl
  | [], vs, ns, r, e => by simp only [blsOf] at e; cases e; simp only [RpL] at r; subst r; rfl
  | w :: ws, vs, ns, r, e => by
    obtain ⟨v, r', rfl, h1, h2⟩ := r.uncons
    cases w with
    | bl i =>
      simp only [blsOf] at e
      cases q : blsOf ws with
      | none => rw [q] at e; cases e
      | some ms =>
        rw [q] at e; cases e
        rw [rp_bl] at h1
        subst h1
        rw [bls_rel h2 q]; rfl
    | _ => cases e
def Bf.val : Bf → Value
  | .list => .type "list" | .tuple => .type "tuple" | .str => .type "str" | .int => .type "int" | .bool => .type "bool"
  | f => .builtin f.name
def rRepr (K : PySem.W.Frag) : List V → Hp → VK → Prop := fun xs H Q => (∃ i, xs = [.int i] ∧ i.natAbs.log2 < 1920 ∧ Q (.str (toString i)) H) ∨ (∃ a d, xs = [.ref a] ∧ Dp K H (.ref a) d ∧ d.showable = true ∧ d.hasDict = false ∧ d.depth ≤ 60 ∧ d.shown.length ≤ sizeLine ∧ Q (.str d.shown) H) ∨
  ∃ a vs ds, xs = [.ref a] ∧ SqL K H a vs ∧ Paired (Dd K H) vs ds ∧ (PyData.list ds).showable = true ∧ (PyData.list ds).depth ≤ 60 ∧ (PyData.list ds).shown.length ≤ sizeLine ∧ Q (.str (PyData.list ds).shown) H
theorem cr_repr {X : Cx} (hg : X.A.guards = some []) (hu : X.A.units + 64 < cLine) : CallR X (.builtin "repr") (rRepr X.K) := by
  intro pins s σ H xs us Q I r h
  rcases h with ⟨i, rfl, h1, q⟩ | ⟨a, d, rfl, h1, h2, h3, h4, h5, q⟩ | ⟨a, vs, ds, rfl, h1, h2, h3, h4, h5, q⟩
  · cases r with
    | cons r1 r2 =>
      cases r2
      obtain ⟨t, rfl⟩ := r1
      exact PySem.P.repr_of_int h1 ⟨.str (toString i), H, I.tok _, ⟨_, rfl⟩, q⟩
  · cases r with
    | cons r1 r2 =>
      cases r2
      obtain ⟨as, r3⟩ := Dp.reads I d _ _ h1 r1
      rename_i u
      cases (show u = Value.ref a from r1)
      exact PySem.repr_of_reads' r3 h2 (fun e => by rw [h3] at e; cases e) hg (by omega) (fun _ _ e => e) (fun h' u tk hk => ⟨.str d.shown, H, I.kept (t' := tk) hk, ⟨_, rfl⟩, q⟩) h5
  · cases r with
    | cons r1 r2 =>
      cases r2
      rename_i u
      cases (show u = Value.ref a from r1)
      exact repr_dd I hg hu h1 h2 h3 h4 h5 fun h' u tk hk => ⟨.str (PyData.list ds).shown, H, I.kept (t' := tk) hk, ⟨_, rfl⟩, q⟩
def rBi (K : PySem.W.Frag) : Bf → List V → Hp → VK → Prop
  | .len => fun xs H Q => ∃ x n, xs = [x] ∧ LenV K x H n ∧ Q (.int n) H
  | .abs => fun xs H Q => ∃ i, xs = [.int i] ∧ Q (.int (if i < 0 then -i else i)) H
  | .max => fun xs H Q => ∃ i j, xs = [.int i, .int j] ∧ Q (.int (if j > i then j else i)) H
  | .min => fun xs H Q => ∃ i j, xs = [.int i, .int j] ∧ Q (.int (if j < i then j else i)) H
  | .sum => rSum K
  | .all => rAll K
  | .any => rAny K
  | .list => fun xs H Q => ∃ p ys, xs = [.ref p] ∧ (SqL K H p ys ∨ SqT K H p ys) ∧ ∀ l, H l = none → Q (.ref l) (upd H l (.lst ys))
  | .tuple => fun xs H Q => ∃ p ys, xs = [.ref p] ∧ ((SqL K H p ys ∧ ∀ l, H l = none → Q (.ref l) (upd H l (.tup ys))) ∨ (SqT K H p ys ∧ Q (.ref p) H))
  | .str => fun xs H Q => ∃ i, xs = [.int i] ∧ i.natAbs.log2 < 1920 ∧ Q (.str (toString i)) H
  | .int => fun xs H Q => (∃ i, xs = [.int i] ∧ Q (.int i) H) ∨ ∃ k, xs = [.bl k] ∧ Q (.int (if k then 1 else 0)) H
  | .repr => rRepr K
  | _ => fun _ _ _ => False
theorem cr_no {X : Cx} {v : Value} : CallR X v (fun _ _ _ => False) := fun _ _ _ _ _ _ _ _ _ h => h.elim
theorem cr_bi {X : Cx} (hgu : X.A.guards = some []) (hun : X.A.units + 64 < cLine) (hc : X.calm = true) : ∀ f : Bf, CallR X f.val (rBi X.K f)
  | .len => call_len
  | .abs => call_abs
  | .max => call_max2 hc
  | .min => call_min2 hc
  | .sum => cr_sum hc
  | .all => cr_all hc
  | .any => cr_any hc
  | .list => call_list_of
  | .tuple => call_tuple_of
  | .str => call_str_int
  | .int => call_int1
  | .repr => cr_repr hgu hun
  | .bool => cr_no
theorem rpl1 {K : PySem.W.Frag} {H : Hp} {μ : Mu} {w : W} {xs : List V} (r : RpL K H μ [w] xs) : ∃ x, xs = [x] ∧ Rp K H μ w x := by
  obtain ⟨v, r', rfl, h1, h2⟩ := r.uncons
  simp only [RpL] at h2; subst h2
  exact ⟨v, rfl, h1⟩
theorem rpl2 {K : PySem.W.Frag} {H : Hp} {μ : Mu} {w w' : W} {xs : List V} (r : RpL K H μ [w, w'] xs) : ∃ x y, xs = [x, y] ∧ Rp K H μ w x ∧ Rp K H μ w' y := by
  obtain ⟨v, r', rfl, h1, h2⟩ := r.uncons
  obtain ⟨y, rfl, h3⟩ := rpl1 h2
  exact ⟨v, y, rfl, h1, h3⟩
theorem dn_len {K : PySem.W.Frag} {E : XK} {H : Hp} {μ : Mu} {st : Sto} {w : W} {x : V} {Q : VK} (S : StR K H μ st) (r : Rp K H μ w x) (p : Pst K E H μ (lenW w st) (QW K Q)) : ∃ n, LenV K x H n ∧ Q (.int n) H := by
  have key : Pst K E H μ ((itemsOf w >>= fun xs => pure (.int xs.length)) st) (QW K Q) → ∃ n, LenV K x H n ∧ Q (.int n) H := fun p => by
    obtain ⟨a, vs, ws, rfl, h1, h2, p1⟩ := items_ok S r p
    refine ⟨vs.length, ?_, Pst.pure S p1 _ (by rw [rp_int, h2.length])⟩
    rcases h1 with h1 | ⟨_, h1⟩
    · exact .inl ⟨vs, h1, rfl⟩
    · exact .inr ⟨vs, h1, rfl⟩
  cases w with
  | str s =>
    rw [rp_str] at r
    subst r
    obtain ⟨h1, p1⟩ := if_ok p
    exact ⟨s.length, ⟨h1, rfl⟩, Pst.pure S p1 _ (by rw [rp_int])⟩
  | _ => exact key p
section
variable {K : PySem.W.Frag} {E : XK} {H : Hp} {μ : Mu} {st : Sto} {ws : List W} {xs : List V} {Q : VK}
theorem one1_ok {f : W → M W} (r : RpL K H μ ws xs) (p : Pst K E H μ (one1 f ws st) (QW K Q)) : ∃ w x, xs = [x] ∧ Rp K H μ w x ∧ Pst K E H μ (f w st) (QW K Q) := by
  unfold one1 at p
  split at p
  · obtain ⟨x, rfl, r1⟩ := rpl1 r
    exact ⟨_, x, rfl, r1, p⟩
  · exact p.elim
theorem int1_ok {f : Int → M W} (r : RpL K H μ ws xs) (p : Pst K E H μ (int1 f ws st) (QW K Q)) : ∃ i, xs = [.int i] ∧ Pst K E H μ (f i st) (QW K Q) := by
  unfold int1 at p
  split at p
  · obtain ⟨x, rfl, r1⟩ := rpl1 r
    rw [rp_int] at r1; subst r1
    exact ⟨_, rfl, p⟩
  · exact p.elim
theorem int2_ok {f : Int → Int → M W} (r : RpL K H μ ws xs) (p : Pst K E H μ (int2 f ws st) (QW K Q)) : ∃ i j, xs = [.int i, .int j] ∧ Pst K E H μ (f i j st) (QW K Q) := by
  unfold int2 at p
  split at p
  · obtain ⟨x, y, rfl, r1, r2⟩ := rpl2 r
    rw [rp_int] at r1 r2; subst r1 r2
    exact ⟨_, _, rfl, p⟩
  · exact p.elim
theorem fl1_ok {f : List W → M W} (r : RpL K H μ ws xs) (p : Pst K E H μ (fl1 f ws st) (QW K Q)) : ∃ a ys vs, xs = [.ref a] ∧ H a = some (.lst vs) ∧ RpL K H μ ys vs ∧ Pst K E H μ (f ys st) (QW K Q) := by
  unfold fl1 at p
  split at p
  · obtain ⟨x, rfl, r1⟩ := rpl1 r
    rw [rp_fl] at r1
    obtain ⟨a, vs, rfl, h1, _, h2⟩ := r1
    exact ⟨a, _, vs, rfl, h1, h2, p⟩
  · exact p.elim
theorem ofOb_ok {α β : Type} {o : Option α} {f : α → M β} {Q : β → Sto → Hp → Mu → Prop} (p : Pst K E H μ ((ofO o >>= f) st) Q) : ∃ a, o = some a ∧ Pst K E H μ (f a st) Q := by
  cases o with
  | none => exact p.elim
  | some a => exact ⟨a, rfl, p⟩
end
theorem dn_bi {K : PySem.W.Frag} : ∀ f : Bf, DnL K (rBi K f) (biW f) := by
  intro f E H μ st xs ws Q S r p
  cases f with
  | len =>
    obtain ⟨w, x, rfl, r1, p1⟩ := one1_ok r p
    obtain ⟨n, h1, h2⟩ := dn_len S r1 p1
    exact ⟨x, n, rfl, h1, h2⟩
  | abs =>
    obtain ⟨i, rfl, p1⟩ := int1_ok r p
    exact ⟨i, rfl, Pst.pure S p1 _ (by rw [rp_int])⟩
  | max =>
    obtain ⟨i, j, rfl, p1⟩ := int2_ok r p
    exact ⟨i, j, rfl, Pst.pure S p1 _ (by rw [rp_int])⟩
  | min =>
    obtain ⟨i, j, rfl, p1⟩ := int2_ok r p
    exact ⟨i, j, rfl, Pst.pure S p1 _ (by rw [rp_int])⟩
  | sum =>
    obtain ⟨a, ys, vs, rfl, h1, h2, p1⟩ := fl1_ok r p
    obtain ⟨ns, q, p2⟩ := ofOb_ok p1
    exact ⟨a, ns, rfl, SqL.of (by rw [h1, ints_rel h2 q]), Pst.pure S p2 _ (by rw [rp_int])⟩
  | all =>
    obtain ⟨a, ys, vs, rfl, h1, h2, p1⟩ := fl1_ok r p
    obtain ⟨ns, q, p2⟩ := ofOb_ok p1
    exact ⟨a, ns, rfl, SqL.of (by rw [h1, bls_rel h2 q]), Pst.pure S p2 _ (by rw [rp_bl])⟩
  | any =>
    obtain ⟨a, ys, vs, rfl, h1, h2, p1⟩ := fl1_ok r p
    obtain ⟨ns, q, p2⟩ := ofOb_ok p1
    exact ⟨a, ns, rfl, SqL.of (by rw [h1, bls_rel h2 q]), Pst.pure S p2 _ (by rw [rp_bl])⟩
  | list =>
    obtain ⟨w, x, rfl, r1, p1⟩ := one1_ok r p
    obtain ⟨a, vs, ws, rfl, h1, h2, p1⟩ := items_ok S r1 p1
    exact ⟨a, vs, rfl, h1.imp id (·.2), fun l hl => new_fl S h2 p1 hl⟩
  | tuple =>
    obtain ⟨w, x, rfl, r1, p1⟩ := one1_ok r p
    obtain ⟨a, vs, ws, rfl, h1, h2, p1⟩ := items_ok S r1 p1
    refine ⟨a, vs, rfl, ?_⟩
    rcases h1 with h1 | ⟨_, h1⟩
    · exact .inl ⟨h1, fun l hl => new_tup S h2 p1 hl⟩
    · exact .inr ⟨h1, Pst.pure S p1 _ (by rw [rp_tup]; exact ⟨a, vs, rfl, h1, h2⟩)⟩
  | str =>
    obtain ⟨i, rfl, p1⟩ := int1_ok r p
    obtain ⟨h1, p1⟩ := if_ok p1
    exact ⟨i, rfl, h1, Pst.pure S p1 _ (by rw [rp_str])⟩
  | int =>
    obtain ⟨w, x, rfl, r1, p1⟩ := one1_ok r p
    cases w with
    | int i =>
      rw [rp_int] at r1; subst r1
      exact .inl ⟨i, rfl, Pst.pure S p1 _ (by rw [rp_int])⟩
    | bl i =>
      rw [rp_bl] at r1; subst r1
      exact .inr ⟨i, rfl, Pst.pure S p1 _ (by rw [rp_int])⟩
    | _ => exact p1.elim
  | repr =>
    obtain ⟨w, x, rfl, r1, p1⟩ := one1_ok r p
    obtain ⟨w2, e2, p2⟩ := ofO_ok p1
    cases q : shW w with
    | none => rw [q] at e2; cases e2
    | some sh =>
      rw [q] at e2; cases e2
      have z := Pst.pure S p2 (.str sh) (by rw [rp_str])
      cases w with
      | int i =>
        simp only [shW] at q
        split at q
        · rename_i hl
          cases q
          rw [rp_int] at r1; subst r1
          exact .inl ⟨i, rfl, hl, z⟩
        · cases q
      | tup ys =>
        have r2 := r1
        rw [rp_tup] at r2
        obtain ⟨a, vs, rfl, _⟩ := r2
        simp only [shW] at q
        cases qd : pd (.tup ys) with
        | none => rw [qd] at q; cases q
        | some d =>
          rw [qd] at q
          simp only [Option.bind_some] at q
          split at q
          · rename_i hl
            cases q
            exact .inr (.inl ⟨a, d, rfl, dp_of r1 qd, hl.1, hl.2.1, hl.2.2.1, hl.2.2.2, z⟩)
          · cases q
      | fl ys =>
        rw [rp_fl] at r1
        obtain ⟨a, vs, rfl, h1, _, h2⟩ := r1
        simp only [shW, shF] at q
        cases qd : pdDL ys with
        | none => rw [qd] at q; cases q
        | some ds =>
          rw [qd] at q
          simp only [Option.bind_some] at q
          split at q
          · rename_i hl
            cases q
            exact .inr (.inr ⟨a, vs, ds, rfl, SqL.of h1, ddl_of h2 qd, hl.1, hl.2.1, hl.2.2, z⟩)
          · cases q
      | _ => cases q
  | bool => exact p.elim
end Vm
/-! Vm, part G: calls. -/
namespace Vm
open PySem L2

/-! ### argument lists without stars -/
def noStar : Expr → Bool
  | .Starred _ _ => false
  | _ => true
theorem star_cons {e : Expr} {es : List Expr} {env : Env} (h : noStar e = true) : starEach (e :: es) env = (false, eval e env) :: starEach es env := by
  cases e <;> first | rfl | (exact absurd h (by simp [noStar]))
theorem star_any {pos : Pos} {env : Env} : ∀ {es : List Expr}, es.all noStar = true → (backTo pos (starEach es env)).any (·.1) = false
  | [], _ => rfl
  | e :: es, h => by
    rw [List.all_cons, Bool.and_eq_true] at h
    rw [star_cons h.1]
    show (false || (backTo pos (starEach es env)).any (·.1)) = false
    rw [star_any h.2]; rfl
def kwNames : List Keyword → Option (List Str)
  | [] => some []
  | ⟨some n, _, _⟩ :: r => (kwNames r).map (n :: ·)
  | _ => none
theorem kw_all {pos : Pos} {env : Env} : ∀ {kws : List Keyword} {ks : List Str}, kwNames kws = some ks → (backToKw pos (keywordEach kws env)).all (·.1.isSome) = true ∧ (backToKw pos (keywordEach kws env)).filterMap (·.1) = ks ∧ (backToKw pos (keywordEach kws env)).any (·.1.isNone) = false
  | [], ks, h => by simp only [kwNames] at h; cases h; exact ⟨rfl, rfl, rfl⟩
  | ⟨some n, e, p⟩ :: r, ks, h => by
    simp only [kwNames] at h
    cases q : kwNames r with
    | none => rw [q] at h; cases h
    | some ks' =>
      rw [q] at h; cases h
      obtain ⟨h1, h2, h3⟩ := kw_all (pos := pos) (env := env) q
      refine ⟨?_, ?_, ?_⟩
      · show (true && (backToKw pos (keywordEach r env)).all (·.1.isSome)) = true
        rw [h1]; rfl
      · show n :: (backToKw pos (keywordEach r env)).filterMap (·.1) = n :: ks'
        rw [h2]
      · show (false || (backToKw pos (keywordEach r env)).any (·.1.isNone)) = false
        rw [h3]; rfl
  | ⟨none, e, p⟩ :: r, ks, h => by cases h

/-! ### a def's promise, where nothing is being shown (repr) -/
structure RmG (k : Nat) (A : Around) : Prop where
  room : Room k A
  gu : A.guards = some []
theorem RmG.mono {j k : Nat} {A : Around} (r : RmG k A) (h : j ≤ k) : RmG j A := ⟨r.room.mono h, r.gu⟩
theorem RmG.in1 {k : Nat} {A : Around} (r : RmG (k + 1) A) : RmG k A.in1 := ⟨r.room.in1, r.gu⟩
theorem RmG.make {k : Nat} {A : Around} (r : RmG (k + 1) A) (C : Addr) (us : List Value) (kw : List (Str × Value)) : RmG k (A.under (.builtin "type.__call__" ⟨.ref C :: us, kw⟩)) := ⟨r.room.make C us kw, by
  have : (Code.builtin "type.__call__" ⟨.ref C :: us, kw⟩).guards = [] := by
    unfold Code.guards
    rw [if_neg (by simp [Code.isGuard, guardIds])]
  unfold Around.under
  dsimp only
  rw [this, r.gu]; rfl⟩
structure FnG (P : Program) (w : World) (K : PySem.W.Frag) (mg : Str → Option Value) (base : Heap) (k : Nat) (f : Addr) (fd : FuncData) (ps : List Str) (sp : Sp) : Prop where
  len : ∀ vs H Q E, sp vs H Q E → vs.length = ps.length
  run : ∀ (A : Around) (outer : List Env) (s : Shared) (H : Hp) (args : Args) (us : List Value) (vs : List V) (Q : VK) (E : XK), RmG k A → Env0 P w K mg base A outer s H → BindsTo s fd args (ps.zip us) → Vals vs us → sp vs H Q E →
    codeAny (model P w) A (.call (.ref f) args) (CR (L2.CX P w) outer P w H s Q E) s
theorem FnG.mono {P : Program} {w : World} {K : PySem.W.Frag} {mg : Str → Option Value} {base : Heap} {j k : Nat} {f : Addr} {fd : FuncData} {ps : List Str} {sp : Sp} (F : FnG P w K mg base j f fd ps sp) (h : j ≤ k) :
    FnG P w K mg base k f fd ps sp := ⟨F.len, fun A outer s H args us vs Q E hr => F.run A outer s H args us vs Q E (hr.mono h)⟩
section
open PyProof.Rows
/-- a written def keeps its promise where its body does, in the frame that the call opens -/
theorem fnG_of {P : Program} {w : World} {K : PySem.W.Frag} {mg : Str → Option Value} {base : Heap} {k : Nat} {f : Addr} {nm ql : Str} {pa : Arguments} {bd : List Stmt} {sc : Scope} {d1 d2 d3 d4 d5 d6 cl : Value} {a1 a2 : Option Addr} {sl : Array (Option Value)} {N ps : List Str} {sp : Sp}
    (at_ : K.lookup f = some ⟨cl, a2, .func (PySem.W.fnOf nm ql pa bd sc d1 d2 d3 d4 a1 d5 d6), sl⟩) (cd : PySem.W.codeIn K d5 ql = true) (S : FnScope N ps sc) (len : ∀ vs H Q E, sp vs H Q E → vs.length = ps.length)
    (body : ∀ (A : Around) (outer : List Env) (s : Shared) (H : Hp) (vs : List V) (Q : VK) (E : XK), RmG k (A.deeper (envOfC ql sc s.heap.objs.size f d5)) → sp vs H Q E → ∃ t, PSs (cxOf (L2.CX P w) P w K mg base N ql sc f d5 A outer s H E) bd t ∧ t ⟨fun _ H' => Q .non H', Q, fun _ _ => False, fun _ _ => False⟩ (L2.start N vs) H) :
    FnG P w K mg base (k + 1) f (PySem.W.fnOf nm ql pa bd sc d1 d2 d3 d4 a1 d5 d6) ps sp where
  len := len
  run := fun A outer s H args us vs Q E room env bnd rel pre => by
    have keep : ∀ b o, base.get? b = some o → s.heap.get? b = some o := fun b o e => (env.bs b o e).1
    have inS := env.mod.kin.keeps keep
    have cells : ∀ q ∈ ps.zip us, sc.names.lookup q.1 = some .local ∨ sc.names.lookup q.1 = some .cell ∧ ((cellsFrom (s.heap.objs.size + 1) sc.names []).lookup q.1).isSome = true := by
      intro q hq
      refine (S.par q.1 (List.of_mem_zip (show (q.1, q.2) ∈ ps.zip us from hq)).1).imp id fun c => ⟨c, ?_⟩
      exact PySem.W.cellsFrom_some _ _ _ (Or.inl c)
    apply codeAny_call_function room.room.depth (inS _ _ at_) rfl S.co S.gen rfl (PySem.W.codeRec_of inS cd)
    apply bnd
    apply wpAny_newFunctionEnv_cells S.kind cells
    rintro _ rfl s1 call
    constructor
    · exact (env.mod.nolimit.keeps keep).keeps call.toInCall.keep
    apply codeAny_func
    obtain ⟨t, judged, reads⟩ := body A outer s H vs Q E ⟨room.room.deeper _, room.gu⟩ pre
    have inv := inv_start (CX := L2.CX P w) (E := E) S room.room.hd env (len _ _ _ _ pre) rel call
    have ran := judged.run [] s1 _ H _ inv reads
    refine wpAny_mono ran ?_ fun _ _ z => z
    intro flow s2 after
    cases flow with
    | next =>
      obtain ⟨_, H2, J, q⟩ := after
      exact ⟨V.non, H2, J.os, J.bare, J.base, J.hok, rfl, q⟩
    | ret u =>
      obtain ⟨v, _, H2, J, r, q⟩ := after
      exact ⟨v, H2, J.os, J.bare, J.base, J.hok, r, q⟩
    | brk => exact after.elim fun _ z => z.elim fun _ y => y.2.elim
    | cont => exact after.elim fun _ z => z.elim fun _ y => y.2.elim
end
theorem funG {P : Program} {w : World} {K : PySem.W.Frag} {mg : Str → Option Value} {base : Heap} {x qual : Str} {params : Arguments} {body : List Stmt} {scope : Scope} {dvs : List V} {kws : List (Str × V)} {f : Addr} {fd : FuncData} {N ps : List Str} {k : Nat} {sp : Sp} (F : FunD K x qual params body scope dvs kws f fd) (S : FnScope N ps scope) (len : ∀ vs H Q E, sp vs H Q E → vs.length = ps.length)
    (hbody : ∀ (cdv : Value) (A : Around) (outer : List Env) (s : Shared) (H : Hp) (vs : List V) (Q : VK) (E : XK), RmG k (A.deeper (PyProof.Rows.envOfC qual scope s.heap.objs.size f cdv)) → sp vs H Q E →
      ∃ t, PSs (cxOf (L2.CX P w) P w K mg base N qual scope f cdv A outer s H E) body t ∧ t { nx := fun _ H' => Q .non H', rt := Q } (L2.start N vs) H) : FnG P w K mg base (k + 1) f fd ps sp := by
  obtain ⟨oc, od, dV, kV, doc, pm, an, cdv, ct, osl, rfl, lk, hcd, _, _⟩ := F.ex
  exact fnG_of lk hcd S len fun A outer s H vs Q E hr hsp => hbody cdv A outer s H vs Q E hr hsp

/-! ### what is known of the module -/
/-- a def's promise, by what it comes to -/
def spOf (K : PySem.W.Frag) (n : Nat) (m : List W → M W) : Sp := fun vs H Q E => vs.length = n ∧ ∃ μ st ws, StR K H μ st ∧ RpL K H μ ws vs ∧ Pst K E H μ (m ws st) (QW K Q)
structure FnE (P : Program) (w : World) (K : PySem.W.Frag) (mg : Str → Option Value) (base : Heap) (k : Nat) (fa : Addr) (n : Nat) (ks : List Str) (g : List W → List W → List W) (m : List W → M W) : Prop where
  ex : ∃ (fd : FuncData) (ps : List Str) (gR : List Value → List Value → List Value) (gV : List V → List V → List V), PySem.W.keepIn K (.ref fa) = true ∧ FnG P w K mg base k fa fd ps (spOf K ps.length m) ∧ KBn K fd ps n ks gR gV ∧
    ∀ H μ ws vs zs us, RpL K H μ ws vs → RpL K H μ zs us → ws.length = n → zs.length = ks.length → RpL K H μ (g ws zs) (gV vs us) ∧ (gV vs us).length = ps.length
def Cl.val (K : PySem.W.Frag) : Cl → Value
  | .ty n => .type n
  | .own x => .ref (He.ga K x)
def unt (H : Hp) (x : Addr) : Hp := fun a => if a = x then none else H a
/-- what __init__ promises: the new instance stands at x, the store does not know it -/
def spInit (K : PySem.W.Frag) (c : Str) (n : Nat) (m : List W → M W) : Sp := fun vs H Q E => vs.length = n ∧ ∃ x dx rest μ st ws, vs = .ref x :: rest ∧ H x = some (.ins (He.ga K c) dx []) ∧ x ∉ μ.m ∧ x ∉ μ.d ∧ StR K H μ st ∧ RpL K H μ ws rest ∧
  Pst K E (unt H x) μ (m ws st) (fun w _ H' μ' => Rp K H' μ' w (.ref x) → Q .non H')
structure MkE (P : Program) (w : World) (K : PySem.W.Frag) (mg : Str → Option Value) (base : Heap) (k : Nat) (c : Str) (fa : Addr) (n : Nat) (ks : List Str) (g : List W → List W → List W) (m : List W → M W) : Prop where
  ex : ∃ (fd : FuncData) (ps : List Str) (gR : List Value → List Value → List Value) (gV : List V → List V → List V) (j : Nat), j + 1 ≤ k ∧ FnG P w K mg base j fa fd ps (spInit K c ps.length m) ∧ KBn K fd ps (n + 1) ks gR gV ∧
    ∀ H μ ws vs zs us x, RpL K H μ ws vs → RpL K H μ zs us → ws.length = n → zs.length = ks.length → ∃ rest, gV (x :: vs) us = x :: rest ∧ RpL K H μ (g ws zs) rest ∧ rest.length + 1 = ps.length
structure GOk (P : Program) (w : World) (K : PySem.W.Frag) (mg : Str → Option Value) (base : Heap) (k : Nat) (Γ : Gm) : Prop where
  call : ∀ f n ks g, Γ.bnd f n ks = some g → ∃ fa, mg f = some (.ref fa) ∧ FnE P w K mg base k fa n ks g (Γ.fn f)
  glob : ∀ x w, Γ.glob x = some w → ∃ v u, mg x = some u ∧ RelV v u ∧ ∀ H μ, Rp K H μ w v
  free : ∀ x, Γ.free x = true → mg x = none
  cls : ∀ c, Γ.cls c = true → Cls K (He.ga K c) ∧ PySem.W.findIn K (.ref (He.ga K c)) "__class__" = some (some (.builtin "object.__class__")) ∧ PySem.W.specialIn K (.builtin "object.__class__") "__get__" = some (some (.builtin "getset_descriptor.__get__")) ∧
    PySem.W.takesIn K (.builtin "object.__class__") = some true ∧ PySem.W.mroIn K (He.ga K c) (.type "object") = some true
  isa : ∀ t c b, Γ.isa t c = some b → PySem.W.kitOne K (t.val K) (c.val K) = some b
  own : ∀ x, Γ.clsv x = true → mg x = some (.ref (He.ga K x))
  fld : ∀ c f, Γ.fld c f = true → Cls K (He.ga K c) ∧ NoAttr K (He.ga K c) f
  meth : ∀ c m n ks g, Γ.mbnd c m n ks = some g → ∃ fa, Cls K (He.ga K c) ∧ Meth K (He.ga K c) m fa ∧ FnE P w K mg base k fa n ks g (Γ.mfn c m)
  spc : ∀ c m, Γ.spc c m = true → Cls K (He.ga K c) ∧ PySem.W.mroIn K (He.ga K c) (.type "object") = some true ∧ PySem.W.findIn K (.ref (He.ga K c)) "__ne__" = some (some (.builtin "object.__ne__")) ∧ ∃ fa j, j + 3 ≤ k ∧ Meth K (He.ga K c) m fa ∧ ∀ n g, Γ.mbnd c m n [] = some g → FnE P w K mg base j fa n [] g (Γ.mfn c m)
  make : ∀ c n ks g, Γ.kbnd c n ks = some g → mg c = some (.ref (He.ga K c)) ∧ ∃ fa, Mk K (He.ga K c) fa ∧ MkE P w K mg base k c fa n ks g (Γ.kfn c)
theorem pk_imp {X : Cx} {kws : List Keyword} {t t' : TA} (h : PK X kws t) (i : ∀ σ H Q, t' σ H Q → t σ H Q) : PK X kws t' := ⟨fun pos pins s σ H Q I q => h.run pos pins s σ H Q I (i σ H Q q)⟩
section
variable {X : Cx} {E : WX} {a : Expr} {fa : Rho → M W} {fs fz : Rho → M (List W)} {kws : List Keyword} {nm : Option Str} {pos kpos p : Pos} {k : Nat} {Γ : Gm} {f : Str} {ks : List Str}
theorem k_cons (ha : PE X a (TX X.K E fa)) (hr : PK X kws (TL X.K E fs)) : PK X (⟨nm, a, kpos⟩ :: kws) (TL X.K E fun ρ => fa ρ >>= fun w => fs ρ >>= fun ws => pure (w :: ws)) :=
  pk_imp (pk_cons ha hr) fun σ H Q h => by
    obtain ⟨μ, st, ρ, S, e, p⟩ := h
    refine ⟨μ, st, ρ, S, e, go1 S e p.bind fun w st1 H1 μ1 x S1 e1 q v r => ⟨μ1, st1, ρ, S1, e1, go1 S1 e1 q.bind fun ws st2 H2 μ2 x2 S2 e2 q2 vs rs => ?_⟩⟩
    exact Pst.pure S2 q2 _ (.cons (r.mono S1 x2) rs)
theorem k_nil : PK X [] (TL X.K E fun _ => pure []) := pk_imp pk_nil fun σ H Q h => by
  obtain ⟨μ, st, ρ, S, e, p⟩ := h
  exact Pst.pure S p _ .nil
/-- the callee runs, its exceptions taken at the caller's slots -/
theorem run_fnW {pins : List (Addr × Obj)} {σ : St} {H : Hp} {s : Shared} {Q : VK} {us us' : List Value} {vs vs' : List V} {μ : Mu} {st : Sto} {ws zs : List W} {f : Addr} {n : Nat} {g : List W → List W → List W} {m : List W → M W}
    (F : FnE X.prog X.w X.K X.mg X.base k f n ks g m) (hr : RmG k X.A) (tk : Takes X E) (I : Inv X pins σ H s) (r : Vals vs us) (r' : Vals vs' us') (S : StR X.K H μ st) (h1 : RpL X.K H μ ws vs) (h2 : RpL X.K H μ zs vs') (l1 : ws.length = n) (l2 : zs.length = ks.length)
    (p : Pst X.K (fun c d H' => E c d σ H') H μ (m (g ws zs) st) (QW X.K Q)) : wpAny (model X.prog X.w) X.A (call (.ref f) us (ks.zip us')) (EP X pins σ Q) X.xe s := by
  obtain ⟨fd, ps, gR, gV, hk, FO, hb, hg⟩ := F.ex
  obtain ⟨h3, h4⟩ := hg H μ ws vs zs vs' h1 h2 l1 l2
  have r2 := hb.rel r r'
  refine wpAny_call (codeAny_mono (FO.run X.A X.stack s H ⟨us, ks.zip us'⟩ (gR us us') (gV vs vs') Q (WE E σ) hr I.env0 (hb.to s us us' I.kIn (by rw [← r.length, ← h1.length, l1]) (by rw [← r'.length, ← h2.length, l2])) r2 ⟨h4, μ, st, g ws zs, S, h3, p⟩) fun r s' hq => ?_)
  cases r with
  | error e => exact passAt tk σ pins H s e s' I hq
  | ok fl =>
    cases fl with
    | ret u => exact I.after hq
    | next => exact False.elim hq
    | brk => exact False.elim hq
    | cont => exact False.elim hq
theorem callW_ok {K : PySem.W.Frag} {E' : XK} {H : Hp} {μ : Mu} {st : Sto} {ws zs : List W} {Q : VK} (p : Pst K E' H μ (callW Γ f ks ws zs st) (QW K Q)) : ∃ g, Γ.bnd f ws.length ks = some g ∧ zs.length = ks.length ∧ Pst K E' H μ (Γ.fn f (g ws zs) st) (QW K Q) := by
  unfold callW at p
  cases q : Γ.bnd f ws.length ks with
  | none => rw [q] at p; exact p.elim
  | some g =>
    rw [q] at p
    obtain ⟨h1, h2⟩ := if_ok p
    exact ⟨g, rfl, h1, h2⟩
/-- f() -/
theorem s_call0 (G : GOk X.prog X.w X.K X.mg X.base k Γ) (hr : RmG k X.A) (tk : Takes X E) (hg : Gl X f) (hdb : (f == ("__debug__" : Str)) = false) : PE X (.Call (.Name f p) [] [] pos) (TX X.K E fun ρ => callW Γ f [] [] []) := by
  refine ⟨fun pins s σ H Q I h => ?_⟩
  obtain ⟨μ, st, ρ, S, e, pp⟩ := h
  obtain ⟨g, e1, _, p1⟩ := callW_ok pp
  obtain ⟨fa, hm, F⟩ := G.call _ _ _ _ e1
  have hk := F.ex
  obtain ⟨_, _, _, _, hk, _⟩ := hk
  refine wpAny_Call_Name_kw (ld_glob I hg hm ?_ hdb)
  exact PySem.W.callWith_K0 I.kIn hk (run_fnW (us := []) (us' := []) F hr tk I .nil .nil S .nil .nil rfl rfl p1)
/-- f(e, ..) -/
theorem s_call {a : Expr} {as : List Expr} (G : GOk X.prog X.w X.K X.mg X.base k Γ) (hr : RmG k X.A) (tk : Takes X E) (hg : Gl X f) (ha : PA X (a :: as) (TL X.K E fs)) (hst : (a :: as).all noStar = true) (hdb : (f == ("__debug__" : Str)) = false)
    (hB : ∃ n g, Γ.bnd f n [] = some g) : PE X (.Call (.Name f p) (a :: as) [] pos) (TX X.K E fun ρ => fs ρ >>= fun ws => callW Γ f [] ws []) := by
  refine ⟨fun pins s σ H Q I h => ?_⟩
  obtain ⟨μ, st, ρ, S, e, pp⟩ := h
  rw [List.all_cons, Bool.and_eq_true] at hst
  obtain ⟨n0, g0, hB⟩ := hB
  obtain ⟨fa, hm, F0⟩ := G.call _ _ _ _ hB
  obtain ⟨_, _, _, _, hk, _⟩ := F0.ex
  refine wpAny_Call_Name_kw (ld_glob I hg hm ?_ hdb)
  refine PySem.W.callWith_K (h₀ := X.base) I.ok.mod.kin hk (thn (ha.run pos pins s σ H (fun vs H1 => ∃ μ1 st1 ws g, StR X.K H1 μ1 st1 ∧ RpL X.K H1 μ1 ws vs ∧ Γ.bnd f ws.length [] = some g ∧ Pst X.K (fun c d H' => E c d σ H') H1 μ1 (Γ.fn f (g ws []) st1) (QW X.K Q)) I
    ⟨μ, st, ρ, S, e, pp.bind.imp fun ws st1 H1 μ1 x1 S1 q vs rv => ?_⟩) fun us s1 ⟨vs, H1, I1, r, μ1, st1, ws, g, S1, rv, e1, p1⟩ => ⟨I1.kIn, ?_⟩) (star_cons hst.1) (star_any hst.2)
  · obtain ⟨g, e1, _, p1⟩ := callW_ok q
    exact ⟨μ1, st1, ws, g, S1, rv, e1, p1⟩
  · obtain ⟨fa', hm', F⟩ := G.call _ _ _ _ e1
    rw [hm] at hm'; cases hm'
    exact run_fnW (us' := []) F hr tk I1 r .nil S1 rv .nil rfl rfl p1
/-- f(e, .., k = v, ..) -/
theorem s_callK {a : Expr} {as : List Expr} (G : GOk X.prog X.w X.K X.mg X.base k Γ) (hr : RmG k X.A) (tk : Takes X E) (hg : Gl X f) (ha : PA X (a :: as) (TL X.K E fs)) (hst : (a :: as).all noStar = true) (hkw : PK X kws (TL X.K E fz)) (hks : kwNames kws = some ks) (hdb : (f == ("__debug__" : Str)) = false)
    (hB : ∃ n g, Γ.bnd f n ks = some g) : PE X (.Call (.Name f p) (a :: as) kws pos) (TX X.K E fun ρ => fs ρ >>= fun ws => fz ρ >>= fun zs => callW Γ f ks ws zs) := by
  refine ⟨fun pins s σ H Q I h => ?_⟩
  obtain ⟨μ, st, ρ, S, e, pp⟩ := h
  have hst0 := hst
  rw [List.all_cons, Bool.and_eq_true] at hst
  obtain ⟨n0, g0, hB⟩ := hB
  obtain ⟨fa, hm, F0⟩ := G.call _ _ _ _ hB
  obtain ⟨_, _, _, _, hk, _⟩ := F0.ex
  obtain ⟨k1, k2, k3⟩ := kw_all (pos := pos) (env := X.env) hks
  refine wpAny_Call_Name_kw (ld_glob I hg hm ?_ hdb)
  refine PySem.W.callWith_KW (h₀ := X.base) I.ok.mod.kin hk k1 (thn (ha.run pos pins s σ H (fun vs H1 => ∃ μ1 st1 ws, StR X.K H1 μ1 st1 ∧ EnvR X.K H1 μ1 ρ σ ∧ RpL X.K H1 μ1 ws vs ∧ Pst X.K (fun c d H' => E c d σ H') H1 μ1 ((fz ρ >>= fun zs => callW Γ f ks ws zs) st1) (QW X.K Q)) I
    ⟨μ, st, ρ, S, e, go1 S e pp.bind fun ws st1 H1 μ1 x1 S1 e1 q vs rv => ⟨μ1, st1, ws, S1, e1, rv, q⟩⟩) fun us s1 ⟨vs, H1, I1, r, μ1, st1, ws, S1, e1, rv, p1⟩ => ?_) (by rw [star_any hst0, k3]; rfl) (star_cons hst.1)
  refine thn (hkw.run pos pins s1 σ H1 (fun us H2 => ∃ μ2 st2 zs g, StR X.K H2 μ2 st2 ∧ RpL X.K H2 μ2 ws vs ∧ RpL X.K H2 μ2 zs us ∧ Γ.bnd f ws.length ks = some g ∧ zs.length = ks.length ∧ Pst X.K (fun c d H' => E c d σ H') H2 μ2 (Γ.fn f (g ws zs) st2) (QW X.K Q)) I1
    ⟨μ1, st1, ρ, S1, e1, p1.bind.imp fun zs st2 H2 μ2 x2 S2 q2 us rz => ?_⟩) fun us2 s2 ⟨vs2, H2, I2, r2, μ2, st2, zs, g, S2, rv2, rz2, e2, lz, p2⟩ => ⟨I2.kIn, ?_⟩
  · obtain ⟨g, e1, l, p2⟩ := callW_ok q2
    exact ⟨μ2, st2, zs, g, S2, rv.mono S1 x2, rz, e1, l, p2⟩
  · rw [k2]
    obtain ⟨fa', hm', F⟩ := G.call _ _ _ _ e2
    rw [hm] at hm'; cases hm'
    exact run_fnW F hr tk I2 r r2 S2 rv2 rz2 rfl lz p2
end
end Vm
/-! Vm, part H: built-in calls, isinstance, fields, methods, new instances. -/
namespace Vm
open PySem L2

def Bf.nm (f : Bf) : Str := Str.ofString f.name
theorem boot_bf : ∀ f : Bf, bootBuiltins f.nm = some f.val := by
  intro f
  cases f <;> decide +kernel
section
variable {X : Cx} {E : WX} {a : Expr} {as : List Expr} {fs : Rho → M (List W)} {fa : Rho → M W} {p pos : Pos}
theorem s_bi (f : Bf) (hgu : X.A.guards = some []) (hun : X.A.units + 64 < cLine) (hc : X.calm = true) (hg : Gl X f.nm) (hm : X.mg f.nm = none) (ha : PA X (a :: as) (TL X.K E fs)) (hst : (a :: as).all noStar = true) : PE X (.Call (.Name f.nm p) (a :: as) [] pos) (TX X.K E fun ρ => fs ρ >>= biW f) := by
  rw [List.all_cons, Bool.and_eq_true] at hst
  have key : PE X (.Call (.Name f.nm p) (a :: as) [] pos) (tCB (rBi X.K f) (TL X.K E fs)) := by
    have hn : f.nm ≠ "__name__" := by cases f <;> decide +kernel
    have hd : (f.nm == ("__debug__" : Str)) = false := by cases f <;> decide +kernel
    have hb := boot_bf f
    have hr := cr_bi (X := X) hgu hun hc f
    cases q : f.val with
    | builtin id => rw [q] at hb hr; exact pe_callB hr hg hm hb ha hn hd (star_cons hst.1) (star_any hst.2)
    | type T => rw [q] at hb hr; exact pe_callTy hr hg hm hb ha hn hd (star_cons hst.1) (star_any hst.2)
    | _ => cases f <;> cases q
  refine pe_imp key fun σ H Q h => ?_
  obtain ⟨μ, st, ρ, S, e, pp⟩ := h
  exact ⟨μ, st, ρ, S, e, pp.bind.imp fun ws st1 H1 μ1 x1 S1 q vs r => dn_bi f _ _ _ _ _ _ _ S1 r q⟩
end

/-! ### isinstance -/
theorem tyx_of {P : Program} {w : World} {K : PySem.W.Frag} {mg : Str → Option Value} {base : Heap} {k : Nat} {Γ : Gm} (G : GOk P w K mg base k Γ) {H : Hp} {μ : Mu} {st : Sto} (S : StR K H μ st) {wv : W} {v : V} {t : Cl} (r : Rp K H μ wv v)
    (e : typeOfW Γ st wv = some t) : TyX K H v (t.val K) := by
  have ins : ∀ {c : Str} {a dx : Addr} {fs : List (Str × V)}, Γ.cls c = true → H a = some (.ins (He.ga K c) dx fs) → TyX K H (.ref a) (Cl.val K (.own c)) := fun {c a dx fs} hc ha => by
    obtain ⟨c1, c2, c3, c4, c5⟩ := G.cls c hc
    exact .base (.ins ha c1 c2 c3 c4 c5)
  cases wv with
  | non => simp only [typeOfW] at e; cases e; rw [rp_non] at r; subst r; exact .base .non
  | bl b => simp only [typeOfW] at e; cases e; rw [rp_bl] at r; subst r; exact .base (.bl b)
  | int b => simp only [typeOfW] at e; cases e; rw [rp_int] at r; subst r; exact .base (.int b)
  | str b => simp only [typeOfW] at e; cases e; rw [rp_str] at r; subst r; exact .base (.str b)
  | tup xs =>
    simp only [typeOfW] at e; cases e
    rw [rp_tup] at r
    obtain ⟨a, vs, rfl, h1, h2⟩ := r
    rcases h1 with (h1 | ⟨o, h1⟩) | ⟨o, its, n, h1, h3, _⟩
    · exact .base (.tup h1)
    · exact .fTuple h1
    · exact .kTuple h1 h3
  | fl xs =>
    simp only [typeOfW] at e; cases e
    rw [rp_fl] at r
    obtain ⟨a, vs, rfl, h1, _⟩ := r
    exact .base (.lst h1)
  | kl xs =>
    simp only [typeOfW] at e; cases e
    rw [rp_kl] at r
    obtain ⟨a, vs, rfl, h1, _⟩ := r
    rcases h1 with ⟨o, h1⟩ | ⟨o, its, n, h1, h3, _⟩
    · exact .base (.frz h1)
    · exact .kList h1 h3
  | fd ks ws =>
    simp only [typeOfW] at e; cases e
    simp only [Rp] at r
    obtain ⟨a, vs, rfl, h1, _⟩ := r
    exact .base (.dK h1)
  | obj c ns ws =>
    simp only [typeOfW] at e
    split at e
    · rename_i hc
      cases e
      simp only [Rp] at r
      obtain ⟨a, dx, vs, rfl, h1, _⟩ := r
      exact ins hc h1
    · cases e
  | ref i =>
    simp only [typeOfW] at e
    cases q : st[i]? with
    | none => rw [q] at e; cases e
    | some o =>
      rw [q] at e
      obtain ⟨a, rfl, h2, h3⟩ := S.ref r q
      cases o with
      | lst xs => cases e; obtain ⟨vs, h4, _⟩ := h3; exact .base (.lst h4)
      | dct ks ws => cases e; obtain ⟨vs, h4, _⟩ := h3; exact .base (.dK h4)
      | ins c ns ws =>
        dsimp only at e
        split at e
        · rename_i hc
          cases e
          obtain ⟨dx, vs, h4, _⟩ := h3
          exact ins hc h4
        · cases e
  | _ => simp [typeOfW] at e
theorem isa_of {P : Program} {w : World} {K : PySem.W.Frag} {mg : Str → Option Value} {base : Heap} {k : Nat} {Γ : Gm} (G : GOk P w K mg base k Γ) {t c : Cl} {b : Bool} (e : isaW Γ t c = some b) : PySem.W.kitOne K (t.val K) (c.val K) = some b := by
  cases t with
  | ty a =>
    cases c with
    | ty b => exact kit_ty e
    | own x => exact G.isa _ _ _ e
  | own y => cases c <;> exact G.isa _ _ _ e
theorem anyO_of {K : PySem.W.Frag} {t : Value} : ∀ {cs : List Cl} {f : Cl → Option Bool} {b : Bool}, anyO (cs.map f) = some b → (∀ c b, f c = some b → PySem.W.kitOne K t (c.val K) = some b) → PySem.W.kitAny K t (cs.map (Cl.val K)) = some b
  | [], f, b, e, h => by simp only [List.map_nil, anyO] at e; cases e; exact kitAny_nil
  | c :: cs, f, b, e, h => by
    simp only [List.map_cons] at e
    cases q : f c with
    | none => rw [q] at e; cases e
    | some b' =>
      rw [q] at e
      cases b' with
      | true => simp only [anyO] at e; cases e; exact kitAny_cons (h c _ q) (fun z => by cases z) (fun _ => rfl)
      | false => simp only [anyO] at e; exact kitAny_cons (h c _ q) (fun _ => anyO_of e h) (fun z => by cases z)
/-- a class by its name -/
def clE (Γ : Gm) : Cl → Expr → Bool
  | .ty n, .Name x _ => decide (x = Str.ofString n) && (Γ.free x && decide (bootBuiltins x = some (.type n)))
  | .own c, .Name x _ => decide (x = c) && Γ.clsv c
  | _, _ => false
def Cl.v (K : PySem.W.Frag) : Cl → V
  | .ty n => .ty n
  | .own x => .ref (He.ga K x)
theorem Cl.cv {K : PySem.W.Frag} (c : Cl) : ClsV (c.v K) (c.val K) := by
  cases c with
  | ty n => exact .ty n
  | own x => exact .own _
section
variable {X : Cx} {E : WX} {a : Expr} {fa : Rho → M W} {p pos tp : Pos} {k : Nat} {Γ : Gm}
def glE (sc : Scope) : Expr → Bool
  | .Name x _ => decide (sc.names.lookup x = some .globalImplicit) && decide (x ≠ "__name__") && !(x == ("__debug__" : Str))
  | _ => false
theorem cl_pe (G : GOk X.prog X.w X.K X.mg X.base k Γ) {c : Cl} {e : Expr} (h : clE Γ c e = true) (hg : glE X.env.scope e = true) : PE X e (tC (c.v X.K)) := by
  cases e with
  | Name x pp =>
    simp only [glE, Bool.and_eq_true, decide_eq_true_eq, Bool.not_eq_true'] at hg
    obtain ⟨⟨h1, h2⟩, h3⟩ := hg
    cases c with
    | ty n =>
      simp only [clE, Bool.and_eq_true, decide_eq_true_eq] at h
      obtain ⟨h4, h5, h6⟩ := h
      exact pe_bltn (v := .ty n) h1 (G.free _ h5) h6 rfl h2 h3
    | own y =>
      simp only [clE, Bool.and_eq_true, decide_eq_true_eq] at h
      obtain ⟨rfl, h5⟩ := h
      exact pe_glob (v := .ref (He.ga X.K x)) h1 (G.own _ h5) rfl h3
  | _ => cases c <;> cases h
def clsE (Γ : Gm) : List Cl → List Expr → Bool
  | [], [] => true
  | c :: cs, e :: es => clE Γ c e && clsE Γ cs es
  | _, _ => false
theorem cls_pa (G : GOk X.prog X.w X.K X.mg X.base k Γ) : ∀ {cs : List Cl} {es : List Expr}, clsE Γ cs es = true → es.all (glE X.env.scope) = true → PA X es (fun _ H Q => Q (cs.map (Cl.v X.K)) H)
  | [], [], _, _ => pa_imp pa_nil fun σ H Q h => h
  | c :: cs, e :: es, h, hg => by
    simp only [clsE, Bool.and_eq_true] at h
    rw [List.all_cons, Bool.and_eq_true] at hg
    refine pa_imp (pa_cons (cl_pe G h.1 hg.1) (cls_pa G h.2 hg.2) (star_cons ?_)) fun σ H Q h => h
    cases e with
    | Name x pp => rfl
    | _ => cases hg.1
  | [], _ :: _, h, _ => by cases h
  | _ :: _, [], h, _ => by cases h
theorem paired_cl {K : PySem.W.Frag} : ∀ (cs : List Cl), Paired ClsV (cs.map (Cl.v K)) (cs.map (Cl.val K))
  | [] => .nil
  | c :: cs => .cons c.cv (paired_cl cs)
/-- isinstance(a, C) -/
theorem s_isi1 (G : GOk X.prog X.w X.K X.mg X.base k Γ) (hg : Gl X "isinstance") (hf : Γ.free "isinstance" = true) {c : Cl} {t : Expr} (ha : PE X a (TX X.K E fa)) (hn : noStar a = true) (h : clE Γ c t = true) (hgt : glE X.env.scope t = true) :
    PE X (.Call (.Name "isinstance" p) [a, t] [] pos) (TX X.K E fun ρ => fa ρ >>= isiM Γ [c]) := by
  have ht : noStar t = true := by
    cases t with
    | Name x pp => rfl
    | _ => cases hgt
  refine pe_imp (pe_callB call_isi hg (G.free _ hf) PyProof.Rows.boot_isinstance (pa_cons ha (pa_cons (cl_pe G h hgt) pa_nil (star_cons ht)) (star_cons hn)) (by decide) (by decide) (star_cons hn) (star_any (by rw [List.all_cons, ht]; rfl))) fun σ H Q h => ?_
  obtain ⟨μ, st, ρ, S, e, pp⟩ := h
  refine ⟨μ, st, ρ, S, e, pp.bind.imp fun w st1 H1 μ1 x1 S1 q v r => ?_⟩
  obtain ⟨w2, e2, q2⟩ := ofO_ok q
  cases e3 : anyO ([c].map (isiW Γ w st1)) with
  | none => rw [e3] at e2; cases e2
  | some b =>
    rw [e3] at e2; cases e2
    cases e4 : typeOfW Γ st1 w with
    | none => simp [isiW, e4, anyO] at e3
    | some t =>
      have h1 := tyx_of G S1 r e4
      simp only [isiW, e4, List.map_cons, List.map_nil, Option.bind_some] at e3
      cases e5 : isaW Γ t c with
      | none => rw [e5] at e3; cases e3
      | some b' =>
        have e6 : b' = b := by
          rw [e5] at e3
          cases b' <;> simp only [anyO] at e3 <;> cases e3 <;> rfl
        subst e6
        exact ⟨v, c.v X.K, _, _, b', rfl, c.cv, h1, isa_of G e5, Pst.pure S1 q2 _ (by rw [rp_bl])⟩
/-- isinstance(a, (C, D)) -/
theorem s_isiT (G : GOk X.prog X.w X.K X.mg X.base k Γ) (hg : Gl X "isinstance") (hf : Γ.free "isinstance" = true) {cs : List Cl} {ts : List Expr} {kk : Nat} (ha : PE X a (TX X.K E fa)) (hn : noStar a = true) (h : clsE Γ cs ts = true) (hgt : ts.all (glE X.env.scope) = true) (hl : ts.length ≤ 1000) (hne : cs ≠ []) :
    PE X (.Call (.Name "isinstance" p) [a, .Tuple ts kk tp] [] pos) (TX X.K E fun ρ => fa ρ >>= isiM Γ cs) := by
  refine pe_imp (pe_callB call_isiT hg (G.free _ hf) PyProof.Rows.boot_isinstance (pa_cons ha (pa_cons (pe_tup (cls_pa G h hgt)) pa_nil (star_cons rfl)) (star_cons hn)) (by decide) (by decide) (star_cons hn) (star_any rfl)) fun σ H Q h2 => ?_
  have hlen : ∀ {cs : List Cl} {ts : List Expr}, clsE Γ cs ts = true → cs.length = ts.length := by
    intro cs
    induction cs with
    | nil => intro ts h; cases ts with | nil => rfl | cons _ _ => cases h
    | cons c cs ih =>
      intro ts h
      cases ts with
      | nil => cases h
      | cons t ts =>
        simp only [clsE, Bool.and_eq_true] at h
        simp [ih h.2]
  obtain ⟨μ, st, ρ, S, e, pp⟩ := h2
  refine ⟨μ, st, ρ, S, e, pp.bind.imp fun w st1 H1 μ1 x1 S1 q v r => ?_⟩
  refine ⟨?_, fun T hT => ?_⟩
  · rw [List.length_map, hlen h]
    exact Nat.le_trans hl (by decide)
  obtain ⟨w2, e2, q2⟩ := ofO_ok q
  cases e3 : anyO (cs.map (isiW Γ w st1)) with
  | none => rw [e3] at e2; cases e2
  | some b =>
    rw [e3] at e2; cases e2
    have x2 := Ext.laid (o := HO.tup (cs.map (Cl.v X.K))) S1 hT
    have S2 : StR X.K (upd H1 T (.tup (cs.map (Cl.v X.K)))) μ1 st1 := S1.laid hT
    have r2 : Rp X.K (upd H1 T (.tup (cs.map (Cl.v X.K)))) μ1 w v := r.mono S1 x2
    cases e4 : typeOfW Γ st1 w with
    | none =>
      cases cs with
      | nil => exact absurd rfl hne
      | cons c cs => simp [isiW, e4, anyO] at e3
    | some t =>
      have h1 := tyx_of G S2 r2 e4
      have h3 : PySem.W.kitAny X.K (t.val X.K) (cs.map (Cl.val X.K)) = some b := anyO_of e3 fun c b hb => by
        simp only [isiW, e4, Option.bind_some] at hb
        exact isa_of G hb
      exact ⟨v, T, cs.map (Cl.v X.K), _, _, b, rfl, upd_same, paired_cl cs, h1, h3, q2 _ _ x2 S2 _ (by rw [rp_bl])⟩
end
end Vm
/-! Vm, part I: fields, methods, new instances, methods of lists. -/
namespace Vm
open PySem L2

def superFree : Expr → Bool
  | .Call (.Name id _) [] [] _ => !(id == ("super" : Str))
  | _ => true
theorem base_of {o : Expr} {f : Str} {env : Env} {w : Sem Value} (h : superFree o = true) : attributeBase o f env w = w := by
  unfold attributeBase
  split
  · rename_i id p pos
    have h1 : (id == ("super" : Str)) = false := by simpa [superFree] using h
    have h2 : (id != ("super" : Str)) = true := by simp [bne, h1]
    simp only [h2, Bool.true_or, if_true]

  · rfl

section
variable {K : PySem.W.Frag} {E : XK} {H : Hp} {μ : Mu} {st : Sto} {β : Type} {Γ : Gm}
/-- an instance, its fields -/
theorem fields_ok {w : W} {v : V} {f : Str × List Str × List W → M β} {Q : β → Sto → Hp → Mu → Prop} (S : StR K H μ st) (r : Rp K H μ w v) (p : Pst K E H μ ((fieldsW Γ w >>= f) st) Q) :
    ∃ a dx c ns ws vs, v = .ref a ∧ H a = some (.ins (He.ga K c) dx (ns.zip vs)) ∧ ns.length = vs.length ∧ RpL K H μ ws vs ∧ Pst K E H μ (f (c, ns, ws) st) Q := by
  cases w with
  | obj c ns ws =>
    simp only [Rp] at r
    obtain ⟨a, dx, vs, rfl, h1, h2, _, h3⟩ := r
    exact ⟨a, dx, c, ns, ws, vs, rfl, h1, h2, h3, p⟩
  | ref i =>
    have p' : Pst K E H μ ((getO i >>= fun o => (match o with | .ins c ns ws => (pure (c, ns, ws) : M (Str × List Str × List W)) | _ => bad) >>= f) st) Q := by
      rw [← bind_assoc]; exact p
    obtain ⟨o, h1, p2⟩ := getO_ok p'
    obtain ⟨a, rfl, h2, h3⟩ := S.ref r h1
    cases o with
    | ins c ns ws =>
      obtain ⟨dx, vs, e1, h4, h5⟩ := h3
      exact ⟨a, dx, c, ns, ws, vs, rfl, e1, h4, h5, p2⟩
    | lst xs => exact p2.elim
    | dct ks ws => exact p2.elim
  | _ => exact p.elim
theorem look_rel {f : Str} : ∀ {ns : List Str} {ws : List W} {vs : List V} {w : W}, RpL K H μ ws vs → lookF ns ws f = some w → ∃ v, (ns.zip vs).lookup f = some v ∧ Rp K H μ w v
  | [], ws, vs, w, r, e => by cases ws <;> cases e
  | n :: ns, [], vs, w, r, e => by cases e
  | n :: ns, x :: ws, vs, w, r, e => by
    obtain ⟨v, r', rfl, h1, h2⟩ := r.uncons
    simp only [lookF] at e
    show ∃ v', ((n, v) :: ns.zip r').lookup f = some v' ∧ _
    rw [List.lookup_cons]
    by_cases hf : (f == n) = true
    · rw [if_pos hf] at e
      cases e
      rw [hf]
      exact ⟨v, rfl, h1⟩
    · rw [if_neg hf] at e
      have hf' : (f == n) = false := by simpa using hf
      rw [hf']
      exact look_rel h2 e
theorem look_none {f : Str} : ∀ {ns : List Str} {vs : List V}, f ∉ ns → (ns.zip vs).lookup f = none
  | [], vs, h => rfl
  | n :: ns, [], h => rfl
  | n :: ns, v :: vs, h => by
    show ((n, v) :: ns.zip vs).lookup f = none
    rw [List.lookup_cons]
    have hf : (f == n) = false := by
      simp only [List.mem_cons, not_or] at h
      simpa using h.1
    rw [hf]
    exact look_none (fun z => h (List.mem_cons_of_mem _ z))
end
section
variable {X : Cx} {E : WX} {o : Expr} {fo : Rho → M W} {f : Str} {pos apos p : Pos} {k : Nat} {Γ : Gm}
theorem s_attr (G : GOk X.prog X.w X.K X.mg X.base k Γ) (ho : PE X o (TX X.K E fo)) (hs : superFree o = true) : PE X (.Attribute o f pos) (TX X.K E fun ρ => fo ρ >>= attrW Γ f) :=
  pe_imp (pe_fld ho (base_of hs)) fun σ H Q h => by
    obtain ⟨μ, st, ρ, S, e, pp⟩ := h
    refine ⟨μ, st, ρ, S, e, pp.bind.imp fun w st1 H1 μ1 x1 S1 q v r => ?_⟩
    obtain ⟨a, dx, c, ns, ws, vs, rfl, h1, h2, h3, p2⟩ := fields_ok S1 r q
    obtain ⟨h4, p3⟩ := if_ok p2
    obtain ⟨w2, e2, p4⟩ := ofO_ok p3
    obtain ⟨v2, e3, r2⟩ := look_rel h3 e2
    obtain ⟨c1, c2⟩ := G.fld _ _ h4
    exact ⟨a, _, dx, _, v2, rfl, h1, c1, c2, e3, Pst.pure S1 p4 _ r2⟩
/-! ### methods -/
theorem meth_line {o : Expr} {m : Str} {apos pos : Pos} {env : Env} {args : List Expr} {kws : List Keyword} {ks : List Str} (hs : superFree o = true) (ha : args.all noStar = true) (hk : kwNames kws = some ks) (hn : args.length + kws.length < 29) (hl : (apos.endLine == pos.line) = true) :
    eval (.Call (.Attribute o m apos) args kws pos) env = (do
      let ov ← eval o env
      standAt apos.atName
      let (f, first) ← holding [ov] (getMethod ov m (plainOf o env))
      callWith pos f first (backTo pos (starEach args env)) (backToKw pos (keywordEach kws env))) := by
  have hf : methodCallForm (args.length + kws.length) (backTo pos (starEach args env)) (backToKw pos (keywordEach kws env)) = true := by
    obtain ⟨k1, k2, k3⟩ := kw_all (pos := pos) (env := env) hk
    have h1 : (backTo pos (starEach args env)).all (fun x => !x.1) = true := by
      have := star_any (pos := pos) (env := env) ha
      rw [List.all_eq_not_any_not]
      simp only [Bool.not_not]
      rw [this]; rfl
    unfold methodCallForm
    rw [h1, k1]
    simp only [Bool.true_and, decide_eq_true_eq]
    split <;> omega
  show (do
    let ov ← attributeBase o m env (eval o env)
    standAt apos.atName
    methodCall o m apos pos env ov (args.length + kws.length) (backTo pos (starEach args env)) (backToKw pos (keywordEach kws env))) = _
  rw [base_of hs]
  congr 1
  funext ov
  congr 1
  funext _
  exact mcall_line hf hl

theorem methW_ok {K : PySem.W.Frag} {E' : XK} {H : Hp} {μ : Mu} {st : Sto} {c m : Str} {ks : List Str} {w : W} {ws zs : List W} {Q : VK} (p : Pst K E' H μ (methW Γ c m ks w ws zs st) (QW K Q)) :
    ∃ g, Γ.mbnd c m (ws.length + 1) ks = some g ∧ zs.length = ks.length ∧ Pst K E' H μ (Γ.mfn c m (g (w :: ws) zs) st) (QW K Q) := by
  unfold methW at p
  cases q : Γ.mbnd c m (ws.length + 1) ks with
  | none => rw [q] at p; exact p.elim
  | some g =>
    rw [q] at p
    obtain ⟨h1, h2⟩ := if_ok p
    exact ⟨g, rfl, h1, h2⟩
variable {fs fz : Rho → M (List W)} {kws : List Keyword} {ks : List Str} {c m : Str}
/-- o.m(..): what stands behind the look-up -/
theorem s_methG {args : List Expr} {fr : Rho → W → M W} (G : GOk X.prog X.w X.K X.mg X.base k Γ) (hB : ∃ n g, Γ.mbnd c m n ks = some g) (ho : PE X o (TX X.K E fo)) (hs : superFree o = true) (ha : args.all noStar = true) (hk : kwNames kws = some ks) (hn : args.length + kws.length < 29) (hl : (apos.endLine == pos.line) = true)
    (hrest : ∀ (pins : List (Addr × Obj)) (s : Shared) (σ : St) (H : Hp) (Q : VK) (a fa : Addr) (μ : Mu) (st : Sto) (ρ : Rho) (w : W), Inv X pins σ H s → Meth X.K (He.ga X.K c) m fa → StR X.K H μ st → EnvR X.K H μ ρ σ → Rp X.K H μ w (.ref a) → Pst X.K (fun c d H' => E c d σ H') H μ (fr ρ w st) (QW X.K Q) →
      wpAny (model X.prog X.w) X.A (callWith pos (.ref fa) [.ref a] (backTo pos (starEach args X.env)) (backToKw pos (keywordEach kws X.env))) (EP X pins σ Q) X.xe s) :
    PE X (.Call (.Attribute o m apos) args kws pos) (TX X.K E fun ρ => fo ρ >>= fun w => chkM Γ c m w >>= fun _ => fr ρ w) := by
  refine ⟨fun pins s σ H Q I h => ?_⟩
  obtain ⟨μ, st, ρ, S, e, pp⟩ := h
  obtain ⟨n0, g0, hB⟩ := hB
  obtain ⟨fa, hC, hM, F0⟩ := G.meth _ _ _ _ _ hB
  refine PySem.W.methodCall_KW (thn (ho.run pins s σ H (fun v H1 => ∃ (a dx : Addr) (μ1 : Mu) (st1 : Sto) (w : W) (ns : List Str) (vs : List V), v = .ref a ∧ StR X.K H1 μ1 st1 ∧ EnvR X.K H1 μ1 ρ σ ∧ Rp X.K H1 μ1 w v ∧ H1 a = some (.ins (He.ga X.K c) dx (ns.zip vs)) ∧ m ∉ ns ∧ Pst X.K (fun c d H' => E c d σ H') H1 μ1 (fr ρ w st1) (QW X.K Q)) I
    ⟨μ, st, ρ, S, e, go1 S e pp.bind fun w st1 H1 μ1 x1 S1 e1 q v r => ?_⟩) fun u s1 ⟨v, H1, I1, rx, a, dx, μ1, st1, w, ns, vs, ev, S1, e1, r, ea, hnm, p1⟩ => ?_) (meth_line hs ha hk hn hl)
  · have q' : Pst X.K (fun c d H' => E c d σ H') H1 μ1 ((fieldsW Γ w >>= fun x => (if x.1 = c ∧ m ∉ x.2.1 then (pure () : M Unit) else bad) >>= fun _ => fr ρ w) st1) (QW X.K Q) := by
      rw [← bind_assoc]; exact q
    obtain ⟨a, dx, c', ns, ws, vs, rfl, h1, h2, h3, p2⟩ := fields_ok S1 r q'
    have p3 : Pst X.K (fun c d H' => E c d σ H') H1 μ1 ((if c' = c ∧ m ∉ ns then fr ρ w else bad) st1) (QW X.K Q) := by
      by_cases hc : c' = c ∧ m ∉ ns
      · rw [if_pos hc]
        dsimp only at p2
        rw [if_pos hc] at p2
        exact p2
      · dsimp only at p2
        rw [if_neg hc] at p2
        exact p2.elim
    obtain ⟨⟨rfl, h5⟩, p4⟩ := if_ok p3
    exact ⟨a, dx, μ1, st1, w, ns, vs, rfl, S1, e1, r, h1, h5, p4⟩
  · subst ev
    obtain rfl : u = Value.ref a := rx
    refine getmeth_ok I1 ea hC hM (look_none hnm) ?_
    exact hrest pins s1 σ H1 Q a fa μ1 st1 ρ w I1 hM S1 e1 r p1
theorem s_meth0 (G : GOk X.prog X.w X.K X.mg X.base k Γ) (hr : RmG k X.A) (tk : Takes X E) (hB : ∃ n g, Γ.mbnd c m n [] = some g) (ho : PE X o (TX X.K E fo)) (hs : superFree o = true) (hl : (apos.endLine == pos.line) = true) :
    PE X (.Call (.Attribute o m apos) [] [] pos) (TX X.K E fun ρ => fo ρ >>= fun w => chkM Γ c m w >>= fun _ => methW Γ c m [] w [] []) :=
  s_methG (fr := fun ρ w => methW Γ c m [] w [] []) G hB ho hs rfl rfl (by decide) hl fun pins s σ H Q a fa μ st ρ w I hM S e r p => by
    obtain ⟨g, e1, _, p1⟩ := methW_ok p
    obtain ⟨fa', _, hM', F⟩ := G.meth _ _ _ _ _ e1
    have : fa' = fa := by
      have z := hM'.at_.symm.trans hM.at_
      cases z; rfl
    subst this
    exact PySem.W.callWith_K0 I.kIn hM.kp (run_fnW (us := [.ref a]) (us' := []) F hr tk I (.cons (show RelV (V.ref a) (Value.ref a) from rfl) .nil) .nil S (.cons r .nil) .nil rfl rfl p1)
theorem s_meth {a0 : Expr} {as : List Expr} (G : GOk X.prog X.w X.K X.mg X.base k Γ) (hr : RmG k X.A) (tk : Takes X E) (hB : ∃ n g, Γ.mbnd c m n [] = some g) (ho : PE X o (TX X.K E fo)) (hs : superFree o = true) (ha : PA X (a0 :: as) (TL X.K E fs)) (hst : (a0 :: as).all noStar = true) (hn : (a0 :: as).length < 29) (hl : (apos.endLine == pos.line) = true) :
    PE X (.Call (.Attribute o m apos) (a0 :: as) [] pos) (TX X.K E fun ρ => fo ρ >>= fun w => chkM Γ c m w >>= fun _ => fs ρ >>= fun ws => methW Γ c m [] w ws []) :=
  s_methG (fr := fun ρ w => fs ρ >>= fun ws => methW Γ c m [] w ws []) G hB ho hs hst rfl hn hl fun pins s σ H Q a fa μ st ρ w I hM S e r p => by
    rw [List.all_cons, Bool.and_eq_true] at hst
    refine PySem.W.callWith_K (first := [.ref a]) (h₀ := X.base) I.ok.mod.kin hM.kp (thn (ha.run pos pins s σ H (fun vs H1 => ∃ μ1 st1 ws g, StR X.K H1 μ1 st1 ∧ Rp X.K H1 μ1 w (.ref a) ∧ RpL X.K H1 μ1 ws vs ∧ Γ.mbnd c m (ws.length + 1) [] = some g ∧ Pst X.K (fun c d H' => E c d σ H') H1 μ1 (Γ.mfn c m (g (w :: ws) []) st1) (QW X.K Q)) I
      ⟨μ, st, ρ, S, e, p.bind.imp fun ws st1 H1 μ1 x1 S1 q vs rv => ?_⟩) fun us s1 ⟨vs, H1, I1, r1, μ1, st1, ws, g, S1, rw1, rv, e1, p1⟩ => ⟨I1.kIn, ?_⟩) (star_cons hst.1) (star_any hst.2)
    · obtain ⟨g, e1, _, p1⟩ := methW_ok q
      exact ⟨μ1, st1, ws, g, S1, r.mono S x1, rv, e1, p1⟩
    · obtain ⟨fa', _, hM', F⟩ := G.meth _ _ _ _ _ e1
      have : fa' = fa := by
        have z := hM'.at_.symm.trans hM.at_
        cases z; rfl
      subst this
      exact run_fnW (us := .ref a :: us) (us' := []) F hr tk I1 (.cons (show RelV (V.ref a) (Value.ref a) from rfl) r1) .nil S1 (.cons rw1 rv) .nil rfl rfl p1
theorem s_methK {a0 : Expr} {as : List Expr} (G : GOk X.prog X.w X.K X.mg X.base k Γ) (hr : RmG k X.A) (tk : Takes X E) (hB : ∃ n g, Γ.mbnd c m n ks = some g) (ho : PE X o (TX X.K E fo)) (hs : superFree o = true) (ha : PA X (a0 :: as) (TL X.K E fs)) (hst : (a0 :: as).all noStar = true) (hkw : PK X kws (TL X.K E fz)) (hks : kwNames kws = some ks) (hn : (a0 :: as).length + kws.length < 29) (hl : (apos.endLine == pos.line) = true) :
    PE X (.Call (.Attribute o m apos) (a0 :: as) kws pos) (TX X.K E fun ρ => fo ρ >>= fun w => chkM Γ c m w >>= fun _ => fs ρ >>= fun ws => fz ρ >>= fun zs => methW Γ c m ks w ws zs) :=
  s_methG (fr := fun ρ w => fs ρ >>= fun ws => fz ρ >>= fun zs => methW Γ c m ks w ws zs) G hB ho hs hst hks hn hl fun pins s σ H Q a fa μ st ρ w I hM S e r p => by
    have hst0 := hst
    rw [List.all_cons, Bool.and_eq_true] at hst
    obtain ⟨k1, k2, k3⟩ := kw_all (pos := pos) (env := X.env) hks
    refine PySem.W.callWith_KW (first := [.ref a]) (h₀ := X.base) I.ok.mod.kin hM.kp k1 (thn (ha.run pos pins s σ H (fun vs H1 => ∃ μ1 st1 ws, StR X.K H1 μ1 st1 ∧ EnvR X.K H1 μ1 ρ σ ∧ Rp X.K H1 μ1 w (.ref a) ∧ RpL X.K H1 μ1 ws vs ∧ Pst X.K (fun c d H' => E c d σ H') H1 μ1 ((fz ρ >>= fun zs => methW Γ c m ks w ws zs) st1) (QW X.K Q)) I
      ⟨μ, st, ρ, S, e, go1 S e p.bind fun ws st1 H1 μ1 x1 S1 e1 q vs rv => ⟨μ1, st1, ws, S1, e1, r.mono S x1, rv, q⟩⟩) fun us s1 ⟨vs, H1, I1, r1, μ1, st1, ws, S1, e1, rw1, rv, p1⟩ => ?_) (by rw [star_any hst0, k3]; rfl) (star_cons hst.1)
    refine thn (hkw.run pos pins s1 σ H1 (fun us H2 => ∃ μ2 st2 zs g, StR X.K H2 μ2 st2 ∧ Rp X.K H2 μ2 w (.ref a) ∧ RpL X.K H2 μ2 ws vs ∧ RpL X.K H2 μ2 zs us ∧ Γ.mbnd c m (ws.length + 1) ks = some g ∧ zs.length = ks.length ∧ Pst X.K (fun c d H' => E c d σ H') H2 μ2 (Γ.mfn c m (g (w :: ws) zs) st2) (QW X.K Q)) I1
      ⟨μ1, st1, ρ, S1, e1, p1.bind.imp fun zs st2 H2 μ2 x2 S2 q2 us rz => ?_⟩) fun us2 s2 ⟨vs2, H2, I2, r2, μ2, st2, zs, g, S2, rw2, rv2, rz2, e2, lz, p2⟩ => ⟨I2.kIn, ?_⟩
    · obtain ⟨g, e1, l, p2⟩ := methW_ok q2
      exact ⟨μ2, st2, zs, g, S2, rw1.mono S1 x2, rv.mono S1 x2, rz, e1, l, p2⟩
    · rw [k2]
      obtain ⟨fa', _, hM', F⟩ := G.meth _ _ _ _ _ e2
      have : fa' = fa := by
        have z := hM'.at_.symm.trans hM.at_
        cases z; rfl
      subst this
      exact run_fnW (us := .ref a :: us) F hr tk I2 (.cons (show RelV (V.ref a) (Value.ref a) from rfl) r1) r2 S2 (.cons rw2 rv2) rz2 rfl lz p2
/-! ### new instances -/
theorem mkW_ok {K : PySem.W.Frag} {E' : XK} {H : Hp} {μ : Mu} {st : Sto} {ws zs : List W} {Q : VK} (p : Pst K E' H μ (mkW Γ c ks ws zs st) (QW K Q)) : ∃ g, Γ.kbnd c ws.length ks = some g ∧ zs.length = ks.length ∧ Pst K E' H μ (Γ.kfn c (g ws zs) st) (QW K Q) := by
  unfold mkW at p
  cases q : Γ.kbnd c ws.length ks with
  | none => rw [q] at p; exact p.elim
  | some g =>
    rw [q] at p
    obtain ⟨h1, h2⟩ := if_ok p
    exact ⟨g, rfl, h1, h2⟩
theorem run_mkW {pins : List (Addr × Obj)} {σ : St} {H : Hp} {s : Shared} {Q : VK} {us us' : List Value} {vs vs' : List V} {μ : Mu} {st : Sto} {ws zs : List W} {fa : Addr} {n : Nat} {g : List W → List W → List W} {mm : List W → M W}
    (MK : Mk X.K (He.ga X.K c) fa) (F : MkE X.prog X.w X.K X.mg X.base k c fa n ks g mm) (hr : RmG k X.A) (tk : Takes X E) (I : Inv X pins σ H s) (r : Vals vs us) (r' : Vals vs' us') (S : StR X.K H μ st) (h1 : RpL X.K H μ ws vs) (h2 : RpL X.K H μ zs vs') (l1 : ws.length = n) (l2 : zs.length = ks.length)
    (p : Pst X.K (fun c d H' => E c d σ H') H μ (mm (g ws zs) st) (QW X.K Q)) : wpAny (model X.prog X.w) X.A (call (.ref (He.ga X.K c)) us (ks.zip us')) (EP X pins σ Q) X.xe s := by
  obtain ⟨fd, ps, gR, gV, j, hj, FO, hb, hg⟩ := F.ex
  have I2 := Inv.made (C := He.ga X.K c) I
  have n1 : H (s.heap.objs.size + 1) = none := I.hok.fresh (Nat.le_succ _)
  have n2 : H s.heap.objs.size = none := I.hok.fresh (Nat.le_refl _)
  have hne : s.heap.objs.size ≠ s.heap.objs.size + 1 := Nat.ne_of_lt (Nat.lt_succ_self _)
  have x1 := Ext.laid (o := HO.own (s.heap.objs.size + 1)) S n2
  have S1 : StR X.K (upd H s.heap.objs.size (.own (s.heap.objs.size + 1))) μ st := S.laid n2
  have n1' : upd H s.heap.objs.size (.own (s.heap.objs.size + 1)) (s.heap.objs.size + 1) = none := by rw [upd_ne (Ne.symm hne)]; exact n1
  have x2 := Ext.laid (o := HO.ins (He.ga X.K c) s.heap.objs.size []) S1 n1'
  have S2 : StR X.K (upd (upd H s.heap.objs.size (.own (s.heap.objs.size + 1))) (s.heap.objs.size + 1) (.ins (He.ga X.K c) s.heap.objs.size [])) μ st := S1.laid n1'
  obtain ⟨rest, e1, h3, h4⟩ := hg _ μ ws vs zs vs' (.ref (s.heap.objs.size + 1)) ((h1.mono S x1).mono S1 x2) ((h2.mono S x1).mono S1 x2) l1 l2
  have rv : Vals (V.ref (s.heap.objs.size + 1) :: vs) (Value.ref (s.heap.objs.size + 1) :: us) := .cons rfl r
  have r2 := hb.rel rv r'
  have hsp : spInit X.K c ps.length mm (gV (V.ref (s.heap.objs.size + 1) :: vs) vs') (upd (upd H s.heap.objs.size (.own (s.heap.objs.size + 1))) (s.heap.objs.size + 1) (.ins (He.ga X.K c) s.heap.objs.size [])) (fun v H2 => v = .non ∧ Q (.ref (s.heap.objs.size + 1)) H2) (WE E σ) := by
    refine ⟨by rw [e1]; simpa using h4, s.heap.objs.size + 1, s.heap.objs.size, rest, μ, st, g ws zs, e1, upd_same, S.fresh n1, S.freshd n1, S2, h3, ?_⟩
    have xx : Ext H μ (unt (upd (upd H s.heap.objs.size (.own (s.heap.objs.size + 1))) (s.heap.objs.size + 1) (.ins (He.ga X.K c) s.heap.objs.size [])) (s.heap.objs.size + 1)) μ := by
      have key : ∀ a u, H a = some u → unt (upd (upd H s.heap.objs.size (.own (s.heap.objs.size + 1))) (s.heap.objs.size + 1) (.ins (He.ga X.K c) s.heap.objs.size [])) (s.heap.objs.size + 1) a = some u := fun a u h => by
        have z1 : a ≠ s.heap.objs.size + 1 := ne_of_none h n1
        have z2 : a ≠ s.heap.objs.size := ne_of_none h n2
        unfold unt
        rw [if_neg z1, upd_ne z1, upd_ne z2]
        exact h
      exact ⟨⟨[], by simp⟩, fun _ h => h, fun a h n => absurd h n, fun a h n => absurd h n, fun a u h _ => key a u h, fun a u h => ⟨u, key a u h⟩⟩
    exact (Pst.mono xx p).imp fun w st' H' μ' _ _ q r => ⟨rfl, q _ r⟩
  refine wpAny_call (make_map (f := fa) I.kIn MK.makes MK.init (beq_iff_eq.mp MK.fn) (codeAny_mono (FO.run _ X.stack _ _ ⟨Value.ref (s.heap.objs.size + 1) :: us, ks.zip us'⟩ (gR (Value.ref (s.heap.objs.size + 1) :: us) us') _ _ (WE E σ) ((hr.mono hj).make (He.ga X.K c) us (ks.zip us'))
    (I2.env0.make (He.ga X.K c) us (ks.zip us')) (hb.to _ (Value.ref (s.heap.objs.size + 1) :: us) us' I2.kIn (by rw [List.length_cons, ← r.length, ← h1.length, l1]) (by rw [← r'.length, ← h2.length, l2])) r2 hsp) fun r s' hq' => ?_))
  cases r with
  | error e => exact passAt tk σ pins _ _ e s' I2 hq'
  | ok fl =>
    match fl, hq' with
    | .ret u, hq' =>
      obtain ⟨_, G, back, none_, rfl, now⟩ := I2.after hq'
      exact ⟨none_, V.ref (s.heap.objs.size + 1), G, back, rfl, now⟩
theorem s_mk0 (G : GOk X.prog X.w X.K X.mg X.base k Γ) (hr : RmG k X.A) (tk : Takes X E) (hg : Gl X c) (hdb : (c == ("__debug__" : Str)) = false) : PE X (.Call (.Name c p) [] [] pos) (TX X.K E fun ρ => mkW Γ c [] [] []) := by
  refine ⟨fun pins s σ H Q I h => ?_⟩
  obtain ⟨μ, st, ρ, S, e, pp⟩ := h
  obtain ⟨g, e1, _, p1⟩ := mkW_ok pp
  obtain ⟨hm, fa, MK, F⟩ := G.make _ _ _ _ e1
  refine wpAny_Call_Name_kw (ld_glob I hg hm ?_ hdb)
  exact PySem.W.callWith_K0 I.kIn MK.kp (run_mkW (us := []) (us' := []) MK F hr tk I .nil .nil S .nil .nil rfl rfl p1)
theorem s_mk {a : Expr} {as : List Expr} (G : GOk X.prog X.w X.K X.mg X.base k Γ) (hr : RmG k X.A) (tk : Takes X E) (hg : Gl X c) (ha : PA X (a :: as) (TL X.K E fs)) (hst : (a :: as).all noStar = true) (hdb : (c == ("__debug__" : Str)) = false)
    (hB : ∃ n g, Γ.kbnd c n [] = some g) : PE X (.Call (.Name c p) (a :: as) [] pos) (TX X.K E fun ρ => fs ρ >>= fun ws => mkW Γ c [] ws []) := by
  refine ⟨fun pins s σ H Q I h => ?_⟩
  obtain ⟨μ, st, ρ, S, e, pp⟩ := h
  rw [List.all_cons, Bool.and_eq_true] at hst
  obtain ⟨n0, g0, hB⟩ := hB
  obtain ⟨hm, fa0, MK0, F0⟩ := G.make _ _ _ _ hB
  refine wpAny_Call_Name_kw (ld_glob I hg hm ?_ hdb)
  refine PySem.W.callWith_K (h₀ := X.base) I.ok.mod.kin MK0.kp (thn (ha.run pos pins s σ H (fun vs H1 => ∃ μ1 st1 ws g, StR X.K H1 μ1 st1 ∧ RpL X.K H1 μ1 ws vs ∧ Γ.kbnd c ws.length [] = some g ∧ Pst X.K (fun c d H' => E c d σ H') H1 μ1 (Γ.kfn c (g ws []) st1) (QW X.K Q)) I
    ⟨μ, st, ρ, S, e, pp.bind.imp fun ws st1 H1 μ1 x1 S1 q vs rv => ?_⟩) fun us s1 ⟨vs, H1, I1, r, μ1, st1, ws, g, S1, rv, e1, p1⟩ => ⟨I1.kIn, ?_⟩) (star_cons hst.1) (star_any hst.2)
  · obtain ⟨g, e1, _, p1⟩ := mkW_ok q
    exact ⟨μ1, st1, ws, g, S1, rv, e1, p1⟩
  · obtain ⟨_, fa, MK, F⟩ := G.make _ _ _ _ e1
    exact run_mkW (us' := []) MK F hr tk I1 r .nil S1 rv .nil rfl rfl p1
theorem s_mkK {a : Expr} {as : List Expr} (G : GOk X.prog X.w X.K X.mg X.base k Γ) (hr : RmG k X.A) (tk : Takes X E) (hg : Gl X c) (ha : PA X (a :: as) (TL X.K E fs)) (hst : (a :: as).all noStar = true) (hkw : PK X kws (TL X.K E fz)) (hks : kwNames kws = some ks) (hdb : (c == ("__debug__" : Str)) = false)
    (hB : ∃ n g, Γ.kbnd c n ks = some g) : PE X (.Call (.Name c p) (a :: as) kws pos) (TX X.K E fun ρ => fs ρ >>= fun ws => fz ρ >>= fun zs => mkW Γ c ks ws zs) := by
  refine ⟨fun pins s σ H Q I h => ?_⟩
  obtain ⟨μ, st, ρ, S, e, pp⟩ := h
  have hst0 := hst
  rw [List.all_cons, Bool.and_eq_true] at hst
  obtain ⟨n0, g0, hB⟩ := hB
  obtain ⟨hm, fa0, MK0, F0⟩ := G.make _ _ _ _ hB
  obtain ⟨k1, k2, k3⟩ := kw_all (pos := pos) (env := X.env) hks
  refine wpAny_Call_Name_kw (ld_glob I hg hm ?_ hdb)
  refine PySem.W.callWith_KW (h₀ := X.base) I.ok.mod.kin MK0.kp k1 (thn (ha.run pos pins s σ H (fun vs H1 => ∃ μ1 st1 ws, StR X.K H1 μ1 st1 ∧ EnvR X.K H1 μ1 ρ σ ∧ RpL X.K H1 μ1 ws vs ∧ Pst X.K (fun c d H' => E c d σ H') H1 μ1 ((fz ρ >>= fun zs => mkW Γ c ks ws zs) st1) (QW X.K Q)) I
    ⟨μ, st, ρ, S, e, go1 S e pp.bind fun ws st1 H1 μ1 x1 S1 e1 q vs rv => ⟨μ1, st1, ws, S1, e1, rv, q⟩⟩) fun us s1 ⟨vs, H1, I1, r, μ1, st1, ws, S1, e1, rv, p1⟩ => ?_) (by rw [star_any hst0, k3]; rfl) (star_cons hst.1)
  refine thn (hkw.run pos pins s1 σ H1 (fun us H2 => ∃ μ2 st2 zs g, StR X.K H2 μ2 st2 ∧ RpL X.K H2 μ2 ws vs ∧ RpL X.K H2 μ2 zs us ∧ Γ.kbnd c ws.length ks = some g ∧ zs.length = ks.length ∧ Pst X.K (fun c d H' => E c d σ H') H2 μ2 (Γ.kfn c (g ws zs) st2) (QW X.K Q)) I1
    ⟨μ1, st1, ρ, S1, e1, p1.bind.imp fun zs st2 H2 μ2 x2 S2 q2 us rz => ?_⟩) fun us2 s2 ⟨vs2, H2, I2, r2, μ2, st2, zs, g, S2, rv2, rz2, e2, lz, p2⟩ => ⟨I2.kIn, ?_⟩
  · obtain ⟨g, e1, l, p2⟩ := mkW_ok q2
    exact ⟨μ2, st2, zs, g, S2, rv.mono S1 x2, rz, e1, l, p2⟩
  · rw [k2]
    obtain ⟨_, fa, MK, F⟩ := G.make _ _ _ _ e2
    exact run_mkW MK F hr tk I2 r r2 S2 rv2 rz2 rfl lz p2
end
end Vm
/-! Vm, part J: what is walked, targets, comprehensions. -/
namespace Vm
open PySem L2

/-- an iterator that hands out the items -/
structure ItR (K : PySem.W.Frag) (H : Hp) (μ : Mu) (items : List W) (J : L2.It) : Prop where
  stop : ∀ H' μ' st', Kp H μ H' μ' → StR K H' μ' st' → J.stop items.length H'
  go : ∀ (i : Nat) w H' μ' st', items[i]? = some w → Kp H μ H' μ' → StR K H' μ' st' → J.go i H' ∧ ∀ x H2, J.yld i H' x H2 → Ext H' μ' H2 μ' ∧ StR K H2 μ' st' ∧ Rp K H2 μ' w x
section
variable {K : PySem.W.Frag} {H : Hp} {μ : Mu} {st : Sto}
theorem itr_lst (S : StR K H μ st) {a : Addr} {ws : List W} {vs : List V} (key : ∀ {H' μ'}, Kp H μ H' μ' → SqL K H' a vs) (r : RpL K H μ ws vs) : ItR K H μ ws (Itl K a) := by
  refine ⟨fun H' μ' st' e S' => ⟨vs, key e, Nat.le_of_eq r.length.symm⟩, fun i w H' μ' st' hi e S' => ?_⟩
  obtain ⟨v, hv, rv⟩ := r.get hi
  refine ⟨⟨vs, v, key e, hv⟩, fun x H2 ⟨e2, hx⟩ => ?_⟩
  subst e2
  have := hx vs (key e)
  rw [hv] at this; cases this
  exact ⟨Ext.refl, S', rv.kp e⟩
theorem keep_fl (S : StR K H μ st) {a : Addr} {vs : List V} (h : H a = some (.lst vs)) (n : a ∈ μ.d) {H' : Hp} {μ' : Mu} (e : Kp H μ H' μ') : SqL K H' a vs := SqL.of (e.dat _ _ n h)
theorem keep_kl (S : StR K H μ st) {a : Addr} {vs : List V} (h : KlR K H a vs) {H' : Hp} {μ' : Mu} (e : Kp H μ H' μ') : SqL K H' a vs := by
  rcases h with ⟨o, q⟩ | q
  · exact .inl (.inr ⟨o, e.frz _ _ _ q⟩)
  · exact .inr q
theorem keep_tup (S : StR K H μ st) {a : Addr} {vs : List V} (h : SqT K H a vs) {H' : Hp} {μ' : Mu} (e : Kp H μ H' μ') : SqT K H' a vs := by
  rcases h with (q | ⟨o, q⟩) | q
  · exact .inl (.inl (e.tup _ _ q))
  · exact .inl (.inr ⟨o, e.frz _ _ _ q⟩)
  · exact .inr q
theorem itr_tup' (S : StR K H μ st) {a : Addr} {ws : List W} {vs : List V} (h : SqT K H a vs) (r : RpL K H μ ws vs) : ItR K H μ ws (Itt K a) := by
  refine ⟨fun H' μ' st' e S' => ⟨vs, keep_tup S h e, Nat.le_of_eq r.length.symm⟩, fun i w H' μ' st' hi e S' => ?_⟩
  obtain ⟨v, hv, rv⟩ := r.get hi
  refine ⟨⟨vs, v, keep_tup S h e, hv⟩, fun x H2 ⟨e2, hx⟩ => ?_⟩
  subst e2
  have := hx vs (keep_tup S h e)
  rw [hv] at this; cases this
  exact ⟨Ext.refl, S', rv.kp e⟩
theorem itr_rng (S : StR K H μ st) {lo : Int} {n : Nat} : ItR K H μ ((List.range n).map fun (k : Nat) => W.int (lo + (k : Int))) (Itr lo n) := by
  refine ⟨fun H' μ' st' e S' => by simp [Itr], fun i w H' μ' st' hi e S' => ?_⟩
  have hlt : i < n := by
    have := (List.getElem?_eq_some_iff.mp hi).1
    simpa using this
  rw [List.getElem?_map, List.getElem?_range hlt] at hi
  cases hi
  refine ⟨hlt, fun x H2 ⟨e2, hx⟩ => ?_⟩
  subst e2 hx
  exact ⟨Ext.refl, S', by rw [rp_int]⟩
/-- a pair just laid -/
theorem pair_new {H' : Hp} {μ' : Mu} {st' : Sto} (S' : StR K H' μ' st') {T : Addr} {x y : V} {wx wy : W} (hT : H' T = none) (r1 : Rp K H' μ' wx x) (r2 : Rp K H' μ' wy y) :
    Ext H' μ' (upd H' T (.tup [x, y])) μ' ∧ StR K (upd H' T (.tup [x, y])) μ' st' ∧ Rp K (upd H' T (.tup [x, y])) μ' (.tup [wx, wy]) (.ref T) := by
  have e := Ext.laid (o := HO.tup [x, y]) S' hT
  refine ⟨e, S'.laid hT, ?_⟩
  rw [rp_tup]
  exact ⟨T, [x, y], rfl, SqT.of upd_same, (RpL.cons r1 (.cons r2 .nil)).mono S' e⟩
theorem zip_get {ws us : List W} {i : Nat} {w : W} (h : (List.zipWith (fun x y => W.tup [x, y]) ws us)[i]? = some w) : ∃ a b, ws[i]? = some a ∧ us[i]? = some b ∧ w = .tup [a, b] := by
  rw [List.getElem?_zipWith] at h
  split at h
  · rename_i a b h1 h2
    cases h
    exact ⟨a, b, h1, h2, rfl⟩
  · cases h
theorem itr_zipL (S : StR K H μ st) {a b : Addr} {ws us : List W} {vs ys : List V} (k1 : ∀ {H' μ'}, Kp H μ H' μ' → SqL K H' a vs) (k2 : ∀ {H' μ'}, Kp H μ H' μ' → SqL K H' b ys) (r1 : RpL K H μ ws vs) (r2 : RpL K H μ us ys) : ItR K H μ (List.zipWith (fun x y => .tup [x, y]) ws us) (Itz K a b) := by
  refine ⟨fun H' μ' st' e S' => ⟨vs, ys, k1 e, k2 e, ?_⟩, fun i w H' μ' st' hi e S' => ?_⟩
  · rw [List.length_zipWith, r1.length, r2.length]
    omega
  · obtain ⟨wa, wb, h1, h2, rfl⟩ := zip_get hi
    obtain ⟨va, h3, h4⟩ := r1.get h1
    obtain ⟨vb, h5, h6⟩ := r2.get h2
    refine ⟨⟨vs, ys, va, vb, k1 e, k2 e, h3, h5⟩, fun x H2 ⟨T, x1, y1, e1, hT, e2, h7, h8⟩ => ?_⟩
    have z1 := h7 vs (k1 e)
    have z2 := h8 ys (k2 e)
    rw [h3] at z1; cases z1
    rw [h5] at z2; cases z2
    subst e1 e2
    exact pair_new S' hT (h4.kp e) (h6.kp e)
theorem itr_zipT (S : StR K H μ st) {a b : Addr} {ws us : List W} {vs ys : List V} (k1 : ∀ {H' μ'}, Kp H μ H' μ' → SqT K H' a vs) (k2 : ∀ {H' μ'}, Kp H μ H' μ' → SqT K H' b ys) (r1 : RpL K H μ ws vs) (r2 : RpL K H μ us ys) : ItR K H μ (List.zipWith (fun x y => .tup [x, y]) ws us) (RZ.ItzT K a b) := by
  refine ⟨fun H' μ' st' e S' => ⟨vs, ys, k1 e, k2 e, ?_⟩, fun i w H' μ' st' hi e S' => ?_⟩
  · rw [List.length_zipWith, r1.length, r2.length]
    omega
  · obtain ⟨wa, wb, h1, h2, rfl⟩ := zip_get hi
    obtain ⟨va, h3, h4⟩ := r1.get h1
    obtain ⟨vb, h5, h6⟩ := r2.get h2
    refine ⟨⟨vs, ys, va, vb, k1 e, k2 e, h3, h5⟩, fun x H2 ⟨T, x1, y1, e1, hT, e2, h7, h8⟩ => ?_⟩
    have z1 := h7 vs (k1 e)
    have z2 := h8 ys (k2 e)
    rw [h3] at z1; cases z1
    rw [h5] at z2; cases z2
    subst e1 e2
    exact pair_new S' hT (h4.kp e) (h6.kp e)
theorem enum_len : ∀ (ws : List W) (n : Nat), (enumFrom n ws).length = ws.length
  | [], _ => rfl
  | w :: ws, n => by simp [enumFrom, enum_len ws]
theorem enum_get : ∀ {ws : List W} {n i : Nat} {w : W}, (enumFrom n ws)[i]? = some w → ∃ a, ws[i]? = some a ∧ w = .tup [.int ((n + i : Nat) : Int), a]
  | [], n, i, w, h => by simp [enumFrom] at h
  | x :: ws, n, 0, w, h => by simp [enumFrom] at h; exact ⟨x, rfl, h.symm⟩
  | x :: ws, n, i + 1, w, h => by
    obtain ⟨a, h1, h2⟩ := enum_get (ws := ws) (n := n + 1) (i := i) (by simpa [enumFrom] using h)
    exact ⟨a, by simpa using h1, by rw [h2]; congr 3; omega⟩
theorem itr_enum (S : StR K H μ st) {a : Addr} {ws : List W} {vs : List V} (k1 : ∀ {H' μ'}, Kp H μ H' μ' → SqL K H' a vs) (r1 : RpL K H μ ws vs) : ItR K H μ (enumFrom 0 ws) (Ite K a) := by
  refine ⟨fun H' μ' st' e S' => ⟨vs, k1 e, by rw [enum_len, r1.length]; exact Nat.le_refl _⟩, fun i w H' μ' st' hi e S' => ?_⟩
  obtain ⟨wa, h1, rfl⟩ := enum_get hi
  obtain ⟨va, h3, h4⟩ := r1.get h1
  refine ⟨⟨vs, va, k1 e, h3⟩, fun x H2 ⟨T, x1, e1, hT, e2, h7⟩ => ?_⟩
  have z1 := h7 vs (k1 e)
  rw [h3] at z1; cases z1
  subst e1 e2
  rw [Nat.zero_add]
  exact pair_new S' hT (by rw [rp_int]) (h4.kp e)
end

/-! ### rules of what is walked -/
def TIx (K : PySem.W.Frag) (E : WX) (f : Rho → M (List W)) : TI := fun σ H R => ∃ μ st ρ, StR K H μ st ∧ EnvR K H μ ρ σ ∧ Pst K (fun c d H' => E c d σ H') H μ (f ρ st) (fun items _ H' μ' => ∀ J, ItR K H' μ' items J → R J H')
theorem pi_imp {X : Cx} {tg iter : Expr} {t t' : TI} (h : PI X tg iter t) (i : ∀ σ H R, t' σ H R → t σ H R) : PI X tg iter t' := ⟨fun pins s σ H Q I q => h.run pins s σ H Q I (i σ H Q q)⟩
section
variable {X : Cx} {E : WX} {tg l a b : Expr} {fl fa fb : Rho → M W} {p pos : Pos}
/-- the one object of a new iterator -/
theorem one_fp {pins : List (Addr × Obj)} {σ : L2.St} {G : Hp} {t : Shared} (I : Inv X pins σ G t) : ∀ b ∈ [t.heap.objs.size], FpOk X pins G b := by
  intro b m
  rw [List.mem_singleton] at m
  rw [m]
  have le := Nat.le_refl t.heap.objs.size
  exact I.fpOk le (I.hok.fresh le)
/-- a list or a tuple -/
theorem pi_seq {te : TE} (hl : PE X l te) : PI X tg l (fun σ H R => te σ H fun x H1 => ∃ a, x = .ref a ∧ ((∃ xs, SqL X.K H1 a xs) ∧ R (Itl X.K a) H1 ∨ (∃ xs, SqT X.K H1 a xs) ∧ R (Itt X.K a) H1)) := by
  constructor
  intro pins s σ H R I h
  apply thn (hl.run pins s σ H _ I h)
  rintro v t ⟨_, G, J, rfl', a, rfl, which⟩
  obtain rfl : v = Value.ref a := rfl'
  have old : ∀ {o : Obj} (b : Addr) (u : Obj), t.heap.get? b = some u → (t.heap.push o).get? b = some u := fun b u e => Heap.get?_push_of_some _ e
  rcases which with ⟨⟨xs, sq⟩, q⟩ | ⟨⟨xs, sq⟩, q⟩
  · obtain ⟨vs, _, here, _⟩ := J.list sq
    apply wpAny_pyIter_list here.isList
    exact ⟨_, _, _, _, G, rfl, J.kept (t' := t.toks) old, turn_list a _, ⟨_, Heap.get?_push_size _ rfl, rfl, rfl⟩, one_fp J, q⟩
  · obtain ⟨vs, _, here, _⟩ := J.tuple sq
    apply wpAny_pyIter_tuple (items := vs.toArray) here
    exact ⟨_, _, _, _, G, rfl, J.kept (t' := t.toks) old, turn_tuple a _, ⟨_, Heap.get?_push_size _ rfl, rfl, rfl⟩, one_fp J, q⟩
theorem i_seq (hl : PE X l (TX X.K E fl)) : PI X tg l (TIx X.K E fun ρ => fl ρ >>= itemsI) :=
  pi_imp (pi_seq hl) fun σ H R h => by
    obtain ⟨μ, st, ρ, S, e, pp⟩ := h
    refine ⟨μ, st, ρ, S, e, pp.bind.imp fun w st1 H1 μ1 x1 S1 q v r => ?_⟩
    cases w with
    | tup xs =>
      rw [rp_tup] at r
      obtain ⟨a, vs, rfl, h1, h2⟩ := r
      exact ⟨a, rfl, .inr ⟨⟨vs, h1⟩, Pst.pure S1 q _ (itr_tup' S1 h1 h2)⟩⟩
    | fl xs =>
      rw [rp_fl] at r
      obtain ⟨a, vs, rfl, h1, h3, h2⟩ := r
      exact ⟨a, rfl, .inl ⟨⟨vs, SqL.of h1⟩, Pst.pure S1 q _ (itr_lst S1 (keep_fl S1 h1 h3) h2)⟩⟩
    | kl xs =>
      rw [rp_kl] at r
      obtain ⟨a, vs, rfl, h1, h2⟩ := r
      exact ⟨a, rfl, .inl ⟨⟨vs, h1.sq⟩, Pst.pure S1 q _ (itr_lst S1 (keep_kl S1 h1) h2)⟩⟩
    | _ => exact q.elim
theorem rng_ok {K : PySem.W.Frag} {E' : XK} {H : Hp} {μ : Mu} {st : Sto} {w w' : W} {Q : List W → Sto → Hp → Mu → Prop} (S : StR K H μ st) (p : Pst K E' H μ (rngW w w' st) Q) :
    ∃ i j, w = .int i ∧ w' = .int j ∧ (-(2 ^ 62) ≤ i ∧ i < 2 ^ 62) ∧ (-(2 ^ 62) ≤ j ∧ j < 2 ^ 62) ∧ Q ((List.range (j - i).toNat).map fun (k : Nat) => W.int (i + (k : Int))) st H μ := by
  cases w <;> first | exact p.elim | skip
  cases w' <;> first | exact p.elim | skip
  obtain ⟨h1, p1⟩ := if_ok p
  exact ⟨_, _, rfl, rfl, h1.1, h1.2, Pst.pure S p1⟩
theorem i_rng1 (hg : Gl X "range") (hm : X.mg "range" = none) (ha : PE X a (TX X.K E fa)) (hn : noStar a = true) : PI X tg (.Call (.Name "range" p) [a] [] pos) (TIx X.K E fun ρ => fa ρ >>= fun x => rngW (.int 0) x) :=
  pi_imp (pi_range1 hg hm (pa_cons ha pa_nil (star_cons hn)) (star_cons hn)) fun σ H R h => by
    obtain ⟨μ, st, ρ, S, e, pp⟩ := h
    refine ⟨μ, st, ρ, S, e, pp.bind.imp fun w st1 H1 μ1 x1 S1 q v r => ?_⟩
    obtain ⟨i, j, e1, rfl, h1, h2, q1⟩ := rng_ok S1 q
    cases e1
    rw [rp_int] at r
    subst r
    rw [Int.sub_zero] at q1
    exact ⟨j, rfl, h2.1, h2.2, q1 _ (itr_rng S1)⟩
theorem i_rng2 (hg : Gl X "range") (hm : X.mg "range" = none) (ha : PE X a (TX X.K E fa)) (hb : PE X b (TX X.K E fb)) (hn : noStar a = true) (hn2 : noStar b = true) : PI X tg (.Call (.Name "range" p) [a, b] [] pos) (TIx X.K E fun ρ => fa ρ >>= fun x => fb ρ >>= fun y => rngW x y) :=
  pi_imp (pi_range2 hg hm (pa_cons ha (pa_cons hb pa_nil (star_cons hn2)) (star_cons hn)) (by rw [star_cons hn, star_cons hn2]; rfl) (star_cons hn2)) fun σ H R h => by
    obtain ⟨μ, st, ρ, S, e, pp⟩ := h
    refine ⟨μ, st, ρ, S, e, go1 S e pp.bind fun w st1 H1 μ1 x1 S1 e1 q v r => ⟨μ1, st1, ρ, S1, e1, q.bind.imp fun w2 st2 H2 μ2 x2 S2 q2 v2 r2 => ?_⟩⟩
    obtain ⟨i, j, e1, e2, h1, h2, q1⟩ := rng_ok S2 q2
    subst e1 e2
    rw [rp_int] at r r2
    subst r r2
    exact ⟨i, j, rfl, ⟨h1.1, h1.2, h2.1, h2.2⟩, q1 _ (itr_rng S2)⟩
theorem i_zip {elts : List Expr} {kk : Nat} {tpos : Pos} (hg : Gl X "zip") (hm : X.mg "zip" = none) (ha : PE X a (TX X.K E fa)) (hb : PE X b (TX X.K E fb)) (hn : noStar a = true) (hn2 : noStar b = true) :
    PI X (.Tuple elts kk tpos) (.Call (.Name "zip" p) [a, b] [] pos) (TIx X.K E fun ρ => fa ρ >>= fun x => fb ρ >>= fun y => zipW x y) :=
  pi_imp (RZ.pi_zipA hg hm (pa_cons ha (pa_cons hb pa_nil (star_cons hn2)) (star_cons hn)) (star_cons hn) (star_any (by rw [List.all_cons, hn2]; rfl))) fun σ H R h => by
    obtain ⟨μ, st, ρ, S, e, pp⟩ := h
    refine ⟨μ, st, ρ, S, e, go1 S e pp.bind fun w st1 H1 μ1 x1 S1 e1 q v r => ⟨μ1, st1, ρ, S1, e1, q.bind.imp fun w2 st2 H2 μ2 x2 S2 q2 v2 r2 => ?_⟩⟩
    have r' := r.mono S1 x2
    cases w <;> first | exact q2.elim | skip
    · cases w2 <;> first | exact q2.elim | skip
      rw [rp_tup] at r' r2
      obtain ⟨a, vs, rfl, h1, h2⟩ := r'
      obtain ⟨b, us, rfl, h3, h4⟩ := r2
      exact ⟨a, b, vs, us, rfl, .inr ⟨h1, h3, Pst.pure S2 q2 _ (itr_zipT S2 (keep_tup S2 h1) (keep_tup S2 h3) h2 h4)⟩⟩
    · cases w2 <;> first | exact q2.elim | skip
      rw [rp_fl] at r' r2
      obtain ⟨a, vs, rfl, h1, h5, h2⟩ := r'
      obtain ⟨b, us, rfl, h3, h6, h4⟩ := r2
      exact ⟨a, b, vs, us, rfl, .inl ⟨SqL.of h1, SqL.of h3, Pst.pure S2 q2 _ (itr_zipL S2 (keep_fl S2 h1 h5) (keep_fl S2 h3 h6) h2 h4)⟩⟩
theorem i_enum {elts : List Expr} {kk : Nat} {tpos : Pos} (hg : Gl X "enumerate") (hm : X.mg "enumerate" = none) (ha : PE X a (TX X.K E fa)) (hn : noStar a = true) :
    PI X (.Tuple elts kk tpos) (.Call (.Name "enumerate" p) [a] [] pos) (TIx X.K E fun ρ => fa ρ >>= enumW) :=
  pi_imp (pi_enum hg hm (pa_cons ha pa_nil (star_cons hn)) (star_cons hn)) fun σ H R h => by
    obtain ⟨μ, st, ρ, S, e, pp⟩ := h
    refine ⟨μ, st, ρ, S, e, pp.bind.imp fun w st1 H1 μ1 x1 S1 q v r => ?_⟩
    cases w <;> first | exact q.elim | skip
    rw [rp_fl] at r
    obtain ⟨a, vs, rfl, h1, h5, h2⟩ := r
    exact ⟨a, vs, rfl, SqL.of h1, Pst.pure S1 q _ (itr_enum S1 (keep_fl S1 h1 h5) h2)⟩
end
end Vm
/-! Vm, part K: targets, comprehensions. -/
namespace Vm
open PySem L2

/-- a target's reading does what bindT does -/
def GDn (K : PySem.W.Frag) (g : TG) (tg : Tg) : Prop := ∀ H μ st w v ρ σ ρ' (Q : St → Hp → Prop), StR K H μ st → Rp K H μ w v → EnvR K H μ ρ σ → bindT tg w ρ = some ρ' →
  (∀ σ', EnvR K H μ ρ' σ' → σ'.length = σ.length → (∀ i, i ∉ tg.slots → σ'[i]? = σ[i]?) → Q σ' H) → g v σ H Q
def GDnL (K : PySem.W.Frag) (g : TGs) (ts : List Tg) : Prop := ∀ H μ st ws vs ρ σ ρ' (Q : St → Hp → Prop), StR K H μ st → RpL K H μ ws vs → EnvR K H μ ρ σ → bindTs ts ws ρ = some ρ' →
  (∀ σ', EnvR K H μ ρ' σ' → σ'.length = σ.length → (∀ i, i ∉ slotsL ts → σ'[i]? = σ[i]?) → Q σ' H) → g vs σ H Q
theorem gd_name {K : PySem.W.Frag} {i : Nat} : GDn K (gName i) (.name i) := fun H μ st w v ρ σ ρ' Q S r e hb h => by
  simp only [bindT] at hb
  cases hb
  refine h _ (e.set r) (by simp) fun j hj => ?_
  simp only [Tg.slots, List.mem_singleton] at hj
  exact List.getElem?_set_ne (Ne.symm hj)
theorem gd_nil {K : PySem.W.Frag} : GDnL K gNil [] := fun H μ st ws vs ρ σ ρ' Q S r e hb h => by
  cases ws with
  | nil =>
    simp only [bindTs] at hb
    cases hb
    simp only [RpL] at r
    exact ⟨r, h σ e rfl fun _ _ => rfl⟩
  | cons _ _ => simp [bindTs] at hb
theorem gd_cons {K : PySem.W.Frag} {g : TG} {gs : TGs} {t : Tg} {ts : List Tg} (h1 : GDn K g t) (h2 : GDnL K gs ts) : GDnL K (gCons g gs) (t :: ts) := fun H μ st ws vs ρ σ ρ' Q S r e hb h => by
  cases ws with
  | nil => simp [bindTs] at hb
  | cons w ws =>
    obtain ⟨v, vr, rfl, r1, r2⟩ := r.uncons
    simp only [bindTs] at hb
    cases q : bindT t w ρ with
    | none => rw [q] at hb; cases hb
    | some ρ1 =>
      rw [q] at hb
      refine ⟨v, vr, rfl, h1 H μ st w v ρ σ ρ1 _ S r1 e q fun σ1 e1 l1 k1 => ?_⟩
      refine h2 H μ st ws vr ρ1 σ1 ρ' _ S r2 e1 hb fun σ2 e2 l2 k2 => ?_
      refine h σ2 e2 (l2.trans l1) fun i hi => ?_
      simp only [slotsL, List.mem_append, not_or] at hi
      rw [k2 i hi.2, k1 i hi.1]
theorem gd_tup {K : PySem.W.Frag} {n : Nat} {gs : TGs} {ts : List Tg} (h : GDnL K gs ts) (hn : ts.length = n) : GDn K (gTup K n gs) (.tup ts) := fun H μ st w v ρ σ ρ' Q S r e hb hq => by
  cases w with
  | tup ws =>
    simp only [bindT] at hb
    rw [rp_tup] at r
    obtain ⟨a, vs, rfl, h1, h2⟩ := r
    have hl : ∀ {ts : List Tg} {ws : List W} {ρ ρ' : Rho}, bindTs ts ws ρ = some ρ' → ws.length = ts.length := by
      intro ts
      induction ts with
      | nil => intro ws ρ ρ' h; cases ws with | nil => rfl | cons _ _ => simp [bindTs] at h
      | cons t ts ih =>
        intro ws ρ ρ' h
        cases ws with
        | nil => simp [bindTs] at h
        | cons w ws =>
          simp only [bindTs] at h
          cases q : bindT t w ρ with
          | none => rw [q] at h; cases h
          | some ρ1 => rw [q] at h; simp [ih h]
    refine ⟨a, vs, rfl, h1, by rw [← h2.length, hl hb, hn], h H μ st ws vs ρ σ ρ' Q S h2 e hb fun σ' e' l' k' => hq σ' e' l' fun i hi => k' i (by simpa [Tg.slots] using hi)⟩
  | _ => simp [bindT] at hb

/-! ### an object joins the store, the data -/
section
variable {K : PySem.W.Frag} {H : Hp} {μ : Mu} {st : Sto}
theorem kp_dat (D : Addr) : Kp H μ H (μ.dat D) := ⟨fun _ _ h => h, fun _ _ _ h => h, fun _ _ _ h => h, fun _ h => List.mem_cons_of_mem _ h, fun _ _ h => h⟩
theorem kp_add {D : Addr} (S : StR K H μ st) : Kp H μ H (μ.add D) := ⟨fun _ _ h => h, fun _ _ _ h => h, fun _ _ _ h => h, fun _ h => h, fun i a h => by
  rw [List.getElem?_append_left (List.getElem?_eq_some_iff.mp h).1]; exact h⟩
theorem StR.joinD (S : StR K H μ st) {D : Addr} {o : HO} (h : H D = some o) (nm : D ∉ μ.m) : StR K H (μ.dat D) st :=
  ⟨S.len, S.nd, fun a ha => by
    rcases List.mem_cons.mp ha with ha | ha
    · rw [ha]; exact nm
    · exact S.dis a ha, fun a ha => by
    rcases List.mem_cons.mp ha with ha | ha
    · rw [ha]; exact ⟨o, h⟩
    · exact S.hd a ha, fun i ob a h1 h2 => (S.at_ i ob a h1 h2).kp (kp_dat D)⟩
theorem StR.join (S : StR K H μ st) {D : Addr} {o : HO} {ob : O} (h : H D = some o) (nm : D ∉ μ.m) (nd : D ∉ μ.d) (hob : ObR K H (μ.add D) ob (some o)) : StR K H (μ.add D) (st ++ [ob]) := by
  refine ⟨by simp [S.len], List.nodup_append.mpr ⟨S.nd, by simp, fun a ha b hb => by simp at hb; subst hb; intro z; subst z; exact nm ha⟩, fun a ha h2 => ?_, S.hd, fun i ob' a h1 h2 => ?_⟩
  · rcases List.mem_append.mp h2 with h2 | h2
    · exact S.dis a ha h2
    · simp at h2
      subst h2
      exact nd ha
  by_cases hi : i < st.length
  · rw [List.getElem?_append_left hi] at h1
    rw [List.getElem?_append_left (by rw [S.len]; exact hi)] at h2
    exact (S.at_ i ob' a h1 h2).kp (kp_add S)
  · have hi' : i = st.length := by
      have := (List.getElem?_eq_some_iff.mp h1).1
      simp at this
      omega
    subst hi'
    rw [List.getElem?_append_right (Nat.le_refl _)] at h1
    rw [List.getElem?_append_right (by rw [S.len]; exact Nat.le_refl _)] at h2
    simp at h1
    rw [S.len] at h2
    simp at h2
    subst h1 h2
    rw [h]
    exact hob
end
/-! ### comprehensions -/
theorem wipe_get {σ : St} {i : Nat} : ∀ {vs : List Nat}, i ∈ vs → i < σ.length → (L2.wipe σ vs)[i]? = some none
  | v :: vs, h, hl => by
    unfold L2.wipe
    by_cases e : v = i
    · subst e
      exact List.getElem?_set_self (by rw [wipe_length]; exact hl)
    · rw [List.getElem?_set_ne e]
      rcases List.mem_cons.mp h with h | h
      · exact absurd h.symm e
      · exact wipe_get h hl
theorem wipe_ext {σ σ' : St} {vs : List Nat} (hl : σ'.length = σ.length) (h : ∀ i, i ∉ vs → σ'[i]? = σ[i]?) : L2.wipe σ' vs = L2.wipe σ vs := by
  apply List.ext_getElem?
  intro i
  by_cases hi : i ∈ vs
  · by_cases hlt : i < σ.length
    · rw [wipe_get hi hlt, wipe_get hi (by rw [hl]; exact hlt)]
    · rw [List.getElem?_eq_none (by rw [wipe_length]; omega), List.getElem?_eq_none (by rw [wipe_length]; omega)]
  · rw [wipe_out hi, wipe_out hi, h i hi]
theorem wipe_idem {σ : St} {vs : List Nat} : L2.wipe (L2.wipe σ vs) vs = L2.wipe σ vs := wipe_ext (wipe_length _ _) fun i hi => wipe_out hi

theorem noEr_ok {α β : Type} {m : M α} {f : α → M β} {K : PySem.W.Frag} {E : XK} {H : Hp} {μ : Mu} {st : Sto} {Q : β → Sto → Hp → Mu → Prop} (p : Pst K E H μ ((m.noEr >>= f) st) Q) : ∃ a st', m st = .ok a st' ∧ Pst K E H μ (f a st') Q := by
  rw [run_bind] at p
  unfold M.noEr at p
  cases q : m st with
  | ok a st' => rw [q] at p; exact ⟨a, st', rfl, p⟩
  | er x st' => rw [q] at p; exact p.elim
  | bad => rw [q] at p; exact p.elim
theorem bd_eq_ok {α β : Type} {r : R α} {f : α → M β} {b : β} {st : Sto} (h : r.bd f = .ok b st) : ∃ a st', r = .ok a st' ∧ f a st' = .ok b st := by
  cases r with
  | ok a st' => exact ⟨a, st', rfl, h⟩
  | er x st' => cases h
  | bad => cases h
/-- the invariant of a comprehension's loop -/
structure LcI (K : PySem.W.Frag) (H1 : Hp) (μ1 : Mu) (D : Addr) (items ws : List W) (stF : Sto) (f : W → M (Option W)) (i : Nat) (H : Hp) : Prop where
  ex : ∃ μ st accW accV rest, Ext H1 μ1 H μ ∧ StR K H μ st ∧ D ∉ μ.m ∧ D ∉ μ.d ∧ H D = some (.lst accV) ∧ RpL K H μ accW accV ∧ lcM f (items.drop i) st = .ok rest stF ∧ ws = accW ++ rest
theorem len_drop {f : W → M (Option W)} : ∀ {xs : List W} {st : Sto} {rest : List W} {stF : Sto}, lcM f xs st = .ok rest stF → rest.length ≤ xs.length
  | [], st, rest, stF, h => by
    simp only [lcM] at h
    cases h
    exact Nat.le_refl _
  | x :: xs, st, rest, stF, h => by
    simp only [lcM, run_bind] at h
    obtain ⟨o, st1, h1, h2⟩ := bd_eq_ok h
    rw [run_bind] at h2
    obtain ⟨ys, st2, h3, h4⟩ := bd_eq_ok h2
    cases h4
    have := len_drop h3
    cases o <;> simp <;> omega
section
variable {X : Cx} {E : WX} {elt tgE iter : Expr} {ifs : List Expr} {scope : Scope} {own : List (Str × Nat)} {pos : Pos} {g : TG} {tg : Tg} {fI : Rho → M (List W)} {fi : Rho → M Bool} {fe : Rho → M W} {m : Bool}
def EF : WX := fun _ _ _ _ => False
theorem lc_read {K : PySem.W.Frag} {vs : List Nat} (hg : GDn K g tg) (hsl : ∀ i ∈ tg.slots, i ∈ vs) : ∀ σ H Q, TX K E (fun ρ => fI ρ >>= fun items => (lcM (lcF tg fi fe (wipeR ρ vs)) items).noEr >>= lcEnd m) σ H Q → tLc (TIx K E fI) g (TB K EF fi) (TX K EF fe) vs σ H Q := fun σ H Q h => by
  obtain ⟨μ, st, ρ, S, e, pp⟩ := h
  refine ⟨μ, st, ρ, S, e, go1 S e pp.bind fun items st1 H1 μ1 x1 S1 e1 q J hJ D hD => ?_⟩
  obtain ⟨ws, stF, hok, q1⟩ := noEr_ok q
  unfold lcEnd at q1
  obtain ⟨hz, q2⟩ := if_ok q1
  have nD : D ∉ μ1.m := S1.fresh hD
  have nDd : D ∉ μ1.d := S1.freshd hD
  have xD := Ext.laid (o := HO.lst []) S1 hD
  have SD : StR K (upd H1 D (.lst [])) μ1 st1 := S1.laid hD
  have eσ := e1.wipe vs
  refine ⟨fun i mm H' => mm = items.length - i ∧ i ≤ items.length ∧ LcI K H1 μ1 D items ws stF (lcF tg fi fe (wipeR ρ vs)) i H', ⟨_, rfl, Nat.zero_le _, ⟨μ1, st1, [], [], ws, xD, SD, nD, nDd, upd_same, .nil, by simpa using hok, rfl⟩⟩, ?_⟩
  rintro i mm H' ⟨rfl, hi, ⟨μ', st', accW, accV, rest, x', S', nD', nDd', hD', ra, hl, hw⟩⟩
  by_cases hlt : i < items.length
  · -- one more
    have hgi : items[i]? = some items[i] := by simp [hlt]
    obtain ⟨h1, h2⟩ := hJ.go i items[i] H' μ' st' hgi (x'.kp S1) S'
    refine .inr ⟨h1, fun H2 => LcI K H1 μ1 D items ws stF (lcF tg fi fe (wipeR ρ vs)) (i + 1) H2, fun H2 hN => ⟨_, by omega, rfl, hlt, hN⟩, fun x H2 hy => ?_⟩
    obtain ⟨x2, S2, rx⟩ := h2 x H2 hy
    have hdrop : items.drop i = items[i] :: items.drop (i + 1) := by rw [List.drop_eq_getElem_cons hlt]
    rw [hdrop] at hl
    simp only [lcM, run_bind] at hl
    obtain ⟨o, stA, hA, hl⟩ := bd_eq_ok hl
    rw [run_bind] at hl
    obtain ⟨ys, stB, hB, hl⟩ := bd_eq_ok hl
    cases hl
    unfold lcF at hA
    rw [run_bind] at hA
    obtain ⟨ρ', stC, hC, hA⟩ := bd_eq_ok hA
    cases qb : bindT tg items[i] (wipeR ρ vs) with
    | none => rw [qb] at hC; cases hC
    | some ρ1 =>
      rw [qb] at hC
      have hC1 : ρ1 = ρ' ∧ st' = stC := by cases hC; exact ⟨rfl, rfl⟩
      obtain ⟨rfl, rfl⟩ := hC1
      rw [run_bind] at hA
      obtain ⟨b, stD, hb, hA⟩ := bd_eq_ok hA
      have eW : EnvR K H2 μ' (wipeR ρ vs) (L2.wipe σ vs) := (eσ.mono S1 x').mono S' x2
      refine hg H2 μ' _ items[i] x _ _ ρ1 _ S2 rx eW qb fun σ2 e2 l2 k2 => ⟨?_, ⟨μ', _, ρ1, S2, e2, ?_⟩⟩
      · rw [← wipe_idem (σ := σ)]
        exact wipe_ext l2 fun j hj => k2 j fun z => hj (hsl j z)
      · rw [hb]
        intro H3 μ3 x3 S3
        have dk : H3 D = some (.lst accV) ∧ D ∉ μ3.m ∧ D ∉ μ3.d := by
          have d2 := x2.keep _ _ hD' nD'
          exact ⟨x3.keep _ _ d2 nD', x3.notin d2 nD', x3.notd d2 nDd'⟩
        cases b with
        | true =>
          refine iteT ⟨μ3, _, ρ1, S3, e2.mono S2 x3, ?_⟩
          rw [if_pos rfl, run_bind] at hA
          obtain ⟨y, stE, hE, hA⟩ := bd_eq_ok hA
          cases hA
          rw [hE]
          intro H4 μ4 x4 S4 v4 r4
          have d4 : H4 D = some (.lst accV) ∧ D ∉ μ4.m ∧ D ∉ μ4.d := ⟨x4.keep _ _ dk.1 dk.2.1, x4.notin dk.1 dk.2.1, x4.notd dk.1 dk.2.2⟩
          have xall : Ext H1 μ1 H4 μ4 := ((x'.trans' x2).trans' x3).trans' x4
          have ra4 : RpL K H4 μ4 accW accV := ((ra.mono S' x2).mono S2 x3).mono S3 x4
          have hlen : accV.length < sizeLine := by
            rw [← ra.length]
            have hz2 : ws.length ≤ sizeLine := hz
            rw [hw, List.length_append] at hz2
            simp at hz2
            omega
          have xD4 : Ext H1 μ1 (upd H4 D (.lst (accV ++ [v4]))) μ4 := ⟨xall.pre, xall.sub, xall.new, xall.newd, fun a o ha n => by
            have : a ≠ D := ne_of_none ha hD
            rw [upd_ne this]
            exact xall.keep a o ha n, fun a o ha => by
            have : a ≠ D := ne_of_none ha hD
            rw [upd_ne this]
            exact xall.stay a o ha⟩
          refine ⟨accV, d4.1, hlen, ⟨μ4, _, accW ++ [y], accV ++ [v4], ys, xD4, S4.other d4.1 d4.2.1 d4.2.2, d4.2.1, d4.2.2, upd_same, ?_, hB, by rw [hw]; simp⟩⟩
          exact (ra4.append (.cons r4 .nil)).kp (kp_other d4.1 d4.2.2)
        | false =>
          refine iteF ?_
          rw [if_neg Bool.false_ne_true] at hA
          cases hA
          exact ⟨μ3, _, accW, accV, ys, (x'.trans' x2).trans' x3, S3, dk.2.1, dk.2.2, dk.1, (ra.mono S' x2).mono S2 x3, hB, by rw [hw]; simp⟩
  · -- the end
    have hi' : i = items.length := by omega
    subst hi'
    refine .inl ⟨hJ.stop H' μ' st' (x'.kp S1) S', ?_⟩
    rw [List.drop_length] at hl
    simp only [lcM] at hl
    cases hl
    rw [List.append_nil] at hw
    subst hw
    cases m with
    | true =>
      rw [if_pos rfl] at q2
      have S5 := S'.join hD' nD' nDd' (ob := .lst ws) ⟨accV, rfl, ra.kp (kp_add S')⟩
      refine q2 _ _ ?_ S5 _ ?_
      · exact ⟨by obtain ⟨n, en⟩ := x'.pre; exact ⟨n ++ [D], by show μ'.m ++ [D] = _; rw [en]; simp⟩, x'.sub, fun a ha hn => by
          rcases List.mem_append.mp ha with ha | ha
          · exact x'.new a ha hn
          · simp at ha; rw [ha]; exact hD, x'.newd, x'.keep, x'.stay⟩
      · rw [rp_ref]
        exact ⟨D, rfl, by rw [← S'.len, List.getElem?_append_right (Nat.le_refl _)]; simp⟩
    | false =>
      rw [if_neg Bool.false_ne_true] at q2
      refine q2 _ _ ?_ (S'.joinD hD' nD') _ ?_
      · exact ⟨x'.pre, fun a ha => List.mem_cons_of_mem _ (x'.sub a ha), x'.new, fun a ha hn => by
          rcases List.mem_cons.mp ha with ha | ha
          · rw [ha]; exact hD
          · exact x'.newd a ha hn, x'.keep, x'.stay⟩
      · rw [rp_fl]
        exact ⟨D, accV, rfl, hD', List.mem_cons_self, ra.kp (kp_dat D)⟩
end
end Vm
/-! Vm, part L: statements. -/
namespace Vm
open PySem L2

/-- what a statement comes to -/
inductive RS where
  | nx (ρ : Rho) (st : Sto)
  | rt (w : W) (st : Sto)
  | bk (ρ : Rho) (st : Sto)
  | ct (ρ : Rho) (st : Sto)
  | er (x : Xc) (ρ : Rho) (st : Sto)
  | bad
def R.go {α : Type} (r : R α) (ρ : Rho) (f : α → Sto → RS) : RS := match r with
  | .ok a st => f a st
  | .er x st => .er x ρ st
  | .bad => .bad
def RS.seq (r : RS) (g : Rho → Sto → RS) : RS := match r with
  | .nx ρ st => g ρ st
  | r => r
def RS.loop (r : RS) (g : Rho → Sto → RS) : RS := match r with
  | .nx ρ st => g ρ st
  | .ct ρ st => g ρ st
  | .bk ρ st => .nx ρ st
  | r => r
def RS.ofO : Option Rho → Sto → RS
  | some ρ, st => .nx ρ st
  | none, _ => .bad
def forS (f : W → Rho → Sto → RS) : List W → Rho → Sto → RS
  | [], ρ, st => .nx ρ st
  | x :: xs, ρ, st => (f x ρ st).loop (forS f xs)
def whS (t : Rho → M Bool) (b : Rho → Sto → RS) : Nat → Rho → Sto → RS
  | 0, _, _ => .bad
  | n + 1, ρ, st => (t ρ st).go ρ fun k st' => if k = true then (b ρ st').loop (whS t b n) else .nx ρ st'
def FUEL : Nat := 1099511627776
noncomputable section
variable (Γ : Gm)
mutual
def evalS : S → Rho → Sto → RS
  | .asg tg e, ρ, st => (evalE Γ e ρ st).go ρ fun w st' => RS.ofO (bindT tg w ρ) st'
  | .par i j a b, ρ, st => (evalE Γ a ρ st).go ρ fun x st1 => (evalE Γ b ρ st1).go ρ fun y st2 => .nx ((ρ.set i (some x)).set j (some y)) st2
  | .par3 i j l a b c, ρ, st => (evalE Γ a ρ st).go ρ fun x st1 => (evalE Γ b ρ st1).go ρ fun y st2 => (evalE Γ c ρ st2).go ρ fun z st3 => .nx (((ρ.set i (some x)).set j (some y)).set l (some z)) st3
  | .aug i op e, ρ, st => (varW i ρ st).go ρ fun x st1 => (evalE Γ e ρ st1).go ρ fun y st2 => (augW op x y st2).go ρ fun z st3 => .nx (ρ.set i (some z)) st3
  | .setI o i e, ρ, st => (evalE Γ e ρ st).go ρ fun w st1 => (evalE Γ o ρ st1).go ρ fun x st2 => (evalE Γ i ρ st2).go ρ fun y st3 => (setIW x y w st3).go ρ fun _ st4 => .nx ρ st4
  | .setA o f e, ρ, st => (evalE Γ e ρ st).go ρ fun w st1 => (evalE Γ o ρ st1).go ρ fun x st2 => (setAW Γ f x w st2).go ρ fun _ st4 => .nx ρ st4
  | .exp e, ρ, st => (evalE Γ e ρ st).go ρ fun _ st' => .nx ρ st'
  | .ret e, ρ, st => (evalE Γ e ρ st).go ρ fun w st' => .rt w st'
  | .retN, ρ, st => .rt .non st
  | .ite t a b, ρ, st => (evalT Γ t ρ st).go ρ fun k st' => if k = true then evalSs a ρ st' else evalSs b ρ st'
  | .forr tg it b, ρ, st => (evalI Γ it ρ st).go ρ fun items st' => forS (fun w ρ st => (RS.ofO (bindT tg w ρ) st).seq fun ρ' st' => evalSs b ρ' st') items ρ st'
  | .whl t b, ρ, st => whS (fun ρ => evalT Γ t ρ) (fun ρ st => evalSs b ρ st) FUEL ρ st
  | .brk, ρ, st => .bk ρ st
  | .cnt, ρ, st => .ct ρ st
  | .pass, ρ, st => .nx ρ st
  | .never, _, _ => .bad
def evalSs : Ss → Rho → Sto → RS
  | .nil, ρ, st => .nx ρ st
  | .cons s ss, ρ, st => (evalS s ρ st).seq fun ρ' st' => evalSs ss ρ' st'
end
end

/-! ### readings -/
def PstS (K : PySem.W.Frag) (E : WX) (D : Ends) (H : Hp) (μ : Mu) (r : RS) : Prop := match r with
  | .nx ρ st => ∀ σ' H' μ', Ext H μ H' μ' → StR K H' μ' st → EnvR K H' μ' ρ σ' → D.nx σ' H'
  | .rt w st => ∀ v H' μ', Ext H μ H' μ' → StR K H' μ' st → Rp K H' μ' w v → D.rt v H'
  | .bk ρ st => ∀ σ' H' μ', Ext H μ H' μ' → StR K H' μ' st → EnvR K H' μ' ρ σ' → D.bk σ' H'
  | .ct ρ st => ∀ σ' H' μ', Ext H μ H' μ' → StR K H' μ' st → EnvR K H' μ' ρ σ' → D.ct σ' H'
  | .er x ρ st => ∀ cls d σ' H' μ', Ext H μ H' μ' → StR K H' μ' st → EnvR K H' μ' ρ σ' → XR K H' μ' x cls d → E cls d σ' H'
  | .bad => False
def TSx (K : PySem.W.Frag) (E : WX) (f : Rho → Sto → RS) : TS := fun D σ H => ∃ μ st ρ, StR K H μ st ∧ EnvR K H μ ρ σ ∧ PstS K E D H μ (f ρ st)
section
variable {K : PySem.W.Frag} {E : WX} {D : Ends} {H H1 : Hp} {μ μ1 : Mu} {r : RS} {st : Sto} {σ : St} {ρ : Rho}
theorem PstS.mono (e : Ext H μ H1 μ1) (h : PstS K E D H μ r) : PstS K E D H1 μ1 r := by
  cases r with
  | nx ρ st => exact fun σ' H' μ' e' => h σ' H' μ' (e.trans' e')
  | rt w st => exact fun v H' μ' e' => h v H' μ' (e.trans' e')
  | bk ρ st => exact fun σ' H' μ' e' => h σ' H' μ' (e.trans' e')
  | ct ρ st => exact fun σ' H' μ' e' => h σ' H' μ' (e.trans' e')
  | er x ρ st => exact fun c d σ' H' μ' e' => h c d σ' H' μ' (e.trans' e')
  | bad => exact h
/-- an expression's part -/
theorem PstS.go {α : Type} {m : R α} {f : α → Sto → RS} (S : StR K H μ st) (ev : EnvR K H μ ρ σ) (h : PstS K E D H μ (m.go ρ f)) : Pst K (fun c d H' => E c d σ H') H μ m (fun a st1 H1 μ1 => EnvR K H1 μ1 ρ σ ∧ PstS K E D H1 μ1 (f a st1)) := by
  cases m with
  | ok a st1 => exact fun H1 μ1 e1 S1 => ⟨ev.mono S e1, PstS.mono e1 h⟩
  | er x st1 => exact fun c d H1 μ1 e1 S1 xr => h c d σ H1 μ1 e1 S1 (ev.mono S e1) xr
  | bad => exact h
theorem PstS.nxt (S : StR K H μ st) (ev : EnvR K H μ ρ σ) (h : PstS K E D H μ (.nx ρ st)) : D.nx σ H := h σ H μ Ext.refl S ev
end
section
variable {X : Cx} {E : WX} {stm : Stmt} {sts : List Stmt} {f g : Rho → Sto → RS}
theorem ps_imp {t t' : TS} (h : PS X stm t) (i : ∀ D σ H, t' D σ H → t D σ H) : PS X stm t' := ⟨fun pins s σ H D I q => h.run pins s σ H D I (i D σ H q)⟩
theorem pss_imp {t t' : TS} (h : PSs X sts t) (i : ∀ D σ H, t' D σ H → t D σ H) : PSs X sts t' := ⟨fun pins s σ H D I q => h.run pins s σ H D I (i D σ H q)⟩
theorem pg_imp {tg : Expr} {t t' : TG} (h : PG X tg t) (i : ∀ v σ H Q, t' v σ H Q → t v σ H Q) : PG X tg t' := ⟨fun pins s σ H v u Q I r q => h.run pins s σ H v u Q I r (i v σ H Q q)⟩
theorem z_nil : PSs X [] (TSx X.K E fun ρ st => .nx ρ st) := pss_imp pss_nil fun D σ H h => by
  obtain ⟨μ, st, ρ, S, e, p⟩ := h
  exact p.nxt S e
theorem z_cons (h1 : PS X stm (TSx X.K E f)) (h2 : PSs X sts (TSx X.K E g)) : PSs X (stm :: sts) (TSx X.K E fun ρ st => (f ρ st).seq g) := pss_imp (pss_cons h1 h2) fun D σ H h => by
  obtain ⟨μ, st, ρ, S, e, p⟩ := h
  refine ⟨μ, st, ρ, S, e, ?_⟩
  dsimp only at p
  cases q : f ρ st with
  | nx ρ' st' =>
    rw [q] at p
    exact fun σ' H' μ' x' S' e' => ⟨μ', st', ρ', S', e', PstS.mono x' p⟩
  | rt w st' => rw [q] at p; exact p
  | bk ρ st' => rw [q] at p; exact p
  | ct ρ st' => rw [q] at p; exact p
  | er x ρ' st' => rw [q] at p; exact p
  | bad => rw [q] at p; exact p
end
section
variable {X : Cx} {E : WX} {e o i : Expr} {fe fo fi : Rho → M W} {pos tpos : Pos}
theorem z_exp (he : PE X e (TX X.K E fe)) (hs : swapsWith e none pos.line X.env = pure false) : PS X (.Expr e pos) (TSx X.K E fun ρ st => (fe ρ st).go ρ fun _ st' => .nx ρ st') :=
  ps_imp (ps_expr he hs) fun D σ H h => by
    obtain ⟨μ, st, ρ, S, ev, p⟩ := h
    exact ⟨μ, st, ρ, S, ev, (p.go S ev).imp fun w st1 H1 μ1 x1 S1 q v r => q.2.nxt S1 q.1⟩
theorem z_ret (he : PE X e (TX X.K E fe)) : PS X (.Return (some e) pos) (TSx X.K E fun ρ st => (fe ρ st).go ρ fun w st' => .rt w st') :=
  ps_imp (ps_ret he) fun D σ H h => by
    obtain ⟨μ, st, ρ, S, ev, p⟩ := h
    exact ⟨μ, st, ρ, S, ev, (p.go S ev).imp fun w st1 H1 μ1 x1 S1 q v r => q.2 v H1 μ1 Ext.refl S1 r⟩
theorem z_retN : PS X (.Return none pos) (TSx X.K E fun ρ st => .rt .non st) :=
  ps_imp ps_retN fun D σ H h => by
    obtain ⟨μ, st, ρ, S, ev, p⟩ := h
    exact p .non H μ Ext.refl S (by rw [rp_non])
theorem z_pass : PS X (.Pass pos) (TSx X.K E fun ρ st => .nx ρ st) := ps_imp ps_pass fun D σ H h => by
  obtain ⟨μ, st, ρ, S, ev, p⟩ := h
  exact p.nxt S ev
theorem z_brk : PS X (.Break pos) (TSx X.K E fun ρ st => .bk ρ st) := ps_imp ps_break fun D σ H h => by
  obtain ⟨μ, st, ρ, S, ev, p⟩ := h
  exact p σ H μ Ext.refl S ev
theorem z_cnt : PS X (.Continue pos) (TSx X.K E fun ρ st => .ct ρ st) := ps_imp ps_continue fun D σ H h => by
  obtain ⟨μ, st, ρ, S, ev, p⟩ := h
  exact p σ H μ Ext.refl S ev
theorem z_never {stm : Stmt} : PS X stm (TSx X.K E fun ρ st => .bad) := ps_imp ps_never fun D σ H h => by
  obtain ⟨μ, st, ρ, S, ev, p⟩ := h
  exact p
theorem z_if {c : Expr} {a b : List Stmt} {gc : Rho → M Bool} {ga gb : Rho → Sto → RS} (hc : PT X c (TB X.K E gc)) (ha : PSs X a (TSx X.K E ga)) (hb : PSs X b (TSx X.K E gb)) : PS X (.If c a b pos) (TSx X.K E fun ρ st => (gc ρ st).go ρ fun k st' => if k = true then ga ρ st' else gb ρ st') :=
  ps_imp (ps_if hc ha hb) fun D σ H h => by
    obtain ⟨μ, st, ρ, S, ev, p⟩ := h
    refine ⟨μ, st, ρ, S, ev, (p.go S ev).imp fun k st1 H1 μ1 x1 S1 q => ?_⟩
    obtain ⟨e1, q⟩ := q
    cases k with
    | true => exact iteT ⟨μ1, st1, ρ, S1, e1, q⟩
    | false => exact iteF ⟨μ1, st1, ρ, S1, e1, q⟩
/-! ### stores -/
theorem z_asg {tgE : Expr} {g : TG} {tg : Tg} (he : PE X e (TX X.K E fe)) (hg : PG X tgE g) (hd : GDn X.K g tg) (hs : swapsWithSole [tgE] e pos.line X.env = pure false) (hw : swappedStores [tgE] e X.env = pure none) (h1 : (assignEach [tgE] X.env).map (·.2) = [assign tgE X.env]) :
    PS X (.Assign [tgE] e pos) (TSx X.K E fun ρ st => (fe ρ st).go ρ fun w st' => RS.ofO (bindT tg w ρ) st') :=
  ps_imp (ps_asg he hg hs hw h1) fun D σ H h => by
    obtain ⟨μ, st, ρ, S, ev, p⟩ := h
    refine ⟨μ, st, ρ, S, ev, (p.go S ev).imp fun w st1 H1 μ1 x1 S1 q v r => ?_⟩
    obtain ⟨e1, q⟩ := q
    cases qb : bindT tg w ρ with
    | none => rw [qb] at q; exact q.elim
    | some ρ' =>
      rw [qb] at q
      exact hd H1 μ1 st1 w v ρ σ ρ' _ S1 r e1 qb fun σ' e' _ _ => q.nxt S1 e'
/-- x = [..], exchanged stores -/
theorem z_setLc {i : Nat} {y : Str} {py ypos : Pos} {elt tgE iter : Expr} {ifs : List Expr} {scope : Scope} {own : List (Str × Nat)} {wi : TI} {g : TG} {tt : TT} {te : TE} {fl : Rho → M W}
    (h : PS X (.Assign [.Name y py] (.ListComp elt [⟨tgE, iter, ifs, 0⟩] scope ypos) pos) (tAsg (tLc wi g tt te (own.map (·.2))) (gName i))) (hr : ∀ σ H Q, TX X.K E fl σ H Q → tLc wi g tt te (own.map (·.2)) σ H Q) :
    PS X (.Assign [.Name y py] (.ListComp elt [⟨tgE, iter, ifs, 0⟩] scope ypos) pos) (TSx X.K E fun ρ st => (fl ρ st).go ρ fun w st' => RS.ofO (bindT (.name i) w ρ) st') :=
  ps_imp h fun D σ H h => by
    obtain ⟨μ, st, ρ, S, ev, p⟩ := h
    refine hr _ _ _ ⟨μ, st, ρ, S, ev, (p.go S ev).imp fun w st1 H1 μ1 x1 S1 q v r => ?_⟩
    obtain ⟨e1, q⟩ := q
    exact q.nxt S1 (e1.set r)
theorem tl2 {K : PySem.W.Frag} {fa fb : Rho → M W} {σ : St} {H : Hp} {μ : Mu} {st : Sto} {ρ : Rho} {Q : List V → Hp → Prop} (S : StR K H μ st) (ev : EnvR K H μ ρ σ)
    (h : Pst K (fun c d H' => E c d σ H') H μ (fa ρ st) (fun x st1 H1 μ1 => EnvR K H1 μ1 ρ σ ∧ Pst K (fun c d H' => E c d σ H') H1 μ1 (fb ρ st1) (fun y st2 H2 μ2 => ∀ vx vy, Rp K H2 μ2 x vx → Rp K H2 μ2 y vy → Q [vx, vy] H2))) :
    tCons (TX K E fa) (tCons (TX K E fb) tNil) σ H Q :=
  ⟨μ, st, ρ, S, ev, h.imp fun x st1 H1 μ1 x1 S1 q vx rx => ⟨μ1, st1, ρ, S1, q.1, q.2.imp fun y st2 H2 μ2 x2 S2 q2 vy ry => q2 vx vy (rx.mono S1 x2) ry⟩⟩
/-- a, b = x, y -/
theorem z_par {i j : Nat} {x y : Str} {a b : Expr} {fa fb : Rho → M W} {px py pt : Pos} {kt k2 pt2} (hc : X.calm = true) (hN : X.N.Nodup) (hi : X.N[i]? = some x) (hj : X.N[j]? = some y) (hij : i ≠ j)
    (hx : X.env.scope.names.lookup x = some .local) (hy : X.env.scope.names.lookup y = some .local) (ha : PE X a (TX X.K E fa)) (hb : PE X b (TX X.K E fb)) (hna : noStar a = true) (hnb : noStar b = true)
    (hw : swappedStores [.Tuple [.Name x px, .Name y py] kt pt] (.Tuple [a, b] k2 pt2) X.env = pure (some [x, y])) :
    PS X (.Assign [.Tuple [.Name x px, .Name y py] kt pt] (.Tuple [a, b] k2 pt2) pos) (TSx X.K E fun ρ st => (fa ρ st).go ρ fun x st1 => (fb ρ st1).go ρ fun y st2 => .nx ((ρ.set i (some x)).set j (some y)) st2) :=
  ps_imp (ps_par hc hN hi hj hij hx hy (pa_cons ha (pa_cons hb pa_nil (star_cons hnb)) (star_cons hna)) hw rfl) fun D σ H h => by
    obtain ⟨μ, st, ρ, S, ev, p⟩ := h
    refine tl2 S ev ((p.go S ev).imp fun x st1 H1 μ1 x1 S1 q => ⟨q.1, (q.2.go S1 q.1).imp fun y st2 H2 μ2 x2 S2 q2 vx vy rx ry => ?_⟩)
    exact ⟨vx, vy, rfl, q2.2.nxt S2 ((q2.1.set rx).set ry)⟩
theorem z_setI {o i : Expr} (he : PE X e (TX X.K E fe)) (ho : PE X o (TX X.K E fo)) (hi : PE X i (TX X.K E fi)) (hs : swapsWithSole [.Subscript o i tpos] e pos.line X.env = pure false) (hw : swappedStores [.Subscript o i tpos] e X.env = pure none)
    (ha : ∀ v, assign (.Subscript o i tpos) X.env v = (do
      let ov ← holding [v] (eval o X.env)
      let iv ← holding [v, ov] (eval i X.env)
      standAt tpos
      holding [v, ov, iv] (setItem ov iv v)
      release [v, ov, iv] [])) :
    PS X (.Assign [.Subscript o i tpos] e pos) (TSx X.K E fun ρ st => (fe ρ st).go ρ fun w st1 => (fo ρ st1).go ρ fun x st2 => (fi ρ st2).go ρ fun y st3 => (setIW x y w st3).go ρ fun _ st4 => .nx ρ st4) :=
  ps_imp (ps_asg he (pg_sub ho hi set_list ha) hs hw rfl) fun D σ H h => by
    obtain ⟨μ, st, ρ, S, ev, p⟩ := h
    refine ⟨μ, st, ρ, S, ev, (p.go S ev).imp fun w st1 H1 μ1 x1 S1 q1 v r => ⟨μ1, st1, ρ, S1, q1.1, (q1.2.go S1 q1.1).imp fun wo st2 H2 μ2 x2 S2 q2 vo ro => ⟨μ2, st2, ρ, S2, q2.1, (q2.2.go S2 q2.1).imp fun wi st3 H3 μ3 x3 S3 q3 vi ri => ?_⟩⟩⟩
    have r3 := (r.mono S1 x2).mono S2 x3
    have ro3 := ro.mono S2 x3
    obtain ⟨e3, q3⟩ := q3
    cases wo with
    | ref a =>
      cases wi with
      | int k =>
        have p4 := q3.go S3 e3
        have p5 : Pst X.K (fun c d H' => E c d σ H') H3 μ3 ((getO a >>= fun ob => (lstOf ob : M (List W)) >>= fun xs => ofO (ixN xs.length k) >>= fun j => setO a (.lst (xs.set j w))) st3) (fun u st4 H4 μ4 => EnvR X.K H4 μ4 ρ σ ∧ PstS X.K E D H4 μ4 (.nx ρ st4)) := by
          rw [← bind_assoc]; exact p4
        obtain ⟨ob, h1, p6⟩ := getO_ok p5
        obtain ⟨ad, rfl, h2, h3⟩ := S3.ref ro3 h1
        cases ob with
        | lst xs =>
          obtain ⟨vs, e4, rl⟩ := h3
          have p7 : Pst X.K (fun c d H' => E c d σ H') H3 μ3 ((ofO (ixN xs.length k) >>= fun j => setO a (.lst (xs.set j w))) st3) (fun u st4 H4 μ4 => EnvR X.K H4 μ4 ρ σ ∧ PstS X.K E D H4 μ4 (.nx ρ st4)) := p6
          obtain ⟨j, hj, p8⟩ := ofOb_ok p7
          rw [rp_int] at ri
          refine ⟨ad, vs, k, j, rfl, ri, e4, by rw [← rl.length]; exact hj, ?_⟩
          unfold setO at p8
          have hlt : a < st3.length := (List.getElem?_eq_some_iff.mp h1).1
          rw [if_pos hlt] at p8
          have xw : Ext H3 μ3 (upd H3 ad (.lst (vs.set j v))) μ3 := Ext.write (List.mem_of_getElem? h2)
          have Sw := S3.write (ob := .lst (xs.set j w)) (o := .lst (vs.set j v)) h2 ⟨_, rfl, (rl.set r3 j).kp (xw.kp S3)⟩
          obtain ⟨e5, p9⟩ := p8 _ _ xw Sw
          exact p9.nxt Sw e5
        | dct ks ws => exact p6.elim
        | ins c ns ws => exact p6.elim
      | _ => exact q3.elim
    | _ => cases wi <;> exact q3.elim
end
/-! ### loops -/
section
variable {X : Cx} {E : WX} {tgE iter : Expr} {body : List Stmt} {g : TG} {tg : Tg} {fI : Rho → M (List W)} {fb : Rho → Sto → RS} {pos : Pos}
theorem RS.loop_nx {ρ : Rho} {st : Sto} {g : Rho → Sto → RS} : (RS.nx ρ st).loop g = g ρ st := rfl
theorem z_for (hp : PassesOwn (model X.prog X.w) X.A X.env X.xe) (hc : X.calm = true) (hi : PI X tgE iter (TIx X.K E fI)) (hg : PG X tgE g) (hd : GDn X.K g tg) (hb : PSs X body (TSx X.K E fb)) (hs : ∀ x, foldedSetIterable iter X.env x = pure x) :
    PS X (.For tgE iter body [] pos) (TSx X.K E fun ρ st => (fI ρ st).go ρ fun items st' => forS (fun w ρ st => (RS.ofO (bindT tg w ρ) st).seq fb) items ρ st') :=
  ps_imp (ps_for hp hc hi hg hb hs) fun D σ H h => by
    obtain ⟨μ, st, ρ, S, ev, p⟩ := h
    refine ⟨μ, st, ρ, S, ev, (p.go S ev).imp fun items st1 H1 μ1 x1 S1 q1 J hJ => ?_⟩
    obtain ⟨e1, q1⟩ := q1
    refine ⟨fun i m σ' H' => m = items.length - i ∧ i ≤ items.length ∧ ∃ μ' st' ρ', Ext H1 μ1 H' μ' ∧ StR X.K H' μ' st' ∧ EnvR X.K H' μ' ρ' σ' ∧ PstS X.K E D H' μ' (forS (fun w ρ st => (RS.ofO (bindT tg w ρ) st).seq fb) (items.drop i) ρ' st'), ⟨_, rfl, Nat.zero_le _, μ1, st1, ρ, Ext.refl, S1, e1, by simpa using q1⟩, ?_⟩
    rintro i m σ' H' ⟨rfl, hi', μ', st', ρ', x', S', e', q'⟩
    by_cases hlt : i < items.length
    · have hgi : items[i]? = some items[i] := by simp [hlt]
      obtain ⟨h1, h2⟩ := hJ.go i items[i] H' μ' st' hgi (x'.kp S1) S'
      refine .inr ⟨h1, fun σ2 H2 => i + 1 ≤ items.length ∧ ∃ μ2 st2 ρ2, Ext H1 μ1 H2 μ2 ∧ StR X.K H2 μ2 st2 ∧ EnvR X.K H2 μ2 ρ2 σ2 ∧ PstS X.K E D H2 μ2 (forS (fun w ρ st => (RS.ofO (bindT tg w ρ) st).seq fb) (items.drop (i + 1)) ρ2 st2), fun σ2 H2 hN => ⟨_, by omega, rfl, hN⟩, fun x H2 hy => ?_⟩
      obtain ⟨x2, S2, rx⟩ := h2 x H2 hy
      rw [List.drop_eq_getElem_cons hlt] at q'
      simp only [forS] at q'
      cases qb : bindT tg items[i] ρ' with
      | none => rw [qb] at q'; exact q'.elim
      | some ρ1 =>
        rw [qb] at q'
        have q2 : PstS X.K E D H' μ' ((fb ρ1 st').loop (forS (fun w ρ st => (RS.ofO (bindT tg w ρ) st).seq fb) (items.drop (i + 1)))) := q'
        refine hd H2 μ' st' items[i] x ρ' σ' ρ1 _ S2 rx (e'.mono S' x2) qb fun σ2 e2 _ _ => ⟨μ', st', ρ1, S2, e2, ?_⟩
        have q3 := PstS.mono x2 q2
        cases qf : fb ρ1 st' with
        | nx ρ3 st3 => rw [qf] at q3; exact fun σ3 H3 μ3 x3 S3 e3 => ⟨hlt, μ3, st3, ρ3, (x'.trans' x2).trans' x3, S3, e3, PstS.mono x3 q3⟩
        | ct ρ3 st3 => rw [qf] at q3; exact fun σ3 H3 μ3 x3 S3 e3 => ⟨hlt, μ3, st3, ρ3, (x'.trans' x2).trans' x3, S3, e3, PstS.mono x3 q3⟩
        | bk ρ3 st3 => rw [qf] at q3; exact q3
        | rt w st3 => rw [qf] at q3; exact q3
        | er x ρ3 st3 => rw [qf] at q3; exact q3
        | bad => rw [qf] at q3; exact q3
    · have hi'' : i = items.length := by omega
      subst hi''
      rw [List.drop_length] at q'
      exact .inl ⟨hJ.stop H' μ' st' (x'.kp S1) S', q'.nxt S' e'⟩
theorem z_while {c : Expr} {gc : Rho → M Bool} (hp : PassesOwn (model X.prog X.w) X.A X.env X.xe) (hc : PT X c (TB X.K E gc)) (hb : PSs X body (TSx X.K E fb)) : PS X (.While c body [] pos) (TSx X.K E fun ρ st => whS gc fb FUEL ρ st) :=
  ps_imp (ps_while hp hc hb) fun D σ H h => by
    obtain ⟨μ, st, ρ, S, ev, p⟩ := h
    refine ⟨fun m σ H => ∃ μ st ρ, StR X.K H μ st ∧ EnvR X.K H μ ρ σ ∧ PstS X.K E D H μ (whS gc fb m ρ st), ⟨FUEL, μ, st, ρ, S, ev, p⟩, ?_⟩
    rintro m σ' H' ⟨μ', st', ρ', S', e', p'⟩
    cases m with
    | zero => exact p'.elim
    | succ m =>
      simp only [whS] at p'
      refine ⟨μ', st', ρ', S', e', (p'.go S' e').imp fun k st1 H1 μ1 x1 S1 q => ?_⟩
      obtain ⟨e1, q⟩ := q
      cases k with
      | true =>
        refine iteT ⟨fun σ2 H2 => ∃ μ2 st2 ρ2, StR X.K H2 μ2 st2 ∧ EnvR X.K H2 μ2 ρ2 σ2 ∧ PstS X.K E D H2 μ2 (whS gc fb m ρ2 st2), fun σ2 H2 hN => ⟨m, Nat.lt_succ_self _, hN⟩, ⟨μ1, st1, ρ', S1, e1, ?_⟩⟩
        rw [if_pos rfl] at q
        cases qf : fb ρ' st1 with
        | nx ρ3 st3 => rw [qf] at q; exact fun σ3 H3 μ3 x3 S3 e3 => ⟨μ3, st3, ρ3, S3, e3, PstS.mono x3 q⟩
        | ct ρ3 st3 => rw [qf] at q; exact fun σ3 H3 μ3 x3 S3 e3 => ⟨μ3, st3, ρ3, S3, e3, PstS.mono x3 q⟩
        | bk ρ3 st3 => rw [qf] at q; exact q
        | rt w st3 => rw [qf] at q; exact q
        | er x ρ3 st3 => rw [qf] at q; exact q
        | bad => rw [qf] at q; exact q
      | false =>
        rw [if_neg Bool.false_ne_true] at q
        exact iteF (q.nxt S1 e1)
end
end Vm
/-! Vm, part M: the other rules. -/
namespace Vm
open PySem L2

/-! ### x op= e -/
def rAug (K : PySem.W.Frag) : Operator → R2
  | .Add => fun x y H Q => (∃ i j, x = .int i ∧ y = .int j ∧ Q (.int (i + j)) H) ∨ (∃ i j, x = .str i ∧ y = .str j ∧ i.length + j.length ≤ sizeLine ∧ Q (.str (i ++ j)) H)
  | .Sub => rI0 fun i j => .int (i - j)
  | .Mult => rI CMul fun i j => .int (i * j)
  | .FloorDiv => rI CDiv fun i j => .int (i / j)
  | .Mod => rI (fun _ j => 0 < j) fun i j => .int (i % j)
  | .LShift => rI CPow fun i j => .int (i * 2 ^ j.toNat)
  | .RShift => rI (fun _ j => 0 ≤ j) fun i j => .int (i / 2 ^ j.toNat)
  | .BitAnd => rI0 fun i j => .int (Builtin.bitAnd i j)
  | .BitOr => rI0 fun i j => .int (Builtin.bitOr i j)
  | _ => fun _ _ _ _ => False
theorem ip_aug {X : Cx} : ∀ op : Operator, PIp X op (rAug X.K op)
  | .Add => iop_add.or iop_add_str
  | .Sub => iop_sub
  | .Mult => iop_mul
  | .FloorDiv => iop_fdiv
  | .Mod => iop_mod
  | .LShift => iop_shl
  | .RShift => iop_shr
  | .BitAnd => iop_and
  | .BitOr => iop_or
  | .MatMult => fun _ _ _ _ _ _ _ _ _ _ _ _ h => h.elim
  | .Div => fun _ _ _ _ _ _ _ _ _ _ _ _ h => h.elim
  | .BitXor => fun _ _ _ _ _ _ _ _ _ _ _ _ h => h.elim
  | .Pow => fun _ _ _ _ _ _ _ _ _ _ _ _ h => h.elim
def augOk : Operator → Bool
  | .Pow => false
  | _ => true
theorem dn_aug {K : PySem.W.Frag} (op : Operator) (ho : augOk op = true) : Dn2 K (rAug K op) (augW op) := by
  intro E H μ st x y wx wy Q S rx ry p
  cases wx with
  | int i =>
    have p' : Pst K E H μ (binW op (.int i) wy st) (QW K Q) := p
    have h := dn_bin op E H μ st x y (.int i) wy Q S rx ry p'
    cases op with
    | Add =>
      rw [rp_int] at rx
      subst rx
      rcases h with h | h | ⟨a, _, _, _, h, _⟩ | ⟨a, _, _, _, h, _⟩
      · exact .inl h
      · exact .inr h
      · cases h
      · cases h
    | Pow => cases ho
    | _ => exact h
  | str a =>
    cases op with
    | Add =>
      have p' : Pst K E H μ (binW .Add (.str a) wy st) (QW K Q) := p
      have h := dn_bin .Add E H μ st x y (.str a) wy Q S rx ry p'
      rw [rp_str] at rx
      subst rx
      rcases h with h | h | ⟨a, _, _, _, h, _⟩ | ⟨a, _, _, _, h, _⟩
      · exact .inl h
      · exact .inr h
      · cases h
      · cases h
    | _ => exact p.elim
  | _ => exact p.elim
section
variable {X : Cx} {E : WX} {e o : Expr} {fe fo : Rho → M W} {pos tpos : Pos}
theorem z_aug {i : Nat} {x : Str} {op : Operator} (hN : X.N.Nodup) (hi : X.N[i]? = some x) (hx : Loc X.env.scope x) (hf : X.fn x = true ∨ X.env.scope.names.lookup x = some .local) (ho : augOk op = true) (he : PE X e (TX X.K E fe)) :
    PS X (.AugAssign (.Name x tpos) op e pos) (TSx X.K E fun ρ st => (varW i ρ st).go ρ fun x st1 => (fe ρ st1).go ρ fun y st2 => (augW op x y st2).go ρ fun z st3 => .nx (ρ.set i (some z)) st3) :=
  ps_imp (ps_aug hN hi hx he (ip_aug op) hf) fun D σ H h => by
    obtain ⟨μ, st, ρ, S, ev, p⟩ := h
    dsimp only at p
    unfold varW at p
    cases q : ρ[i]? with
    | none => rw [q] at p; exact p.elim
    | some ow =>
      cases ow with
      | none => rw [q] at p; exact p.elim
      | some w =>
        rw [q] at p
        obtain ⟨v, q1, q2⟩ := ev.at_ i w q
        have p' : PstS X.K E D H μ ((fe ρ st).go ρ fun y st2 => (augW op w y st2).go ρ fun z st3 => .nx (ρ.set i (some z)) st3) := p
        refine ⟨v, q1, μ, st, ρ, S, ev, (p'.go S ev).imp fun y st1 H1 μ1 x1 S1 q3 vy ry => ?_⟩
        obtain ⟨e1, q3⟩ := q3
        exact dn_aug op ho _ _ _ _ _ _ _ _ _ S1 (q2.mono S x1) ry ((q3.go S1 e1).imp fun z st2 H2 μ2 x2 S2 q4 vz rz => q4.2.nxt S2 (q4.1.set rz))
/-! ### a, b, c = x, y, z -/
theorem z_par3 {i j l : Nat} {x y z : Str} {a b c : Expr} {fa fb fc : Rho → M W} {px py pz pt : Pos} {kt k2 pt2} (hc : X.calm = true) (hN : X.N.Nodup) (hi : X.N[i]? = some x) (hj : X.N[j]? = some y) (hl : X.N[l]? = some z) (hij : i ≠ j) (hil : i ≠ l) (hjl : j ≠ l)
    (hx : X.env.scope.names.lookup x = some .local) (hy : X.env.scope.names.lookup y = some .local) (hz : X.env.scope.names.lookup z = some .local) (ha : PE X a (TX X.K E fa)) (hb : PE X b (TX X.K E fb)) (hcc : PE X c (TX X.K E fc)) (hna : noStar a = true) (hnb : noStar b = true) (hnc : noStar c = true)
    (hw : swappedStores [.Tuple [.Name x px, .Name y py, .Name z pz] kt pt] (.Tuple [a, b, c] k2 pt2) X.env = pure (some [x, y, z])) :
    PS X (.Assign [.Tuple [.Name x px, .Name y py, .Name z pz] kt pt] (.Tuple [a, b, c] k2 pt2) pos) (TSx X.K E fun ρ st => (fa ρ st).go ρ fun x st1 => (fb ρ st1).go ρ fun y st2 => (fc ρ st2).go ρ fun z st3 => .nx (((ρ.set i (some x)).set j (some y)).set l (some z)) st3) :=
  ps_imp (ps_par3 hc hN hi hj hl hij hil hjl hx hy hz (pa_cons ha (pa_cons hb (pa_cons hcc pa_nil (star_cons hnc)) (star_cons hnb)) (star_cons hna)) hw rfl) fun D σ H h => by
    obtain ⟨μ, st, ρ, S, ev, p⟩ := h
    refine ⟨μ, st, ρ, S, ev, (p.go S ev).imp fun x st1 H1 μ1 x1 S1 q vx rx => ⟨μ1, st1, ρ, S1, q.1, (q.2.go S1 q.1).imp fun y st2 H2 μ2 x2 S2 q2 vy ry => ⟨μ2, st2, ρ, S2, q2.1, (q2.2.go S2 q2.1).imp fun z st3 H3 μ3 x3 S3 q3 vz rz => ?_⟩⟩⟩
    exact ⟨vx, vy, vz, rfl, q3.2.nxt S3 (((q3.1.set ((rx.mono S1 x2).mono S2 x3)).set (ry.mono S2 x3)).set rz)⟩
/-! ### o.f = e -/
theorem put_rel {K : PySem.W.Frag} {H : Hp} {μ : Mu} {f : Str} {w : W} {v : V} (rv : Rp K H μ w v) : ∀ {ns : List Str} {ws : List W} {vs : List V}, RpL K H μ ws vs → ns.length = ws.length →
    ∃ vs', putF f v (ns.zip vs) = (putW f w ns ws).1.zip vs' ∧ (putW f w ns ws).1.length = vs'.length ∧ RpL K H μ (putW f w ns ws).2 vs'
  | [], [], vs, r, _ => by
    simp only [RpL] at r; subst r
    exact ⟨[v], rfl, rfl, .cons rv .nil⟩
  | [], _ :: _, vs, r, h => by simp at h
  | _ :: _, [], vs, r, h => by simp at h
  | n :: ns, x :: ws, vs, r, h => by
    obtain ⟨u, r', rfl, h1, h2⟩ := r.uncons
    simp only [List.zip_cons_cons, putF, putW]
    by_cases e : n = f
    · rw [if_pos e, if_pos e]
      exact ⟨v :: r', rfl, by simpa [h2.length] using h, .cons rv h2⟩
    · rw [if_neg e, if_neg e]
      obtain ⟨vs', e1, e2, e3⟩ := put_rel (f := f) rv h2 (by simpa using h)
      exact ⟨u :: vs', by rw [e1]; rfl, by simp [e2], .cons h1 e3⟩
theorem z_setA {k : Nat} {Γ : Gm} {f : Str} (G : GOk X.prog X.w X.K X.mg X.base k Γ) (he : PE X e (TX X.K E fe)) (ho : PE X o (TX X.K E fo)) (hs : swapsWith e (some (.Attribute o f tpos)) pos.line X.env = pure false) :
    PS X (.Assign [.Attribute o f tpos] e pos) (TSx X.K E fun ρ st => (fe ρ st).go ρ fun w st1 => (fo ρ st1).go ρ fun x st2 => (setAW Γ f x w st2).go ρ fun _ st4 => .nx ρ st4) :=
  ps_imp (ps_fld ho he hs) fun D σ H h => by
    obtain ⟨μ, st, ρ, S, ev, p⟩ := h
    refine ⟨μ, st, ρ, S, ev, (p.go S ev).imp fun w st1 H1 μ1 x1 S1 q1 v r => ⟨μ1, st1, ρ, S1, q1.1, (q1.2.go S1 q1.1).imp fun wo st2 H2 μ2 x2 S2 q2 vo ro => ?_⟩⟩
    obtain ⟨e2, q2⟩ := q2
    have r2 := r.mono S1 x2
    cases wo with
    | ref i =>
      have p3 := q2.go S2 e2
      have p4 : Pst X.K (fun c d H' => E c d σ H') H2 μ2 ((getO i >>= fun ob => match ob with
        | .ins c ns ws => if Γ.fld c f = true ∧ ns.length < 1000 ∧ ns.length = ws.length then setO i (.ins c (putW f w ns ws).1 (putW f w ns ws).2) else bad
        | _ => bad) st2) (fun u st4 H4 μ4 => EnvR X.K H4 μ4 ρ σ ∧ PstS X.K E D H4 μ4 (.nx ρ st4)) := p3
      obtain ⟨ob, h1, p5⟩ := getO_ok p4
      obtain ⟨ad, rfl, h2, h3⟩ := S2.ref ro h1
      cases ob with
      | ins c ns ws =>
        obtain ⟨dx, vs, e4, hl, rl⟩ := h3
        obtain ⟨⟨c1, c2, c3⟩, p6⟩ := if_ok p5
        obtain ⟨C1, C2⟩ := G.fld _ _ c1
        obtain ⟨vs', e5, e6, e7⟩ := put_rel (f := f) r2 rl c3
        refine ⟨ad, _, dx, _, rfl, e4, C1, C2, ?_, ?_⟩
        · rw [List.length_zip, ← hl]; omega
        · unfold setO at p6
          have hlt : i < st2.length := (List.getElem?_eq_some_iff.mp h1).1
          rw [if_pos hlt] at p6
          rw [e5]
          have xw : Ext H2 μ2 (upd H2 ad (.ins (He.ga X.K c) dx ((putW f w ns ws).1.zip vs'))) μ2 := Ext.write (List.mem_of_getElem? h2)
          have Sw := S2.write (ob := .ins c (putW f w ns ws).1 (putW f w ns ws).2) (o := .ins (He.ga X.K c) dx ((putW f w ns ws).1.zip vs')) h2 ⟨dx, vs', rfl, e6, e7.kp (xw.kp S2)⟩
          obtain ⟨e8, p9⟩ := p6 _ _ xw Sw
          exact p9.nxt Sw e8
      | lst xs => exact p5.elim
      | dct ks ws => exact p5.elim
    | _ => exact q2.elim
end

/-! ### methods of built-in types -/
def Mf.nm (m : Mf) : Str := Str.ofString m.name
def Mf.id (m : Mf) : String := m.ty ++ "." ++ m.name
def rMf (K : PySem.W.Frag) : Mf → V → List V → Hp → VK → Prop
  | .append => rAppend
  | .join => fun x xs H Q => ∃ a p, ∃ ys : List Str, x = .str a ∧ xs = [.ref p] ∧ (SqL K H p (ys.map V.str) ∨ SqT K H p (ys.map V.str)) ∧ (ys.map (·.length)).sum + ys.length * a.length ≤ 16777216 ∧ Q (.str (Txt.join a ys)) H
theorem strs_rel {K : PySem.W.Frag} {H : Hp} {μ : Mu} : ∀ {ws : List W} {vs : List V} {ns : List Str}, RpL K H μ ws vs → strsOf ws = some ns → vs = ns.map V.str
  | [], vs, ns, r, e => by simp only [strsOf] at e; cases e; simp only [RpL] at r; subst r; rfl
  | w :: ws, vs, ns, r, e => by
    obtain ⟨v, r', rfl, h1, h2⟩ := r.uncons
    cases w with
    | str i =>
      simp only [strsOf] at e
      cases q : strsOf ws with
      | none => rw [q] at e; cases e
      | some ms =>
        rw [q] at e; cases e
        rw [rp_str] at h1
        subst h1
        rw [strs_rel h2 q]; rfl
    | _ => cases e
theorem itemsI_ok {K : PySem.W.Frag} {E : XK} {H : Hp} {μ : Mu} {st : Sto} {β : Type} {w : W} {v : V} {f : List W → M β} {Q : β → Sto → Hp → Mu → Prop} (r : Rp K H μ w v) (p : Pst K E H μ ((itemsI w >>= f) st) Q) :
    ∃ a vs ws, v = .ref a ∧ (SqL K H a vs ∨ SqT K H a vs) ∧ RpL K H μ ws vs ∧ Pst K E H μ (f ws st) Q := by
  cases w with
  | tup xs =>
    rw [rp_tup] at r
    obtain ⟨a, vs, rfl, h1, h2⟩ := r
    exact ⟨a, vs, xs, rfl, .inr h1, h2, p⟩
  | fl xs =>
    rw [rp_fl] at r
    obtain ⟨a, vs, rfl, h1, _, h2⟩ := r
    exact ⟨a, vs, xs, rfl, .inl (SqL.of h1), h2, p⟩
  | kl xs =>
    rw [rp_kl] at r
    obtain ⟨a, vs, rfl, h1, h2⟩ := r
    exact ⟨a, vs, xs, rfl, .inl h1.sq, h2, p⟩
  | _ => exact p.elim
theorem dn_mf {K : PySem.W.Frag} : ∀ m : Mf, DnM K (rMf K m) (bmW m) := by
  intro m E H μ st x xs w ws Q S rx r p
  cases m with
  | append =>
    cases w with
    | ref i =>
      obtain ⟨w, v, rfl, r1, p1⟩ := one1_ok r p
      have p2 : Pst K E H μ ((getO i >>= fun o => (lstOf o : M (List W)) >>= fun xs => if xs.length < sizeLine then (setO i (.lst (xs ++ [w])) >>= fun _ => pure .non) else bad) st) (QW K Q) := by
        rw [← bind_assoc]; exact p1
      obtain ⟨ob, h1, p3⟩ := getO_ok p2
      obtain ⟨ad, rfl, h2, h3⟩ := S.ref rx h1
      cases ob with
      | lst xs =>
        obtain ⟨vs, e4, rl⟩ := h3
        have p4 : Pst K E H μ ((if xs.length < sizeLine then (setO i (.lst (xs ++ [w])) >>= fun _ => pure .non) else bad) st) (QW K Q) := p3
        obtain ⟨hz, p5⟩ := if_ok p4
        obtain ⟨hlt, p6⟩ := setO_ok p5
        refine ⟨ad, vs, v, rfl, rfl, e4, by rw [← rl.length]; exact hz, ?_⟩
        have xw : Ext H μ (upd H ad (.lst (vs ++ [v]))) μ := Ext.write (List.mem_of_getElem? h2)
        have Sw := S.write (ob := .lst (xs ++ [w])) (o := .lst (vs ++ [v])) h2 ⟨_, rfl, (rl.append (.cons r1 .nil)).kp (xw.kp S)⟩
        exact p6 _ _ xw Sw _ (by rw [rp_non])
      | dct ks ws => exact p3.elim
      | ins c ns ws => exact p3.elim
    | _ => exact p.elim
  | join =>
    cases w with
    | str a =>
      obtain ⟨w, v, rfl, r1, p1⟩ := one1_ok r p
      obtain ⟨ad, vs, us, rfl, h1, h2, p2⟩ := itemsI_ok r1 p1
      obtain ⟨ys, e1, p3⟩ := ofOb_ok p2
      obtain ⟨hz, p4⟩ := if_ok p3
      rw [rp_str] at rx
      have e2 := strs_rel h2 e1
      subst e2
      exact ⟨a, ad, ys, rx, rfl, h1, of_decide_eq_true hz, Pst.pure S p4 _ (by rw [rp_str])⟩
    | _ => exact p.elim
theorem tyM_ok {K : PySem.W.Frag} {E : XK} {H : Hp} {μ : Mu} {st : Sto} {β : Type} {T : String} {w : W} {v : V} {f : Unit → M β} {Q : β → Sto → Hp → Mu → Prop} (S : StR K H μ st) (r : Rp K H μ w v) (p : Pst K E H μ ((tyM T w >>= f) st) Q) : tyV K T v H ∧ Pst K E H μ (f () st) Q := by
  have key : ∀ {T0 : String}, Pst K E H μ (((if T = T0 then (pure () : M Unit) else bad) >>= f) st) Q → T = T0 ∧ Pst K E H μ (f () st) Q := fun {T0} p => by
    by_cases h : T = T0
    · rw [if_pos h] at p; exact ⟨h, p⟩
    · rw [if_neg h] at p; exact p.elim
  cases w with
  | str s =>
    rw [rp_str] at r; subst r
    obtain ⟨h1, p1⟩ := key p
    exact ⟨h1, p1⟩
  | fl xs =>
    rw [rp_fl] at r
    obtain ⟨a, vs, rfl, h1, _⟩ := r
    obtain ⟨h2, p1⟩ := key p
    exact ⟨.inl ⟨h2, vs, SqL.of h1⟩, p1⟩
  | kl xs =>
    rw [rp_kl] at r
    obtain ⟨a, vs, rfl, h1, _⟩ := r
    obtain ⟨h2, p1⟩ := key p
    exact ⟨.inl ⟨h2, vs, h1.sq⟩, p1⟩
  | fd ks ws =>
    simp only [Rp] at r
    obtain ⟨a, vs, rfl, h1, _⟩ := r
    obtain ⟨h2, p1⟩ := key p
    exact ⟨.inr (.inr (.inl ⟨h2, .inl ⟨_, h1⟩⟩)), p1⟩
  | ref i =>
    have p' : Pst K E H μ ((getO i >>= fun o => (match o with
      | .lst _ => if T = "list" then (pure () : M Unit) else bad
      | .dct _ _ => if T = "dict" then pure () else bad
      | _ => bad) >>= f) st) Q := by
      rw [← bind_assoc]; exact p
    obtain ⟨o, h1, p2⟩ := getO_ok p'
    obtain ⟨a, rfl, h2, h3⟩ := S.ref r h1
    cases o with
    | lst xs =>
      obtain ⟨vs, e1, h4⟩ := h3
      obtain ⟨h5, p3⟩ := key p2
      exact ⟨.inl ⟨h5, vs, SqL.of e1⟩, p3⟩
    | dct ks ws =>
      obtain ⟨vs, e1, h4⟩ := h3
      obtain ⟨h5, p3⟩ := key p2
      exact ⟨.inr (.inr (.inl ⟨h5, .inl ⟨_, e1⟩⟩)), p3⟩
    | ins c ns ws => exact p2.elim
  | _ => exact p.elim
section
variable {X : Cx} {E : WX} {o a0 : Expr} {as : List Expr} {fo : Rho → M W} {fs : Rho → M (List W)} {pos apos : Pos}
theorem few_of {pos : Pos} {env : Env} {args : List Expr} (ha : args.all noStar = true) (hn : args.length < 29) :
    ((backTo pos (starEach args env)).all (fun x => !x.1) && (backToKw pos (keywordEach [] env)).all (fun x => x.1.isSome) && decide (args.length + ([] : List Keyword).length + (if ([] : List Keyword).isEmpty then 0 else 1) < 30)) = true := by
  have h1 : (backTo pos (starEach args env)).all (fun x => !x.1) = true := by
    have := star_any (pos := pos) (env := env) ha
    rw [List.all_eq_not_any_not]
    simp only [Bool.not_not]
    rw [this]; rfl
  rw [h1]
  simp only [Bool.true_and]
  show (true && decide (args.length + 0 + 0 < 30)) = true
  simp only [Bool.true_and, decide_eq_true_eq]
  omega
theorem bm_pe (m : Mf) {to : TE} {t : TA} (ho : PE X o to) (ha : PA X (a0 :: as) t) (hs : superFree o = true) (hst : (a0 :: as).all noStar = true) (hn : (a0 :: as).length < 29) (hl : (apos.endLine == pos.line) = true) :
    PE X (.Call (.Attribute o m.nm apos) (a0 :: as) [] pos) (tBM X.K m.ty (rMf X.K m) to t) := by
  have hst0 := hst
  rw [List.all_cons, Bool.and_eq_true] at hst
  cases m with
  | append => exact pe_bm PySem.F.plainAttrs_list PySem.F.slot_list_append PySem.F.type_list_append mt_append ho ha (base_of hs) (few_of hst0 hn) hl (star_cons hst.1) (star_any hst.2)
  | join => exact pe_bm PySem.F.plainAttrs_str F.slot_str_join F.type_str_join mt_join ho ha (base_of hs) (few_of hst0 hn) hl (star_cons hst.1) (star_any hst.2)
theorem s_bm (m : Mf) (ho : PE X o (TX X.K E fo)) (ha : PA X (a0 :: as) (TL X.K E fs)) (hs : superFree o = true) (hst : (a0 :: as).all noStar = true) (hn : (a0 :: as).length < 29) (hl : (apos.endLine == pos.line) = true) :
    PE X (.Call (.Attribute o m.nm apos) (a0 :: as) [] pos) (TX X.K E fun ρ => fo ρ >>= fun w => tyM m.ty w >>= fun _ => fs ρ >>= fun ws => bmW m w ws) :=
  pe_imp (bm_pe m ho ha hs hst hn hl) fun σ H Q h => by
    obtain ⟨μ, st, ρ, S, ev, p⟩ := h
    refine ⟨μ, st, ρ, S, ev, go1 S ev p.bind fun w st1 H1 μ1 x1 S1 e1 q v r => ?_⟩
    obtain ⟨h1, q1⟩ := tyM_ok S1 r q
    refine ⟨h1, μ1, st1, ρ, S1, e1, q1.bind.imp fun ws st2 H2 μ2 x2 S2 q2 vs rs => ?_⟩
    exact dn_mf m _ _ _ _ _ _ _ _ _ S2 (r.mono S1 x2) rs q2
end
/-! ### comprehensions as values -/
section
variable {X : Cx} {E : WX} {elt tgE iter : Expr} {ifs : List Expr} {scope : Scope} {own : List (Str × Nat)} {pos : Pos} {g : TG} {tg : Tg} {fI : Rho → M (List W)} {fi : Rho → M Bool} {fe : Rho → M W} {m : Bool}
theorem s_lc (hc : X.calm = true) (hN : X.N.Nodup) (hi : PI X tgE iter (TIx X.K E fI)) (ok : BlkOk X.N X.env.scope scope own) (hd : GDn X.K g tg) (hsl : ∀ i ∈ tg.slots, i ∈ own.map (·.2))
    (hg : ∀ (s : Shared) (H : Hp) (C : Addr) (cl : List (Str × Addr)) (fp : List Addr), PG (X.blk s H scope (compEnvC scope cl C X.env) fp) tgE g)
    (ht : ∀ (s : Shared) (H : Hp) (C : Addr) (cl : List (Str × Addr)) (fp : List Addr), PTs (X.blk s H scope (compEnvC scope cl C X.env) fp) ifs (TB X.K EF fi))
    (he : ∀ (s : Shared) (H : Hp) (C : Addr) (cl : List (Str × Addr)) (fp : List Addr), PE (X.blk s H scope (compEnvC scope cl C X.env) fp) elt (TX X.K EF fe)) (hs : ∀ x, foldedSetIterable iter X.env x = pure x) :
    PE X (.ListComp elt [⟨tgE, iter, ifs, 0⟩] scope pos) (TX X.K E fun ρ => fI ρ >>= fun items => (lcM (lcF tg fi fe (wipeR ρ (own.map (·.2)))) items).noEr >>= lcEnd m) :=
  pe_imp (pe_lc (own := own) hc hN hi ok hg ht he hs) (lc_read hd hsl)
theorem ts_none : PTs X [] (TB X.K E fun _ => pure true) := ⟨fun pins s σ H Q I h => pts_nil.run pins s σ H Q I (by
  obtain ⟨μ, st, ρ, S, ev, p⟩ := h
  exact Pst.pure S p)⟩
theorem ts_one {c : Expr} (h : PT X c (TB X.K E fi)) : PTs X [c] (TB X.K E fi) := pts_one h
end
end Vm
/-! Vm, part R: the loop of a set comprehension, whatever kind of set it fills. -/
namespace Vm
open PySem PySem.Spec PyProof.Rows L2 PpSet

/-- a set as it is made -/
abbrev emptySet (w : World) : Obj := { cls := .type "set", dict := none, data := .set #[] 0 (.fresh 0 0 (!w.params.followText "set-order")) }
/-- the kind of set: how a state of it lies in the heap, and that add keeps to okA -/
structure Adds {α : Type} (X : Cx) (Z : Addr → α → HO) (z0 : α) (okA : Hp → V → α → (α → Prop) → Prop) : Prop where
  born : ∀ (H : Hp) (h : Heap), ObjOk X.prog X.w H (h.push (emptySet X.w)) h.objs.size (Z h.objs.size z0)
  add : ∀ (Y : Cx) (pins : List (Addr × Obj)) (σ : L2.St) (H : Hp) (s : Shared) (D : Addr) (y : V) (z : Value) (c : α) (R : α → Prop) (Q E : Value → Shared → Prop),
    Y.prog = X.prog ∧ Y.w = X.w ∧ Y.K = X.K ∧ Y.A = X.A → Inv Y pins σ H s → H D = some (Z D c) → RelV y z → okA H y c R →
    (∀ c' t, R c' → Inv Y pins σ (upd H D (Z D c')) t → Q .none t) → wpAny (model Y.prog Y.w) Y.A (call (.builtin "set.add") [.ref D, z]) Q E s
/-- the turns: n of them; W i holds ahead of the i-th, Q behind the last -/
structure Turns {α : Type} (Z : Addr → α → HO) (okA : Hp → V → α → (α → Prop) → Prop) (J : L2.It) (g : TG) (tt : TT) (te : TE) (vs : List Nat) (σ : L2.St) (D : Addr) (n : Nat) (W : Nat → Hp → Prop) (Q : Hp → Prop) : Prop where
  last : ∀ H, W n H → J.stop n H ∧ Q H
  next : ∀ i H, i < n → W i H → J.go i H ∧ ∀ x G, J.yld i H x G → g x (L2.wipe σ vs) G fun τ G1 => L2.wipe τ vs = L2.wipe σ vs ∧
    tt τ G1 fun b G2 => (b = false → W (i + 1) G2) ∧ (b = true → te τ G2 fun y G3 => ∃ (c : α) (R : α → Prop), G3 D = some (Z D c) ∧ okA G3 y c R ∧ ∀ c', R c' → W (i + 1) (upd G3 D (Z D c')))
section
variable {X : Cx} {s0 : Shared} {H0 : Hp} {scope : Scope} {ce : Env} {fp : List Addr}
/-- the iterator's objects may turn within the block -/
theorem blk_fp {τ : L2.St} {G : Hp} {t : Shared} (I : Inv (X.blk s0 H0 scope ce fp) [] τ G t) (un : ∀ b ∈ fp, G b = none) : ∀ b ∈ fp, FpOk (X.blk s0 H0 scope ce fp) [] G b := by
  intro b m
  have own := I.ok.exf b m
  refine ⟨un b m, own.1, I.ok.exfs b m, Or.inl m, own.2, ?_⟩
  intro p hp
  exact absurd (id hp : p ∈ ([] : List (Addr × Obj))) List.not_mem_nil
variable {it : Addr} {tn : Nat → Heap → Prop} {J : L2.It} {tgE : Expr}
/-- a turn is over: its pins and its own names are forgotten -/
theorem blk_over (T : Turn X.prog X.w X.K tgE J fp it tn) {vs : List Nat} {σ τ : L2.St} {G : Hp} {t u : Shared} {i : Nat} (w : L2.wipe τ vs = L2.wipe σ vs) (at_ : tn i t.heap)
    (I : Inv (X.blk s0 H0 scope ce fp) ([] ++ pinsAt fp t.heap) τ G u) : Inv (X.blk s0 H0 scope ce fp) [] (L2.wipe σ vs) G u ∧ tn i u.heap ∧ ∀ b ∈ fp, G b = none := by
  have held : ∀ b ∈ fp, ∀ o, t.heap.get? b = some o → u.heap.get? b = some o ∧ G b = none := by
    intro b m o e
    have z := I.pin (b, o) (List.mem_append.mpr (.inr (List.mem_append.mpr (.inr (mem_pinsAt m e)))))
    exact ⟨z.1, z.2.1⟩
  refine ⟨?_, T.keep i _ _ at_ fun b m o e => (held b m o e).1, fun b m => ?_⟩
  · refine Inv.weak (Inv.unpinned (pins := []) I) ?_ ?_
    · rw [← w]; exact wipe_length τ vs
    · intro j v e
      rw [← w] at e
      exact (wipe_some e).1
  · obtain ⟨o, e, _⟩ := T.obj i _ at_ b m
    exact (held b m o e).2
end
section
variable {α : Type} {X : Cx} {Z : Addr → α → HO} {z0 : α} {okA : Hp → V → α → (α → Prop) → Prop} {pins : List (Addr × Obj)} {σ : L2.St} {elt tgE iter : Expr} {ifs : List Expr} {scope : Scope} {pos : Pos} {g : TG} {tt : TT} {te : TE} {vs : List Nat} {ce : Env} {s0 : Shared} {H0 : Hp} {fp : List Addr} {it D : Addr} {tn : Nat → Heap → Prop} {J : L2.It} {n : Nat} {W : Nat → Hp → Prop} {Q : Hp → Prop} {R : Result → Shared → Prop}
/-- the loop within its block -/
theorem set_loop (ad : Adds X Z z0 okA) (calm : X.calm = true) (T : Turn X.prog X.w X.K tgE J fp it tn) (tu : Turns Z okA J g tt te vs σ D n W Q)
    (pg : PG (X.blk s0 H0 scope ce fp) tgE g) (pt : PTs (X.blk s0 H0 scope ce fp) ifs tt) (pe : PE (X.blk s0 H0 scope ce fp) elt te)
    (done : ∀ G t, Inv (X.blk s0 H0 scope ce fp) [] (L2.wipe σ vs) G t → Q G → R (.ok .next) t)
    {G : Hp} {t : Shared} (I : Inv (X.blk s0 H0 scope ce fp) [] (L2.wipe σ vs) G t) (at_ : tn 0 t.heap) (un : ∀ b ∈ fp, G b = none) (w0 : W 0 G) :
    codeAny (model X.prog X.w) X.A (.compLoop (.SetComp elt [⟨tgE, iter, ifs, 0⟩] scope pos) 0 (.ref it) (.ref D) ce) R t := by
  let Lp : Nat → Shared → Prop := fun k u => ∃ i G', i + k = n ∧ (Inv (X.blk s0 H0 scope ce fp) [] (L2.wipe σ vs) G' u ∧ tn i u.heap ∧ ∀ b ∈ fp, G' b = none) ∧ W i G'
  apply compLoopS_any Lp _ n ⟨0, G, Nat.zero_add n, ⟨I, at_, un⟩, w0⟩
  intro k u here
  obtain ⟨i, G1, ik, ⟨I1, at1, un1⟩, w1⟩ := here
  have fps := blk_fp I1 un1
  cases k with
  | zero =>
    obtain rfl : i = n := ik
    obtain ⟨st, q⟩ := tu.last _ w1
    have ends := T.done (X.blk s0 H0 scope ce fp) rfl rfl rfl calm i [] u _ G1 (fun _ _ => False) I1 fps at1 st
    apply thnF ends
    rintro _ v ⟨rfl, I2⟩
    exact done _ _ I2 q
  | succ k =>
    obtain ⟨go, each⟩ := tu.next i G1 (by omega) w1
    -- what is asked behind the turn
    have behind : ∀ {τ : L2.St} {G2 : Hp} {v v' : Shared}, L2.wipe τ vs = L2.wipe σ vs → tn (i + 1) v.heap → Inv (X.blk s0 H0 scope ce fp) ([] ++ pinsAt fp v.heap) τ G2 v' → W (i + 1) G2 → ∃ m, m < k + 1 ∧ Lp m v' := by
      intro τ G2 v v' e a J' w2
      exact ⟨k, Nat.lt_succ_self k, i + 1, G2, by omega, blk_over T e a J', w2⟩
    apply thnF (T.item (X.blk s0 H0 scope ce fp) rfl rfl rfl calm i [] u _ G1 (fun _ _ => False) I1 fps at1 go)
    rintro _ v ⟨z, rfl, more⟩
    apply thnF more
    rintro - v1 ⟨x, G2, I2, rx, yx, at2, un2⟩
    apply thnF (pg.run _ v1 _ G2 x z _ (I2.pinned (blk_fp I2 un2) (T.obj _ _ at2)) rx (each x G2 yx))
    rintro - v2 ⟨τ, G3, I3, same, tests⟩
    apply thnF (pt.run _ v2 τ G3 _ I3 tests)
    rintro b v3 ⟨G4, I4, no, yes⟩
    by_cases hb : b = true
    · rw [if_pos hb]
      apply thnF (pe.run _ v3 τ G4 _ I4 (yes hb))
      rintro zz v4 ⟨y, G5, I5, ry, c, Rc, there, fits, goes⟩
      refine ad.add (X.blk s0 H0 scope ce fp) _ _ _ _ _ _ _ _ _ _ _ ⟨rfl, rfl, rfl, rfl⟩ I5 there ry fits ?_
      intro c' v5 hc I6
      exact behind same at2 I6 (goes c' hc)
    · rw [if_neg hb]
      exact behind same at2 I4 (no (Bool.eq_false_iff.mpr hb))
end
section
variable {α : Type} {X : Cx} {Z : Addr → α → HO} {z0 : α} {okA : Hp → V → α → (α → Prop) → Prop} {pins : List (Addr × Obj)} {s : Shared} {σ : L2.St} {H : Hp} {Q : VK} {elt tgE iter : Expr} {ifs : List Expr} {scope : Scope} {own : List (PySem.Str × Nat)} {pos pos' : Pos} {wi : TI} {g : TG} {tt : TT} {te : TE}
/-- {e for .. in .. if ..}: the new set stands at D -/
theorem set_comp (ad : Adds X Z z0 okA) (calm : X.calm = true) (nd : X.N.Nodup) (ok : BlkOk X.N X.env.scope scope own) (plain : ∀ x, foldedSetIterable iter X.env x = pure x) (hi : PI X tgE iter wi)
    (pg : ∀ s G C cl fp, PG (X.blk s G scope (compEnvC scope cl C X.env) fp) tgE g) (pt : ∀ s G C cl fp, PTs (X.blk s G scope (compEnvC scope cl C X.env) fp) ifs tt) (pe : ∀ s G C cl fp, PE (X.blk s G scope (compEnvC scope cl C X.env) fp) elt te)
    (I : Inv X pins σ H s) (h : wi σ H fun J G => ∀ D, G D = none → ∃ n W, W 0 (upd G D (Z D z0)) ∧ Turns Z okA J g tt te (own.map (·.2)) σ D n W (Q (.ref D))) :
    wpAny (model X.prog X.w) X.A (comprehension (.SetComp elt [⟨tgE, iter, ifs, 0⟩] scope pos) scope X.env pos' (newSet (.type "set")) false (eval iter X.env) none) (EP X pins σ Q) X.xe s := by
  have cells : ∀ y ∈ scope.names, y.2 = .free → ∃ c, X.env.cells.lookup y.1 = some c := by
    intro y m e
    have := ok.free y m e
    exact I.ok.has _ this
  apply wpAny_comprehension_free rfl plain (closure_ok cells) ok.kind (by
    intro y m e
    exact e ▸ ok.uniq y m)
  apply thn (hi.run pins s σ H _ I h)
  intro _ _ came
  apply thn came
  rintro _ s2 ⟨it, fp, tn, J, G, rfl, I2, T, at2, f2, q⟩
  apply newSet_ok
  apply newEnv_comp
  obtain ⟨n, W, w0, tu⟩ := q s2.heap.objs.size (I2.hok.fresh (Nat.le_refl _))
  -- the state with the new set
  let s3 : Shared := { s2 with heap := s2.heap.push (emptySet X.w) }
  let G3 : Hp := upd G s2.heap.objs.size (Z s2.heap.objs.size z0)
  have old : ∀ b o, s2.heap.get? b = some o → s3.heap.get? b = some o := fun b o e => Heap.get?_push_of_some _ e
  have I3 : Inv X pins σ G3 s3 := I2.laid (t' := s2.toks) old (Nat.le_refl _) (ad.born _ _)
  have small : ∀ b ∈ fp, b < s2.heap.objs.size := by
    intro b m
    obtain ⟨o, e, _⟩ := T.obj 0 _ at2 b m
    exact Heap.lt_size e
  have f3 : ∀ b ∈ fp, FpOk X pins G3 b ∧ b < s3.heap.objs.size := by
    intro b m
    have lt := small b m
    constructor
    · refine ⟨?_, (f2 b m).2⟩
      show upd G _ _ b = none
      rw [upd_ne (Nat.ne_of_lt lt)]; exact (f2 b m).1
    · show b < (s2.heap.push _).objs.size
      rw [Heap.size_push]; exact Nat.lt_succ_of_lt lt
  have I4 := block_start I3 ok nd f3
  have at4 : tn 0 (pushCells (s3.heap.push { cls := .type "dict", data := .dict #[] }) scope.names) := by
    refine T.keep 0 _ _ at2 fun b _ o e => pushCells_keeps _ _ _ _ ?_
    exact Heap.get?_push_of_some _ (old b o e)
  have back : ∀ (ce : Env) (R : Result → Shared → Prop), ce.locals = s3.heap.objs.size → (∀ G' t, Inv (X.blk s3 G3 scope ce fp) [] (L2.wipe σ (own.map (·.2))) G' t → Q (.ref s2.heap.objs.size) G' → R (.ok .next) t) →
      PG (X.blk s3 G3 scope ce fp) tgE g → PTs (X.blk s3 G3 scope ce fp) ifs tt → PE (X.blk s3 G3 scope ce fp) elt te →
      Inv (X.blk s3 G3 scope ce fp) [] (L2.wipe σ (own.map (·.2))) G3 { s3 with heap := pushCells (s3.heap.push { cls := .type "dict", data := .dict #[] }) scope.names } →
      codeAny (model X.prog X.w) X.A (.compStart (.SetComp elt [⟨tgE, iter, ifs, 0⟩] scope pos) 0 (.ref it) (.ref s2.heap.objs.size) ce) R { s3 with heap := pushCells (s3.heap.push { cls := .type "dict", data := .dict #[] }) scope.names } := by
    intro ce R _ done a b c I5
    have run := set_loop (iter := iter) (pos := pos) ad calm T tu a b c done I5 at4 (fun b m => (f3 b m).1.1) w0
    exact codeAny_compStart_set run (T.self X.A 0 _ _ _ at4 run)
  apply back _ _ rfl _ (pg ..) (pt ..) (pe ..) I4
  intro G' t J' q'
  -- out of the block
  obtain ⟨m, names, _⟩ := J'.loc
  have I5 : Inv X pins σ G' t := by
    refine I3.call' (ch := fp) J'.os J'.base J'.hok J'.bare ?_
    intro b mb
    obtain ⟨_, z1, _, z3, z4, z5⟩ := (f3 b mb).1
    exact ⟨z3, z1, z4, z5⟩
  obtain ⟨y0, y1, _, y3, y4, y5⟩ := I3.fpOk (Nat.le_refl s3.heap.objs.size) (J'.free : G' s3.heap.objs.size = none)
  refine ⟨m, names, fun h' but => ⟨.ref s2.heap.objs.size, G', ?_, rfl, q'⟩⟩
  exact I5.turned (t' := t.toks) (fun b o ne e => (but.2 b ne).trans e) y0 y1 y3 y4 y5
end
end Vm
/-! Vm, part S: sets of ints, of tuples of ints; len of them. -/
namespace Vm
open PySem PySem.Spec PyProof.Rows L2 PpSet

/-! ### the two kinds -/
def SetIO (w : World) (a : Addr) (c : (Int → Bool) × Nat) : HO := .ext fun h => SetR w h a c.1 c.2
theorem setIO_new {w : World} {P : Program} {H : Hp} {h : Heap} {a : Addr} {c : (Int → Bool) × Nat} (R : SetR w h a c.1 c.2) : ObjOk P w H h a (SetIO w a c) := by
  have ⟨o, _, _, _, ho, _⟩ := R
  exact ⟨R, ⟨o, ho⟩, fun h1 h2 p k => SetR.at p k⟩
def okI (H : Hp) (y : V) (c : (Int → Bool) × Nat) (R : (Int → Bool) × Nat → Prop) : Prop := ∃ k, y = .int k ∧ c.2 + 1 < scanBound ∧ R (fun j => c.1 j || decide (j = k), if c.1 k = true then c.2 else c.2 + 1)
theorem addI {X' : Cx} {pins : List (Addr × Obj)} {σ : L2.St} {H : Hp} {s : Shared} {D : Addr} {y : V} {z : Value} {c : (Int → Bool) × Nat} {R : (Int → Bool) × Nat → Prop} {Q : Value → Shared → Prop} {E : Value → Shared → Prop} (I : Inv X' pins σ H s) (hD : H D = some (SetIO X'.w D c)) (r : RelV y z) (ok : okI H y c R)
    (h : ∀ c' s', R c' → Inv X' pins σ (upd H D (SetIO X'.w D c')) s' → Q .none s') : wpAny (model X'.prog X'.w) X'.A (call (.builtin "set.add") [.ref D, z]) Q E s := by
  obtain ⟨k, rfl, hb, hR⟩ := ok
  obtain ⟨t, rfl⟩ := r
  have R0 : SetR X'.w s.heap D c.1 c.2 := (I.hok D _ hD).1
  refine setR_add R0 hb fun h' sb new => ?_
  have he : ∃ u, h'.get? D = some u := by
    have ⟨o, _, _, _, ho, _⟩ := new
    exact ⟨o, ho⟩
  exact h _ _ hR (I.write (e := D) (t' := s.toks + 1) (by rw [hD]; trivial) (.inl rfl) (fun b u hb hu => (sb.2 b hb).trans hu) he (setIO_new new))
def okT (K : PySem.W.Frag) (H : Hp) (y : V) (c : List (Addr × List Int)) (R : List (Addr × List Int) → Prop) : Prop := ∃ b k, y = .ref b ∧ SqT K H b (k.map V.int) ∧ (∀ p ∈ c, SqT K H p.1 (p.2.map V.int)) ∧ c.length + 1 < 64 ∧
  ∀ c', (k ∈ c.map (·.2) → c' = c) → (k ∉ c.map (·.2) → c'.Perm ((b, k) :: c)) → R c'
theorem addT {X' : Cx} {pins : List (Addr × Obj)} {σ : L2.St} {H : Hp} {s : Shared} {D : Addr} {y : V} {z : Value} {c : List (Addr × List Int)} {R : List (Addr × List Int) → Prop} {Q : Value → Shared → Prop} {E : Value → Shared → Prop} (hu : X'.A.units + 64 < cLine) (I : Inv X' pins σ H s) (hD : H D = some (SetTO X'.prog X'.w D c)) (r : RelV y z) (ok : okT X'.K H y c R)
    (h : ∀ c' s', R c' → Inv X' pins σ (upd H D (SetTO X'.prog X'.w D c')) s' → Q .none s') : wpAny (model X'.prog X'.w) X'.A (call (.builtin "set.add") [.ref D, z]) Q E s := by
  obtain ⟨b, k, rfl, hb, hc, hl, hR⟩ := ok
  cases (show z = Value.ref b from r)
  have R0 : SetT0 X'.prog X'.w s.heap D c := (I.hok D _ hD).1
  obtain ⟨es, ep, t, R1⟩ := R0.full fun p hp => I.isT (hc p hp)
  have hx := I.isT hb
  obtain ⟨o, ho, hex, hd⟩ := R1.ob
  have ty : s.TypeIs (.ref D) "set" := ⟨o, ho, hex.1⟩
  refine wpAny_call_entry F.slot_set_add ty F.entry_set_add ?_ (F.args_set_add_2 _ _)
  unfold Builtin.«set.add» Builtin.Frozenset.oneOther
  simp only [List.isEmpty_nil, bind_assoc]
  unfold Builtin.Frozenset.addrOf setAdd
  refine wpAny_bind (wpAny_pure ?_)
  try dsimp only
  refine wpAny_bind ?_
  refine wpAny_holding ?_
  have hu1 : X'.A.in1.units < cLine := by
    show X'.A.units + 1 < cLine
    omega
  refine wpAny_bind (wpAny_pyHash_tuple hu1 hx ?_)
  refine add_at (s := { s with toks := s.toks + (k.length + 1) }) R1 hx hu1 hl fun bb h' L' es' ep' t' sb new h1 h2 => ?_
  show wpAny _ _ (ret Value.none) _ _ _
  refine wpAny_pure ⟨_, rfl, ?_⟩
  have he : ∃ u, h'.get? D = some u := by
    obtain ⟨o, ho, _⟩ := new.ob
    exact ⟨o, ho⟩
  exact h _ _ (hR L' h1 h2) (I.write (e := D) (t' := s.toks + (k.length + 1)) (by rw [hD]; trivial) (.inl rfl) (fun b u hb hu => (sb.2 b hb).trans hu) he (setTO_new new.t0))
/-! ### len of such a set -/
theorem len_I {X : Cx} {pins : List (Addr × Obj)} {σ : L2.St} {H : Hp} {s : Shared} {D : Addr} {c : (Int → Bool) × Nat} {Q : VK} {E : Value → Shared → Prop} (I : Inv X pins σ H s) (hD : H D = some (SetIO X.w D c)) (q : Q (.int c.2) H) : wpAny (model X.prog X.w) X.A (call (.builtin "len") [.ref D]) (EP X pins σ Q) E s := by
  have R0 : SetR X.w s.heap D c.1 c.2 := (I.hok D _ hD).1
  obtain ⟨o, es, ep, t, ho, hex, hd, _, _, _, hb, hf, hn, _⟩ := R0
  exact call_len_set ho hex hd hf (by unfold scanBound at hb; omega) ⟨.int c.2, H, I.tok _, ⟨_, by rw [hn]⟩, q⟩
theorem len_T {X : Cx} {pins : List (Addr × Obj)} {σ : L2.St} {H : Hp} {s : Shared} {D : Addr} {c : List (Addr × List Int)} {Q : VK} {E : Value → Shared → Prop} (I : Inv X pins σ H s) (hD : H D = some (SetTO X.prog X.w D c)) (q : Q (.int c.length) H) : wpAny (model X.prog X.w) X.A (call (.builtin "len") [.ref D]) (EP X pins σ Q) E s := by
  have R0 : SetT0 X.prog X.w s.heap D c := (I.hok D _ hD).1
  obtain ⟨es, ep, t, ⟨o, ho, hex, hd⟩, hr, tab, nd, hp, hl, hm, hn⟩ := R0.ex
  have hz : es.size = c.length := by
    have := congrArg List.length hr
    simpa [rowsOf] using this
  have h1 := tab.sz
  rw [List.length_map] at h1
  have hf : t.fits es.size = true := by
    unfold SetTable.fits SetTable.fill
    rw [tab.dm, Bool.and_eq_true, beq_iff_eq, decide_eq_true_eq]
    show t.place.size = es.size ∧ t.place.size + 0 ≤ t.mask
    omega
  exact call_len_set ho hex hd hf (by omega) ⟨.int c.length, H, I.tok _, ⟨_, by rw [hz]⟩, q⟩
/-! ### an object beside the store changes -/
section
variable {K : PySem.W.Frag} {H H1 : Hp} {μ μ1 : Mu} {st : Sto}
def Odd (o : HO) : Prop := (∀ vs, o ≠ .tup vs) ∧ ∀ b u, o ≠ .frz b u
theorem kp_odd {D : Addr} {o o' : HO} (h : H D = some o) (ho : Odd o) (nd : D ∉ μ.d) : Kp H μ (upd H D o') μ :=
  ⟨fun a vs q => by rw [upd_ne (fun z => by rw [z, h] at q; cases q; exact ho.1 vs rfl)]; exact q, fun a b u q => by rw [upd_ne (fun z => by rw [z, h] at q; cases q; exact ho.2 b u rfl)]; exact q,
    fun a u hd q => by rw [upd_ne (fun z => nd (by rw [← z]; exact hd))]; exact q, fun _ h => h, fun _ _ h => h⟩
theorem StR.odd (S : StR K H μ st) {D : Addr} {o o' : HO} (h : H D = some o) (ho : Odd o) (nm : D ∉ μ.m) (nd : D ∉ μ.d) : StR K (upd H D o') μ st :=
  ⟨S.len, S.nd, S.dis, fun b hb => by
    by_cases z : b = D
    · subst z; exact ⟨o', upd_same⟩
    · obtain ⟨u, hu⟩ := S.hd b hb
      exact ⟨u, by rw [upd_ne z]; exact hu⟩, fun i ob a h1 h2 => by
    have hne : a ≠ D := fun z => by
      subst z
      exact nm (List.mem_of_getElem? h2)
    rw [upd_ne hne]
    exact (S.at_ i ob a h1 h2).kp (kp_odd h ho nd)⟩
theorem Ext.odd {D : Addr} {o : HO} (x : Ext H1 μ1 H μ) (hD : H1 D = none) : Ext H1 μ1 (upd H D o) μ := ⟨x.pre, x.sub, x.new, x.newd, fun a o ha n => by
    have : a ≠ D := ne_of_none ha hD
    rw [upd_ne this]
    exact x.keep a o ha n, fun a o ha => by
    have : a ≠ D := ne_of_none ha hD
    rw [upd_ne this]
    exact x.stay a o ha⟩
end
/-! ### how many are unlike -/
theorem insU_len {α : Type} [DecidableEq α] : ∀ (l acc : List α), (l.foldl insU acc).length ≤ acc.length + l.length
  | [], acc => Nat.le_refl _
  | x :: l, acc => by
    have := insU_len l (insU acc x)
    rw [List.foldl_cons]
    have h2 : (insU acc x).length ≤ acc.length + 1 := by
      unfold insU
      split
      · omega
      · simp
    simp only [List.length_cons]
    omega
theorem intsOf_snoc : ∀ {ws : List W} {w : W} {r : List W} {ns : List Int}, intsOf (ws ++ w :: r) = some ns → ∃ ms k rs, intsOf ws = some ms ∧ w = .int k ∧ intsOf r = some rs ∧ ns = ms ++ k :: rs ∧ intsOf (ws ++ [w]) = some (ms ++ [k])
  | [], w, r, ns, h => by
    cases w with
    | int k =>
      simp only [List.nil_append, intsOf] at h
      cases q : intsOf r with
      | none => rw [q] at h; cases h
      | some rs => rw [q] at h; cases h; exact ⟨[], k, rs, rfl, rfl, rfl, rfl, rfl⟩
    | _ => cases h
  | u :: ws, w, r, ns, h => by
    cases u with
    | int j =>
      simp only [List.cons_append, intsOf] at h
      cases q : intsOf (ws ++ w :: r) with
      | none => rw [q] at h; cases h
      | some ns' =>
        rw [q] at h; cases h
        obtain ⟨ms, k, rs, h1, h2, h3, h4, h5⟩ := intsOf_snoc q
        exact ⟨j :: ms, k, rs, by simp [intsOf, h1], h2, h3, by simp [h4], by simp [intsOf, h5]⟩
    | _ => cases h
theorem tupsI_snoc : ∀ {ws : List W} {w : W} {r : List W} {ns : List (List Int)}, tupsI (ws ++ w :: r) = some ns → ∃ ms k rs, tupsI ws = some ms ∧ tupI w = some k ∧ tupsI r = some rs ∧ ns = ms ++ k :: rs ∧ tupsI (ws ++ [w]) = some (ms ++ [k])
  | [], w, r, ns, h => by
    simp only [List.nil_append, tupsI] at h
    cases qw : tupI w with
    | none => rw [qw] at h; cases h
    | some k =>
      rw [qw] at h
      dsimp only at h
      cases q : tupsI r with
      | none => rw [q] at h; cases h
      | some rs => rw [q] at h; cases h; exact ⟨[], k, rs, rfl, rfl, rfl, rfl, by simp [tupsI, qw]⟩
  | u :: ws, w, r, ns, h => by
    simp only [List.cons_append, tupsI] at h
    cases qu : tupI u with
    | none => rw [qu] at h; cases h
    | some j =>
      rw [qu] at h
      dsimp only at h
      cases q : tupsI (ws ++ w :: r) with
      | none => rw [q] at h; cases h
      | some ns' =>
        rw [q] at h; cases h
        obtain ⟨ms, k, rs, h1, h2, h3, h4, h5⟩ := tupsI_snoc q
        exact ⟨j :: ms, k, rs, by simp [tupsI, qu, h1], h2, h3, by simp [h4], by simp [tupsI, qu, h5]⟩
/-! ### the loop -/
/-- what a set is to the values put in so far -/
structure SetK (K : PySem.W.Frag) (α : Type) where
  Z : Addr → α → HO
  z0 : α
  okA : Hp → V → α → (α → Prop) → Prop
  rl : Hp → List W → List W → α → Prop
  odd : ∀ D c, Odd (Z D c)
  mono : ∀ H H' μ μ' acc ws c, Kp H μ H' μ' → rl H acc ws c → rl H' acc ws c
  step : ∀ H μ acc w rest c v, Rp K H μ w v → rl H acc (w :: rest) c → okA H v c fun c' => rl H (acc ++ [w]) rest c'
structure ScI {α : Type} (K : PySem.W.Frag) (T : SetK K α) (H1 : Hp) (μ1 : Mu) (D : Addr) (items ws : List W) (stF : Sto) (f : W → M (Option W)) (i : Nat) (H : Hp) : Prop where
  ex : ∃ μ st acc c rest, Ext H1 μ1 H μ ∧ StR K H μ st ∧ D ∉ μ.m ∧ D ∉ μ.d ∧ H D = some (T.Z D c) ∧ T.rl H acc rest c ∧ lcM f (items.drop i) st = .ok rest stF ∧ ws = acc ++ rest
section
variable {X : Cx} {E : WX} {elt tgE iter : Expr} {ifs : List Expr} {scope : Scope} {own : List (Str × Nat)} {pos : Pos} {g : TG} {tg : Tg} {fI : Rho → M (List W)} {fi : Rho → M Bool} {fe : Rho → M W} {m : Bool}
theorem sc_read {α : Type} {K : PySem.W.Frag} (T : SetK K α) {vs : List Nat} (hg : GDn K g tg) (hsl : ∀ i ∈ tg.slots, i ∈ vs) {σ : L2.St} {H : Hp} {Q : VK} {μ : Mu} {st : Sto} {ρ : Rho} {items ws : List W} {stF : Sto} (S : StR K H μ st) (e : EnvR K H μ ρ σ)
    {J : L2.It} (hJ : ItR K H μ items J) (hr : T.rl H [] ws T.z0)
    (hok : lcM (lcF tg fi fe (wipeR ρ vs)) items st = .ok ws stF) (hQ : ∀ D H' μ' c, Ext H μ H' μ' → StR K H' μ' stF → H' D = some (T.Z D c) → T.rl H' ws [] c → Q (.ref D) H') :
    ∀ D, H D = none → ∃ n W, W 0 (upd H D (T.Z D T.z0)) ∧ Turns T.Z T.okA J g (TB K EF fi) (TX K EF fe) vs σ D n W (Q (.ref D)) := fun D hD => by
  have nD : D ∉ μ.m := S.fresh hD
  have nDd : D ∉ μ.d := S.freshd hD
  have xD := Ext.laid (o := T.Z D T.z0) S hD
  have SD : StR K (upd H D (T.Z D T.z0)) μ st := S.laid hD
  have eσ := e.wipe vs
  refine ⟨items.length, ScI K T H μ D items ws stF (lcF tg fi fe (wipeR ρ vs)), ⟨μ, st, [], T.z0, ws, xD, SD, nD, nDd, upd_same, T.mono _ _ _ _ _ _ _ (xD.kp S) hr, by simpa using hok, rfl⟩, ?_, ?_⟩
  · rintro H' ⟨μ', st', acc, c, rest, x', S', nD', nDd', hD', ra, hl, hw⟩
    refine ⟨hJ.stop H' μ' st' (x'.kp S) S', ?_⟩
    rw [List.drop_length] at hl
    simp only [lcM] at hl
    cases hl
    rw [List.append_nil] at hw
    subst hw
    exact hQ D H' μ' c x' S' hD' ra
  · rintro i H' hlt ⟨μ', st', acc, c, rest, x', S', nD', nDd', hD', ra, hl, hw⟩
    have hgi : items[i]? = some items[i] := by simp [hlt]
    obtain ⟨h1, h2⟩ := hJ.go i items[i] H' μ' st' hgi (x'.kp S) S'
    refine ⟨h1, fun x H2 hy => ?_⟩
    obtain ⟨x2, S2, rx⟩ := h2 x H2 hy
    have hdrop : items.drop i = items[i] :: items.drop (i + 1) := by rw [List.drop_eq_getElem_cons hlt]
    rw [hdrop] at hl
    simp only [lcM, run_bind] at hl
    obtain ⟨o, stA, hA, hl⟩ := bd_eq_ok hl
    rw [run_bind] at hl
    obtain ⟨ys, stB, hB, hl⟩ := bd_eq_ok hl
    cases hl
    unfold lcF at hA
    rw [run_bind] at hA
    obtain ⟨ρ', stC, hC, hA⟩ := bd_eq_ok hA
    cases qb : bindT tg items[i] (wipeR ρ vs) with
    | none => rw [qb] at hC; cases hC
    | some ρ1 =>
      rw [qb] at hC
      have hC1 : ρ1 = ρ' ∧ st' = stC := by cases hC; exact ⟨rfl, rfl⟩
      obtain ⟨rfl, rfl⟩ := hC1
      rw [run_bind] at hA
      obtain ⟨b, stD, hb, hA⟩ := bd_eq_ok hA
      have eW : EnvR K H2 μ' (wipeR ρ vs) (L2.wipe σ vs) := (eσ.mono S x').mono S' x2
      refine hg H2 μ' _ items[i] x _ _ ρ1 _ S2 rx eW qb fun σ2 e2 l2 k2 => ⟨?_, ⟨μ', _, ρ1, S2, e2, ?_⟩⟩
      · rw [← wipe_idem (σ := σ)]
        exact wipe_ext l2 fun j hj => k2 j fun z => hj (hsl j z)
      · rw [hb]
        intro H3 μ3 x3 S3
        have dk : H3 D = some (T.Z D c) ∧ D ∉ μ3.m ∧ D ∉ μ3.d := by
          have d2 := x2.keep _ _ hD' nD'
          exact ⟨x3.keep _ _ d2 nD', x3.notin d2 nD', x3.notd d2 nDd'⟩
        have ra3 : T.rl H3 acc (o.toList ++ ys) c := T.mono _ _ _ _ _ _ _ (x3.kp S2) (T.mono _ _ _ _ _ _ _ (x2.kp S') ra)
        cases b with
        | true =>
          refine ⟨(fun z => by cases z), fun _ => ⟨μ3, _, ρ1, S3, e2.mono S2 x3, ?_⟩⟩
          rw [if_pos rfl, run_bind] at hA
          obtain ⟨y, stE, hE, hA⟩ := bd_eq_ok hA
          cases hA
          rw [hE]
          intro H4 μ4 x4 S4 v4 r4
          have d4 : H4 D = some (T.Z D c) ∧ D ∉ μ4.m ∧ D ∉ μ4.d := ⟨x4.keep _ _ dk.1 dk.2.1, x4.notin dk.1 dk.2.1, x4.notd dk.1 dk.2.2⟩
          have xall : Ext H μ H4 μ4 := ((x'.trans' x2).trans' x3).trans' x4
          have ra4 : T.rl H4 acc (y :: ys) c := T.mono _ _ _ _ _ _ _ (x4.kp S3) ra3
          refine ⟨c, _, d4.1, T.step H4 μ4 acc y ys c v4 r4 ra4, fun c' hc' => ⟨μ4, _, acc ++ [y], c', ys, xall.odd hD, S4.odd d4.1 (T.odd _ _) d4.2.1 d4.2.2, d4.2.1, d4.2.2, upd_same, ?_, hB, by rw [hw]; simp⟩⟩
          exact T.mono _ _ μ4 μ4 _ _ _ (kp_odd d4.1 (T.odd _ _) d4.2.2) hc'
        | false =>
          rw [if_neg Bool.false_ne_true] at hA
          cases hA
          exact ⟨fun _ => ⟨μ3, _, acc, c, ys, (x'.trans' x2).trans' x3, S3, dk.2.1, dk.2.2, dk.1, ra3, hB, by rw [hw]; simp⟩, (fun z => by cases z)⟩
end
section
variable {K : PySem.W.Frag} {H H' : Hp} {μ μ' : Mu}
theorem sqT_kp {a : Addr} {vs : List V} (e : Kp H μ H' μ') (h : SqT K H a vs) : SqT K H' a vs := by
  rcases h with (q | ⟨o, q⟩) | q
  · exact .inl (.inl (e.tup _ _ q))
  · exact .inl (.inr ⟨o, e.frz _ _ _ q⟩)
  · exact .inr q
end
theorem insU_mem {α : Type} [DecidableEq α] {acc : List α} {k j : α} : j ∈ insU acc k ↔ j ∈ acc ∨ j = k := by
  unfold insU
  split
  · rename_i h
    constructor
    · exact .inl
    · rintro (h1 | rfl)
      · exact h1
      · exact h
  · simp
theorem foldl_snoc {α β : Type} {f : β → α → β} {b : β} {l : List α} {x : α} : (l ++ [x]).foldl f b = f (l.foldl f b) x := by simp
def kI (K : PySem.W.Frag) (w : World) : SetK K ((Int → Bool) × Nat) where
  Z := SetIO w
  z0 := (fun _ => false, 0)
  okA := okI
  rl := fun H acc rest c => ∃ ms rs, intsOf acc = some ms ∧ intsOf rest = some rs ∧ ms.length + rs.length + 1 < 1000 ∧ c = (fun j => decide (j ∈ ms.foldl insU []), (ms.foldl insU []).length)
  odd := fun D c => ⟨(fun vs h => by cases h), (fun b u h => by cases h)⟩
  mono := fun H H' μ μ' acc ws c _ h => h
  step := fun H μ acc w rest c v r h => by
    obtain ⟨ms, rs, h1, h2, h3, rfl⟩ := h
    cases w with
    | int k =>
      simp only [intsOf] at h2
      cases q : intsOf rest with
      | none => rw [q] at h2; cases h2
      | some rs' =>
        rw [q] at h2; cases h2
        rw [rp_int] at r
        have hl := insU_len ms ([] : List Int)
        simp at h3 hl
        have e : intsOf (acc ++ [.int k]) = some (ms ++ [k]) := by
          have : intsOf (acc ++ .int k :: rest) = some (ms ++ k :: rs') := by
            clear hl h3 r
            induction acc generalizing ms with
            | nil => simp only [intsOf] at h1; cases h1; simp [intsOf, q]
            | cons u acc ih =>
              cases u with
              | int j =>
                simp only [intsOf] at h1
                cases q2 : intsOf acc with
                | none => rw [q2] at h1; cases h1
                | some ms' =>
                  rw [q2] at h1; cases h1
                  have := ih ms' q2
                  simp [intsOf, this]
              | _ => cases h1
          obtain ⟨ms2, k2, rs2, g1, g2, g3, g4, g5⟩ := intsOf_snoc this
          rw [h1] at g1; cases g1; cases g2
          exact g5
        refine ⟨k, r, by unfold scanBound; show (ms.foldl insU []).length + 1 < _; omega, ms ++ [k], rs', e, rfl, by simp; omega, ?_⟩
        rw [foldl_snoc]
        refine Prod.ext ?_ ?_
        · funext j
          show (decide (j ∈ ms.foldl insU []) || decide (j = k)) = decide (j ∈ insU (ms.foldl insU []) k)
          rw [← Bool.decide_or]
          exact decide_eq_decide.mpr insU_mem.symm
        · show (if decide (k ∈ ms.foldl insU []) = true then (ms.foldl insU []).length else (ms.foldl insU []).length + 1) = (insU (ms.foldl insU []) k).length
          generalize ms.foldl insU [] = L
          unfold insU
          by_cases hk : k ∈ L
          · simp [hk]
          · simp [hk]
    | _ => cases h2
theorem tupsI_app : ∀ {acc : List W} {ms : List (List Int)} {w : W} {k : List Int}, tupsI acc = some ms → tupI w = some k → tupsI (acc ++ [w]) = some (ms ++ [k])
  | [], ms, w, k, h1, h2 => by simp only [tupsI] at h1; cases h1; simp [tupsI, h2]
  | u :: acc, ms, w, k, h1, h2 => by
    simp only [tupsI] at h1
    cases qu : tupI u with
    | none => rw [qu] at h1; cases h1
    | some j =>
      rw [qu] at h1
      dsimp only at h1
      cases q : tupsI acc with
      | none => rw [q] at h1; cases h1
      | some ms' =>
        rw [q] at h1; cases h1
        simp [tupsI, qu, tupsI_app q h2]
theorem tupI_rel {K : PySem.W.Frag} {H : Hp} {μ : Mu} {w : W} {v : V} {k : List Int} (r : Rp K H μ w v) (h : tupI w = some k) : ∃ b, v = .ref b ∧ SqT K H b (k.map V.int) := by
  cases w with
  | tup xs =>
    rw [rp_tup] at r
    obtain ⟨a, vs, rfl, h1, h2⟩ := r
    rw [ints_rel h2 h] at h1
    exact ⟨a, rfl, h1⟩
  | _ => cases h
def rlT (K : PySem.W.Frag) (H : Hp) (acc rest : List W) (c : List (Addr × List Int)) : Prop := ∃ ms rs, tupsI acc = some ms ∧ tupsI rest = some rs ∧ ms.length + rs.length + 1 < 64 ∧ (c.map (fun p => p.2)).Perm (ms.foldl insU []) ∧ ∀ p ∈ c, SqT K H p.1 (p.2.map V.int)
def kT (K : PySem.W.Frag) (P : Program) (w : World) : SetK K (List (Addr × List Int)) where
  Z := SetTO P w
  z0 := []
  okA := okT K
  rl := rlT K
  odd := fun D c => ⟨(fun vs h => by cases h), (fun b u h => by cases h)⟩
  mono := fun H H' μ μ' acc ws c e h => by
    obtain ⟨ms, rs, h1, h2, h3, h4, h5⟩ := h
    exact ⟨ms, rs, h1, h2, h3, h4, fun p hp => sqT_kp e (h5 p hp)⟩
  step := fun H μ acc w rest c v r h => by
    obtain ⟨ms, rs, h1, h2, h3, h4, h5⟩ := h
    simp only [tupsI] at h2
    cases qw : tupI w with
    | none => rw [qw] at h2; cases h2
    | some k =>
      rw [qw] at h2
      dsimp only at h2
      cases q : tupsI rest with
      | none => rw [q] at h2; cases h2
      | some rs' =>
        rw [q] at h2; cases h2
        obtain ⟨b, rfl, hb⟩ := tupI_rel r qw
        have hl := insU_len ms ([] : List (List Int))
        have hl2 := h4.length_eq
        simp at h3 hl hl2
        refine ⟨b, k, rfl, hb, h5, by omega, fun c' g1 g2 => ⟨ms ++ [k], rs', tupsI_app h1 qw, q, by simp; omega, ?_⟩⟩
        rw [foldl_snoc]
        have hm : k ∈ c.map (·.2) ↔ k ∈ ms.foldl insU [] := h4.mem_iff
        generalize ms.foldl insU [] = L at h4 hm ⊢
        unfold insU
        by_cases hk : k ∈ c.map (·.2)
        · rw [if_pos (hm.mp hk), g1 hk]
          exact ⟨h4, h5⟩
        · rw [if_neg fun z => hk (hm.mpr z)]
          have p := g2 hk
          refine ⟨?_, fun p' hp' => ?_⟩
          · refine (p.map (·.2)).trans ?_
            show (k :: c.map (·.2)).Perm _
            exact (h4.cons k).trans (List.perm_append_comm (l₁ := [k]))
          · rcases List.mem_cons.mp (p.mem_iff.mp hp') with rfl | hp'
            · exact hb
            · exact h5 p' hp'
section
variable {X : Cx} {E : WX} {elt tgE iter : Expr} {ifs : List Expr} {scope : Scope} {own : List (Str × Nat)} {pos p pos' : Pos} {g : TG} {tg : Tg} {fI : Rho → M (List W)} {fi : Rho → M Bool} {fe : Rho → M W} {k : Nat}
theorem sc_run {α : Type} (T : SetK X.K α) {pins : List (Addr × Obj)} {s : Shared} {σ : L2.St} {H : Hp} {Q : VK} {μ : Mu} {st : Sto} {ρ : Rho}
    (ad : Adds X T.Z T.z0 T.okA)
    (hc : X.calm = true) (hN : X.N.Nodup) (hi : PI X tgE iter (TIx X.K E fI)) (ok : BlkOk X.N X.env.scope scope own) (hd : GDn X.K g tg) (hsl : ∀ i ∈ tg.slots, i ∈ own.map (·.2))
    (hg : ∀ (s : Shared) (H : Hp) (C : Addr) (cl : List (Str × Addr)) (fp : List Addr), PG (X.blk s H scope (compEnvC scope cl C X.env) fp) tgE g)
    (ht : ∀ (s : Shared) (H : Hp) (C : Addr) (cl : List (Str × Addr)) (fp : List Addr), PTs (X.blk s H scope (compEnvC scope cl C X.env) fp) ifs (TB X.K EF fi))
    (he : ∀ (s : Shared) (H : Hp) (C : Addr) (cl : List (Str × Addr)) (fp : List Addr), PE (X.blk s H scope (compEnvC scope cl C X.env) fp) elt (TX X.K EF fe)) (hs : ∀ x, foldedSetIterable iter X.env x = pure x)
    (I : Inv X pins σ H s) (S : StR X.K H μ st) (e : EnvR X.K H μ ρ σ)
    (h : Pst X.K (fun c d H' => E c d σ H') H μ (fI ρ st) fun items st1 H1 μ1 => ∃ ws stF, lcM (lcF tg fi fe (wipeR ρ (own.map (·.2)))) items st1 = .ok ws stF ∧ T.rl H1 [] ws T.z0 ∧ ∀ D H' μ' c, Ext H1 μ1 H' μ' → StR X.K H' μ' stF → H' D = some (T.Z D c) → T.rl H' ws [] c → Q (.ref D) H') :
    wpAny (model X.prog X.w) X.A (eval (.SetComp elt [⟨tgE, iter, ifs, 0⟩] scope pos) X.env) (EP X pins σ Q) X.xe s := by
  rw [eval_SetComp]
  refine set_comp ad hc hN ok hs hi hg ht he I (Q := Q) ⟨μ, st, ρ, S, e, ?_⟩
  have h2 : Pst X.K (fun c d H' => E c d σ H') H μ (fI ρ st) fun items st1 H1 μ1 => (∃ ws stF, lcM (lcF tg fi fe (wipeR ρ (own.map (·.2)))) items st1 = .ok ws stF ∧ T.rl H1 [] ws T.z0 ∧ ∀ D H' μ' c, Ext H1 μ1 H' μ' → StR X.K H' μ' stF → H' D = some (T.Z D c) → T.rl H' ws [] c → Q (.ref D) H') := h
  refine h2.imp fun items st1 H1 μ1 x1 S1 ⟨ws, stF, q1, q2, q3⟩ J hJ => ?_
  exact sc_read T hd hsl S1 (e.mono S x1) hJ q2 q1 q3
theorem adds_I : Adds X (SetIO X.w) (kI X.K X.w).z0 okI where
  born := fun H h => setIO_new (setR_fresh X.w)
  add := fun Y pins σ H s D y z c R Q E e I hD r ok h => by
    have hD' : H D = some (SetIO Y.w D c) := by rw [e.2.1]; exact hD
    refine addI I hD' r ok fun c' s' h1 h2 => h c' s' h1 ?_
    rw [e.2.1] at h2; exact h2
theorem adds_T (hr : RmG k X.A) : Adds X (SetTO X.prog X.w) (kT X.K X.prog X.w).z0 (okT X.K) where
  born := fun H h => setTO_new (setTR_fresh (a := h.objs.size) (Heap.get?_push_size _ rfl)).t0
  add := fun Y pins σ H s D y z c R Q E e I hD r ok h => by
    obtain ⟨e1, e2, e3, e4⟩ := e
    have hD' : H D = some (SetTO Y.prog Y.w D c) := by rw [e1, e2]; exact hD
    have ok' : okT Y.K H y c R := by rw [e3]; exact ok
    refine addT (by rw [e4]; have := hr.room.un; omega) I hD' r ok' fun c' s' h1 h2 => h c' s' h1 ?_
    rw [e1, e2] at h2; exact h2
theorem s_lenSet (hr : RmG k X.A) (hc : X.calm = true) (hN : X.N.Nodup) (hi : PI X tgE iter (TIx X.K E fI)) (ok : BlkOk X.N X.env.scope scope own) (hd : GDn X.K g tg) (hsl : ∀ i ∈ tg.slots, i ∈ own.map (·.2))
    (hg : ∀ (s : Shared) (H : Hp) (C : Addr) (cl : List (Str × Addr)) (fp : List Addr), PG (X.blk s H scope (compEnvC scope cl C X.env) fp) tgE g)
    (ht : ∀ (s : Shared) (H : Hp) (C : Addr) (cl : List (Str × Addr)) (fp : List Addr), PTs (X.blk s H scope (compEnvC scope cl C X.env) fp) ifs (TB X.K EF fi))
    (he : ∀ (s : Shared) (H : Hp) (C : Addr) (cl : List (Str × Addr)) (fp : List Addr), PE (X.blk s H scope (compEnvC scope cl C X.env) fp) elt (TX X.K EF fe)) (hs : ∀ x, foldedSetIterable iter X.env x = pure x) (hgl : Gl X "len") (hm : X.mg "len" = none) :
    PE X (.Call (.Name "len" p) [.SetComp elt [⟨tgE, iter, ifs, 0⟩] scope pos] [] pos') (TX X.K E fun ρ => fI ρ >>= fun items => (lcM (lcF tg fi fe (wipeR ρ (own.map (·.2)))) items).noEr >>= setLen) := by
  refine ⟨fun pins s σ H Q I h => ?_⟩
  obtain ⟨μ, st, ρ, S, e, pp⟩ := h
  have p1 := pp.bind
  refine Call_ (ld_blt I hgl hm PySem.boot_len ?_)
  refine PyProof.Rows.callWith_builtin1 (PyProof.Rows.args_cons ?_ rfl) rfl rfl
  by_cases hk : ∃ items st1 ws stF ns, fI ρ st = .ok items st1 ∧ lcM (lcF tg fi fe (wipeR ρ (own.map (·.2)))) items st1 = .ok ws stF ∧ intsOf ws = some ns
  · obtain ⟨items, st1, ws, stF, ns, q1, q2, q3⟩ := hk
    rw [q1] at p1
    refine thn (sc_run (kI X.K X.w) (Q := fun v H' => ∃ D c, v = .ref D ∧ H' D = some (SetIO X.w D c) ∧ Q (.int c.2) H') adds_I hc hN hi ok hd hsl hg ht he hs I S e (by
      rw [q1]
      intro H1 μ1 x1 S1
      obtain ⟨ws', stF', g1, g2⟩ := noEr_ok (p1 H1 μ1 x1 S1)
      rw [q2] at g1
      cases g1
      unfold setLen at g2
      rw [q3] at g2
      obtain ⟨g3, g4⟩ := if_ok g2
      refine ⟨ws, stF, q2, ⟨[], ns, rfl, q3, by simpa using g3, rfl⟩, fun D H' μ' c x' S' hD hr => ⟨D, c, rfl, hD, ?_⟩⟩
      obtain ⟨ms, rs, r1, _, _, rfl⟩ := hr
      rw [q3] at r1; cases r1
      exact g4 H' μ' x' S' _ (by rw [rp_int]))) fun v s1 ⟨x, H1, I1, r1, D, c, ex, hD, qq⟩ => ?_
    subst ex
    cases (show v = Value.ref D from r1)
    exact PyProof.Rows.args_nil (len_I I1 hD qq)
  · refine thn (sc_run (kT X.K X.prog X.w) (Q := fun v H' => ∃ D c, v = .ref D ∧ H' D = some (SetTO X.prog X.w D c) ∧ Q (.int c.length) H') (adds_T hr) hc hN hi ok hd hsl hg ht he hs I S e (by
      cases q1 : fI ρ st with
      | bad => rw [q1] at p1; exact p1
      | er x st' => rw [q1] at p1; exact p1
      | ok items st1 =>
        rw [q1] at p1
        intro H1 μ1 x1 S1
        obtain ⟨ws, stF, q2, g2⟩ := noEr_ok (p1 H1 μ1 x1 S1)
        unfold setLen at g2
        cases q3 : intsOf ws with
        | some ns => exact absurd ⟨items, st1, ws, stF, ns, q1, q2, q3⟩ hk
        | none =>
          rw [q3] at g2
          dsimp only at g2
          cases q4 : tupsI ws with
          | none => rw [q4] at g2; exact g2.elim
          | some ks =>
            rw [q4] at g2
            obtain ⟨g3, g4⟩ := if_ok g2
            refine ⟨ws, stF, q2, ⟨[], ks, rfl, q4, by simpa using g3, List.Perm.refl _, fun p hp => by cases hp⟩, fun D H' μ' c x' S' hD hr => ⟨D, c, rfl, hD, ?_⟩⟩
            obtain ⟨ms, rs, r1, _, _, r2, _⟩ := hr
            rw [q4] at r1; cases r1
            have hl := r2.length_eq
            rw [List.length_map] at hl
            rw [hl]
            exact g4 H' μ' x' S' _ (by rw [rp_int]))) fun v s1 ⟨x, H1, I1, r1, D, c, ex, hD, qq⟩ => ?_
    subst ex
    cases (show v = Value.ref D from r1)
    exact PyProof.Rows.args_nil (len_T I1 hD qq)
end
end Vm
/-! Vm, part T: [.. for .. in .. for .. in ..]. -/
namespace Vm
open PySem L2

section
variable {K : PySem.W.Frag}
/-- the new list beside the store -/
structure Acc (K : PySem.W.Frag) (H1 : Hp) (μ1 : Mu) (D : Addr) (H : Hp) (μ : Mu) (st : Sto) (accW : List W) : Prop where
  x : Ext H1 μ1 H μ
  S : StR K H μ st
  nm : D ∉ μ.m
  nd : D ∉ μ.d
  at_ : ∃ accV, H D = some (.lst accV) ∧ RpL K H μ accW accV
theorem Acc.go {H1 H H' : Hp} {μ1 μ μ' : Mu} {D : Addr} {st st' : Sto} {accW : List W} (a : Acc K H1 μ1 D H μ st accW) (e : Ext H μ H' μ') (S' : StR K H' μ' st') : Acc K H1 μ1 D H' μ' st' accW := by
  obtain ⟨accV, h1, h2⟩ := a.at_
  exact ⟨a.x.trans' e, S', e.notin h1 a.nm, e.notd h1 a.nd, accV, e.keep _ _ h1 a.nm, h2.mono a.S e⟩
theorem Acc.add {H1 H : Hp} {μ1 μ : Mu} {D : Addr} {st : Sto} {accW : List W} {w : W} {v : V} (a : Acc K H1 μ1 D H μ st accW) (hD : H1 D = none) (r : Rp K H μ w v) (hz : accW.length < sizeLine) :
    ∃ accV, H D = some (.lst accV) ∧ accV.length < sizeLine ∧ Acc K H1 μ1 D (upd H D (.lst (accV ++ [v]))) μ st (accW ++ [w]) := by
  obtain ⟨accV, h1, h2⟩ := a.at_
  refine ⟨accV, h1, by rw [← h2.length]; exact hz, a.x.odd hD, a.S.other h1 a.nm a.nd, a.nm, a.nd, _, upd_same, ?_⟩
  exact (h2.append (.cons r .nil)).kp (kp_other h1 a.nd)
theorem lc2_read {E : WX} {g g1 : TG} {tg tg1 : Tg} {fI fI1 : Rho → M (List W)} {fi fi1 : Rho → M Bool} {fe : Rho → M W} {m : Bool} {vs vs1 : List Nat} (hg : GDn K g tg) (hg1 : GDn K g1 tg1) (hsl : ∀ i ∈ tg.slots, i ∈ vs) (hsl1 : ∀ i ∈ tg1.slots, i ∈ vs1) :
    ∀ σ H Q, TX K E (fun ρ => fI ρ >>= fun items => (lcM2 (lc2F tg fi fI1 tg1 fi1 fe vs1 (wipeR ρ vs)) items).noEr >>= lcEnd m) σ H Q → tLc2 (TIx K E fI) g (TB K EF fi) (TIx K EF fI1) g1 (TB K EF fi1) (TX K EF fe) vs vs1 σ H Q := fun σ H Q h => by
  obtain ⟨μ, st, ρ, S, e, pp⟩ := h
  refine ⟨μ, st, ρ, S, e, go1 S e pp.bind fun items st1 H1 μ1 x1 S1 e1 q J hJ D hD => ?_⟩
  obtain ⟨ws, stF, hok, q1⟩ := noEr_ok q
  unfold lcEnd at q1
  obtain ⟨hz, q2⟩ := if_ok q1
  have hz : ws.length ≤ sizeLine := hz
  have eσ := e1.wipe vs
  have a0 : Acc K H1 μ1 D (upd H1 D (.lst [])) μ1 st1 [] := ⟨Ext.laid S1 hD, S1.laid hD, S1.fresh hD, S1.freshd hD, [], upd_same, .nil⟩
  refine ⟨fun i mm H' => mm = items.length - i ∧ i ≤ items.length ∧ ∃ μ' st' accW rest, Acc K H1 μ1 D H' μ' st' accW ∧ lcM2 (lc2F tg fi fI1 tg1 fi1 fe vs1 (wipeR ρ vs)) (items.drop i) st' = .ok rest stF ∧ ws = accW ++ rest, ⟨_, rfl, Nat.zero_le _, μ1, st1, [], ws, a0, by simpa using hok, rfl⟩, ?_⟩
  rintro i mm H' ⟨rfl, hi, μ', st', accW, rest, a', hl, hw⟩
  have x' := a'.x
  have S' := a'.S
  by_cases hlt : i < items.length
  · have hgi : items[i]? = some items[i] := by simp [hlt]
    obtain ⟨h1, h2⟩ := hJ.go i items[i] H' μ' st' hgi (x'.kp S1) S'
    refine .inr ⟨h1, fun H2 => ∃ μ' st' accW rest, Acc K H1 μ1 D H2 μ' st' accW ∧ lcM2 (lc2F tg fi fI1 tg1 fi1 fe vs1 (wipeR ρ vs)) (items.drop (i + 1)) st' = .ok rest stF ∧ ws = accW ++ rest, fun H2 hN => ⟨_, by omega, rfl, hlt, hN⟩, fun x H2 hy => ?_⟩
    obtain ⟨x2, S2, rx⟩ := h2 x H2 hy
    have a2 := a'.go x2 S2
    have hdrop : items.drop i = items[i] :: items.drop (i + 1) := by rw [List.drop_eq_getElem_cons hlt]
    rw [hdrop] at hl
    simp only [lcM2, run_bind] at hl
    obtain ⟨o, stA, hA, hl⟩ := bd_eq_ok hl
    rw [run_bind] at hl
    obtain ⟨ys, stB, hB, hl⟩ := bd_eq_ok hl
    cases hl
    unfold lc2F at hA
    rw [run_bind] at hA
    obtain ⟨ρ', stC, hC, hA⟩ := bd_eq_ok hA
    cases qb : bindT tg items[i] (wipeR ρ vs) with
    | none => rw [qb] at hC; cases hC
    | some ρ1 =>
      rw [qb] at hC
      have hC1 : ρ1 = ρ' ∧ st' = stC := by cases hC; exact ⟨rfl, rfl⟩
      obtain ⟨rfl, rfl⟩ := hC1
      rw [run_bind] at hA
      obtain ⟨b, stD, hb, hA⟩ := bd_eq_ok hA
      have eW : EnvR K H2 μ' (wipeR ρ vs) (L2.wipe σ vs) := (eσ.mono S1 x').mono S' x2
      refine hg H2 μ' _ items[i] x _ _ ρ1 _ S2 rx eW qb fun σ2 e2 l2 k2 => ⟨?_, ⟨μ', _, ρ1, S2, e2, ?_⟩⟩
      · rw [← wipe_idem (σ := σ)]
        exact wipe_ext l2 fun j hj => k2 j fun z => hj (hsl j z)
      · rw [hb]
        intro H3 μ3 x3 S3
        have a3 := a2.go x3 S3
        have e3 := e2.mono S2 x3
        cases b with
        | true =>
          refine iteT ⟨μ3, _, ρ1, S3, e3, ?_⟩
          rw [if_pos rfl, run_bind] at hA
          obtain ⟨items1, stE, hE, hA⟩ := bd_eq_ok hA
          rw [hE]
          intro H4 μ4 x4 S4 J1 hJ1
          have a4 := a3.go x4 S4
          have eσ1 := (e3.mono S3 x4).wipe vs1
          refine ⟨fun j kk H5 => kk = items1.length - j ∧ j ≤ items1.length ∧ ∃ μ5 st5 accW5 rest5, Kp H4 μ4 H5 μ5 ∧ Acc K H1 μ1 D H5 μ5 st5 accW5 ∧ lcM (lcF tg1 fi1 fe (wipeR ρ1 vs1)) (items1.drop j) st5 = .ok rest5 stA ∧ ws = accW5 ++ (rest5 ++ ys), ⟨_, rfl, Nat.zero_le _, μ4, stE, accW, o, Kp.refl, a4, by simpa using hA, hw⟩, ?_⟩
          rintro j kk H5 ⟨rfl, hj, μ5, st5, accW5, rest5, x5, a5, hl5, hw5⟩
          have S5 := a5.S
          by_cases hlt5 : j < items1.length
          · have hgj : items1[j]? = some items1[j] := by simp [hlt5]
            obtain ⟨h6, h7⟩ := hJ1.go j items1[j] H5 μ5 st5 hgj x5 S5
            refine .inr ⟨h6, fun H6 => ∃ μ5 st5 accW5 rest5, Kp H4 μ4 H6 μ5 ∧ Acc K H1 μ1 D H6 μ5 st5 accW5 ∧ lcM (lcF tg1 fi1 fe (wipeR ρ1 vs1)) (items1.drop (j + 1)) st5 = .ok rest5 stA ∧ ws = accW5 ++ (rest5 ++ ys), fun H6 hN => ⟨_, by omega, rfl, hlt5, hN⟩, fun x H6 hy => ?_⟩
            obtain ⟨x6, S6, rx6⟩ := h7 x H6 hy
            have a6 := a5.go x6 S6
            have hdrop : items1.drop j = items1[j] :: items1.drop (j + 1) := by rw [List.drop_eq_getElem_cons hlt5]
            rw [hdrop] at hl5
            simp only [lcM, run_bind] at hl5
            obtain ⟨o6, stA6, hA6, hl6⟩ := bd_eq_ok hl5
            rw [run_bind] at hl6
            obtain ⟨ys6, stB6, hB6, hl6⟩ := bd_eq_ok hl6
            cases hl6
            unfold lcF at hA6
            rw [run_bind] at hA6
            obtain ⟨ρ'6, stC6, hC6, hA6⟩ := bd_eq_ok hA6
            cases qb6 : bindT tg1 items1[j] (wipeR ρ1 vs1) with
            | none => rw [qb6] at hC6; cases hC6
            | some ρ6 =>
              rw [qb6] at hC6
              have hC1 : ρ6 = ρ'6 ∧ st5 = stC6 := by cases hC6; exact ⟨rfl, rfl⟩
              obtain ⟨rfl, rfl⟩ := hC1
              rw [run_bind] at hA6
              obtain ⟨b6, stD6, hb6, hA6⟩ := bd_eq_ok hA6
              have eW6 : EnvR K H6 μ5 (wipeR ρ1 vs1) (L2.wipe σ2 vs1) := (eσ1.kp x5).mono S5 x6
              refine hg1 H6 μ5 _ items1[j] x _ _ ρ6 _ S6 rx6 eW6 qb6 fun σ3 e6 l6 k6 => ⟨?_, ⟨μ5, _, ρ6, S6, e6, ?_⟩⟩
              · rw [← wipe_idem (σ := σ2)]
                exact wipe_ext l6 fun j hj => k6 j fun z => hj (hsl1 j z)
              · rw [hb6]
                intro H7 μ7 x7 S7
                have a7 := a6.go x7 S7
                cases b6 with
                | true =>
                  refine iteT ⟨μ7, _, ρ6, S7, e6.mono S6 x7, ?_⟩
                  rw [if_pos rfl, run_bind] at hA6
                  obtain ⟨y, stE6, hE6, hA6⟩ := bd_eq_ok hA6
                  cases hA6
                  rw [hE6]
                  intro H8 μ8 x8 S8 v8 r8
                  have a8 := a7.go x8 S8
                  have hlen : accW5.length < sizeLine := by
                    have := congrArg List.length hw5
                    simp at this
                    omega
                  obtain ⟨accV, b1, b2, b3⟩ := a8.add hD r8 hlen
                  refine ⟨accV, b1, b2, μ8, _, accW5 ++ [y], ys6, ?_, b3, hB6, by rw [hw5]; simp⟩
                  exact ((x5.trans' (x6.kp S5)).trans' (x7.kp S6)).trans' ((x8.kp S7).trans' (kp_other b1 a8.nd))
                | false =>
                  refine iteF ?_
                  rw [if_neg Bool.false_ne_true] at hA6
                  cases hA6
                  exact ⟨μ7, _, accW5, ys6, (x5.trans' (x6.kp S5)).trans' (x7.kp S6), a7, hB6, by rw [hw5]; simp⟩
          · have hj' : j = items1.length := by omega
            subst hj'
            rw [List.drop_length] at hl5
            simp only [lcM] at hl5
            cases hl5
            exact .inl ⟨hJ1.stop H5 μ5 _ x5 S5, μ5, _, accW5, ys, a5, hB, by simpa using hw5⟩
        | false =>
          refine iteF ?_
          rw [if_neg Bool.false_ne_true] at hA
          cases hA
          exact ⟨μ3, _, accW, ys, a3, hB, by rw [hw]; simp⟩
  · have hi' : i = items.length := by omega
    subst hi'
    refine .inl ⟨hJ.stop H' μ' st' (x'.kp S1) S', ?_⟩
    rw [List.drop_length] at hl
    simp only [lcM2] at hl
    cases hl
    rw [List.append_nil] at hw
    subst hw
    obtain ⟨accV, hD', ra⟩ := a'.at_
    have nD' := a'.nm
    have nDd' := a'.nd
    cases m with
    | true =>
      rw [if_pos rfl] at q2
      have S5 := S'.join hD' nD' nDd' (ob := .lst ws) ⟨accV, rfl, ra.kp (kp_add S')⟩
      refine q2 _ _ ?_ S5 _ ?_
      · exact ⟨by obtain ⟨n, en⟩ := x'.pre; exact ⟨n ++ [D], by show μ'.m ++ [D] = _; rw [en]; simp⟩, x'.sub, fun a ha hn => by
          rcases List.mem_append.mp ha with ha | ha
          · exact x'.new a ha hn
          · simp at ha; rw [ha]; exact hD, x'.newd, x'.keep, x'.stay⟩
      · rw [rp_ref]
        exact ⟨D, rfl, by rw [← S'.len, List.getElem?_append_right (Nat.le_refl _)]; simp⟩
    | false =>
      rw [if_neg Bool.false_ne_true] at q2
      refine q2 _ _ ?_ (S'.joinD hD' nD') _ ?_
      · exact ⟨x'.pre, fun a ha => List.mem_cons_of_mem _ (x'.sub a ha), x'.new, fun a ha hn => by
          rcases List.mem_cons.mp ha with ha | ha
          · rw [ha]; exact hD
          · exact x'.newd a ha hn, x'.keep, x'.stay⟩
      · rw [rp_fl]
        exact ⟨D, accV, rfl, hD', List.mem_cons_self, ra.kp (kp_dat D)⟩
end
end Vm
/-! Vm, part U: == and != by an own __eq__. -/
namespace Vm
open PySem PySem.Spec PyProof.Rows L2

section
variable {M : Model} {prog : Program} {w : World} {A : Around} {E : Value → Shared → Prop} {s : Shared} {K : PySem.W.Frag} {x C f : Addr} {ox : Obj} {od : Option Obj} {b tb : Value}
/-- __ne__ that is object's own is called with the instance ahead of the rest -/
theorem ifBound_ne {args : List Value} {Q : Option Value → Shared → Prop} (X : K.In s.heap) (I : PySem.W.InstAt s.heap x ox C od) (hs : PySem.W.findIn K (.ref C) "__ne__" = some (some (.builtin "object.__ne__")))
    (h : wpAny M A (call (.builtin "object.__ne__") (.ref x :: args)) (fun v => Q (some v)) E s) : wpAny M A (callSpecialIfBound? (.ref x) "__ne__" args) Q E s := by
  have goes : wpAny M A (do let v ← call (.builtin "object.__ne__") ([.ref x] ++ args); pure (some v)) Q E s := by
    apply wpAny_bind
    apply wpAny_mono h
    · intro v t q; exact wpAny_pure q
    · intro _ _ q; exact q
  have slot := F.cmp_object.ne
  unfold callSpecialIfBound? bindSpecialIfBound?
  apply wpAny_holding
  iterate 3 apply wpAny_bind
  apply I.type.here
  apply (PySem.W.looks_findIn X hs).here
  apply wpAny_bind
  apply wpAny_askSetting
  apply wpAny_ite
  split
  all_goals try apply wpAny_tryCatch
  all_goals
    apply wpAny_bind
    apply wpAny_of_eq (slot.bind _)
    apply wpAny_pure
    exact goes
/-- object.__ne__ asks the own __eq__ and turns its answer about -/
theorem entry_ne {Q : Fin → Shared → Prop} (hu : A.units < cLine) (X : K.In s.heap) (I : PySem.W.InstAt s.heap x ox C od) (hs : PySem.W.findIn K (.ref C) "__eq__" = some (some (.ref f))) (hf : PySem.W.isFn K (.ref f) = true)
    (h : wpAny (model prog w) A (call (.ref f) [.ref x, b]) (fun v s' => ∃ r, v = .bool r ∧ Q (.done (.ret (.bool (!r)))) s') E s) : wpAny (model prog w) A (Builtin.«object.__ne__» ⟨[.ref x, b], []⟩) Q E s := by
  have asked : wpAny (model prog w) A (callSpecialIfBound? (.ref x) (Str.ofString "__eq__") [b]) (fun o t => ∃ r, o = some (.bool r) ∧ Q (.done (.ret (.bool (!r)))) t) E s := by
    apply PySem.W.ifBound_K X I hs hf
    apply wpAny_mono h
    · rintro _ t ⟨r, rfl, q⟩; exact ⟨r, rfl, q⟩
    · intro _ _ q; exact q
  delta Builtin.«object.__ne__»
  repeat (first
    | (with_reducible apply wpAny_cRoomFor hu)
    | (refine wpAny_bind (m := callSpecialIfBound? (.ref x) (Str.ofString "__eq__") [b]) (wpAny_mono asked ?_ fun _ _ q => q)
       rintro _ t ⟨r, rfl, q⟩
       repeat (first | exact q | exact wpAny_pure q | exact wpAny_truthy_bool q | (apply wpAny_bind (m := truthy (.bool _)); apply wpAny_truthy_bool) | wp_step))
    | wp_step)
theorem call_ne {Q : Value → Shared → Prop} (hu : A.units + 1 < cLine) (X : K.In s.heap) (I : PySem.W.InstAt s.heap x ox C od) (hm : PySem.W.mroIn K C (.type "object") = some true) (hs : PySem.W.findIn K (.ref C) "__eq__" = some (some (.ref f))) (hf : PySem.W.isFn K (.ref f) = true)
    (h : wpAny (model prog w) A.in1 (call (.ref f) [.ref x, b]) (fun v s' => ∃ r, v = .bool r ∧ Q (.bool (!r)) s') E s) : wpAny (model prog w) A (call (.builtin "object.__ne__") [.ref x, b]) Q E s :=
  wpAny_call (codeAny_call_builtin F.cmp_object.ne.plain F.cmpEntry_ne (PySem.W.check_slot F.cmpKind_ne F.cmpSplit_ne (I.type.andThen (PySem.W.looks_mroIn X hm)) (F.cmpArgs_ne _ _) (entry_ne (A := A.in1) hu X I hs hf (wpAny_mono h (fun v s' hv => by
    obtain ⟨r, rfl, hq⟩ := hv
    exact ⟨r, rfl, hq⟩) fun _ _ e => e))))
/-- x != b, x an instance with an own __eq__ and object's __ne__ -/
theorem rc_ne {Q : Value → Shared → Prop} (hu : A.units + 1 < cLine) (X : K.In s.heap) (I : PySem.W.InstAt s.heap x ox C od) (hm : PySem.W.mroIn K C (.type "object") = some true) (hs : PySem.W.findIn K (.ref C) "__eq__" = some (some (.ref f))) (hf : PySem.W.isFn K (.ref f) = true)
    (hne : PySem.W.findIn K (.ref C) "__ne__" = some (some (.builtin "object.__ne__"))) (hb : PySem.W.Looks (model prog w) s.heap (typeOf b) tb) (hn : PySem.W.notFirst K C tb = true)
    (h : wpAny (model prog w) A.in1 (call (.ref f) [.ref x, b]) (fun v s' => ∃ r, v = .bool r ∧ Q (.bool (!r)) s') E s) : wpAny (model prog w) A (richCompare .NotEq (.ref x) b) Q E s := by
  have tried : wpAny (model prog w) A (tryCompare (.ref x) "__ne__" b) (fun o t => ∃ r, o = some (.bool r) ∧ Q (.bool r) t) E s := by
    delta tryCompare
    apply wpAny_bind
    apply ifBound_ne X I hne
    apply call_ne hu X I hm hs hf
    apply wpAny_mono h
    · rintro _ t ⟨r, rfl, q⟩
      exact ⟨r, rfl, wpAny_pure ⟨!r, rfl, q⟩⟩
    · intro _ _ q; exact q
  have behind : ∀ {k : Option Value → Sem Value}, (∀ v, k (some v) = pure v) → wpAny (model prog w) A (tryCompare (.ref x) "__ne__" b >>= k) Q E s := by
    intro k hk
    apply wpAny_bind
    apply wpAny_mono tried
    · rintro _ t ⟨r, rfl, q⟩
      rw [hk]; exact wpAny_pure q
    · intro _ _ q; exact q
  have sub : (Value.ref C != tb) = true → PySem.W.subIn K tb (.ref C) = some false := by
    intro ne
    unfold PySem.W.notFirst at hn
    cases e : tb == Value.ref C with
    | true => rw [beq_iff_eq.mp e] at ne; simp at ne
    | false => rw [e, Bool.false_or] at hn; exact beq_iff_eq.mp hn
  simp only [richCompare, cmpInfo_NotEq, oneThing_ref]
  apply wpAny_holding
  apply wpAny_bind
  apply wpAny_cRoomFor (Nat.lt_of_succ_lt hu)
  apply wpAny_bind
  apply I.type.here
  apply wpAny_bind
  apply hb.here
  by_cases q : (Value.ref C != tb) = true
  · rw [if_pos q]
    apply wpAny_bind
    apply (PySem.W.looks_subIn X (sub q)).here
    exact behind fun _ => rfl
  · rw [if_neg q]
    apply wpAny_bind
    apply wpAny_pure
    exact behind fun _ => rfl
end
theorem takes_EF {X : Cx} : Takes X EF := fun u s' ⟨_, _, _, _, _, _, _, _, _, _, _, _, _, _, _, _, w⟩ => w.elim
section
variable {X : Cx} {E : WX} {k j : Nat} {Γ : Gm}
/-- an own def runs a little deeper -/
theorem run_fnA {A : Around} {pins : List (Addr × Obj)} {σ : L2.St} {H : Hp} {s : Shared} {Q : VK} {us : List Value} {vs : List V} {μ : Mu} {st : Sto} {ws : List W} {f : Addr} {n : Nat} {g : List W → List W → List W} {m : List W → M W}
    (F : FnE X.prog X.w X.K X.mg X.base j f n [] g m) (hr : RmG j A) (hf : A.frames = X.A.frames) (tk : Takes X E) (I : Inv X pins σ H s) (r : Vals vs us) (S : StR X.K H μ st) (h1 : RpL X.K H μ ws vs) (l1 : ws.length = n)
    (p : Pst X.K (fun c d H' => E c d σ H') H μ (m (g ws []) st) (QW X.K Q)) : wpAny (model X.prog X.w) A (call (.ref f) us) (EP X pins σ Q) X.xe s := by
  obtain ⟨fd, ps, gR, gV, hk, FO, hb, hg⟩ := F.ex
  obtain ⟨h3, h4⟩ := hg H μ ws vs [] [] h1 .nil l1 rfl
  have r2 := hb.rel r (.nil : Vals [] [])
  have e0 : Env0 X.prog X.w X.K X.mg X.base A X.stack s H := by
    have e := I.env0
    exact ⟨by rw [hf]; exact e.frames, e.mod, e.bs, e.bsz, e.funs, e.frf, e.hok, e.bare⟩
  refine wpAny_call (codeAny_mono (FO.run A X.stack s H ⟨us, ([] : List Str).zip []⟩ (gR us []) (gV vs []) Q (WE E σ) hr e0 (hb.to s us [] I.kIn (by rw [← r.length, ← h1.length, l1]) rfl) r2 ⟨h4, μ, st, g ws [], S, h3, p⟩) fun r s' hq => ?_)
  cases r with
  | error e => exact passAt tk σ pins H s e s' I hq
  | ok fl =>
    cases fl with
    | ret u => exact I.after hq
    | next => exact False.elim hq
    | brk => exact False.elim hq
    | cont => exact False.elim hq
/-- the instance -/
theorem inst_of {K : PySem.W.Frag} {H : Hp} {μ : Mu} {st : Sto} {w : W} {v : V} {c : Str} (S : StR K H μ st) (r : Rp K H μ w v) (e : clsOfW st w = some c) : ∃ a dx fs, v = .ref a ∧ H a = some (.ins (He.ga K c) dx fs) := by
  cases w with
  | obj d ns ws =>
    simp only [clsOfW] at e; cases e
    simp only [Rp] at r
    obtain ⟨a, dx, vs, rfl, h, _⟩ := r
    exact ⟨a, dx, _, rfl, h⟩
  | ref i =>
    simp only [clsOfW] at e
    cases q : st[i]? with
    | none => rw [q] at e; cases e
    | some o =>
      rw [q] at e
      obtain ⟨a, rfl, h2, h3⟩ := S.ref r q
      cases o with
      | ins d ns ws => cases e; obtain ⟨dx, vs, h4, _⟩ := h3; exact ⟨a, dx, _, rfl, h4⟩
      | lst _ => cases e
      | dct _ _ => cases e
  | _ => cases e
theorem sub_plain {K : PySem.W.Frag} {C : Addr} : ∀ T ∈ plainTys, PySem.W.subIn K (.type T) (.ref C) = some false := by
  intro T hT
  simp only [plainTys, List.mem_cons, List.not_mem_nil, or_false] at hT
  rcases hT with rfl | rfl | rfl | rfl | rfl | rfl | rfl
  all_goals
    first
    | (have e : fastBuiltinMro "NoneType" = some [.type "NoneType", .type "object"] := by decide +kernel
       show (fastBuiltinMro "NoneType").map (·.contains (.ref C)) = some false
       rw [e]; simp)
    | (have e : fastBuiltinMro "bool" = some [.type "bool", .type "int", .type "object"] := by decide +kernel
       show (fastBuiltinMro "bool").map (·.contains (.ref C)) = some false
       rw [e]; simp)
    | (have e : fastBuiltinMro "int" = some [.type "int", .type "object"] := by decide +kernel
       show (fastBuiltinMro "int").map (·.contains (.ref C)) = some false
       rw [e]; simp)
    | (have e : fastBuiltinMro "str" = some [.type "str", .type "object"] := by decide +kernel
       show (fastBuiltinMro "str").map (·.contains (.ref C)) = some false
       rw [e]; simp)
    | (have e : fastBuiltinMro "tuple" = some [.type "tuple", .type "object"] := by decide +kernel
       show (fastBuiltinMro "tuple").map (·.contains (.ref C)) = some false
       rw [e]; simp)
    | (have e : fastBuiltinMro "list" = some [.type "list", .type "object"] := by decide +kernel
       show (fastBuiltinMro "list").map (·.contains (.ref C)) = some false
       rw [e]; simp)
    | (have e : fastBuiltinMro "dict" = some [.type "dict", .type "object"] := by decide +kernel
       show (fastBuiltinMro "dict").map (·.contains (.ref C)) = some false
       rw [e]; simp)
def rOwn (K : PySem.W.Frag) (Γ : Gm) (ne : Bool) : R2 := fun x y H Q => ∃ μ st wx wy c, StR K H μ st ∧ Rp K H μ wx x ∧ Rp K H μ wy y ∧ clsOfW st wx = some c ∧ Pst K (fun _ _ _ => False) H μ (eqoM Γ ne c wx wy st) (QW K Q)
theorem op_own (G : GOk X.prog X.w X.K X.mg X.base k Γ) (hr : RmG k X.A) (ne : Bool) : OpR X (compareOp (if ne = true then .NotEq else .Eq)) (rOwn X.K Γ ne) := by
  intro pins s σ H x y v u Q I rx ry h
  obtain ⟨μ, st, wx, wy, c, S, r1, r2, hc, p⟩ := h
  obtain ⟨a, dx, fs, rfl, ha⟩ := inst_of S r1 hc
  cases (show v = Value.ref a from rx)
  obtain ⟨mA, J, _⟩ := ins_get I.hok ha
  obtain ⟨od, J, _⟩ := J.look
  obtain ⟨m, hF⟩ := I.fr
  unfold eqoM at p
  by_cases hs : Γ.spc c "__eq__" = true ∧ okR Γ st c wy = true
  · rw [if_pos hs] at p
    obtain ⟨hs1, hs2⟩ := hs
    cases qb : Γ.mbnd c "__eq__" 2 [] with
    | none => rw [qb] at p; exact p.elim
    | some g =>
      rw [qb] at p
      dsimp only at p
      obtain ⟨C, ho, hne, fa, jj, hj, Me, hFn⟩ := G.spc c _ hs1
      have F := hFn 2 g qb
      -- the type of what is on the right
      have ht : ∃ t, typeOfW Γ st wy = some t ∧ PySem.W.notFirst X.K (He.ga X.K c) (t.val X.K) = true := by
        unfold okR at hs2
        cases q : typeOfW Γ st wy with
        | none => rw [q] at hs2; cases hs2
        | some t =>
          rw [q] at hs2
          refine ⟨t, rfl, ?_⟩
          cases t with
          | ty T =>
            have := sub_plain (K := X.K) (C := He.ga X.K c) T (List.contains_iff_mem.mp hs2)
            unfold PySem.W.notFirst
            show (_ || PySem.W.subIn X.K (.type T) (.ref (He.ga X.K c)) == some false) = true
            rw [this]; simp
          | own d =>
            have e : d = c := of_decide_eq_true hs2
            subst e
            unfold PySem.W.notFirst
            simp [Cl.val]
      obtain ⟨t, ht1, ht2⟩ := ht
      have tx := tyx_of G S r2 ht1
      obtain ⟨PP, Z, hP, _⟩ := kit_of I ry tx
      have hb := Z.ty (model X.prog X.w) s.heap I.kIn hP
      -- the run
      have key : ∀ {A : Around} {Q' : Value → Shared → Prop}, RmG jj A → A.frames = X.A.frames → (∀ b s', EP X pins σ (fun v H' => v = .bl b ∧ Q (.bl (if ne = true then !b else b)) H') (.bool b) s' → Q' (.bool b) s') → wpAny (model X.prog X.w) A (call (.ref fa) [.ref a, u]) Q' X.xe s := fun {A Q'} hrA hfA hk => by
        cases q : Γ.mfn c "__eq__" (g [wx, wy] []) st with
        | bad => rw [q] at p; exact p.elim
        | er x st' => rw [q] at p; exact p.elim
        | ok w st' =>
          rw [q] at p
          cases w with
          | bl b =>
            refine wpAny_mono (run_fnA (us := [.ref a, u]) (vs := [.ref a, y]) (E := EF) (Q := fun v H' => v = .bl b ∧ Q (.bl (if ne = true then !b else b)) H') F hrA hfA takes_EF I (.cons rfl (.cons ry .nil)) S (.cons r1 (.cons r2 .nil)) rfl ?_) (fun v s' hv => ?_) fun _ _ e => e
            · rw [q]
              intro H' μ' e S' v rv
              rw [rp_bl] at rv
              exact ⟨rv, p H' μ' e S' _ (by rw [rp_bl])⟩
            · obtain ⟨z, H', I', rz, ez, qz⟩ := hv
              subst ez
              cases (show v = Value.bool b from rz)
              exact hk b s' ⟨V.bl b, H', I', rfl, rfl, qz⟩
          | _ => exact p.elim
      have hr' : RmG (jj + 3) X.A := hr.mono hj
      cases ne with
      | false =>
        show wpAny (model X.prog X.w) X.A (richCompare .Eq (.ref a) u) (EP X pins σ Q) X.xe s
        refine PySem.W.cmp_K (op := .Eq) hr.room.units0 hF I.ok.mod.kin J hb ht2 Me.at_ Me.fn (key (hr'.mono (by omega)) rfl fun b s' hv => ?_)
        obtain ⟨z, H', I', rz, ez, qz⟩ := hv
        exact ⟨.bl b, H', I', rfl, qz⟩
      | true =>
        show wpAny (model X.prog X.w) X.A (richCompare .NotEq (.ref a) u) (EP X pins σ Q) X.xe s
        refine rc_ne (by have := hr.room.un; omega) I.kIn J ho Me.at_ Me.fn hne hb ht2 (key (A := X.A.in1) ((hr'.mono (by omega : jj + 1 ≤ jj + 3)).in1) rfl fun b s' hv => ?_)
        obtain ⟨z, H', I', rz, ez, qz⟩ := hv
        exact ⟨b, rfl, .bl (!b), H', I', rfl, qz⟩
  · rw [if_neg hs] at p; exact p.elim
end
end Vm
/-! Vm, part V: comparisons, len, str, repr, own ones too; texts in parts. -/
namespace Vm
open PySem PySem.Spec PyProof.Rows L2

section
variable {X : Cx} {E : WX} {k : Nat} {Γ : Gm}
def rCmpG (K : PySem.W.Frag) (Γ : Gm) (op : CmpOp) : R2 := fun x y H Q => rCmp K op x y H Q ∨ (match op with
  | .Eq => rOwn K Γ false x y H Q
  | .NotEq => rOwn K Γ true x y H Q
  | _ => False)
theorem op_cmpG (G : GOk X.prog X.w X.K X.mg X.base k Γ) (hr : RmG k X.A) (op : CmpOp) : OpR X (compareOp op) (rCmpG X.K Γ op) := by
  intro pins s σ H x y v u Q I rx ry h
  rcases h with h | h
  · exact op_cmp hr.room.units op pins s σ H x y v u Q I rx ry h
  · cases op with
    | Eq => exact op_own G hr false pins s σ H x y v u Q I rx ry h
    | NotEq => exact op_own G hr true pins s σ H x y v u Q I rx ry h
    | _ => exact h.elim
theorem eqoM_noer {K : PySem.W.Frag} {E : XK} {H : Hp} {μ : Mu} {st : Sto} {ne : Bool} {c : Str} {x y : W} {Q : W → Sto → Hp → Mu → Prop} (p : Pst K E H μ (eqoM Γ ne c x y st) Q) : Pst K (fun _ _ _ => False) H μ (eqoM Γ ne c x y st) Q := by
  cases q : eqoM Γ ne c x y st with
  | ok w st' => rw [q] at p; exact p
  | bad => rw [q] at p; exact p
  | er z st' =>
    exfalso
    unfold eqoM at q
    split at q
    · split at q
      · split at q <;> cases q
      · cases q
    · cases q
theorem dn_cmpG {K : PySem.W.Frag} (op : CmpOp) : Dn2 K (rCmpG K Γ op) (cmpG Γ op) := by
  intro E H μ st x y wx wy Q S rx ry p
  unfold cmpG at p
  cases q : clsOfW st wx with
  | none => rw [q] at p; exact .inl (dn_cmp op E H μ st x y wx wy Q S rx ry p)
  | some c =>
    rw [q] at p
    cases op with
    | Eq => exact .inr ⟨μ, st, wx, wy, c, S, rx, ry, q, eqoM_noer p⟩
    | NotEq => exact .inr ⟨μ, st, wx, wy, c, S, rx, ry, q, eqoM_noer p⟩
    | _ => exact p.elim
/-! ### own len, str, repr -/
def spN : Bf → Option (Str × (W → Bool))
  | .len => some ("__len__", okLen)
  | .str => some ("__str__", okStr)
  | .repr => some ("__repr__", okStr)
  | _ => none
def rSpec (K : PySem.W.Frag) (Γ : Gm) (f : Bf) : List V → Hp → VK → Prop := fun xs H Q => ∃ μ st w x c m ok, xs = [x] ∧ spN f = some (m, ok) ∧ StR K H μ st ∧ Rp K H μ w x ∧ clsOfW st w = some c ∧ Pst K (fun _ _ _ => False) H μ (specM Γ m ok c w st) (QW K Q)
theorem specM_noer {K : PySem.W.Frag} {E : XK} {H : Hp} {μ : Mu} {st : Sto} {m : Str} {ok : W → Bool} {c : Str} {x : W} {Q : W → Sto → Hp → Mu → Prop} (p : Pst K E H μ (specM Γ m ok c x st) Q) : Pst K (fun _ _ _ => False) H μ (specM Γ m ok c x st) Q := by
  cases q : specM Γ m ok c x st with
  | ok w st' => rw [q] at p; exact p
  | bad => rw [q] at p; exact p
  | er z st' =>
    exfalso
    unfold specM at q
    split at q
    · split at q
      · split at q
        · split at q <;> cases q
        · cases q
      · cases q
    · cases q
theorem spec_run (G : GOk X.prog X.w X.K X.mg X.base k Γ) (hr : RmG k X.A) {pins : List (Addr × Obj)} {s : Shared} {σ : L2.St} {H : Hp} {Q : VK} {μ : Mu} {st : Sto} {w : W} {c : Str} {m : Str} {ok : W → Bool} {a : Addr} (I : Inv X pins σ H s) (S : StR X.K H μ st) (r : Rp X.K H μ w (.ref a)) (hc : clsOfW st w = some c) (p : Pst X.K (fun _ _ _ => False) H μ (specM Γ m ok c w st) (QW X.K Q)) :
    ∃ fa ox od, PySem.W.InstAt s.heap a ox (He.ga X.K c) od ∧ PySem.W.findIn X.K (.ref (He.ga X.K c)) m = some (some (.ref fa)) ∧ PySem.W.isFn X.K (.ref fa) = true ∧ ∀ {A : Around} {Q' : Value → Shared → Prop}, RmG (k - 3) A → A.frames = X.A.frames →
      (∀ w' v u s', ok w' = true → (∀ H' μ', Rp X.K H' μ' w' v → True) → RelV v u → EP X pins σ (fun z H' => z = v ∧ Q z H') u s' → (∃ H' μ', Rp X.K H' μ' w' v) → Q' u s') → wpAny (model X.prog X.w) A (call (.ref fa) [.ref a]) Q' X.xe s := by
  obtain ⟨a', dx, fs, ea, ha⟩ := inst_of S r hc
  cases ea
  obtain ⟨mA, J, _⟩ := ins_get I.hok ha
  obtain ⟨od, J, _⟩ := J.look
  unfold specM at p
  by_cases hs : Γ.spc c m = true
  · rw [if_pos hs] at p
    cases qb : Γ.mbnd c m 1 [] with
    | none => rw [qb] at p; exact p.elim
    | some g =>
      rw [qb] at p
      dsimp only at p
      obtain ⟨C, ho, hne, fa, jj, hj, Me, hFn⟩ := G.spc c _ hs
      have F := hFn 1 g qb
      refine ⟨fa, _, _, J, Me.at_, Me.fn, fun {A Q'} hrA hfA hk => ?_⟩
      cases q : Γ.mfn c m (g [w] []) st with
      | bad => rw [q] at p; exact p.elim
      | er x st' => rw [q] at p; exact p.elim
      | ok w' st' =>
        rw [q] at p
        dsimp only at p
        by_cases hok : ok w' = true
        · rw [if_pos hok] at p
          refine wpAny_mono (run_fnA (us := [.ref a]) (vs := [.ref a]) (E := EF) (Q := fun v H' => (∃ H' μ', Rp X.K H' μ' w' v) ∧ Q v H') F (hrA.mono (by omega)) hfA takes_EF I (.cons rfl .nil) S (.cons r .nil) rfl ?_) (fun v s' hv => ?_) fun _ _ e => e
          · rw [q]
            intro H' μ' e S' v rv
            exact ⟨⟨H', μ', rv⟩, p H' μ' e S' _ rv⟩
          · obtain ⟨z, H', I', rz, ez, qz⟩ := hv
            exact hk w' z v s' hok (fun _ _ _ => trivial) rz ⟨z, H', I', rz, rfl, qz⟩ ez
        · rw [if_neg hok] at p; exact p.elim
  · rw [if_neg hs] at p; exact p.elim
theorem cr_spec (G : GOk X.prog X.w X.K X.mg X.base k Γ) (hr : RmG k X.A) (h3 : 3 ≤ k) (f : Bf) : CallR X f.val (rSpec X.K Γ f) := by
  intro pins s σ H xs us Q I rs h
  obtain ⟨μ, st, w, x, c, m, ok, rfl, hm, S, r, hc, p⟩ := h
  obtain ⟨a, dx, fs, rfl, ha⟩ := inst_of S r hc
  cases rs with
  | cons r1 r2 =>
    cases r2
    rename_i u
    cases (show u = Value.ref a from r1)
    obtain ⟨fa, ox, od, J, h1, h2, run⟩ := spec_run G hr I S r hc p
    obtain ⟨mm, hF⟩ := I.fr
    have hr3 : RmG (k - 3 + 3) X.A := hr.mono (by omega)
    have e1 : RmG (k - 3) X.A.in1 := (hr3.mono (by omega : k - 3 + 1 ≤ k - 3 + 3)).in1
    have e2 : RmG (k - 3) X.A.in1.in1 := ((hr3.mono (by omega : k - 3 + 2 ≤ k - 3 + 3)).in1).in1
    have hu := hr.room.un
    cases f with
    | len =>
      cases hm
      refine PySem.W.len_K hF I.ok.mod.kin J h1 h2 (run (A := X.A.in1) e1 rfl fun w' v u s' ho _ rv ⟨z, H', I', rz, ez, qz⟩ ⟨_, _, rw'⟩ => ?_)
      cases w' with
      | int n =>
        rw [rp_int] at rw'
        subst rw' ez
        obtain ⟨t, rfl⟩ := rv
        exact ⟨of_decide_eq_true ho, .int n, H', I'.tok _, ⟨_, rfl⟩, qz⟩
      | _ => cases ho
    | str =>
      cases hm
      refine PySem.W.kso_call (by show X.A.units + 1 + 1 < cLine; omega) I.kIn J h1 h2 (run (A := X.A.in1.in1) e2 rfl fun w' v u s' ho _ rv ⟨z, H', I', rz, ez, qz⟩ ⟨_, _, rw'⟩ => ?_)
      cases w' with
      | str n =>
        rw [rp_str] at rw'
        subst rw' ez
        obtain ⟨t, rfl⟩ := rv
        exact ⟨.str n, H', I', ⟨t, rfl⟩, qz⟩
      | _ => cases ho
    | repr =>
      cases hm
      refine PySem.W.repr_K (by show X.A.units + 1 < cLine; omega) hF I.ok.mod.kin J h1 h2 (run (A := X.A.in1) e1 rfl fun w' v u s' ho _ rv ⟨z, H', I', rz, ez, qz⟩ ⟨_, _, rw'⟩ => ?_)
      cases w' with
      | str n =>
        rw [rp_str] at rw'
        subst rw' ez
        obtain ⟨t, rfl⟩ := rv
        exact ⟨.str n, H', I', ⟨t, rfl⟩, qz⟩
      | _ => cases ho
    | _ => cases hm
variable {a : Expr} {as : List Expr} {fs : Rho → M (List W)} {p pos : Pos}
theorem s_biG (G : GOk X.prog X.w X.K X.mg X.base k Γ) (hr : RmG k X.A) (h3 : 3 ≤ k) (f : Bf) (hc : X.calm = true) (hg : Gl X f.nm) (hm : X.mg f.nm = none) (ha : PA X (a :: as) (TL X.K E fs)) (hst : (a :: as).all noStar = true) : PE X (.Call (.Name f.nm p) (a :: as) [] pos) (TX X.K E fun ρ => fs ρ >>= biG Γ f) := by
  rw [List.all_cons, Bool.and_eq_true] at hst
  have key : PE X (.Call (.Name f.nm p) (a :: as) [] pos) (tCB (fun xs H Q => rBi X.K f xs H Q ∨ rSpec X.K Γ f xs H Q) (TL X.K E fs)) := by
    have hn : f.nm ≠ "__name__" := by cases f <;> decide +kernel
    have hd : (f.nm == ("__debug__" : Str)) = false := by cases f <;> decide +kernel
    have hb := boot_bf f
    have hr2 := (cr_bi (X := X) hr.gu hr.room.units hc f).or (cr_spec G hr h3 f)
    cases q : f.val with
    | builtin id => rw [q] at hb hr2; exact pe_callB hr2 hg hm hb ha hn hd (star_cons hst.1) (star_any hst.2)
    | type T => rw [q] at hb hr2; exact pe_callTy hr2 hg hm hb ha hn hd (star_cons hst.1) (star_any hst.2)
    | _ => cases f <;> cases q
  refine pe_imp key fun σ H Q h => ?_
  obtain ⟨μ, st, ρ, S, e, pp⟩ := h
  refine ⟨μ, st, ρ, S, e, pp.bind.imp fun ws st1 H1 μ1 x1 S1 q vs rs => ?_⟩
  have plain : Pst X.K (fun c d H' => E c d σ H') H1 μ1 (biW f ws st1) (QW X.K Q) → rBi X.K f vs H1 Q ∨ rSpec X.K Γ f vs H1 Q := fun q => .inl (dn_bi f _ H1 μ1 st1 vs ws Q S1 rs q)
  unfold biG at q
  match ws, rs, q, plain with
  | [], rs, q, plain => exact plain q
  | _ :: _ :: _, rs, q, plain => exact plain q
  | [w], rs, q, plain =>
    dsimp only at q
    obtain ⟨v, rfl, rv⟩ := rpl1 rs
    cases hcl : clsOfW st1 w with
    | none => rw [hcl] at q; exact plain q
    | some c =>
      rw [hcl] at q
      cases f with
      | len => exact .inr ⟨μ1, st1, w, v, c, _, _, rfl, rfl, S1, rv, hcl, specM_noer q⟩
      | str => exact .inr ⟨μ1, st1, w, v, c, _, _, rfl, rfl, S1, rv, hcl, specM_noer q⟩
      | repr => exact .inr ⟨μ1, st1, w, v, c, _, _, rfl, rfl, S1, rv, hcl, specM_noer q⟩
      | _ => exact q.elim
/-! ### f'..' -/
def TF (K : PySem.W.Frag) (E : WX) (f : Rho → M W) : TE := TX K E fun ρ => f ρ >>= fun w => ofO (fmtW w) >>= fun a => pure (.str a)
theorem s_fmt {e : Expr} {fe : Rho → M W} (he : PE X e (TX X.K E fe)) : PE X (.FormattedValue e (-1) none pos) (TF X.K E fe) := pe_imp (pe_fmt he) fun σ H Q h => by
  obtain ⟨μ, st, ρ, S, ev, pp⟩ := h
  refine ⟨μ, st, ρ, S, ev, pp.bind.imp fun w st1 H1 μ1 x1 S1 q v r => ?_⟩
  obtain ⟨a, e1, q1⟩ := ofOb_ok q
  have z := Pst.pure S1 q1 (.str a) (by rw [rp_str])
  cases w with
  | str y =>
    simp only [fmtW] at e1
    split at e1
    · rename_i hl
      cases e1
      rw [rp_str] at r
      exact .inl ⟨_, r, hl, z⟩
    · cases e1
  | int i =>
    simp only [fmtW] at e1
    split at e1
    · rename_i hl
      cases e1
      rw [rp_int] at r
      exact .inr ⟨i, r, hl, z⟩
    · cases e1
  | _ => cases e1
theorem s_fpl {m : Str} {kk : Nat} (hm : m.length ≤ sizeLine) : PE X (.Constant (.str m) kk pos) (TF X.K E fun _ => pure (.str m)) := pe_imp pe_str fun σ H Q h => by
  obtain ⟨μ, st, ρ, S, ev, pp⟩ := h
  have p1 := pp.bind
  have p2 := Pst.pure S p1
  obtain ⟨a, e1, q1⟩ := ofOb_ok p2
  simp only [fmtW, if_pos hm] at e1
  cases e1
  exact Pst.pure S q1 (.str m) (by rw [rp_str])
/-- the parts -/
inductive PF (X : Cx) (E : WX) : List Expr → List (Rho → M W) → Prop where
  | nil : PF X E [] []
  | cons {e : Expr} {f : Rho → M W} {es : List Expr} {fs : List (Rho → M W)} (h : PE X e (TF X.K E f)) (r : PF X E es fs) : PF X E (e :: es) (f :: fs)
def joinF : List (Rho → M W) → Rho → Str → M W
  | [], _, acc => pure (.str acc)
  | f :: fs, ρ, acc => f ρ >>= fun w => ofO (fmtW w) >>= fun a => if (acc ++ a).length ≤ sizeLine then joinF fs ρ (acc ++ a) else bad
theorem pf_pj {es : List Expr} {fs : List (Rho → M W)} (h : PF X E es fs) : PJ X es (fs.map (TF X.K E)) := by
  induction h with
  | nil => exact .nil
  | cons h r ih => exact .cons h ih
theorem joinF_read {K : PySem.W.Frag} : ∀ (fs : List (Rho → M W)) (acc : Str) (σ : L2.St) (H : Hp) (Q : VK), TX K E (fun ρ => joinF fs ρ acc) σ H Q → tJs (fs.map (TF K E)) acc σ H fun out H1 => Q (.str out) H1
  | [], acc, σ, H, Q, h => by
    obtain ⟨μ, st, ρ, S, ev, pp⟩ := h
    exact Pst.pure S pp _ (by rw [rp_str])
  | f :: fs, acc, σ, H, Q, h => by
    obtain ⟨μ, st, ρ, S, ev, pp⟩ := h
    refine ⟨μ, st, ρ, S, ev, ?_⟩
    have pp : Pst K (fun c d H' => E c d σ H') H μ ((f ρ >>= fun w => ofO (fmtW w) >>= fun a => if (acc ++ a).length ≤ sizeLine then joinF fs ρ (acc ++ a) else bad) st) (QW K Q) := pp
    rw [run_bind] at pp
    show Pst K _ H μ ((f ρ >>= fun w => ofO (fmtW w) >>= fun a => (pure (W.str a) : M W)) st) _
    rw [run_bind]
    cases q : f ρ st with
    | bad => rw [q] at pp; exact pp.elim
    | er x st1 => rw [q] at pp; exact pp
    | ok w st1 =>
      rw [q] at pp
      obtain ⟨a, e1, q1⟩ := ofOb_ok (show Pst K (fun c d H' => E c d σ H') H μ ((ofO (fmtW w) >>= fun a => if (acc ++ a).length ≤ sizeLine then joinF fs ρ (acc ++ a) else bad) st1) (QW K Q) from pp)
      obtain ⟨hl, q2⟩ := if_ok q1
      show Pst K _ H μ ((ofO (fmtW w) >>= fun a => (pure (W.str a) : M W)) st1) _
      rw [e1]
      intro H2 μ2 x2 S2 v rv
      rw [rp_str] at rv
      exact ⟨a, rv, hl, joinF_read fs (acc ++ a) σ H2 Q ⟨μ2, st1, ρ, S2, ev.mono S x2, Pst.mono x2 q2⟩⟩
theorem s_fst {e1 e2 : Expr} {es : List Expr} {fs : List (Rho → M W)} (h : PF X E (e1 :: e2 :: es) fs) : PE X (.JoinedStr (e1 :: e2 :: es) pos) (TX X.K E fun ρ => joinF fs ρ Str.empty) := pe_imp (pe_joined (pf_pj h)) fun σ H Q h => joinF_read fs Str.empty σ H Q h
/-! ### len(range(n)) -/
theorem s_lenRng {a : Expr} {fa : Rho → M W} {p p2 q pos : Pos} (hg : Gl X "len") (hm : X.mg "len" = none) (hg2 : Gl X "range") (hm2 : X.mg "range" = none) (ha : PE X a (TX X.K E fa)) (hn : noStar a = true) :
    PE X (.Call (.Name "len" p) [.Call (.Name "range" p2) [a] [] q] [] pos) (TX X.K E fun ρ => fa ρ >>= lenRngW) := by
  refine ⟨fun pins s σ H Q I h => ?_⟩
  obtain ⟨μ, st, ρ, S, ev, pp⟩ := h
  refine Call_ (ld_blt I hg hm PySem.boot_len ?_)
  refine PyProof.Rows.callWith_builtin1 (PyProof.Rows.args_cons ?_ rfl) rfl rfl
  refine Call_ (ld_blt I hg2 hm2 PyProof.Rows.boot_range ?_)
  refine PyProof.Rows.callWith_type1 (PyProof.Rows.args_cons (thn (ha.run pins s σ H (fun v H1 => ∃ n : Int, v = .int n ∧ -(2 ^ 62) ≤ n ∧ n < 2 ^ 62 ∧ Q (.int n.toNat) H1) I ⟨μ, st, ρ, S, ev, pp.bind.imp fun w st1 H1 μ1 x1 S1 q v r => ?_⟩) fun v s1 ⟨x, H1, I1, r1, q1⟩ => PyProof.Rows.args_nil ?_) (star_cons hn)) (star_cons hn) rfl
  · cases w with
    | int n =>
      rw [rp_int] at r
      obtain ⟨h1, h2⟩ := if_ok q
      exact ⟨n, r, h1.1, h1.2, Pst.pure S1 h2 _ (by rw [rp_int])⟩
    | _ => exact q.elim
  · obtain ⟨n, rfl, h1, h2, qq⟩ := q1
    obtain ⟨t, rfl⟩ := r1
    refine call_range_1 (PyProof.Rows.args_nil ?_)
    have hsz : Builtin.Range.rangeSize 0 n 1 = n.toNat := by
      unfold Builtin.Range.rangeSize
      by_cases h0 : 0 < n
      · simp [h0]
        try omega
      · simp [h0]
        try omega
    refine call_len_range (n := n.toNat) (Heap.get?_push_size _ rfl) hsz (by omega) ?_
    exact ⟨.int n.toNat, H1, (I1.kept (t' := s1.toks + 1 + 1) fun b o e => Heap.get?_push_of_some _ e).tok _, ⟨_, rfl⟩, qq⟩
/-! ### lists one behind another -/
theorem itemsU_ok {K : PySem.W.Frag} {E : XK} {H : Hp} {μ : Mu} {st : Sto} {β : Type} {w : W} {v : V} {f : List W → M β} {Q : β → Sto → Hp → Mu → Prop} (S : StR K H μ st) (r : Rp K H μ w v) (p : Pst K E H μ ((itemsU w >>= f) st) Q) :
    ∃ a vs ws, v = .ref a ∧ H a = some (.lst vs) ∧ RpL K H μ ws vs ∧ Pst K E H μ (f ws st) Q := by
  cases w with
  | fl xs =>
    rw [rp_fl] at r
    obtain ⟨a, vs, rfl, h1, _, h2⟩ := r
    exact ⟨a, vs, xs, rfl, h1, h2, p⟩
  | ref i =>
    have p' : Pst K E H μ ((getO i >>= fun o => (lstOf o : M (List W)) >>= f) st) Q := by rw [← bind_assoc]; exact p
    obtain ⟨ob, h1, p1⟩ := getO_ok p'
    obtain ⟨a, rfl, h2, h3⟩ := S.ref r h1
    cases ob with
    | lst xs =>
      obtain ⟨vs, e1, h4⟩ := h3
      exact ⟨a, vs, xs, rfl, e1, h4, p1⟩
    | dct _ _ => exact p1.elim
    | ins _ _ _ => exact p1.elim
  | _ => exact p.elim
theorem dn_cat {K : PySem.W.Frag} (m : Bool) : Dn2 K rCat (catW m) := by
  intro E H μ st x y wx wy Q S rx ry p
  obtain ⟨a, vs, xs, rfl, h1, h2, p1⟩ := itemsU_ok S rx p
  obtain ⟨b, us, ys, rfl, h3, h4, p2⟩ := itemsU_ok S ry p1
  obtain ⟨hz, p3⟩ := if_ok p2
  unfold lcEnd at p3
  obtain ⟨hz2, p4⟩ := if_ok p3
  refine ⟨a, b, vs, us, rfl, rfl, h1, h3, by rw [← h2.length, ← h4.length]; exact hz, fun q hq => ?_⟩
  have rl := h2.append h4
  cases m with
  | true =>
    rw [if_pos rfl] at p4
    have x1 := Ext.push (o := HO.lst (vs ++ us)) S hq
    have S1 := S.push (o := HO.lst (vs ++ us)) (ob := .lst (xs ++ ys)) hq ⟨_, rfl, rl.mono S x1⟩
    refine p4 _ _ x1 S1 _ ?_
    rw [rp_ref]
    exact ⟨q, rfl, by show (μ.m ++ [q])[st.length]? = _; rw [← S.len]; simp⟩
  | false =>
    rw [if_neg Bool.false_ne_true] at p4
    exact new_fl S rl p4 hq
theorem s_cat (m : Bool) {a b : Expr} {fa fb : Rho → M W} (ha : PE X a (TX X.K E fa)) (hb : PE X b (TX X.K E fb)) : PE X (.BinOp a .Add b pos) (TX X.K E fun ρ => fa ρ >>= fun x => fb ρ >>= fun y => catW m x y) := s_bin op_cat (dn_cat m) ha hb
end
end Vm
/-! Vm, part Va: x[::-1]; written dicts. -/
namespace Vm
open PySem PySem.Spec PyProof.Rows L2

section
variable {prog : Program} {w : World} {A : Around} {E : Value → Shared → Prop} {s : Shared}
theorem adjust_rev (n : Nat) : Builtin.Slice.sliceAdjust none none (-1) (n : Int) = ((n : Int) - 1, -1) := by
  unfold Builtin.Slice.sliceAdjust
  simp
theorem places_rev (n : Nat) : Builtin.Slice.slicePlaces ((n : Int) - 1) (-1) (-1) = n := by
  unfold Builtin.Slice.slicePlaces
  have h : ¬ ((-1 : Int) > 0) := by decide
  simp only [h, if_false]
  split
  · rw [show (- -1 : Int) = 1 by decide, Int.ediv_one]; omega
  · omega
theorem fm_congr {α β : Type} {f g : α → Option β} : ∀ {l : List α}, (∀ a ∈ l, f a = g a) → l.filterMap f = l.filterMap g
  | [], _ => rfl
  | a :: l, h => by rw [List.filterMap_cons, List.filterMap_cons, h a (List.mem_cons_self ..), fm_congr fun b hb => h b (List.mem_cons_of_mem _ hb)]
theorem pick_rev (xs : Array Value) : ((List.range xs.size).filterMap fun (m : Nat) => xs[(((xs.size : Int) - 1) + (m : Int) * (-1)).toNat]?).toArray = xs.toList.reverse.toArray := by
  have e : ((List.range xs.size).filterMap fun (m : Nat) => xs[(((xs.size : Int) - 1) + (m : Int) * (-1)).toNat]?) = ((List.range xs.size).map fun k => xs.size - 1 - k).filterMap (xs[·]?) := by
    rw [List.filterMap_map]
    refine fm_congr fun m hm => ?_
    have := List.mem_range.mp hm
    have : (((xs.size : Int) - 1) + (m : Int) * (-1)).toNat = xs.size - 1 - m := by omega
    rw [this]; rfl
  rw [e, PySem.W.krv_range, List.filterMap_reverse, PySem.W.krv_all]
theorem applied_rev {sl : Addr} {t : Tok} {n : Nat} {Q : Int × Int × Nat → Shared → Prop} (hs : s.heap.IsSliceOf sl .none .none (.int (-1) t)) (h : Q ((n : Int) - 1, -1, n) s) :
    wpAny (model prog w) A (Builtin.Slice.sliceApplied (.ref sl) (pure (n : Int))) Q E s := by
  obtain ⟨os, hos, _, hds⟩ := id hs
  unfold Builtin.Slice.sliceApplied Builtin.Slice.sliceFields
  apply wpAny_bind
  apply wpAny_bind
  apply wpAny_field hos hds (x := .none) rfl
  apply wpAny_bind
  apply wpAny_field hos hds (x := .none) rfl
  apply wpAny_bind
  apply wpAny_field hos hds (x := .int (-1) t) rfl
  apply wpAny_pure
  apply wpAny_bind
  apply HT.slicePart_ (.int (-1) t)
  show wpAny _ _ (if ((-1 : Int) == 0) = true then _ else _) _ _ s
  rw [if_neg (by decide)]
  apply wpAny_bind
  apply HT.slicePart_ .none
  apply wpAny_bind
  apply HT.slicePart_ .none
  apply wpAny_bind
  apply wpAny_pure
  show wpAny _ _ (match Builtin.Slice.sliceAdjust none none (-1) (n : Int) with | (lo, hi) => pure (lo, (-1 : Int), Builtin.Slice.slicePlaces lo hi (-1))) _ _ s
  rw [adjust_rev]
  show wpAny _ _ (pure ((n : Int) - 1, (-1 : Int), Builtin.Slice.slicePlaces ((n : Int) - 1) (-1) (-1))) _ _ s
  rw [places_rev]
  exact wpAny_pure h
theorem tuple_rev {t sl : Addr} {items : Array Value} {k : Tok} {Q : Value → Shared → Prop} (ht : IsTup s.heap t items) (hs : s.heap.IsSliceOf sl .none .none (.int (-1) k)) (hz : items.size ≤ sizeLine)
    (h : Q (.ref s.heap.objs.size) { s with heap := s.heap.push { cls := .type "tuple", data := .seq items.toList.reverse.toArray } }) : wpAny (model prog w) A (getItem (.ref t) (.ref sl)) Q E s := by
  have small : sizeOk (.seq items.toList.reverse.toArray) := by
    show items.toList.reverse.toArray.size ≤ sizeLine
    simpa using hz
  obtain ⟨os, hos, hcs, _⟩ := id hs
  have isS : s.TypeIs (.ref sl) "slice" := ⟨os, hos, hcs⟩
  unfold getItem
  try (with_reducible refine wpAny_holding ?_)
  first | refine wpAny_bind (wpAny_pure ?_) | skip
  refine wpAny_bind (wpAny_sequenceKey ht.typeIs (by decide) ?_)
  apply wpAny_bind
  apply wpAny_callSpecial?_slot (name := Str.ofString "__getitem__") ht.typeIs PyProof.Rows.slot_tuple_getitem
  apply wpAny_call_entry PyProof.Rows.slot_tuple_getitem ht.typeIs entry_tuple_getitem _ (args_tuple_getitem _ _)
  show wpAny _ _ (Builtin.Tuple.tupleItemsOf (.ref t) >>= _) _ _ s
  apply wpAny_bind
  apply tupleItemsOf_ ht
  apply wpAny_bind
  apply wpAny_typeOf isS
  rw [if_pos (by decide)]
  apply wpAny_bind
  apply applied_rev hs
  show wpAny _ _ (if (((items.size : Int) - 1) == 0 && (-1 : Int) == 1 && items.size == items.size) = true then _ else _) _ _ s
  rw [if_neg (by simp), pick_rev]
  first
    | exact wpAny_bind (m := Builtin.Tuple.tupleExact _) (wpAny_newObj_type (wpAny_pure ⟨_, rfl, wpAny_pure h⟩) small)
    | exact wpAny_bind (m := Builtin.Tuple.tupleExact _) (wpAny_newObj_type (wpAny_bind (wpAny_pure (wpAny_pure ⟨_, rfl, wpAny_pure h⟩))) small)
    | exact wpAny_bind (wpAny_bind (m := Builtin.Tuple.tupleExact _) (wpAny_newObj_type (wpAny_pure (wpAny_pure ⟨_, rfl, wpAny_pure h⟩)) small))
    | exact wpAny_bind (wpAny_bind (m := Builtin.Tuple.tupleExact _) (wpAny_newObj_type (wpAny_pure ⟨_, rfl, wpAny_pure h⟩) small))
end
theorem vals_reverse : ∀ {vs : List V} {us : List Value}, Vals vs us → Vals vs.reverse us.reverse
  | _, _, .nil => .nil
  | _, _, .cons r h => by
    rw [List.reverse_cons, List.reverse_cons]
    exact vals_app' (vals_reverse h) (.cons r .nil)
where vals_app' : ∀ {vs vs' : List V} {us us' : List Value}, Vals vs us → Vals vs' us' → Vals (vs ++ vs') (us ++ us')
  | _, _, _, _, .nil, h => h
  | _, _, _, _, .cons r h, h' => .cons r (vals_app' h h')
theorem rpl_reverse {K : PySem.W.Frag} {H : Hp} {μ : Mu} : ∀ {ws : List W} {vs : List V}, RpL K H μ ws vs → RpL K H μ ws.reverse vs.reverse
  | [], vs, h => by simp only [RpL] at h; subst h; simp [RpL]
  | w :: ws, vs, h => by
    obtain ⟨v, r, rfl, h1, h2⟩ := h.uncons
    rw [List.reverse_cons, List.reverse_cons]
    exact (rpl_reverse h2).append (.cons h1 .nil)
section
variable {X : Cx} {E : WX} {e k : Expr} {fe : Rho → M W} {pos p2 : Pos}
/-- x[::-1] -/
theorem s_rev (he : PE X e (TX X.K E fe)) (hk : PE X k (TX X.K E fun _ => pure (.int (-1)))) (hsb : ∀ (a b : Addr), ∃ ops, subscripted (.Slice none none (some k) p2) false (.ref a) (.ref b) = operate ops (getItem (.ref a) (.ref b))) : PE X (.Subscript e (.Slice none none (some k) p2) pos) (TX X.K E fun ρ => fe ρ >>= revW) := by
  constructor
  intro pins s σ H Q I h
  obtain ⟨μ, st, ρ, S, ev, pp⟩ := h
  apply Subscript_
  apply thn (he.run pins s σ H (fun v H1 => ∃ μ1 st1 w, StR X.K H1 μ1 st1 ∧ EnvR X.K H1 μ1 ρ σ ∧ Rp X.K H1 μ1 w v ∧ Pst X.K (fun c d H' => E c d σ H') H1 μ1 (revW w st1) (QW X.K Q)) I ⟨μ, st, ρ, S, ev, go1 S ev pp.bind fun w st1 H1 μ1 x1 S1 e1 q v r => ⟨μ1, st1, w, S1, e1, r, q⟩⟩)
  rintro u s1 ⟨v, H1, I1, ru, μ1, st1, w, S1, e1, rw1, p1⟩
  apply wpAny_Slice
  refine wpAny_pure ?_
  refine wpAny_pure ?_
  rw [evalPart_some]
  apply thn (hk.run pins s1 σ H1 (fun kv H2 => kv = .int (-1) ∧ ∃ μ2, Ext H1 μ1 H2 μ2 ∧ StR X.K H2 μ2 st1) I1 ⟨μ1, st1, ρ, S1, e1, fun H2 μ2 x2 S2 kv rk => ⟨by rw [rp_int] at rk; exact rk, μ2, x2, S2⟩⟩)
  rintro kv s2 ⟨_, H2, I2, rk, rfl, μ2, x2, S2⟩
  obtain ⟨t, rfl⟩ := rk
  have I3 : Inv X pins σ H2 { s2 with heap := s2.heap.push { cls := .type "slice", data := .fields #[.none, .none, .int (-1) t] } } := I2.kept (t' := s2.toks) fun b ob q => Heap.get?_push_of_some _ q
  have isl : ({ s2 with heap := s2.heap.push { cls := .type "slice", data := .fields #[.none, .none, .int (-1) t] } } : Shared).heap.IsSliceOf s2.heap.objs.size .none .none (.int (-1) t) := Heap.IsSliceOf.new ..
  generalize hs3 : ({ s2 with heap := s2.heap.push { cls := .type "slice", data := .fields #[.none, .none, .int (-1) t] } } : Shared) = s3 at I3 isl
  have rw2 := rw1.mono S1 x2
  have p2' := Pst.mono x2 p1
  show wpAny (model X.prog X.w) X.A (subscriptTail e (.Slice none none (some k) p2) u (.ref s2.heap.objs.size)) (EP X pins σ Q) X.xe s3
  -- a list, whichever
  have lst : ∀ a (xs : List V) (ws : List W), u = .ref a → SqL X.K H2 a xs → RpL X.K H2 μ2 ws xs → Pst X.K (fun c d H' => E c d σ H') H2 μ2 ((pure (.fl ws.reverse) : M W) st1) (QW X.K Q) → wpAny (model X.prog X.w) X.A (subscriptTail e (.Slice none none (some k) p2) u (.ref s2.heap.objs.size)) (EP X pins σ Q) X.xe s3 := by
    rintro a xs ws rfl hx rl q
    obtain ⟨its, r, ht, hz⟩ := I3.list hx
    obtain ⟨ops, hops⟩ := hsb a s2.heap.objs.size
    apply tail_any (T := "list") (ops := ops) ht.isList.typeIs slot_list_getitem.lookup _ hops
    refine wpAny_getItem_list_slice ht.isList isl .none .none (.int (-1) t) (by decide) ?_ (by rw [List.size_toArray, ← r.length]; exact hz)
    rw [PySem.W.krv_pick]
    refine ⟨.ref s3.heap.objs.size, _, I3.laid (t' := s3.toks) (o := .lst xs.reverse) (fun b ob q => Heap.get?_push_of_some _ q) (Nat.le_refl _) ?_, rfl, new_fl S2 (rpl_reverse rl) q (I3.hok.fresh (Nat.le_refl _))⟩
    exact ⟨by rw [List.length_reverse]; exact hz, _, 0, vals_reverse r, Heap.get?_push_size _ rfl⟩
  cases w with
  | tup ws =>
    rw [rp_tup] at rw2
    obtain ⟨a, xs, rfl, hx, rl⟩ := rw2
    obtain rfl : u = .ref a := ru
    obtain ⟨its, r, ht, hz⟩ := I3.tuple hx
    obtain ⟨ops, hops⟩ := hsb a s2.heap.objs.size
    apply tail_any (T := "tuple") (ops := ops) ht.typeIs PyProof.Rows.slot_tuple_getitem.lookup _ hops
    refine tuple_rev (items := its.toArray) ht isl (by rw [List.size_toArray, ← r.length]; exact hz) ?_
    refine ⟨.ref s3.heap.objs.size, _, I3.laid (t' := s3.toks) (o := .tup xs.reverse) (fun b ob q => Heap.get?_push_of_some _ q) (Nat.le_refl _) ?_, rfl, new_tup S2 (rpl_reverse rl) p2' (I3.hok.fresh (Nat.le_refl _))⟩
    exact ⟨by rw [List.length_reverse]; exact hz, _, vals_reverse r, IsTup.new _ _⟩
  | fl ws =>
    rw [rp_fl] at rw2
    obtain ⟨a, xs, rfl, hx, _, rl⟩ := rw2
    exact lst a xs ws ru (SqL.of hx) rl p2'
  | kl ws =>
    rw [rp_kl] at rw2
    obtain ⟨a, xs, rfl, hx, rl⟩ := rw2
    exact lst a xs ws ru hx.sq rl p2'
  | ref i =>
    obtain ⟨ob, h1, p3⟩ := getO_ok p2'
    obtain ⟨a, rfl, h2, h3⟩ := S2.ref rw2 h1
    cases ob with
    | lst xs =>
      obtain ⟨vs, e1, h4⟩ := h3
      exact lst a vs xs ru (SqL.of e1) h4 p3
    | dct _ _ => exact p3.elim
    | ins _ _ _ => exact p3.elim
  | _ => exact p2'.elim
end
/-! ### written dicts -/
theorem merge_nodup : ∀ {more kvs : List (Key × V)}, (more.map (·.1)).Nodup → (∀ q ∈ more, q.1 ∉ kvs.map (·.1)) → mergeK kvs more = kvs ++ more
  | [], kvs, _, _ => by simp [mergeK]
  | q :: more, kvs, nd, h => by
    simp only [List.map_cons, List.nodup_cons] at nd
    have e : putK kvs q.1 q.2 = kvs ++ [q] := by
      unfold putK
      rw [if_neg]
      intro z
      obtain ⟨kv, hm, hk⟩ := List.any_eq_true.mp z
      exact h q (List.mem_cons_self ..) (by rw [← of_decide_eq_true hk]; exact List.mem_map_of_mem hm)
    show mergeK (putK kvs q.1 q.2) more = _
    rw [e, merge_nodup nd.2 fun r hr z => ?_]
    · simp
    · rw [List.map_append, List.mem_append] at z
      rcases z with z | z
      · exact h r (List.mem_cons_of_mem _ hr) z
      · simp at z
        exact nd.1 (by rw [← z]; exact List.mem_map_of_mem hr)
/-- the pairs of a written dict, from the left -/
def TPs (K : PySem.W.Frag) (E : WX) (ks : List Key) (f : Rho → M (List W)) (σ : L2.St) (H : Hp) (Q : List (V × V) → Hp → Prop) : Prop :=
  ∃ μ st ρ, StR K H μ st ∧ EnvR K H μ ρ σ ∧ Pst K (fun c d H' => E c d σ H') H μ (f ρ st) fun ws st1 H1 μ1 => ∀ us, RpL K H1 μ1 ws us → Q ((ks.map kV).zip us) H1
structure PD (X : Cx) (E : WX) (pos : Pos) (keys : List (Option Expr)) (vals : List Expr) (ks : List Key) (f : Rho → M (List W)) : Prop where
  ex : ∃ trs, PPs X pos keys vals trs ∧ ∀ σ H Q, TPs X.K E ks f σ H Q → tPairs trs σ H Q
section
variable {X : Cx} {E : WX} {pos : Pos} {keys : List (Option Expr)} {vals : List Expr} {ks : List Key} {f : Rho → M (List W)}
theorem pd_nil : PD X E pos [] [] [] (fun _ => pure []) := ⟨[], pps_nil, fun σ H Q h => by
  obtain ⟨μ, st, ρ, S, e, p⟩ := h
  exact p H μ Ext.refl S [] (by simp [RpL])⟩
theorem pd_cons {k v : Expr} {key : Key} {fv : Rho → M W} (hk : PE X k (tC (kV key))) (hv : PE X v (TX X.K E fv)) (hr : PD X E pos keys vals ks f) :
    PD X E pos (some k :: keys) (v :: vals) (key :: ks) (fun ρ => fv ρ >>= fun w => f ρ >>= fun ws => pure (w :: ws)) := by
  obtain ⟨trs, h1, h2⟩ := hr.ex
  refine ⟨_, pps_cons hk hv h1, fun σ H Q h => ?_⟩
  obtain ⟨μ, st, ρ, S, e, p⟩ := h
  show TX X.K E fv σ H _
  refine ⟨μ, st, ρ, S, e, go1 S e p.bind fun w st1 H1 μ1 x1 S1 e1 q v r => ?_⟩
  apply h2
  refine ⟨μ1, st1, ρ, S1, e1, q.bind.imp fun ws st2 H2 μ2 x2 S2 q2 us ru => ?_⟩
  exact q2 H2 μ2 Ext.refl S2 (v :: us) (.cons (r.mono S1 x2) ru)
/-- {k: v, ..}, the keys written -/
theorem s_dct {m : Bool} (hd : PD X E pos keys vals ks f) (hall : keys.all (·.isSome) = true) (hl : keys.length = vals.length) (h0 : keys ≠ []) (h15 : keys.length ≤ 15) (nd : ks.Nodup) (hk : ks.length = keys.length) :
    PE X (.Dict keys vals pos) (TX X.K E fun ρ => f ρ >>= fun ws => if ws.length = ks.length then (if m = true then newO (.dct ks ws) else pure (.fd ks ws)) else bad) := by
  obtain ⟨trs, h1, h2⟩ := hd.ex
  refine pe_imp (pe_disp h1 hall hl h0 h15) fun σ H Q h => ?_
  obtain ⟨μ, st, ρ, S, e, p⟩ := h
  intro a ha
  apply h2
  have x0 := Ext.laid (o := HO.dK []) S ha
  have S0 : StR X.K (upd H a (.dK [])) μ st := S.laid ha
  refine ⟨μ, st, ρ, S0, e.mono S x0, ?_⟩
  have p1 := p.bind
  cases q : f ρ st with
  | bad => rw [q] at p1; exact p1.elim
  | er x st1 => rw [q] at p1; exact fun cls d H' μ' x' S' xr => p1 cls d H' μ' (x0.trans' x') S' xr
  | ok ws st1 =>
    rw [q] at p1
    intro H1 μ1 x1 S1 us ru
    have na : a ∉ μ.m := S.fresh ha
    have nad : a ∉ μ.d := S.freshd ha
    have hD : H1 a = some (.dK []) := x1.keep _ _ upd_same na
    have na1 : a ∉ μ1.m := x1.notin upd_same na
    have nad1 : a ∉ μ1.d := x1.notd upd_same nad
    -- the heap without the new one
    have hne : ∀ b, b ≠ a → unt H1 a b = H1 b := fun b hb => by unfold unt; rw [if_neg hb]
    have hna : unt H1 a a = none := by unfold unt; rw [if_pos rfl]
    have kp : Kp H1 μ1 (unt H1 a) μ1 := ⟨fun b vs h => by rw [hne b fun z => by rw [z, hD] at h; cases h]; exact h, fun b o u h => by rw [hne b fun z => by rw [z, hD] at h; cases h]; exact h, fun b o hb h => by rw [hne b fun z => nad1 (z ▸ hb)]; exact h, fun _ h => h, fun _ _ h => h⟩
    have Su : StR X.K (unt H1 a) μ1 st1 := by
      refine ⟨S1.len, S1.nd, S1.dis, fun b hb => ?_, fun i o b h1 h2 => ?_⟩
      · rw [hne b fun z => nad1 (z ▸ hb)]; exact S1.hd b hb
      · rw [hne b fun z => na1 (z ▸ List.mem_of_getElem? h2)]
        exact (S1.at_ i o b h1 h2).kp kp
    have x01 := x0.trans' x1
    have xu : Ext H μ (unt H1 a) μ1 := by
      have keyn : ∀ b, H1 b = none → unt H1 a b = none := fun b h => by
        unfold unt
        split
        · rfl
        · exact h
      refine ⟨x01.pre, x01.sub, x01.new, x01.newd, fun b o h n => ?_, fun b o h => ?_⟩
      · rw [hne b (ne_of_none h ha)]; exact x01.keep b o h n
      · obtain ⟨o', h'⟩ := x01.stay b o h
        exact ⟨o', by rw [hne b (ne_of_none h ha)]; exact h'⟩
    have eU : ∀ o : HO, upd (unt H1 a) a o = upd H1 a o := fun o => by
      funext b
      by_cases z : b = a
      · rw [z, upd_same, upd_same]
      · rw [upd_ne z, upd_ne z, hne b z]
    have pu := p1 (unt H1 a) μ1 xu Su
    obtain ⟨hlen, pu⟩ := if_ok pu
    have ru' := ru.kp kp
    have lu : ks.length = us.length := by rw [← hlen, ru.length]
    refine ⟨hD, ks.zip us, ?_, by rw [List.length_zip, ← lu, Nat.min_self, hk]; exact h15, ?_⟩
    · rw [← List.map_id us, List.zip_map, List.map_id]
      rfl
    have em : mergeK [] (ks.zip us) = ks.zip us := by
      have := merge_nodup (more := ks.zip us) (kvs := []) (by rw [List.map_fst_zip (Nat.le_of_eq lu)]; exact nd) (fun _ _ z => by simp at z)
      simpa using this
    rw [em, ← eU]
    cases m with
    | true =>
      have x := Ext.push (o := HO.dK (ks.zip us)) Su hna
      refine pu _ _ x (Su.push hna ⟨us, rfl, lu, ru'.mono Su x⟩) _ ?_
      simp only [Rp]
      exact ⟨a, rfl, by rw [← Su.len]; show (μ1.m ++ [a])[μ1.m.length]? = _; simp⟩
    | false =>
      refine pu _ _ (Ext.laidD Su hna) (Su.laidD hna) _ ?_
      simp only [Rp]
      exact ⟨a, us, rfl, upd_same, lu, List.mem_cons_self, ru'.mono Su (Ext.laidD Su hna)⟩
/-- {} -/
theorem s_dct0 {m : Bool} : PE X (.Dict [] [] pos) (TX X.K E fun ρ => (pure [] : M (List W)) >>= fun ws => if ws.length = ([] : List Key).length then (if m = true then newO (.dct [] ws) else pure (.fd [] ws)) else bad) := by
  refine pe_imp pe_dnewK fun σ H Q h => ?_
  obtain ⟨μ, st, ρ, S, e, p⟩ := h
  intro a ha
  cases m with
  | true =>
    have x := Ext.push (o := HO.dK []) S ha
    refine p _ _ x (S.push ha ⟨[], rfl, rfl, by simp [RpL]⟩) _ ?_
    simp only [Rp]
    exact ⟨a, rfl, by rw [← S.len]; show (μ.m ++ [a])[μ.m.length]? = _; simp⟩
  | false =>
    refine p _ _ (Ext.laidD S ha) (S.laidD ha) _ ?_
    simp only [Rp]
    exact ⟨a, [], rfl, upd_same, rfl, List.mem_cons_self, by simp [RpL]⟩
end
end Vm
/-! Vm, part N: code against the linked text, and that it runs so. -/
namespace Vm
open PySem L2

/-! ### side looks -/
def glN (sc : Scope) (x : Str) : Bool := decide (sc.names.lookup x = some .globalImplicit) && !(x == ("__debug__" : Str)) && decide (x ≠ "__name__")
def visN (sc : Scope) (x : Str) : Bool := match sc.names.lookup x with
  | some .local => true
  | some .cell => true
  | some .free => true
  | _ => false
theorem vis_of {sc : Scope} {x : Str} (h : visN sc x = true) : Vis sc x := by
  unfold visN at h
  unfold Vis
  split at h
  · rename_i e; exact .inl e
  · rename_i e; exact .inr (.inl e)
  · rename_i e; exact .inr (.inr e)
  · cases h
def noSlice : Expr → Bool
  | .Slice _ _ _ _ => false
  | _ => true
theorem plainIx_of {b : Expr} (h : noSlice b = true) : PlainIx b := fun o i => by
  cases b <;> first | rfl | (exact absurd h (by simp [noSlice]))
def plainTest : Expr → Bool
  | .UnaryOp .Not _ _ => false
  | .BoolOp _ _ _ => false
  | .IfExp _ _ _ _ => false
  | .Compare _ _ _ _ => false
  | _ => true
theorem plain_of {e : Expr} {env : Env} (h : plainTest e = true) : ∀ whole, isTrue e env whole = (do let v ← whole; standAt e.pos; holding [v] (truthy v)) := fun whole => by
  cases e with
  | UnaryOp op a pos => cases op <;> first | rfl | (exact absurd h (by simp [plainTest]))
  | BoolOp _ _ _ => exact absurd h (by simp [plainTest])
  | IfExp _ _ _ _ => exact absurd h (by simp [plainTest])
  | Compare _ _ _ _ => exact absurd h (by simp [plainTest])
  | _ => rfl
def noComp : Expr → Bool
  | .ListComp _ _ _ _ => false
  | .SetComp _ _ _ _ => false
  | .DictComp _ _ _ _ _ => false
  | _ => true
theorem swaps_of {e : Expr} {t : Option Expr} {l : Nat} {env : Env} (h : noComp e = true) : swapsWith e t l env = pure false := by
  cases e <;> first | rfl | (exact absurd h (by simp [noComp]))
def noSet : Expr → Bool
  | .Set _ _ _ => false
  | _ => true
theorem folded_of {e : Expr} {env : Env} (h : noSet e = true) : ∀ x, foldedSetIterable e env x = pure x := fun x => by
  cases e <;> first | rfl | (exact absurd h (by simp [noSet]))
theorem marks_of {op : CmpOp} {b : Expr} (h : noSet b = true) : behindInMarks op b = false := by
  cases b <;> first | rfl | (exact absurd h (by simp [noSet]))

/-! ### targets -/
section
variable (N : List Str) (sc : Scope) (cs : List Str)
def stN (i : Nat) (x : Str) : Bool := decide (N[i]? = some x) && (match sc.names.lookup x with
  | some .local => true
  | some .cell => cs.contains x
  | _ => false)
def chkCl (Γ : Gm) (sc : Scope) (cl : List Cl) : Expr → Bool
  | .Tuple ts _ _ => clsE Γ cl ts && ts.all (glE sc) && decide (ts.length ≤ 1000) && !cl.isEmpty
  | t => clsE Γ cl [t] && glE sc t

mutual
def chkG : Tg → Expr → Bool
  | .name i, e => match e with
    | .Name x _ => stN N sc cs i x
    | _ => false
  | .tup ts, e => match e with
    | .Tuple es _ _ => chkGs ts es
    | _ => false
def chkGs : List Tg → List Expr → Bool
  | [], es => es.isEmpty
  | t :: ts, es => match es with
    | e :: r => chkG t e && chkGs ts r
    | [] => false
end
end
def chkKey : Key → Expr → Bool
  | .inl i, e => match e with
    | .Constant (.int j) _ _ => decide (i = j)
    | _ => false
  | .inr x, e => match e with
    | .Constant (.str y) _ _ => decide (x = y)
    | _ => false
theorem chkKey_ok {X : Cx} {k : Key} {e : Expr} (h : chkKey k e = true) : PE X e (tC (kV k)) := by
  cases k with
  | inl i =>
    simp only [chkKey] at h
    split at h
    · rw [of_decide_eq_true h]; exact pe_int
    · cases h
  | inr x =>
    simp only [chkKey] at h
    split at h
    · rw [of_decide_eq_true h]; exact pe_str
    · cases h
/-! ### the code and the text -/
section
variable (Γ : Gm)
mutual
def chkE (N : List Str) (sc : Scope) (cs : List Str) : C → Expr → Bool
  | .var i, e => match e with
    | .Name x _ => decide (N[i]? = some x) && visN sc x && !(x == ("__debug__" : Str)) && !(x == ("__classdict__" : Str))
    | _ => false
  | .int i, e => match e with
    | .Constant (.int j) _ _ => decide (i = j)
    | _ => false
  | .str s, e => match e with
    | .Constant (.str t) _ _ => decide (s = t)
    | _ => false
  | .bl b, e => match e with
    | .Constant (.bool c) _ _ => b == c
    | _ => false
  | .non, e => match e with
    | .Constant .none _ _ => true
    | _ => false
  | .glb x, e => match e with
    | .Name y _ => decide (x = y) && glN sc y && (Γ.glob x).isSome
    | _ => false
  | .bin op a b, e => match e with
    | .BinOp ea o eb _ => decide (op = o) && chkE N sc cs a ea && chkE N sc cs b eb
    | _ => false
  | .neg a, e => match e with
    | .UnaryOp .USub ea _ => chkE N sc cs a ea
    | _ => false
  | .not a, e => match e with
    | .UnaryOp .Not ea _ => chkE N sc cs a ea
    | _ => false
  | .and x xs, e => match e with
    | .BoolOp .And (e1 :: es) _ => chkE N sc cs x e1 && chkV N sc cs xs es
    | _ => false
  | .or x xs, e => match e with
    | .BoolOp .Or (e1 :: es) _ => chkE N sc cs x e1 && chkV N sc cs xs es
    | _ => false
  | .cmp op a b, e => match e with
    | .Compare ea [o] [eb] _ => decide (op = o) && chkE N sc cs a ea && chkE N sc cs b eb && noSet eb
    | _ => false
  | .chn op op' a b c, e => match e with
    | .Compare ea [o, o'] [eb, ec] _ => decide (op = o) && decide (op' = o') && chkE N sc cs a ea && chkE N sc cs b eb && chkE N sc cs c ec && noSet ec
    | _ => false
  | .isN a, e => match e with
    | .Compare ea [.Is] [.Constant .none _ _] _ => chkE N sc cs a ea
    | _ => false
  | .notN a, e => match e with
    | .Compare ea [.IsNot] [.Constant .none _ _] _ => chkE N sc cs a ea
    | _ => false
  | .ife t a b, e => match e with
    | .IfExp et ea eb _ => chkT N sc cs t et && chkE N sc cs a ea && chkE N sc cs b eb
    | _ => false
  | .tup xs, e => match e with
    | .Tuple es _ _ => chkEs N sc cs xs es
    | _ => false
  | .lst _ xs, e => match e with
    | .List es _ => chkEs N sc cs xs es
    | _ => false
  | .call f xs ks ys, e => match e with
    | .Call (.Name g _) args kws _ => decide (f = g) && glN sc g && chkEs N sc cs xs args && chkKs N sc cs ys kws && decide (kwNames kws = some ks) && (Γ.bnd f args.length ks).isSome && (!args.isEmpty || kws.isEmpty)
    | _ => false
  | .mk f xs ks ys, e => match e with
    | .Call (.Name g _) args kws _ => decide (f = g) && glN sc g && chkEs N sc cs xs args && chkKs N sc cs ys kws && decide (kwNames kws = some ks) && (Γ.kbnd f args.length ks).isSome && (!args.isEmpty || kws.isEmpty)
    | _ => false
  | .meth c o m xs ks ys, e => match e with
    | .Call (.Attribute eo n apos) args kws pos => decide (m = n) && superFree eo && chkE N sc cs o eo && chkEs N sc cs xs args && chkKs N sc cs ys kws && decide (kwNames kws = some ks) && (Γ.mbnd c m (args.length + 1) ks).isSome && (!args.isEmpty || kws.isEmpty) && decide (args.length + kws.length < 29) && (apos.endLine == pos.line)
    | _ => false
  | .bi f xs, e => match e with
    | .Call (.Name g _) (a :: as) [] _ => decide (g = f.nm) && glN sc g && Γ.free g && chkEs N sc cs xs (a :: as)
    | _ => false
  | .bm m o xs, e => match e with
    | .Call (.Attribute eo n apos) (a :: as) [] pos => decide (n = m.nm) && superFree eo && chkE N sc cs o eo && chkEs N sc cs xs (a :: as) && decide ((a :: as).length < 29) && (apos.endLine == pos.line)
    | _ => false
  | .isi a cl, e => match e with
    | .Call (.Name g _) [ea, t] [] _ => decide (g = "isinstance") && glN sc g && Γ.free g && chkE N sc cs a ea && noStar ea && chkCl Γ sc cl t
    | _ => false
  | .attr o f, e => match e with
    | .Attribute eo g _ => decide (f = g) && superFree eo && chkE N sc cs o eo
    | _ => false
  | .sub o i, e => match e with
    | .Subscript eo ei _ => noSlice ei && chkE N sc cs o eo && chkE N sc cs i ei
    | _ => false
  | .sli o lo hi, e => match e with
    | .Subscript eo (.Slice l h none _) _ => chkE N sc cs o eo && chkO N sc cs lo l && chkO N sc cs hi h
    | _ => false
  | .lc _ own c tg it ifs, e => match e with
    | .ListComp ee [⟨et, ei, eifs, 0⟩] scope _ => blkC N sc scope own && decide (∀ i ∈ tg.slots, i ∈ own.map (·.2)) && chkG N (relS scope sc) (scope.names.filterMap fun y => if y.2 = .cell ∧ scope.names.lookup y.1 = some .cell then some y.1 else none) tg et && chkI N sc cs it et ei && noSet ei &&
        chkIf N (relS scope sc) (scope.names.filterMap fun y => if y.2 = .cell ∧ scope.names.lookup y.1 = some .cell then some y.1 else none) ifs eifs && chkE N (relS scope sc) (scope.names.filterMap fun y => if y.2 = .cell ∧ scope.names.lookup y.1 = some .cell then some y.1 else none) c ee
    | _ => false
  | .lc2 _ own vs1 c tg it ifs tg1 it1 ifs1, e => match e with
    | .ListComp ee [⟨et, ei, eifs, 0⟩, ⟨et1, ei1, eifs1, 0⟩] scope _ => blkC N sc scope own && decide (∀ i ∈ tg.slots, i ∈ own.map (·.2)) && decide (∀ i ∈ tg1.slots, i ∈ vs1) && decide (∀ i ∈ vs1, i ∈ own.map (·.2)) && chkG N (relS scope sc) (scope.names.filterMap fun y => if y.2 = .cell ∧ scope.names.lookup y.1 = some .cell then some y.1 else none) tg et && chkI N sc cs it et ei && noSet ei &&
        chkIf N (relS scope sc) (scope.names.filterMap fun y => if y.2 = .cell ∧ scope.names.lookup y.1 = some .cell then some y.1 else none) ifs eifs && chkI N (relS scope sc) (scope.names.filterMap fun y => if y.2 = .cell ∧ scope.names.lookup y.1 = some .cell then some y.1 else none) it1 et1 ei1 && noSet ei1 && chkG N (relS scope sc) (scope.names.filterMap fun y => if y.2 = .cell ∧ scope.names.lookup y.1 = some .cell then some y.1 else none) tg1 et1 && chkIf N (relS scope sc) (scope.names.filterMap fun y => if y.2 = .cell ∧ scope.names.lookup y.1 = some .cell then some y.1 else none) ifs1 eifs1 && chkE N (relS scope sc) (scope.names.filterMap fun y => if y.2 = .cell ∧ scope.names.lookup y.1 = some .cell then some y.1 else none) c ee
    | _ => false
  | .lenSet own c tg it ifs, e => match e with
    | .Call (.Name g _) [.SetComp ee [⟨et, ei, eifs, 0⟩] scope _] [] _ => decide (g = "len") && glN sc g && Γ.free g && blkC N sc scope own && decide (∀ i ∈ tg.slots, i ∈ own.map (·.2)) && chkG N (relS scope sc) (scope.names.filterMap fun y => if y.2 = .cell ∧ scope.names.lookup y.1 = some .cell then some y.1 else none) tg et && chkI N sc cs it et ei && noSet ei && chkIf N (relS scope sc) (scope.names.filterMap fun y => if y.2 = .cell ∧ scope.names.lookup y.1 = some .cell then some y.1 else none) ifs eifs && chkE N (relS scope sc) (scope.names.filterMap fun y => if y.2 = .cell ∧ scope.names.lookup y.1 = some .cell then some y.1 else none) c ee
    | _ => false
  | .lenRng a, e => match e with
    | .Call (.Name g _) [.Call (.Name g2 _) [ea] [] _] [] _ => decide (g = "len") && glN sc g && Γ.free g && decide (g2 = "range") && glN sc g2 && Γ.free g2 && chkE N sc cs a ea && noStar ea
    | _ => false
  | .cat _ a b, e => match e with
    | .BinOp ea .Add eb _ => chkE N sc cs a ea && chkE N sc cs b eb
    | _ => false
  | .rev o, e => match e with
    | .Subscript eo (.Slice none none (some (.UnaryOp .USub (.Constant (.int i) _ _) _)) _) _ => decide (i = 1) && chkE N sc cs o eo
    | _ => false
  | .dct _ ks vs, e => match e with
    | .Dict keys vals _ => chkD N sc cs vs ks keys vals && decide ks.Nodup && decide (keys.length ≤ 15)
    | _ => false
  | .fst xs, e => match e with
    | .JoinedStr es _ => decide (2 ≤ es.length) && chkF N sc cs xs es
    | _ => false
def chkD (N : List Str) (sc : Scope) (cs : List Str) : Cs → List Key → List (Option Expr) → List Expr → Bool
  | .nil, ks, keys, vals => ks.isEmpty && keys.isEmpty && vals.isEmpty
  | .cons c r, ks, keys, vals => match ks, keys, vals with
    | k :: ks, some ke :: keys, v :: vals => chkKey k ke && chkE N sc cs c v && chkD N sc cs r ks keys vals
    | _, _, _ => false
def chkF (N : List Str) (sc : Scope) (cs : List Str) : Cs → List Expr → Bool
  | .nil, es => es.isEmpty
  | .cons c r, es => match es with
    | [] => false
    | e :: es => (match e with
      | .FormattedValue ee cv none _ => decide (cv = -1) && chkE N sc cs c ee
      | .Constant (.str m) _ _ => (match c with
        | .str m' => decide (m' = m) && decide (m.length ≤ sizeLine)
        | _ => false)
      | _ => false) && chkF N sc cs r es
def chkEs (N : List Str) (sc : Scope) (cs : List Str) : Cs → List Expr → Bool
  | .nil, es => es.isEmpty
  | .cons c r, es => match es with
    | e :: es => chkE N sc cs c e && noStar e && chkEs N sc cs r es
    | [] => false
def chkV (N : List Str) (sc : Scope) (cs : List Str) : Cs → List Expr → Bool
  | .nil, es => es.isEmpty
  | .cons c r, es => match es with
    | e :: es => chkE N sc cs c e && chkV N sc cs r es
    | [] => false
def chkKs (N : List Str) (sc : Scope) (cs : List Str) : Cs → List Keyword → Bool
  | .nil, es => es.isEmpty
  | .cons c r, es => match es with
    | ⟨_, e, _⟩ :: es => chkE N sc cs c e && chkKs N sc cs r es
    | [] => false
def chkT (N : List Str) (sc : Scope) (cs : List Str) : Ct → Expr → Bool
  | .val c, e => plainTest e && chkE N sc cs c e
  | .cmp op a b, e => match e with
    | .Compare ea [o] [eb] _ => decide (op = o) && chkE N sc cs a ea && chkE N sc cs b eb && noSet eb
    | _ => false
  | .chn op op' a b c, e => match e with
    | .Compare ea [o, o'] [eb, ec] _ => decide (op = o) && decide (op' = o') && chkE N sc cs a ea && chkE N sc cs b eb && chkE N sc cs c ec && noSet ec
    | _ => false
  | .isN a, e => match e with
    | .Compare ea [.Is] [.Constant .none _ _] _ => chkE N sc cs a ea
    | _ => false
  | .notN a, e => match e with
    | .Compare ea [.IsNot] [.Constant .none _ _] _ => chkE N sc cs a ea
    | _ => false
  | .not t, e => match e with
    | .UnaryOp .Not ea _ => chkT N sc cs t ea
    | _ => false
  | .and t ts, e => match e with
    | .BoolOp .And (e1 :: es) _ => chkT N sc cs t e1 && chkTs N sc cs ts es
    | _ => false
  | .or t ts, e => match e with
    | .BoolOp .Or (e1 :: es) _ => chkT N sc cs t e1 && chkTs N sc cs ts es
    | _ => false
def chkTs (N : List Str) (sc : Scope) (cs : List Str) : Cts → List Expr → Bool
  | .nil, es => es.isEmpty
  | .cons t r, es => match es with
    | e :: es => chkT N sc cs t e && chkTs N sc cs r es
    | [] => false
def chkIf (N : List Str) (sc : Scope) (cs : List Str) : Cts → List Expr → Bool
  | .nil, es => es.isEmpty
  | .cons t r, es => match r, es with
    | .nil, [e] => chkT N sc cs t e
    | _, _ => false
def chkO (N : List Str) (sc : Scope) (cs : List Str) : Co → Option Expr → Bool
  | .no, e => e.isNone
  | .yes c, e => match e with
    | some e => chkE N sc cs c e
    | none => false
def chkI (N : List Str) (sc : Scope) (cs : List Str) : It → Expr → Expr → Bool
  | .seq c, _, e => chkE N sc cs c e
  | .rng1 a, _, e => match e with
    | .Call (.Name g _) [ea] [] _ => decide (g = "range") && glN sc g && Γ.free g && chkE N sc cs a ea && noStar ea
    | _ => false
  | .rng2 a b, _, e => match e with
    | .Call (.Name g _) [ea, eb] [] _ => decide (g = "range") && glN sc g && Γ.free g && chkE N sc cs a ea && noStar ea && chkE N sc cs b eb && noStar eb
    | _ => false
  | .zip a b, et, e => match et, e with
    | .Tuple _ _ _, .Call (.Name g _) [ea, eb] [] _ => decide (g = "zip") && glN sc g && Γ.free g && chkE N sc cs a ea && noStar ea && chkE N sc cs b eb && noStar eb
    | _, _ => false
  | .enum a, et, e => match et, e with
    | .Tuple _ _ _, .Call (.Name g _) [ea] [] _ => decide (g = "enumerate") && glN sc g && Γ.free g && chkE N sc cs a ea && noStar ea
    | _, _ => false
end
end

/-- where one stands -/
structure Gd (X : Cx) (Γ : Gm) (k : Nat) (E : WX) (N : List Str) (sc : Scope) (cs : List Str) : Prop where
  hN : X.N = N
  hsc : X.env.scope = sc
  nd : X.N.Nodup
  calm : X.calm = true
  room : RmG k X.A
  G : GOk X.prog X.w X.K X.mg X.base k Γ
  tk : Takes X E
  hcs : ∀ x ∈ cs, X.fn x = true
  k3 : 3 ≤ k
theorem Gd.blk {X : Cx} {Γ : Gm} {k : Nat} {E : WX} {N : List Str} {sc : Scope} {cs : List Str} (d : Gd X Γ k E N sc cs) (s : Shared) (H : Hp) (scope : Scope) (C : Addr) (cl : List (Str × Addr)) (fp : List Addr) :
    Gd (X.blk s H scope (compEnvC scope cl C X.env) fp) Γ k EF N (relS scope sc) (scope.names.filterMap fun y => if y.2 = .cell ∧ scope.names.lookup y.1 = some .cell then some y.1 else none) :=
  ⟨d.hN, by rw [← d.hsc]; rfl, d.nd, d.calm, d.room, d.G, takes_EF, (fun x hx => by
    obtain ⟨y, _, h2⟩ := List.mem_filterMap.mp hx
    split at h2
    · rename_i h3
      cases h2
      show (scope.names.lookup y.1 == some NameKind.cell) = true
      rw [h3.2]; rfl
    · cases h2), d.k3⟩
theorem glN_of {X : Cx} {sc : Scope} {x : Str} (hsc : X.env.scope = sc) (h : glN sc x = true) : Gl X x ∧ (x == ("__debug__" : Str)) = false ∧ x ≠ "__name__" := by
  unfold glN at h
  simp only [Bool.and_eq_true, decide_eq_true_eq, Bool.not_eq_true'] at h
  obtain ⟨⟨h1, h2⟩, h3⟩ := h
  refine ⟨?_, h2, h3⟩
  show X.env.scope.names.lookup x = _
  rw [hsc]; exact h1
mutual
def gOf (K : PySem.W.Frag) : Tg → TG
  | .name i => gName i
  | .tup ts => gTup K ts.length (gsOf K ts)
def gsOf (K : PySem.W.Frag) : List Tg → TGs
  | [] => gNil
  | t :: ts => gCons (gOf K t) (gsOf K ts)
end
mutual
theorem gd_of {K : PySem.W.Frag} : ∀ (tg : Tg), GDn K (gOf K tg) tg
  | .name i => by simp only [gOf]; exact gd_name
  | .tup ts => by simp only [gOf]; exact gd_tup (gds_of ts) rfl
theorem gds_of {K : PySem.W.Frag} : ∀ (ts : List Tg), GDnL K (gsOf K ts) ts
  | [] => by simp only [gsOf]; exact gd_nil
  | t :: ts => by simp only [gsOf]; exact gd_cons (gd_of t) (gds_of ts)
end
section
variable {X : Cx} {N : List Str} {sc : Scope} {cs : List Str}
mutual
theorem chkG_ok (hN : X.N = N) (hsc : X.env.scope = sc) (nd : X.N.Nodup) (hc : X.calm = true) (hcs : ∀ x ∈ cs, X.fn x = true) : ∀ {tg : Tg} {e : Expr}, chkG N sc cs tg e = true → PG X e (gOf X.K tg)
  | .name i, e, h => by
    cases e with
    | Name x p =>
      have h' : stN N sc cs i x = true := h
      unfold stN at h'
      rw [Bool.and_eq_true, decide_eq_true_eq] at h'
      obtain ⟨h1, h2⟩ := h'
      rw [← hN] at h1
      simp only [gOf]
      cases q : sc.names.lookup x with
      | none => rw [q] at h2; cases h2
      | some kd =>
        rw [q] at h2
        rw [← hsc] at q
        cases kd with
        | «local» => exact pg_name nd h1 (.inl q) (.inr q)
        | cell => exact pg_name nd h1 (.inr q) (.inl (hcs x (List.contains_iff_mem.mp h2)))
        | free => cases h2
        | globalExplicit => cases h2
        | globalImplicit => cases h2
    | _ => exact absurd h Bool.false_ne_true
  | .tup ts, e, h => by
    cases e with
    | Tuple es kk p =>
      have h' : chkGs N sc cs ts es = true := h
      obtain ⟨h1, h3, h4⟩ := chkGs_ok hN hsc nd hc hcs h'
      simp only [gOf]
      exact pg_tup (n := ts.length) hc h1 (by rw [h3]) h4
    | _ => exact absurd h Bool.false_ne_true
theorem chkGs_ok (hN : X.N = N) (hsc : X.env.scope = sc) (nd : X.N.Nodup) (hc : X.calm = true) (hcs : ∀ x ∈ cs, X.fn x = true) : ∀ {ts : List Tg} {es : List Expr}, chkGs N sc cs ts es = true → PGs X es (gsOf X.K ts) ∧ (assignEach es X.env).length = ts.length ∧ (assignEach es X.env).findIdx? (·.1) = none
  | [], es, h => by
    cases es with
    | nil => simp only [gsOf]; exact ⟨pgs_nil, rfl, rfl⟩
    | cons _ _ => exact absurd h Bool.false_ne_true
  | t :: ts, es, h => by
    cases es with
    | nil => exact absurd h Bool.false_ne_true
    | cons e r =>
      have h' : (chkG N sc cs t e && chkGs N sc cs ts r) = true := h
      rw [Bool.and_eq_true] at h'
      have h1 := chkG_ok hN hsc nd hc hcs h'.1
      obtain ⟨h3, h5, h6⟩ := chkGs_ok hN hsc nd hc hcs h'.2
      have he : assignEach (e :: r) X.env = (false, assign e X.env) :: assignEach r X.env := by
        cases e with
        | Starred a p => cases t <;> exact absurd h'.1 Bool.false_ne_true
        | _ => rfl
      simp only [gsOf]
      refine ⟨pgs_cons h1 h3 (by rw [he]; rfl), by rw [he]; simp [h5], ?_⟩
      rw [he, List.findIdx?_cons]
      simp [h6]
end
end
end Vm
/-! Vm, part O: checked code runs as it is evaluated. -/
namespace Vm
open PySem L2

theorem and2 {a b : Bool} (h : (a && b) = true) : a = true ∧ b = true := Bool.and_eq_true_iff.mp h
theorem dd {p : Prop} [Decidable p] (h : decide p = true) : p := of_decide_eq_true h
section
variable {Γ : Gm} {k : Nat}
theorem isSome_ex {α : Type} {o : Option α} (h : o.isSome = true) : ∃ a, o = some a := Option.isSome_iff_exists.mp h
theorem stars_of {N : List Str} {sc : Scope} {cs : List Str} : ∀ {xs : Cs} {es : List Expr}, chkEs Γ N sc cs xs es = true → es.all noStar = true
  | .nil, es, h => by
    cases es with
    | nil => rfl
    | cons _ _ => exact absurd h Bool.false_ne_true
  | .cons c r, es, h => by
    cases es with
    | nil => exact absurd h Bool.false_ne_true
    | cons e es =>
      have h' : (chkE Γ N sc cs c e && noStar e && chkEs Γ N sc cs r es) = true := h
      obtain ⟨h1, h2⟩ := and2 h'
      rw [List.all_cons, (and2 h1).2, stars_of h2]; rfl
theorem cs_nil {N : List Str} {sc : Scope} {cs : List Str} {xs : Cs} (h : chkEs Γ N sc cs xs [] = true) : xs = .nil := by
  cases xs with
  | nil => rfl
  | cons c r => exact absurd h Bool.false_ne_true
theorem ks_nil {N : List Str} {sc : Scope} {cs : List Str} {xs : Cs} (h : chkKs Γ N sc cs xs [] = true) : xs = .nil := by
  cases xs with
  | nil => rfl
  | cons c r => exact absurd h Bool.false_ne_true
mutual
theorem sndE : ∀ (c : C) {X : Cx} {E : WX} {N : List Str} {sc : Scope} {cs : List Str} {e : Expr}, Gd X Γ k E N sc cs → chkE Γ N sc cs c e = true → PE X e (TX X.K E (evalE Γ c))
  | .var i, X, E, N, sc, cs, e, d, h => by
    cases e with
    | Name x p =>
      have h' : (decide (N[i]? = some x) && visN sc x && !(x == ("__debug__" : Str)) && !(x == ("__classdict__" : Str))) = true := h
      obtain ⟨h1, h4⟩ := and2 h'
      obtain ⟨h1, h3⟩ := and2 h1
      obtain ⟨h1, h2⟩ := and2 h1
      exact s_var (by rw [d.hN]; exact dd h1) (by rw [d.hsc]; exact vis_of h2) (by simpa using h3) (by simpa using h4)
    | _ => exact absurd h Bool.false_ne_true
  | .int i, X, E, N, sc, cs, e, d, h => by
    cases e with
    | Constant v kk p =>
      cases v with
      | int j =>
        have h' : decide (i = j) = true := h
        cases dd h'
        exact s_cst pe_int fun H μ => by rw [rp_int]
      | _ => exact absurd h Bool.false_ne_true
    | _ => exact absurd h Bool.false_ne_true
  | .str i, X, E, N, sc, cs, e, d, h => by
    cases e with
    | Constant v kk p =>
      cases v with
      | str j =>
        have h' : decide (i = j) = true := h
        cases dd h'
        exact s_cst pe_str fun H μ => by rw [rp_str]
      | _ => exact absurd h Bool.false_ne_true
    | _ => exact absurd h Bool.false_ne_true
  | .bl i, X, E, N, sc, cs, e, d, h => by
    cases e with
    | Constant v kk p =>
      cases v with
      | bool j =>
        have h' : (i == j) = true := h
        cases eq_of_beq h'
        exact s_cst pe_bl fun H μ => by rw [rp_bl]
      | _ => exact absurd h Bool.false_ne_true
    | _ => exact absurd h Bool.false_ne_true
  | .non, X, E, N, sc, cs, e, d, h => by
    cases e with
    | Constant v kk p =>
      cases v with
      | none => exact s_cst pe_non fun H μ => by rw [rp_non]
      | _ => exact absurd h Bool.false_ne_true
    | _ => exact absurd h Bool.false_ne_true
  | .glb x, X, E, N, sc, cs, e, d, h => by
    cases e with
    | Name y p =>
      have h' : (decide (x = y) && glN sc y && (Γ.glob x).isSome) = true := h
      obtain ⟨h1, h3⟩ := and2 h'
      obtain ⟨h1, h2⟩ := and2 h1
      cases dd h1
      obtain ⟨w, ew⟩ := isSome_ex h3
      obtain ⟨g1, g2, g3⟩ := glN_of d.hsc h2
      obtain ⟨v, u, m1, m2, m3⟩ := d.G.glob _ _ ew
      have key : PE X (.Name x p) (TX X.K E fun _ => pure w) := s_cst (pe_glob g1 m1 m2 g2) m3
      have e2 : evalE Γ (.glb x) = fun _ => pure w := by
        funext ρ
        simp only [evalE, ew, ofO]
      rw [e2]; exact key
    | _ => exact absurd h Bool.false_ne_true
  | .bin op a b, X, E, N, sc, cs, e, d, h => by
    cases e with
    | BinOp ea o eb p =>
      have h' : (decide (op = o) && chkE Γ N sc cs a ea && chkE Γ N sc cs b eb) = true := h
      obtain ⟨h1, h3⟩ := and2 h'
      obtain ⟨h1, h2⟩ := and2 h1
      cases dd h1
      exact s_bin (op_bin op) (dn_bin op) (sndE a d h2) (sndE b d h3)
    | _ => exact absurd h Bool.false_ne_true
  | .neg a, X, E, N, sc, cs, e, d, h => by
    cases e with
    | UnaryOp o ea p =>
      cases o with
      | USub =>
        refine s_un un_neg ?_ (sndE a d h)
        intro E H μ st x wx Q S rx p
        cases wx <;> first | exact p.elim | skip
        rw [rp_int] at rx
        exact ⟨_, rx, Pst.pure S p _ (by rw [rp_int])⟩
      | _ => exact absurd h Bool.false_ne_true
    | _ => exact absurd h Bool.false_ne_true
  | .not a, X, E, N, sc, cs, e, d, h => by
    cases e with
    | UnaryOp o ea p =>
      cases o with
      | Not => exact s_not (sndE a d h)
      | _ => exact absurd h Bool.false_ne_true
    | _ => exact absurd h Bool.false_ne_true
  | .and x xs, X, E, N, sc, cs, e, d, h => by
    cases e with
    | BoolOp o es p =>
      cases o with
      | And =>
        cases es with
        | nil => exact absurd h Bool.false_ne_true
        | cons e1 es =>
          have h' : (chkE Γ N sc cs x e1 && chkV Γ N sc cs xs es) = true := h
          obtain ⟨h1, h2⟩ := and2 h'
          exact sndAnd xs d (sndE x d h1) h2
      | _ => exact absurd h Bool.false_ne_true
    | _ => exact absurd h Bool.false_ne_true
  | .or x xs, X, E, N, sc, cs, e, d, h => by
    cases e with
    | BoolOp o es p =>
      cases o with
      | Or =>
        cases es with
        | nil => exact absurd h Bool.false_ne_true
        | cons e1 es =>
          have h' : (chkE Γ N sc cs x e1 && chkV Γ N sc cs xs es) = true := h
          obtain ⟨h1, h2⟩ := and2 h'
          exact sndOr xs d (sndE x d h1) h2
      | _ => exact absurd h Bool.false_ne_true
    | _ => exact absurd h Bool.false_ne_true
  | .cmp op a b, X, E, N, sc, cs, e, d, h => by
    cases e with
    | Compare ea os bs p =>
      match os, bs, h with
      | [o], [eb], h =>
        have h' : (decide (op = o) && chkE Γ N sc cs a ea && chkE Γ N sc cs b eb && noSet eb) = true := h
        obtain ⟨h1, h4⟩ := and2 h'
        obtain ⟨h1, h3⟩ := and2 h1
        obtain ⟨h1, h2⟩ := and2 h1
        cases dd h1
        exact s_cmp (op_cmpG d.G d.room op) (dn_cmpG op) (sndE a d h2) (sndE b d h3) (marks_of h4)
      | [], _, h => exact absurd h Bool.false_ne_true
      | [_], [], h => exact absurd h Bool.false_ne_true
      | [_], _ :: _ :: _, h => exact absurd h Bool.false_ne_true
      | _ :: _ :: _, _, h => exact absurd h Bool.false_ne_true
    | _ => exact absurd h Bool.false_ne_true
  | .chn op op' a b c, X, E, N, sc, cs, e, d, h => by
    cases e with
    | Compare ea os bs p =>
      match os, bs, h with
      | [o, o'], [eb, ec], h =>
        have h' : (decide (op = o) && decide (op' = o') && chkE Γ N sc cs a ea && chkE Γ N sc cs b eb && chkE Γ N sc cs c ec && noSet ec) = true := h
        obtain ⟨h1, h6⟩ := and2 h'
        obtain ⟨h1, h5⟩ := and2 h1
        obtain ⟨h1, h4⟩ := and2 h1
        obtain ⟨h1, h3⟩ := and2 h1
        obtain ⟨h1, h2⟩ := and2 h1
        cases dd h1
        cases dd h2
        exact s_chn (op_cmpG d.G d.room op) (op_cmpG d.G d.room op') (dn_cmpG op) (dn_cmpG op') (sndE a d h3) (sndE b d h4) (sndE c d h5) (by show behindInMarks op' ec = false; exact marks_of h6)
      | [], _, h => exact absurd h Bool.false_ne_true
      | [_], _, h => exact absurd h Bool.false_ne_true
      | [_, _], [], h => exact absurd h Bool.false_ne_true
      | [_, _], [_], h => exact absurd h Bool.false_ne_true
      | [_, _], _ :: _ :: _ :: _, h => exact absurd h Bool.false_ne_true
      | _ :: _ :: _ :: _, _, h => exact absurd h Bool.false_ne_true
    | _ => exact absurd h Bool.false_ne_true
  | .isN a, X, E, N, sc, cs, e, d, h => by
    simp only [chkE] at h
    split at h
    · exact s_isN (sndE a d h)
    · exact absurd h Bool.false_ne_true
  | .notN a, X, E, N, sc, cs, e, d, h => by
    simp only [chkE] at h
    split at h
    · exact s_notN (sndE a d h)
    · exact absurd h Bool.false_ne_true
  | .ife t a b, X, E, N, sc, cs, e, d, h => by
    cases e with
    | IfExp et ea eb p =>
      have h' : (chkT Γ N sc cs t et && chkE Γ N sc cs a ea && chkE Γ N sc cs b eb) = true := h
      obtain ⟨h1, h3⟩ := and2 h'
      obtain ⟨h1, h2⟩ := and2 h1
      exact s_if (sndT t d h1) (sndE a d h2) (sndE b d h3)
    | _ => exact absurd h Bool.false_ne_true
  | .tup xs, X, E, N, sc, cs, e, d, h => by
    cases e with
    | Tuple es kk p => exact s_tup (sndEs xs d h)
    | _ => exact absurd h Bool.false_ne_true
  | .lst m xs, X, E, N, sc, cs, e, d, h => by
    cases e with
    | List es p => exact s_lst (sndEs xs d h)
    | _ => exact absurd h Bool.false_ne_true
  | .call f xs ks ys, X, E, N, sc, cs, e, d, h => by
    cases e with
    | Call func args kws p =>
      cases func with
      | Name g pg =>
        have h' : (decide (f = g) && glN sc g && chkEs Γ N sc cs xs args && chkKs Γ N sc cs ys kws && decide (kwNames kws = some ks) && (Γ.bnd f args.length ks).isSome && (!args.isEmpty || kws.isEmpty)) = true := h
        obtain ⟨h1, h7⟩ := and2 h'
        obtain ⟨h1, h6⟩ := and2 h1
        obtain ⟨h1, h5⟩ := and2 h1
        obtain ⟨h1, h4⟩ := and2 h1
        obtain ⟨h1, h3⟩ := and2 h1
        obtain ⟨h1, h2⟩ := and2 h1
        cases dd h1
        have h5 := dd h5
        obtain ⟨g1, g2, g3⟩ := glN_of d.hsc h2
        obtain ⟨gb, eb⟩ := isSome_ex h6
        cases args with
        | nil =>
          cases kws with
          | nil =>
            cases cs_nil h3
            cases ks_nil h4
            simp only [kwNames] at h5
            cases h5
            exact s_call0 d.G d.room d.tk g1 g2
          | cons _ _ => exact absurd h7 Bool.false_ne_true
        | cons a as =>
          cases kws with
          | nil =>
            cases ks_nil h4
            simp only [kwNames] at h5
            cases h5
            exact s_call d.G d.room d.tk g1 (sndEs xs d h3) (stars_of h3) g2 ⟨_, gb, eb⟩
          | cons kw kws => exact s_callK d.G d.room d.tk g1 (sndEs xs d h3) (stars_of h3) (sndKs ys d h4) h5 g2 ⟨_, gb, eb⟩
      | _ => exact absurd h Bool.false_ne_true
    | _ => exact absurd h Bool.false_ne_true
  | .mk f xs ks ys, X, E, N, sc, cs, e, d, h => by
    cases e with
    | Call func args kws p =>
      cases func with
      | Name g pg =>
        have h' : (decide (f = g) && glN sc g && chkEs Γ N sc cs xs args && chkKs Γ N sc cs ys kws && decide (kwNames kws = some ks) && (Γ.kbnd f args.length ks).isSome && (!args.isEmpty || kws.isEmpty)) = true := h
        obtain ⟨h1, h7⟩ := and2 h'
        obtain ⟨h1, h6⟩ := and2 h1
        obtain ⟨h1, h5⟩ := and2 h1
        obtain ⟨h1, h4⟩ := and2 h1
        obtain ⟨h1, h3⟩ := and2 h1
        obtain ⟨h1, h2⟩ := and2 h1
        cases dd h1
        have h5 := dd h5
        obtain ⟨g1, g2, g3⟩ := glN_of d.hsc h2
        obtain ⟨gb, eb⟩ := isSome_ex h6
        cases args with
        | nil =>
          cases kws with
          | nil =>
            cases cs_nil h3
            cases ks_nil h4
            simp only [kwNames] at h5
            cases h5
            exact s_mk0 d.G d.room d.tk g1 g2
          | cons _ _ => exact absurd h7 Bool.false_ne_true
        | cons a as =>
          cases kws with
          | nil =>
            cases ks_nil h4
            simp only [kwNames] at h5
            cases h5
            exact s_mk d.G d.room d.tk g1 (sndEs xs d h3) (stars_of h3) g2 ⟨_, gb, eb⟩
          | cons kw kws => exact s_mkK d.G d.room d.tk g1 (sndEs xs d h3) (stars_of h3) (sndKs ys d h4) h5 g2 ⟨_, gb, eb⟩
      | _ => exact absurd h Bool.false_ne_true
    | _ => exact absurd h Bool.false_ne_true
  | .meth c o m xs ks ys, X, E, N, sc, cs, e, d, h => by
    cases e with
    | Call func args kws p =>
      cases func with
      | Attribute eo n apos =>
        have h' : (decide (m = n) && superFree eo && chkE Γ N sc cs o eo && chkEs Γ N sc cs xs args && chkKs Γ N sc cs ys kws && decide (kwNames kws = some ks) && (Γ.mbnd c m (args.length + 1) ks).isSome && (!args.isEmpty || kws.isEmpty) && decide (args.length + kws.length < 29) && (apos.endLine == p.line)) = true := h
        obtain ⟨h1, hl⟩ := and2 h'
        obtain ⟨h1, hn⟩ := and2 h1
        obtain ⟨h1, h7⟩ := and2 h1
        obtain ⟨h1, h6⟩ := and2 h1
        obtain ⟨h1, h5⟩ := and2 h1
        obtain ⟨h1, h4⟩ := and2 h1
        obtain ⟨h1, h3⟩ := and2 h1
        obtain ⟨h1, ho⟩ := and2 h1
        obtain ⟨h1, hs⟩ := and2 h1
        cases dd h1
        have h5 := dd h5
        obtain ⟨gb, eb⟩ := isSome_ex h6
        cases args with
        | nil =>
          cases kws with
          | nil =>
            cases cs_nil h3
            cases ks_nil h4
            simp only [kwNames] at h5
            cases h5
            exact s_meth0 d.G d.room d.tk ⟨_, gb, eb⟩ (sndE o d ho) hs hl
          | cons _ _ => exact absurd h7 Bool.false_ne_true
        | cons a as =>
          cases kws with
          | nil =>
            cases ks_nil h4
            simp only [kwNames] at h5
            cases h5
            exact s_meth d.G d.room d.tk ⟨_, gb, eb⟩ (sndE o d ho) hs (sndEs xs d h3) (stars_of h3) (dd hn) hl
          | cons kw kws => exact s_methK d.G d.room d.tk ⟨_, gb, eb⟩ (sndE o d ho) hs (sndEs xs d h3) (stars_of h3) (sndKs ys d h4) h5 (dd hn) hl
      | _ => exact absurd h Bool.false_ne_true
    | _ => exact absurd h Bool.false_ne_true
  | .bi f xs, X, E, N, sc, cs, e, d, h => by
    cases e with
    | Call func args kws p =>
      cases func with
      | Name g pg =>
        cases args with
        | nil => exact absurd h Bool.false_ne_true
        | cons a as =>
          cases kws with
          | nil =>
            have h' : (decide (g = f.nm) && glN sc g && Γ.free g && chkEs Γ N sc cs xs (a :: as)) = true := h
            obtain ⟨h1, h4⟩ := and2 h'
            obtain ⟨h1, h3⟩ := and2 h1
            obtain ⟨h1, h2⟩ := and2 h1
            have e1 := dd h1
            subst e1
            obtain ⟨g1, g2, g3⟩ := glN_of d.hsc h2
            exact s_biG d.G d.room d.k3 f d.calm g1 (d.G.free _ h3) (sndEs xs d h4) (stars_of h4)
          | cons _ _ => exact absurd h Bool.false_ne_true
      | _ => exact absurd h Bool.false_ne_true
    | _ => exact absurd h Bool.false_ne_true
  | .bm m o xs, X, E, N, sc, cs, e, d, h => by
    cases e with
    | Call func args kws p =>
      cases func with
      | Attribute eo n apos =>
        cases args with
        | nil => exact absurd h Bool.false_ne_true
        | cons a as =>
          cases kws with
          | nil =>
            have h' : (decide (n = m.nm) && superFree eo && chkE Γ N sc cs o eo && chkEs Γ N sc cs xs (a :: as) && decide ((a :: as).length < 29) && (apos.endLine == p.line)) = true := h
            obtain ⟨h1, hl⟩ := and2 h'
            obtain ⟨h1, hn⟩ := and2 h1
            obtain ⟨h1, h4⟩ := and2 h1
            obtain ⟨h1, ho⟩ := and2 h1
            obtain ⟨h1, hs⟩ := and2 h1
            have e1 := dd h1
            subst e1
            exact s_bm m (sndE o d ho) (sndEs xs d h4) hs (stars_of h4) (dd hn) hl
          | cons _ _ => exact absurd h Bool.false_ne_true
      | _ => exact absurd h Bool.false_ne_true
    | _ => exact absurd h Bool.false_ne_true
  | .isi a cl, X, E, N, sc, cs, e, d, h => by
    cases e with
    | Call func args kws p =>
      cases func with
      | Name g pg =>
        match args, kws, h with
        | [ea, t], [], h =>
          have h' : (decide (g = "isinstance") && glN sc g && Γ.free g && chkE Γ N sc cs a ea && noStar ea && chkCl Γ sc cl t) = true := h
          obtain ⟨h1, h6⟩ := and2 h'
          obtain ⟨h1, h5⟩ := and2 h1
          obtain ⟨h1, h4⟩ := and2 h1
          obtain ⟨h1, h3⟩ := and2 h1
          obtain ⟨h1, h2⟩ := and2 h1
          have e1 := dd h1
          subst e1
          obtain ⟨g1, g2, g3⟩ := glN_of d.hsc h2
          have key : ∀ {t : Expr}, (clsE Γ cl [t] && glE sc t) = true → PE X (.Call (.Name "isinstance" pg) [ea, t] [] p) (TX X.K E (evalE Γ (.isi a cl))) := fun {t} h6 => by
            obtain ⟨h7, h8⟩ := and2 h6
            cases cl with
            | nil => exact absurd h7 Bool.false_ne_true
            | cons c cl =>
              have h7' : (clE Γ c t && clsE Γ cl []) = true := h7
              obtain ⟨h9, h10⟩ := and2 h7'
              cases cl with
              | nil => exact s_isi1 d.G g1 h3 (sndE a d h4) h5 h9 (by rw [d.hsc]; exact h8)
              | cons _ _ => exact absurd h10 Bool.false_ne_true
          cases t with
          | Tuple ts kk tp =>
            have h6' : (clsE Γ cl ts && ts.all (glE sc) && decide (ts.length ≤ 1000) && !cl.isEmpty) = true := h6
            obtain ⟨h7, h10⟩ := and2 h6'
            obtain ⟨h7, h9⟩ := and2 h7
            obtain ⟨h7, h8⟩ := and2 h7
            exact s_isiT d.G g1 h3 (sndE a d h4) h5 h7 (by rw [d.hsc]; exact h8) (dd h9) (fun z => by rw [z] at h10; exact absurd h10 Bool.false_ne_true)
          | _ => exact key h6
        | [], _, h => exact absurd h Bool.false_ne_true
        | [_], _, h => exact absurd h Bool.false_ne_true
        | [_, _], _ :: _, h => exact absurd h Bool.false_ne_true
        | _ :: _ :: _ :: _, _, h => exact absurd h Bool.false_ne_true
      | _ => exact absurd h Bool.false_ne_true
    | _ => exact absurd h Bool.false_ne_true
  | .attr o f, X, E, N, sc, cs, e, d, h => by
    cases e with
    | Attribute eo g p =>
      have h' : (decide (f = g) && superFree eo && chkE Γ N sc cs o eo) = true := h
      obtain ⟨h1, h3⟩ := and2 h'
      obtain ⟨h1, h2⟩ := and2 h1
      cases dd h1
      exact s_attr d.G (sndE o d h3) h2
    | _ => exact absurd h Bool.false_ne_true
  | .sub o i, X, E, N, sc, cs, e, d, h => by
    cases e with
    | Subscript eo ei p =>
      have h' : (noSlice ei && chkE Γ N sc cs o eo && chkE Γ N sc cs i ei) = true := h
      obtain ⟨h1, h3⟩ := and2 h'
      obtain ⟨h1, h2⟩ := and2 h1
      exact s_ix ix_seq dn_sub_ix (sndE o d h2) (sndE i d h3) (plainIx_of h1)
    | _ => exact absurd h Bool.false_ne_true
  | .sli o lo hi, X, E, N, sc, cs, e, d, h => by
    cases e with
    | Subscript eo ei p =>
      cases ei with
      | Slice l hh stp p2 =>
        cases stp with
        | none =>
          have h' : (chkE Γ N sc cs o eo && chkO Γ N sc cs lo l && chkO Γ N sc cs hi hh) = true := h
          obtain ⟨h1, h3⟩ := and2 h'
          obtain ⟨h1, h2⟩ := and2 h1
          exact s_sli (sndE o d h1) (sndO lo d h2) (sndO hi d h3)
        | some _ => exact absurd h Bool.false_ne_true
      | _ => exact absurd h Bool.false_ne_true
    | _ => exact absurd h Bool.false_ne_true
  | .lc m own c tg it ifs, X, E, N, sc, cs, e, d, h => by
    simp only [chkE] at h
    split at h
    · rename_i ee et ei eifs scope p
      obtain ⟨h1, h7⟩ := and2 h
      obtain ⟨h1, h6⟩ := and2 h1
      obtain ⟨h1, h5⟩ := and2 h1
      obtain ⟨h1, h4⟩ := and2 h1
      obtain ⟨h1, h3⟩ := and2 h1
      obtain ⟨h1, h2⟩ := and2 h1
      exact s_lc (own := own) d.calm d.nd (sndI it d h4) (by rw [d.hN, d.hsc]; exact blkOk_by h1) (gd_of tg) (dd h2)
        (fun s H C cl fp => chkG_ok (d.blk s H scope C cl fp).hN (d.blk s H scope C cl fp).hsc (d.blk s H scope C cl fp).nd (d.blk s H scope C cl fp).calm (d.blk s H scope C cl fp).hcs h3)
        (fun s H C cl fp => sndIf ifs (d.blk s H scope C cl fp) h6) (fun s H C cl fp => sndE c (d.blk s H scope C cl fp) h7) (folded_of h5)
    · exact absurd h Bool.false_ne_true
  | .lc2 m own vs1 c tg it ifs tg1 it1 ifs1, X, E, N, sc, cs, e, d, h => by
    simp only [chkE] at h
    split at h
    · rename_i ee et ei eifs et1 ei1 eifs1 scope p
      obtain ⟨h1, h13⟩ := and2 h
      obtain ⟨h1, h12⟩ := and2 h1
      obtain ⟨h1, h11⟩ := and2 h1
      obtain ⟨h1, h10⟩ := and2 h1
      obtain ⟨h1, h9⟩ := and2 h1
      obtain ⟨h1, h8⟩ := and2 h1
      obtain ⟨h1, h7⟩ := and2 h1
      obtain ⟨h1, h6⟩ := and2 h1
      obtain ⟨h1, h5⟩ := and2 h1
      obtain ⟨h1, h4⟩ := and2 h1
      obtain ⟨h1, h3⟩ := and2 h1
      obtain ⟨h1, h2⟩ := and2 h1
      refine pe_imp (pe_lc2 (own := own) (vs1 := vs1) (wi := TIx X.K E (evalI Γ it)) (g := gOf X.K tg) (tt := TB X.K EF (evalAll Γ ifs)) (wi1 := TIx X.K EF (evalI Γ it1)) (g1 := gOf X.K tg1) (tt1 := TB X.K EF (evalAll Γ ifs1)) (te := TX X.K EF (evalE Γ c)) d.calm d.nd (sndI it d h6) (by rw [d.hN, d.hsc]; exact blkOk_by h1) (dd h4)
        (fun s H C cl fp => chkG_ok (d.blk s H scope C cl fp).hN (d.blk s H scope C cl fp).hsc (d.blk s H scope C cl fp).nd (d.blk s H scope C cl fp).calm (d.blk s H scope C cl fp).hcs h5)
        (fun s H C cl fp => sndIf ifs (d.blk s H scope C cl fp) h8) (fun s H C cl fp => sndI it1 (d.blk s H scope C cl fp) h9)
        (fun s H C cl fp => chkG_ok (d.blk s H scope C cl fp).hN (d.blk s H scope C cl fp).hsc (d.blk s H scope C cl fp).nd (d.blk s H scope C cl fp).calm (d.blk s H scope C cl fp).hcs h11)
        (fun s H C cl fp => sndIf ifs1 (d.blk s H scope C cl fp) h12) (fun s H C cl fp => sndE c (d.blk s H scope C cl fp) h13) (folded_of h7) (fun env x => folded_of h10 x)) (lc2_read (gd_of tg) (gd_of tg1) (dd h2) (dd h3))
    · exact absurd h Bool.false_ne_true
  | .lenSet own c tg it ifs, X, E, N, sc, cs, e, d, h => by
    simp only [chkE] at h
    split at h
    · rename_i g pg ee et ei eifs scope sp p
      obtain ⟨h1, h10⟩ := and2 h
      obtain ⟨h1, h9⟩ := and2 h1
      obtain ⟨h1, h8⟩ := and2 h1
      obtain ⟨h1, h7⟩ := and2 h1
      obtain ⟨h1, h6⟩ := and2 h1
      obtain ⟨h1, h5⟩ := and2 h1
      obtain ⟨h1, h4⟩ := and2 h1
      obtain ⟨h1, h3⟩ := and2 h1
      obtain ⟨h1, h2⟩ := and2 h1
      have e1 := dd h1
      subst e1
      obtain ⟨g1, g2, g3⟩ := glN_of d.hsc h2
      exact s_lenSet (own := own) d.room d.calm d.nd (sndI it d h7) (by rw [d.hN, d.hsc]; exact blkOk_by h4) (gd_of tg) (dd h5)
        (fun s H C cl fp => chkG_ok (d.blk s H scope C cl fp).hN (d.blk s H scope C cl fp).hsc (d.blk s H scope C cl fp).nd (d.blk s H scope C cl fp).calm (d.blk s H scope C cl fp).hcs h6)
        (fun s H C cl fp => sndIf ifs (d.blk s H scope C cl fp) h9) (fun s H C cl fp => sndE c (d.blk s H scope C cl fp) h10) (folded_of h8) g1 (d.G.free _ h3)
    · exact absurd h Bool.false_ne_true
  | .lenRng a, X, E, N, sc, cs, e, d, h => by
    simp only [chkE] at h
    split at h
    · obtain ⟨h1, h8⟩ := and2 h
      obtain ⟨h1, h7⟩ := and2 h1
      obtain ⟨h1, h6⟩ := and2 h1
      obtain ⟨h1, h5⟩ := and2 h1
      obtain ⟨h1, h4⟩ := and2 h1
      obtain ⟨h1, h3⟩ := and2 h1
      obtain ⟨h1, h2⟩ := and2 h1
      have e1 := dd h1
      subst e1
      have e2 := dd h4
      subst e2
      exact s_lenRng (glN_of d.hsc h2).1 (d.G.free _ h3) (glN_of d.hsc h5).1 (d.G.free _ h6) (sndE a d h7) h8
    · exact absurd h Bool.false_ne_true
  | .cat m a b, X, E, N, sc, cs, e, d, h => by
    simp only [chkE] at h
    split at h
    · obtain ⟨h1, h2⟩ := and2 h
      exact s_cat m (sndE a d h1) (sndE b d h2)
    · exact absurd h Bool.false_ne_true
  | .rev o, X, E, N, sc, cs, e, d, h => by
    simp only [chkE] at h
    split at h
    · obtain ⟨h1, h2⟩ := and2 h
      have h1 := dd h1
      subst h1
      refine s_rev (sndE o d h2) (pe_imp (pe_un un_neg pe_int) fun σ H Q h => ?_) fun a b => ⟨_, rfl⟩
      obtain ⟨μ, st, ρ, S, e, p⟩ := h
      exact ⟨1, rfl, Pst.pure S p _ (by rw [rp_int])⟩
    · exact absurd h Bool.false_ne_true
  | .dct m ks vs, X, E, N, sc, cs, e, d, h => by
    simp only [chkE] at h
    split at h
    · rename_i keys vals p
      obtain ⟨h1, h15⟩ := and2 h
      obtain ⟨h1, nd⟩ := and2 h1
      have nd := dd nd
      have h15 := dd h15
      obtain ⟨hd, ha, hl, hk⟩ := sndD vs (pos := p) d h1
      cases keys with
      | nil =>
        cases vals with
        | cons _ _ => exact absurd hl (by simp)
        | nil =>
          cases ks with
          | cons _ _ => exact absurd hk (by simp)
          | nil =>
            cases vs with
            | nil => exact s_dct0
            | cons _ _ => simp [chkD] at h1
      | cons k0 keys => exact s_dct hd ha hl (by simp) h15 nd hk
    · exact absurd h Bool.false_ne_true
  | .fst xs, X, E, N, sc, cs, e, d, h => by
    simp only [chkE] at h
    split at h
    · rename_i es p
      obtain ⟨h1, h2⟩ := and2 h
      have h1 := dd h1
      obtain ⟨fs, hf, he⟩ := sndF xs d h2
      have he' : evalE Γ (.fst xs) = fun ρ => joinF fs ρ Str.empty := by
        funext ρ
        simp only [evalE]
        exact he ρ Str.empty
      rw [he']
      match es, h1, hf with
      | e1 :: e2 :: r, _, hf => exact s_fst hf
      | [], h1, _ => exact absurd h1 (by simp)
      | [_], h1, _ => exact absurd h1 (by simp)
    · exact absurd h Bool.false_ne_true
theorem sndD : ∀ (xs : Cs) {X : Cx} {E : WX} {N : List Str} {sc : Scope} {cs : List Str} {ks : List Key} {keys : List (Option Expr)} {vals : List Expr} {pos : Pos}, Gd X Γ k E N sc cs → chkD Γ N sc cs xs ks keys vals = true → PD X E pos keys vals ks (evalEs Γ xs) ∧ keys.all (·.isSome) = true ∧ keys.length = vals.length ∧ ks.length = keys.length
  | .nil, X, E, N, sc, cs, ks, keys, vals, pos, d, h => by
    simp only [chkD] at h
    obtain ⟨h1, h3⟩ := and2 h
    obtain ⟨h1, h2⟩ := and2 h1
    rw [List.isEmpty_iff] at h1 h2 h3
    subst h1 h2 h3
    exact ⟨pd_nil, rfl, rfl, rfl⟩
  | .cons c r, X, E, N, sc, cs, ks, keys, vals, pos, d, h => by
    simp only [chkD] at h
    split at h
    · obtain ⟨h1, h3⟩ := and2 h
      obtain ⟨h1, h2⟩ := and2 h1
      obtain ⟨q1, q2, q3, q4⟩ := sndD r (pos := pos) d h3
      exact ⟨pd_cons (chkKey_ok h1) (sndE c d h2) q1, by simpa using q2, by simp [q3], by simp [q4]⟩
    · exact absurd h Bool.false_ne_true
theorem sndF : ∀ (xs : Cs) {X : Cx} {E : WX} {N : List Str} {sc : Scope} {cs : List Str} {es : List Expr}, Gd X Γ k E N sc cs → chkF Γ N sc cs xs es = true → ∃ fs, PF X E es fs ∧ ∀ ρ acc, evalF Γ xs ρ acc = joinF fs ρ acc
  | .nil, X, E, N, sc, cs, es, d, h => by
    cases es with
    | nil => exact ⟨[], .nil, fun ρ acc => by simp only [evalF, joinF]⟩
    | cons _ _ => exact absurd h Bool.false_ne_true
  | .cons c r, X, E, N, sc, cs, es, d, h => by
    cases es with
    | nil => exact absurd h Bool.false_ne_true
    | cons e es =>
      simp only [chkF] at h
      obtain ⟨h1, h2⟩ := and2 h
      obtain ⟨fs, hf, he⟩ := sndF r d h2
      split at h1
      · obtain ⟨h3, h4⟩ := and2 h1
        have e1 := dd h3
        subst e1
        exact ⟨evalE Γ c :: fs, .cons (s_fmt (sndE c d h4)) hf, fun ρ acc => by simp only [evalF, joinF, he]⟩
      · split at h1
        · obtain ⟨h3, h4⟩ := and2 h1
          have e1 := dd h3
          subst e1
          exact ⟨(fun _ => pure (.str _)) :: fs, .cons (s_fpl (dd h4)) hf, fun ρ acc => by simp only [evalF, joinF, he, evalE]⟩
        · exact absurd h1 Bool.false_ne_true
      · exact absurd h1 Bool.false_ne_true
theorem sndEs : ∀ (xs : Cs) {X : Cx} {E : WX} {N : List Str} {sc : Scope} {cs : List Str} {es : List Expr}, Gd X Γ k E N sc cs → chkEs Γ N sc cs xs es = true → PA X es (TL X.K E (evalEs Γ xs))
  | .nil, X, E, N, sc, cs, es, d, h => by
    cases es with
    | nil => exact a_nil
    | cons _ _ => exact absurd h Bool.false_ne_true
  | .cons c r, X, E, N, sc, cs, es, d, h => by
    cases es with
    | nil => exact absurd h Bool.false_ne_true
    | cons e es =>
      have h' : (chkE Γ N sc cs c e && noStar e && chkEs Γ N sc cs r es) = true := h
      obtain ⟨h1, h3⟩ := and2 h'
      obtain ⟨h1, h2⟩ := and2 h1
      exact a_cons (sndE c d h1) (sndEs r d h3) (star_cons h2)
theorem sndKs : ∀ (xs : Cs) {X : Cx} {E : WX} {N : List Str} {sc : Scope} {cs : List Str} {es : List Keyword}, Gd X Γ k E N sc cs → chkKs Γ N sc cs xs es = true → PK X es (TL X.K E (evalEs Γ xs))
  | .nil, X, E, N, sc, cs, es, d, h => by
    cases es with
    | nil => exact k_nil
    | cons _ _ => exact absurd h Bool.false_ne_true
  | .cons c r, X, E, N, sc, cs, es, d, h => by
    cases es with
    | nil => exact absurd h Bool.false_ne_true
    | cons kw es =>
      obtain ⟨nm, e, kp⟩ := kw
      have h' : (chkE Γ N sc cs c e && chkKs Γ N sc cs r es) = true := h
      obtain ⟨h1, h3⟩ := and2 h'
      exact k_cons (sndE c d h1) (sndKs r d h3)
theorem sndAnd : ∀ (xs : Cs) {X : Cx} {E : WX} {N : List Str} {sc : Scope} {cs : List Str} {e : Expr} {es : List Expr} {pos : Pos} {f : Rho → M W}, Gd X Γ k E N sc cs → PE X e (TX X.K E f) → chkV Γ N sc cs xs es = true → PE X (.BoolOp .And (e :: es) pos) (TX X.K E fun ρ => f ρ >>= evalAnd Γ xs ρ)
  | .nil, X, E, N, sc, cs, e, es, pos, f, d, he, h => by
    cases es with
    | nil => exact s_one he
    | cons _ _ => exact absurd h Bool.false_ne_true
  | .cons c r, X, E, N, sc, cs, e, es, pos, f, d, he, h => by
    cases es with
    | nil => exact absurd h Bool.false_ne_true
    | cons e2 es =>
      have h' : (chkE Γ N sc cs c e2 && chkV Γ N sc cs r es) = true := h
      obtain ⟨h1, h3⟩ := and2 h'
      exact s_and he (sndAnd r d (sndE c d h1) h3)
theorem sndOr : ∀ (xs : Cs) {X : Cx} {E : WX} {N : List Str} {sc : Scope} {cs : List Str} {e : Expr} {es : List Expr} {pos : Pos} {f : Rho → M W}, Gd X Γ k E N sc cs → PE X e (TX X.K E f) → chkV Γ N sc cs xs es = true → PE X (.BoolOp .Or (e :: es) pos) (TX X.K E fun ρ => f ρ >>= evalOr Γ xs ρ)
  | .nil, X, E, N, sc, cs, e, es, pos, f, d, he, h => by
    cases es with
    | nil => exact s_one he
    | cons _ _ => exact absurd h Bool.false_ne_true
  | .cons c r, X, E, N, sc, cs, e, es, pos, f, d, he, h => by
    cases es with
    | nil => exact absurd h Bool.false_ne_true
    | cons e2 es =>
      have h' : (chkE Γ N sc cs c e2 && chkV Γ N sc cs r es) = true := h
      obtain ⟨h1, h3⟩ := and2 h'
      exact s_or he (sndOr r d (sndE c d h1) h3)
theorem sndT : ∀ (t : Ct) {X : Cx} {E : WX} {N : List Str} {sc : Scope} {cs : List Str} {e : Expr}, Gd X Γ k E N sc cs → chkT Γ N sc cs t e = true → PT X e (TB X.K E (evalT Γ t))
  | .val c, X, E, N, sc, cs, e, d, h => by
    have h' : (plainTest e && chkE Γ N sc cs c e) = true := h
    obtain ⟨h1, h2⟩ := and2 h'
    exact t_val (sndE c d h2) (plain_of h1)
  | .cmp op a b, X, E, N, sc, cs, e, d, h => by
    simp only [chkT] at h
    split at h
    · obtain ⟨h1, h4⟩ := and2 h
      obtain ⟨h1, h3⟩ := and2 h1
      obtain ⟨h1, h2⟩ := and2 h1
      cases dd h1
      exact t_cmp (op_cmpG d.G d.room op) (dn_cmpG op) (sndE a d h2) (sndE b d h3) (marks_of h4)
    · exact absurd h Bool.false_ne_true
  | .chn op op' a b c, X, E, N, sc, cs, e, d, h => by
    simp only [chkT] at h
    split at h
    · rename_i ea o o' eb ec p
      obtain ⟨h1, h6⟩ := and2 h
      obtain ⟨h1, h5⟩ := and2 h1
      obtain ⟨h1, h4⟩ := and2 h1
      obtain ⟨h1, h3⟩ := and2 h1
      obtain ⟨h1, h2⟩ := and2 h1
      cases dd h1
      cases dd h2
      exact t_chn (op_cmpG d.G d.room op) (op_cmpG d.G d.room op') (dn_cmpG op) (dn_cmpG op') (sndE a d h3) (sndE b d h4) (sndE c d h5) (by show behindInMarks op' ec = false; exact marks_of h6)
    · exact absurd h Bool.false_ne_true
  | .isN a, X, E, N, sc, cs, e, d, h => by
    simp only [chkT] at h
    split at h
    · exact t_isN (sndE a d h)
    · exact absurd h Bool.false_ne_true
  | .notN a, X, E, N, sc, cs, e, d, h => by
    simp only [chkT] at h
    split at h
    · exact t_notN (sndE a d h)
    · exact absurd h Bool.false_ne_true
  | .not t, X, E, N, sc, cs, e, d, h => by
    simp only [chkT] at h
    split at h
    · exact t_not (sndT t d h)
    · exact absurd h Bool.false_ne_true
  | .and t ts, X, E, N, sc, cs, e, d, h => by
    simp only [chkT] at h
    split at h
    · obtain ⟨h1, h2⟩ := and2 h
      exact PW.pt (sndTAnd ts d (sndT t d h1) h2)
    · exact absurd h Bool.false_ne_true
  | .or t ts, X, E, N, sc, cs, e, d, h => by
    simp only [chkT] at h
    split at h
    · obtain ⟨h1, h2⟩ := and2 h
      exact PW.pt (sndTOr ts d (sndT t d h1) h2)
    · exact absurd h Bool.false_ne_true
theorem sndTAnd : ∀ (xs : Cts) {X : Cx} {E : WX} {N : List Str} {sc : Scope} {cs : List Str} {e : Expr} {es : List Expr} {pos : Pos} {f : Rho → M Bool}, Gd X Γ k E N sc cs → PT X e (TB X.K E f) → chkTs Γ N sc cs xs es = true → PW X (.BoolOp .And (e :: es) pos) (TB X.K E fun ρ => f ρ >>= evalTAnd Γ xs ρ)
  | .nil, X, E, N, sc, cs, e, es, pos, f, d, he, h => by
    cases es with
    | nil => exact w_and1 he
    | cons _ _ => exact absurd h Bool.false_ne_true
  | .cons c r, X, E, N, sc, cs, e, es, pos, f, d, he, h => by
    cases es with
    | nil => exact absurd h Bool.false_ne_true
    | cons e2 es =>
      have h' : (chkT Γ N sc cs c e2 && chkTs Γ N sc cs r es) = true := h
      obtain ⟨h1, h3⟩ := and2 h'
      exact w_and he (sndTAnd r d (sndT c d h1) h3)
theorem sndTOr : ∀ (xs : Cts) {X : Cx} {E : WX} {N : List Str} {sc : Scope} {cs : List Str} {e : Expr} {es : List Expr} {pos : Pos} {f : Rho → M Bool}, Gd X Γ k E N sc cs → PT X e (TB X.K E f) → chkTs Γ N sc cs xs es = true → PW X (.BoolOp .Or (e :: es) pos) (TB X.K E fun ρ => f ρ >>= evalTOr Γ xs ρ)
  | .nil, X, E, N, sc, cs, e, es, pos, f, d, he, h => by
    cases es with
    | nil => exact w_or1 he
    | cons _ _ => exact absurd h Bool.false_ne_true
  | .cons c r, X, E, N, sc, cs, e, es, pos, f, d, he, h => by
    cases es with
    | nil => exact absurd h Bool.false_ne_true
    | cons e2 es =>
      have h' : (chkT Γ N sc cs c e2 && chkTs Γ N sc cs r es) = true := h
      obtain ⟨h1, h3⟩ := and2 h'
      exact w_or he (sndTOr r d (sndT c d h1) h3)
theorem sndIf : ∀ (ts : Cts) {X : Cx} {E : WX} {N : List Str} {sc : Scope} {cs : List Str} {es : List Expr}, Gd X Γ k E N sc cs → chkIf Γ N sc cs ts es = true → PTs X es (TB X.K E (evalAll Γ ts))
  | .nil, X, E, N, sc, cs, es, d, h => by
    cases es with
    | nil => exact ts_none
    | cons _ _ => exact absurd h Bool.false_ne_true
  | .cons t r, X, E, N, sc, cs, es, d, h => by
    cases r with
    | nil =>
      simp only [chkIf] at h
      split at h
      · exact ts_one (sndT t d h)
      · exact absurd h Bool.false_ne_true
    | cons _ _ => cases es <;> exact absurd h Bool.false_ne_true
theorem sndO : ∀ (o : Co) {X : Cx} {E : WX} {N : List Str} {sc : Scope} {cs : List Str} {e : Option Expr}, Gd X Γ k E N sc cs → chkO Γ N sc cs o e = true → PO X e (TOp X.K E (evalO Γ o))
  | .no, X, E, N, sc, cs, e, d, h => by
    cases e with
    | none => exact o_no
    | some _ => exact absurd h Bool.false_ne_true
  | .yes c, X, E, N, sc, cs, e, d, h => by
    cases e with
    | none => exact absurd h Bool.false_ne_true
    | some e => exact o_yes (sndE c d h)
theorem sndI : ∀ (it : It) {X : Cx} {E : WX} {N : List Str} {sc : Scope} {cs : List Str} {tg e : Expr}, Gd X Γ k E N sc cs → chkI Γ N sc cs it tg e = true → PI X tg e (TIx X.K E (evalI Γ it))
  | .seq c, X, E, N, sc, cs, tg, e, d, h => i_seq (sndE c d h)
  | .rng1 a, X, E, N, sc, cs, tg, e, d, h => by
    simp only [chkI] at h
    split at h
    · obtain ⟨h1, h5⟩ := and2 h
      obtain ⟨h1, h4⟩ := and2 h1
      obtain ⟨h1, h3⟩ := and2 h1
      obtain ⟨h1, h2⟩ := and2 h1
      have e1 := dd h1
      subst e1
      exact i_rng1 (glN_of d.hsc h2).1 (d.G.free _ h3) (sndE a d h4) h5
    · exact absurd h Bool.false_ne_true
  | .rng2 a b, X, E, N, sc, cs, tg, e, d, h => by
    simp only [chkI] at h
    split at h
    · obtain ⟨h1, h7⟩ := and2 h
      obtain ⟨h1, h6⟩ := and2 h1
      obtain ⟨h1, h5⟩ := and2 h1
      obtain ⟨h1, h4⟩ := and2 h1
      obtain ⟨h1, h3⟩ := and2 h1
      obtain ⟨h1, h2⟩ := and2 h1
      have e1 := dd h1
      subst e1
      exact i_rng2 (glN_of d.hsc h2).1 (d.G.free _ h3) (sndE a d h4) (sndE b d h6) h5 h7
    · exact absurd h Bool.false_ne_true
  | .zip a b, X, E, N, sc, cs, tg, e, d, h => by
    simp only [chkI] at h
    split at h
    · obtain ⟨h1, h7⟩ := and2 h
      obtain ⟨h1, h6⟩ := and2 h1
      obtain ⟨h1, h5⟩ := and2 h1
      obtain ⟨h1, h4⟩ := and2 h1
      obtain ⟨h1, h3⟩ := and2 h1
      obtain ⟨h1, h2⟩ := and2 h1
      have e1 := dd h1
      subst e1
      exact i_zip (glN_of d.hsc h2).1 (d.G.free _ h3) (sndE a d h4) (sndE b d h6) h5 h7
    · exact absurd h Bool.false_ne_true
  | .enum a, X, E, N, sc, cs, tg, e, d, h => by
    simp only [chkI] at h
    split at h
    · obtain ⟨h1, h5⟩ := and2 h
      obtain ⟨h1, h4⟩ := and2 h1
      obtain ⟨h1, h3⟩ := and2 h1
      obtain ⟨h1, h2⟩ := and2 h1
      have e1 := dd h1
      subst e1
      exact i_enum (glN_of d.hsc h2).1 (d.G.free _ h3) (sndE a d h4) h5
    · exact absurd h Bool.false_ne_true
end
end
end Vm
/-! Vm, part P: statements against the linked text, and that they run so. -/
namespace Vm
open PySem L2

def fnSc (sc : Scope) : Bool := (if sc.kind.isAnnotationScope then ScopeKind.function else sc.kind) == .function
/-- are the stores exchanged (x = [..]) -/
def swB (sc : Scope) (t : Str) (pos : Pos) (s : Scope) (vp : Pos) : Bool :=
  fnSc sc && sc.names.lookup t == some .local && pos.line == vp.line && !(s.names.any fun (n, k) => n == t && (k == .local || k == .cell))
theorem swB_ok {env : Env} {elt : Expr} {gs : List Comprehension} {s : Scope} {vp : Pos} {t : Str} {pos : Pos} {l : Nat} : swapsWith (.ListComp elt gs s vp) (some (.Name t pos)) l env = pure (swB env.scope t pos s vp) := rfl
/-- the stores of a, b = x, y -/
def swS (sc : Scope) (ts vs : List Expr) : Option (Option (List Str)) :=
  if (!(ts.length == 2 || ts.length == 3) || vs.length != ts.length || !fnSc sc) = true then some none
  else if (vs.any fun | .Starred .. => true | _ => false) = true then some none
  else
    let line := (ts.head?.map (·.pos.line)).getD 0
    let names := ts.filterMap fun
      | .Name id pos => if sc.names.lookup id == some .local && pos.line == line then some id else none
      | _ => none
    if (names.length != ts.length || names.eraseDups.length != names.length) = true then some none
    else if vs.all (foldedForSure 8) = true then some none
    else if vs.all (constantsAlone 8) = true then none
    else some (some names)
theorem swS_ok {env : Env} {ts vs : List Expr} {k k2} {p p2 : Pos} {r : Option (List Str)} (h : swS env.scope ts vs = some r) : swappedStores [.Tuple ts k p] (.Tuple vs k2 p2) env = pure r := by
  unfold swS at h
  unfold swappedStores
  dsimp only
  by_cases h1 : (!(ts.length == 2 || ts.length == 3) || vs.length != ts.length || !fnSc env.scope) = true
  · rw [if_pos h1] at h
    have h1' : (!(ts.length == 2 || ts.length == 3) || vs.length != ts.length || env.blockKind != .function) = true := h1
    rw [if_pos h1']
    cases h; rfl
  · rw [if_neg h1] at h
    have h1' : ¬(!(ts.length == 2 || ts.length == 3) || vs.length != ts.length || env.blockKind != .function) = true := h1
    rw [if_neg h1']
    by_cases h2 : (vs.any fun | .Starred .. => true | _ => false) = true
    · rw [if_pos h2] at h
      refine Eq.trans (if_pos h2) ?_
      cases h; rfl
    · rw [if_neg h2] at h
      refine Eq.trans (if_neg h2) ?_
      dsimp only at h
      split at h
      · rename_i h3
        refine Eq.trans (if_pos h3) ?_
        cases h; rfl
      · rename_i h3
        refine Eq.trans (if_neg h3) ?_
        split at h
        · rename_i h4
          refine Eq.trans (if_pos h4) ?_
          cases h; rfl
        · rename_i h4
          refine Eq.trans (if_neg h4) ?_
          split at h
          · cases h
          · rename_i h5
            refine Eq.trans (if_neg h5) ?_
            cases h; rfl
section
variable (Γ : Gm) (N : List Str) (sc : Scope) (cs : List Str)
/-- the value of a store, and the store -/
def chkA (tg : Tg) (c : C) (tgE e : Expr) : Bool := chkG N sc cs tg tgE && chkE Γ N sc cs c e && (match tgE, e with
  | .Name y py, .ListComp _ _ s vp => !swB sc y py s vp || (match c, tg with
    | .lc _ _ _ _ _ _, .name i => decide (sc.names.lookup y = some .local)
    | _, _ => false)
  | .Name _ _, e => noComp e
  | .Tuple ts _ _, .Tuple vs _ _ => decide (swS sc ts vs = some none)
  | .Tuple _ _ _, e => noComp e
  | _, _ => false)
def dfl (x : Str) : Bool := decide (sc.names.lookup x = some .local)
mutual
def chkS : S → Stmt → Bool
  | .asg tg c, s => match s with
    | .Assign [tgE] e _ => chkA Γ N sc cs tg c tgE e
    | _ => false
  | .par i j a b, s => match s with
    | .Assign [.Tuple [.Name x px, .Name y py] _ _] (.Tuple [ea, eb] _ _) _ => decide (swS sc [.Name x px, .Name y py] [ea, eb] = some (some [x, y])) && decide (N[i]? = some x) && decide (N[j]? = some y) && decide (i ≠ j) && dfl sc x && dfl sc y && chkE Γ N sc cs a ea && chkE Γ N sc cs b eb && noStar ea && noStar eb
    | _ => false
  | .par3 i j l a b c, s => match s with
    | .Assign [.Tuple [.Name x px, .Name y py, .Name z pz] _ _] (.Tuple [ea, eb, ec] _ _) _ => decide (swS sc [.Name x px, .Name y py, .Name z pz] [ea, eb, ec] = some (some [x, y, z])) && decide (N[i]? = some x) && decide (N[j]? = some y) && decide (N[l]? = some z) && decide (i ≠ j) && decide (i ≠ l) && decide (j ≠ l) && dfl sc x && dfl sc y && dfl sc z && chkE Γ N sc cs a ea && chkE Γ N sc cs b eb && chkE Γ N sc cs c ec && noStar ea && noStar eb && noStar ec
    | _ => false
  | .aug i op c, s => match s with
    | .AugAssign (.Name x _) o e _ => decide (op = o) && stN N sc cs i x && augOk op && chkE Γ N sc cs c e
    | _ => false
  | .setI o i c, s => match s with
    | .Assign [.Subscript eo ei _] e _ => chkE Γ N sc cs o eo && chkE Γ N sc cs i ei && chkE Γ N sc cs c e && noSlice ei && noComp e
    | _ => false
  | .setA o f c, s => match s with
    | .Assign [.Attribute eo g _] e _ => decide (f = g) && chkE Γ N sc cs o eo && chkE Γ N sc cs c e && noComp e
    | _ => false
  | .exp c, s => match s with
    | .Expr e _ => chkE Γ N sc cs c e && noComp e
    | _ => false
  | .ret c, s => match s with
    | .Return (some e) _ => chkE Γ N sc cs c e
    | _ => false
  | .retN, s => match s with
    | .Return none _ => true
    | _ => false
  | .ite t a b, s => match s with
    | .If et sa sb _ => chkT Γ N sc cs t et && chkSs a sa && chkSs b sb
    | _ => false
  | .forr tg it b, s => match s with
    | .For tgE iter body [] _ => chkG N sc cs tg tgE && chkI Γ N sc cs it tgE iter && noSet iter && chkSs b body
    | _ => false
  | .whl t b, s => match s with
    | .While e body [] _ => chkT Γ N sc cs t e && chkSs b body
    | _ => false
  | .brk, s => match s with
    | .Break _ => true
    | _ => false
  | .cnt, s => match s with
    | .Continue _ => true
    | _ => false
  | .pass, s => match s with
    | .Pass _ => true
    | _ => false
  | .never, _ => true
def chkSs : Ss → List Stmt → Bool
  | .nil, ss => ss.isEmpty
  | .cons s r, ss => match ss with
    | t :: ts => chkS s t && chkSs r ts
    | [] => false
end
end
section
variable {Γ : Gm} {k : Nat} {X : Cx} {E : WX} {N : List Str} {sc : Scope} {cs : List Str}
theorem stN_of {i : Nat} {x : Str} (d : Gd X Γ k E N sc cs) (h : stN N sc cs i x = true) : X.N[i]? = some x ∧ Loc X.env.scope x ∧ (X.fn x = true ∨ X.env.scope.names.lookup x = some .local) := by
  unfold stN at h
  rw [Bool.and_eq_true, decide_eq_true_eq] at h
  obtain ⟨h1, h2⟩ := h
  rw [← d.hN] at h1
  refine ⟨h1, ?_⟩
  cases q : sc.names.lookup x with
  | none => rw [q] at h2; cases h2
  | some kd =>
    rw [q] at h2
    rw [← d.hsc] at q
    cases kd with
    | «local» => exact ⟨.inl q, .inr q⟩
    | cell => exact ⟨.inr q, .inl (d.hcs x (List.contains_iff_mem.mp h2))⟩
    | free => cases h2
    | globalExplicit => cases h2
    | globalImplicit => cases h2
theorem sndA {tg : Tg} {c : C} {tgE e : Expr} {pos : Pos} (d : Gd X Γ k E N sc cs) (h : chkA Γ N sc cs tg c tgE e = true) : PS X (.Assign [tgE] e pos) (TSx X.K E fun ρ st => (evalE Γ c ρ st).go ρ fun w st' => RS.ofO (bindT tg w ρ) st') := by
  unfold chkA at h
  obtain ⟨h0, h3⟩ := and2 h
  obtain ⟨h1, h2⟩ := and2 h0
  clear h h0
  have hg := chkG_ok d.hN d.hsc d.nd d.calm d.hcs h1
  have he := sndE c d h2
  have plain : (∀ l, swapsWithSole [tgE] e l X.env = pure false) → swappedStores [tgE] e X.env = pure none → (assignEach [tgE] X.env).map (·.2) = [assign tgE X.env] → PS X (.Assign [tgE] e pos) (TSx X.K E fun ρ st => (evalE Γ c ρ st).go ρ fun w st' => RS.ofO (bindT tg w ρ) st') :=
    fun a b c => z_asg he hg (gd_of tg) (a _) b c
  cases tgE with
  | Name y py =>
    by_cases hc : noComp e = true
    · exact plain (fun l => (show swapsWith e (some (.Name y py)) l X.env = pure false from swaps_of hc)) rfl rfl
    · cases e with
      | ListComp elt gs s vp =>
        dsimp only at h3
        cases hb : swB sc y py s vp with
        | false => exact plain (fun l => (show swapsWith (.ListComp elt gs s vp) (some (.Name y py)) l X.env = pure false by rw [swB_ok, d.hsc, hb])) rfl rfl
        | true =>
          rw [hb] at h3
          cases c with
          | lc m own c tg' it ifs =>
            cases tg with
            | name i =>
              have h3' := dd (show decide (sc.names.lookup y = some .local) = true from h3)
              have hy : stN N sc cs i y = true := h1
              simp only [chkE] at h2
              split at h2
              · rename_i ee et ei eifs scope p heq
                cases heq
                obtain ⟨g1, g7⟩ := and2 h2
                obtain ⟨g1, g6⟩ := and2 g1
                obtain ⟨g1, g5⟩ := and2 g1
                obtain ⟨g1, g4⟩ := and2 g1
                obtain ⟨g1, g3⟩ := and2 g1
                obtain ⟨g1, g2⟩ := and2 g1
                have := ps_setLc (te := TX X.K EF (evalE Γ c)) (tt := TB X.K EF (evalAll Γ ifs)) (g := gOf X.K tg') (wi := TIx X.K E (evalI Γ it)) (scope := s) (elt := elt) (tg := et) (iter := ei) (ifs := eifs) (own := own) (py := py) (pos := vp) (spos := pos) d.calm d.nd (stN_of d hy).1 (by rw [d.hsc]; exact h3') (by rw [swB_ok, d.hsc, hb]) (sndI it d g4) (by rw [d.hN, d.hsc]; exact blkOk_by g1)
                  (fun s H C cl fp => chkG_ok (d.blk s H _ C cl fp).hN (d.blk s H _ C cl fp).hsc (d.blk s H _ C cl fp).nd (d.blk s H _ C cl fp).calm (d.blk s H _ C cl fp).hcs g3)
                  (fun s H C cl fp => sndIf ifs (d.blk s H _ C cl fp) g6) (fun s H C cl fp => sndE c (d.blk s H _ C cl fp) g7) (folded_of g5)
                exact z_setLc this (lc_read (gd_of tg') (dd g2))
              · cases h2
            | tup _ => cases h3
          | _ => cases tg <;> exact absurd h3 Bool.false_ne_true
      | SetComp _ _ _ _ => exact absurd h3 Bool.false_ne_true
      | DictComp _ _ _ _ _ => exact absurd h3 Bool.false_ne_true
      | _ => exact absurd rfl hc
  | Tuple ts kk tp =>
    cases e with
    | Tuple vs k2 p2 =>
      exact plain (fun l => rfl) (swS_ok (by rw [d.hsc]; exact dd h3)) rfl
    | ListComp _ _ _ _ => exact plain (fun l => rfl) rfl rfl
    | SetComp _ _ _ _ => exact plain (fun l => rfl) rfl rfl
    | DictComp _ _ _ _ _ => exact plain (fun l => rfl) rfl rfl
    | _ => exact plain (fun l => rfl) rfl rfl
  | _ => cases e <;> exact absurd h3 Bool.false_ne_true
theorem sole_of {t e : Expr} {l : Nat} {env : Env} (h : noComp e = true) : swapsWithSole [t] e l env = pure false := (show swapsWith e (some t) l env = pure false from swaps_of h)
theorem subA_of {o i : Expr} {tpos : Pos} {env : Env} (h : noSlice i = true) : ∀ v, assign (.Subscript o i tpos) env v = (do
      let ov ← holding [v] (eval o env)
      let iv ← holding [v, ov] (eval i env)
      standAt tpos
      holding [v, ov, iv] (setItem ov iv v)
      release [v, ov, iv] []) := fun v => by
  cases i <;> first | rfl | (exact absurd h (by simp [noSlice]))
mutual
theorem sndS (hp : PassesOwn (model X.prog X.w) X.A X.env X.xe) (d : Gd X Γ k E N sc cs) : ∀ (s : S) {stm : Stmt}, chkS Γ N sc cs s stm = true → PS X stm (TSx X.K E (evalS Γ s))
  | .asg tg c, stm, h => by
    simp only [chkS] at h
    split at h
    · exact sndA d h
    · exact absurd h Bool.false_ne_true
  | .par i j a b, stm, h => by
    simp only [chkS] at h
    split at h
    · obtain ⟨h1, h10⟩ := and2 h
      obtain ⟨h1, h9⟩ := and2 h1
      obtain ⟨h1, h8⟩ := and2 h1
      obtain ⟨h1, h7⟩ := and2 h1
      obtain ⟨h1, h6⟩ := and2 h1
      obtain ⟨h1, h5⟩ := and2 h1
      obtain ⟨h1, h4⟩ := and2 h1
      obtain ⟨h1, h3⟩ := and2 h1
      obtain ⟨h1, h2⟩ := and2 h1
      exact z_par d.calm d.nd (by rw [d.hN]; exact dd h2) (by rw [d.hN]; exact dd h3) (dd h4) (by rw [d.hsc]; exact dd h5) (by rw [d.hsc]; exact dd h6) (sndE a d h7) (sndE b d h8) h9 h10 (swS_ok (by rw [d.hsc]; exact dd h1))
    · exact absurd h Bool.false_ne_true
  | .par3 i j l a b c, stm, h => by
    simp only [chkS] at h
    split at h
    · obtain ⟨h1, h16⟩ := and2 h
      obtain ⟨h1, h15⟩ := and2 h1
      obtain ⟨h1, h14⟩ := and2 h1
      obtain ⟨h1, h13⟩ := and2 h1
      obtain ⟨h1, h12⟩ := and2 h1
      obtain ⟨h1, h11⟩ := and2 h1
      obtain ⟨h1, h10⟩ := and2 h1
      obtain ⟨h1, h9⟩ := and2 h1
      obtain ⟨h1, h8⟩ := and2 h1
      obtain ⟨h1, h7⟩ := and2 h1
      obtain ⟨h1, h6⟩ := and2 h1
      obtain ⟨h1, h5⟩ := and2 h1
      obtain ⟨h1, h4⟩ := and2 h1
      obtain ⟨h1, h3⟩ := and2 h1
      obtain ⟨h1, h2⟩ := and2 h1
      exact z_par3 d.calm d.nd (by rw [d.hN]; exact dd h2) (by rw [d.hN]; exact dd h3) (by rw [d.hN]; exact dd h4) (dd h5) (dd h6) (dd h7) (by rw [d.hsc]; exact dd h8) (by rw [d.hsc]; exact dd h9) (by rw [d.hsc]; exact dd h10) (sndE a d h11) (sndE b d h12) (sndE c d h13) h14 h15 h16 (swS_ok (by rw [d.hsc]; exact dd h1))
    · exact absurd h Bool.false_ne_true
  | .aug i op c, stm, h => by
    simp only [chkS] at h
    split at h
    · obtain ⟨h1, h4⟩ := and2 h
      obtain ⟨h1, h3⟩ := and2 h1
      obtain ⟨h1, h2⟩ := and2 h1
      cases dd h1
      obtain ⟨g1, g2, g3⟩ := stN_of d h2
      exact z_aug d.nd g1 g2 g3 h3 (sndE c d h4)
    · exact absurd h Bool.false_ne_true
  | .setI o i c, stm, h => by
    simp only [chkS] at h
    split at h
    · obtain ⟨h1, h5⟩ := and2 h
      obtain ⟨h1, h4⟩ := and2 h1
      obtain ⟨h1, h3⟩ := and2 h1
      obtain ⟨h1, h2⟩ := and2 h1
      exact z_setI (sndE c d h3) (sndE o d h1) (sndE i d h2) (sole_of h5) rfl (subA_of h4)
    · exact absurd h Bool.false_ne_true
  | .setA o f c, stm, h => by
    simp only [chkS] at h
    split at h
    · obtain ⟨h1, h4⟩ := and2 h
      obtain ⟨h1, h3⟩ := and2 h1
      obtain ⟨h1, h2⟩ := and2 h1
      cases dd h1
      exact z_setA d.G (sndE c d h3) (sndE o d h2) (swaps_of h4)
    · exact absurd h Bool.false_ne_true
  | .exp c, stm, h => by
    simp only [chkS] at h
    split at h
    · obtain ⟨h1, h2⟩ := and2 h
      exact z_exp (sndE c d h1) (swaps_of h2)
    · exact absurd h Bool.false_ne_true
  | .ret c, stm, h => by
    simp only [chkS] at h
    split at h
    · exact z_ret (sndE c d h)
    · exact absurd h Bool.false_ne_true
  | .retN, stm, h => by
    simp only [chkS] at h
    split at h
    · exact z_retN
    · exact absurd h Bool.false_ne_true
  | .ite t a b, stm, h => by
    simp only [chkS] at h
    split at h
    · obtain ⟨h1, h3⟩ := and2 h
      obtain ⟨h1, h2⟩ := and2 h1
      exact z_if (sndT t d h1) (sndSs hp d a h2) (sndSs hp d b h3)
    · exact absurd h Bool.false_ne_true
  | .forr tg it b, stm, h => by
    simp only [chkS] at h
    split at h
    · obtain ⟨h1, h4⟩ := and2 h
      obtain ⟨h1, h3⟩ := and2 h1
      obtain ⟨h1, h2⟩ := and2 h1
      exact z_for hp d.calm (sndI it d h2) (chkG_ok d.hN d.hsc d.nd d.calm d.hcs h1) (gd_of tg) (sndSs hp d b h4) (folded_of h3)
    · exact absurd h Bool.false_ne_true
  | .whl t b, stm, h => by
    simp only [chkS] at h
    split at h
    · obtain ⟨h1, h2⟩ := and2 h
      exact z_while hp (sndT t d h1) (sndSs hp d b h2)
    · exact absurd h Bool.false_ne_true
  | .brk, stm, h => by
    simp only [chkS] at h
    split at h
    · exact z_brk
    · exact absurd h Bool.false_ne_true
  | .cnt, stm, h => by
    simp only [chkS] at h
    split at h
    · exact z_cnt
    · exact absurd h Bool.false_ne_true
  | .pass, stm, h => by
    simp only [chkS] at h
    split at h
    · exact z_pass
    · exact absurd h Bool.false_ne_true
  | .never, stm, h => z_never
theorem sndSs (hp : PassesOwn (model X.prog X.w) X.A X.env X.xe) (d : Gd X Γ k E N sc cs) : ∀ (ss : Ss) {sts : List Stmt}, chkSs Γ N sc cs ss sts = true → PSs X sts (TSx X.K E (evalSs Γ ss))
  | .nil, sts, h => by
    cases sts with
    | nil => exact z_nil
    | cons _ _ => exact absurd h Bool.false_ne_true
  | .cons s r, sts, h => by
    cases sts with
    | nil => exact absurd h Bool.false_ne_true
    | cons t ts =>
      have h' : (chkS Γ N sc cs s t && chkSs Γ N sc cs r ts) = true := h
      obtain ⟨h1, h2⟩ := and2 h'
      exact z_cons (sndS hp d s h1) (sndSs hp d r h2)
end
end
end Vm
/-! Vm, part Q: what a call leaves is dropped or counted as data from then on; defs. -/
namespace Vm
open PySem L2

/-! ### from the store to data -/
section
variable (n : Nat) (g : Sto)
mutual
def Fz : W → W → Prop
  | w, .non => w = .non
  | w, .bl b => w = .bl b
  | w, .int i => w = .int i
  | w, .str s => w = .str s
  | w, .tup ys => ∃ xs, w = .tup xs ∧ FzL xs ys
  | w, .fl ys => (∃ xs, w = .fl xs ∧ FzL xs ys) ∨ ∃ j xs, w = .ref (n + j) ∧ g[j]? = some (.lst xs) ∧ FzL xs ys
  | w, .kl ys => ∃ xs, w = .kl xs ∧ FzL xs ys
  | w, .fd ks ys => (∃ xs, w = .fd ks xs ∧ FzL xs ys) ∨ ∃ j xs, w = .ref (n + j) ∧ g[j]? = some (.dct ks xs) ∧ FzL xs ys
  | w, .obj c ns ys => (∃ xs, w = .obj c ns xs ∧ FzL xs ys) ∨ ∃ j xs, w = .ref (n + j) ∧ g[j]? = some (.ins c ns xs) ∧ FzL xs ys
  | w, .ref i => w = .ref i ∧ i < n
  | w, .glob x => w = .glob x
  | w, .ty x => w = .ty x
def FzL : List W → List W → Prop
  | xs, [] => xs = []
  | xs, y :: ys => ∃ x r, xs = x :: r ∧ Fz x y ∧ FzL r ys
end
def FzO : O → O → Prop
  | a, .lst ys => ∃ xs, a = .lst xs ∧ FzL n g xs ys
  | a, .dct ks ys => ∃ xs, a = .dct ks xs ∧ FzL n g xs ys
  | a, .ins c ns ys => ∃ xs, a = .ins c ns xs ∧ FzL n g xs ys
def FzS (a b : Sto) : Prop := a.length = b.length ∧ ∀ (i : Nat) (x y : O), a[i]? = some x → b[i]? = some y → FzO n g x y
end
def cut (n : Nat) (μ : Mu) : Mu := ⟨μ.m.take n, μ.m.drop n ++ μ.d⟩
section
variable {K : PySem.W.Frag} {H : Hp} {μ : Mu} {n : Nat} {st g : Sto}
mutual
theorem Fz.rp (S : StR K H μ (st ++ g)) (hn : st.length = n) : ∀ {w' w : W} {v : V}, Fz n g w w' → Rp K H μ w v → Rp K H (cut n μ) w' v
  | .non, w, v, f, r => by simp only [Fz] at f; subst f; simpa [Rp] using r
  | .bl b, w, v, f, r => by simp only [Fz] at f; subst f; simpa [Rp] using r
  | .int i, w, v, f, r => by simp only [Fz] at f; subst f; simpa [Rp] using r
  | .str s, w, v, f, r => by simp only [Fz] at f; subst f; simpa [Rp] using r
  | .glob x, w, v, f, r => by simp only [Fz] at f; subst f; simpa [Rp] using r
  | .ty x, w, v, f, r => by simp only [Fz] at f; subst f; simpa [Rp] using r
  | .tup ys, w, v, f, r => by
    simp only [Fz] at f
    obtain ⟨xs, rfl, f⟩ := f
    simp only [Rp] at r ⊢
    obtain ⟨a, vs, e, h, r⟩ := r
    exact ⟨a, vs, e, h, FzL.rp S hn f r⟩
  | .kl ys, w, v, f, r => by
    simp only [Fz] at f
    obtain ⟨xs, rfl, f⟩ := f
    simp only [Rp] at r ⊢
    obtain ⟨a, vs, e, h, r⟩ := r
    exact ⟨a, vs, e, h, FzL.rp S hn f r⟩
  | .ref i, w, v, f, r => by
    simp only [Fz] at f
    obtain ⟨rfl, hi⟩ := f
    simp only [Rp] at r ⊢
    obtain ⟨a, e, h⟩ := r
    exact ⟨a, e, by show (μ.m.take n)[i]? = _; rw [List.getElem?_take_of_lt hi]; exact h⟩
  | .fl ys, w, v, f, r => by
    simp only [Fz] at f
    rcases f with ⟨xs, rfl, f⟩ | ⟨j, xs, rfl, hj, f⟩
    · simp only [Rp] at r ⊢
      obtain ⟨a, vs, e, h, hd, r⟩ := r
      exact ⟨a, vs, e, h, List.mem_append.mpr (.inr hd), FzL.rp S hn f r⟩
    · simp only [Rp] at r ⊢
      obtain ⟨a, e, h⟩ := r
      obtain ⟨h1, h2⟩ := Fz.at_ S hn hj h
      obtain ⟨vs, e1, r⟩ := h1
      exact ⟨a, vs, e, e1, h2, FzL.rp S hn f r⟩
  | .fd ks ys, w, v, f, r => by
    simp only [Fz] at f
    rcases f with ⟨xs, rfl, f⟩ | ⟨j, xs, rfl, hj, f⟩
    · simp only [Rp] at r ⊢
      obtain ⟨a, vs, e, h, l, hd, r⟩ := r
      exact ⟨a, vs, e, h, l, List.mem_append.mpr (.inr hd), FzL.rp S hn f r⟩
    · simp only [Rp] at r ⊢
      obtain ⟨a, e, h⟩ := r
      obtain ⟨h1, h2⟩ := Fz.at_ S hn hj h
      obtain ⟨vs, e1, l, r⟩ := h1
      exact ⟨a, vs, e, e1, l, h2, FzL.rp S hn f r⟩
  | .obj c ns ys, w, v, f, r => by
    simp only [Fz] at f
    rcases f with ⟨xs, rfl, f⟩ | ⟨j, xs, rfl, hj, f⟩
    · simp only [Rp] at r ⊢
      obtain ⟨a, dx, vs, e, h, l, hd, r⟩ := r
      exact ⟨a, dx, vs, e, h, l, List.mem_append.mpr (.inr hd), FzL.rp S hn f r⟩
    · simp only [Rp] at r ⊢
      obtain ⟨a, e, h⟩ := r
      obtain ⟨h1, h2⟩ := Fz.at_ S hn hj h
      obtain ⟨dx, vs, e1, l, r⟩ := h1
      exact ⟨a, dx, vs, e, e1, l, h2, FzL.rp S hn f r⟩
theorem FzL.rp (S : StR K H μ (st ++ g)) (hn : st.length = n) : ∀ {ys xs : List W} {vs : List V}, FzL n g xs ys → RpL K H μ xs vs → RpL K H (cut n μ) ys vs
  | [], xs, vs, f, r => by simp only [FzL] at f; subst f; simpa [RpL] using r
  | y :: ys, xs, vs, f, r => by
    simp only [FzL] at f
    obtain ⟨x, q, rfl, f1, f2⟩ := f
    simp only [RpL] at r ⊢
    obtain ⟨v, r', e, h1, h2⟩ := r
    exact ⟨v, r', e, Fz.rp S hn f1 h1, FzL.rp S hn f2 h2⟩
theorem Fz.at_ (S : StR K H μ (st ++ g)) (hn : st.length = n) {j : Nat} {o : O} {a : Addr} (hj : g[j]? = some o) (h : μ.m[n + j]? = some a) : ObR K H μ o (H a) ∧ a ∈ (cut n μ).d := by
  refine ⟨S.at_ (n + j) o a (by rw [← hn, List.getElem?_append_right (Nat.le_add_right _ _)]; simpa using hj) h, ?_⟩
  refine List.mem_append.mpr (.inl ?_)
  refine List.mem_of_getElem? (i := j) ?_
  rw [List.getElem?_drop]; exact h
end
theorem StR.cut {st' : Sto} (S : StR K H μ (st ++ g)) (hn : st.length = n) (f : FzS n g st st') : StR K H (cut n μ) st' := by
  have hl : μ.m.length = st.length + g.length := by rw [S.len, List.length_append]
  have nd : (μ.m.take n ++ μ.m.drop n).Nodup := by rw [List.take_append_drop]; exact S.nd
  refine ⟨?_, ?_, fun a h m => ?_, fun a h => ?_, fun i o a h1 h2 => ?_⟩
  · show (μ.m.take n).length = _
    rw [List.length_take, hl, ← f.1, hn]; omega
  · exact (List.nodup_append.mp nd).1
  · have m : a ∈ μ.m.take n := m
    rcases List.mem_append.mp h with h | h
    · exact (List.nodup_append.mp nd).2.2 a m a h rfl
    · exact S.dis a h (List.mem_of_mem_take m)
  · rcases List.mem_append.mp h with h | h
    · exact S.there (List.mem_of_mem_drop h)
    · exact S.hd a h
  · have h2 : (μ.m.take n)[i]? = some a := h2
    have hi : i < st.length := by rw [f.1]; exact (List.getElem?_eq_some_iff.mp h1).1
    rw [List.getElem?_take_of_lt (by omega)] at h2
    have h3 := S.at_ i st[i] a (by rw [List.getElem?_append_left hi]; simp [hi]) h2
    have h4 := f.2 i st[i] o (by simp [hi]) h1
    cases o with
    | lst ys =>
      obtain ⟨xs, e, q⟩ := h4
      rw [e] at h3
      obtain ⟨vs, e1, r⟩ := h3
      exact ⟨vs, e1, q.rp S hn r⟩
    | dct ks ys =>
      obtain ⟨xs, e, q⟩ := h4
      rw [e] at h3
      obtain ⟨vs, e1, l, r⟩ := h3
      exact ⟨vs, e1, l, q.rp S hn r⟩
    | ins c ns ys =>
      obtain ⟨xs, e, q⟩ := h4
      rw [e] at h3
      obtain ⟨dx, vs, e1, l, r⟩ := h3
      exact ⟨dx, vs, e1, l, q.rp S hn r⟩
theorem Ext.cut {H0 : Hp} {μ0 : Mu} (S : StR K H μ (st ++ g)) (e : Ext H0 μ0 H μ) (h : μ0.m.length ≤ n) : Ext H0 μ0 H (cut n μ) := by
  obtain ⟨m, e1⟩ := e.pre
  have nd : (μ.m.take n ++ μ.m.drop n).Nodup := by rw [List.take_append_drop]; exact S.nd
  have e2 : μ.m.take n = μ0.m ++ m.take (n - μ0.m.length) := by rw [e1, List.take_append, List.take_of_length_le h]
  refine ⟨⟨_, e2⟩, fun a ha => List.mem_append.mpr (.inr (e.sub a ha)), fun a h1 h2 => e.new a (List.mem_of_mem_take h1) h2, fun a h1 h2 => ?_, e.keep, e.stay⟩
  rcases List.mem_append.mp h1 with h1 | h1
  · refine e.new a (List.mem_of_mem_drop h1) fun h3 => ?_
    have h4 : a ∈ μ.m.take n := by rw [e2]; exact List.mem_append.mpr (.inl h3)
    exact (List.nodup_append.mp nd).2.2 a h4 a h1 rfl
  · exact e.newd a h1 h2
end
/-- one outcome may stand for another -/
inductive Ref (n0 : Nat) : R W → R W → Prop where
  | bad {m : R W} : Ref n0 m .bad
  | eq {m : R W} : Ref n0 m m
  | ok {w w' : W} {st st' g : Sto} (hn : n0 ≤ st.length) (h : Fz st.length g w w') (hs : FzS st.length g st st') : Ref n0 (.ok w (st ++ g)) (.ok w' st')
  | er {c : Str} {ns : List Str} {ws ws' : List W} {st st' g : Sto} (hn : n0 ≤ st.length) (h : FzL st.length g ws ws') (hs : FzS st.length g st st') : Ref n0 (.er ⟨c, ns, ws⟩ (st ++ g)) (.er ⟨c, ns, ws'⟩ st')
section
variable {K : PySem.W.Frag} {E : XK} {H : Hp} {μ : Mu} {st : Sto} {m m' : R W}
theorem Ref.pst {Q : W → Sto → Hp → Mu → Prop} (r : Ref st.length m m') (S : StR K H μ st) (hQ : ∀ w w' st1 st2 H' μ' μ'', (∀ v, Rp K H' μ' w v → Rp K H' μ'' w' v) → Q w' st2 H' μ'' → Q w st1 H' μ') (h : Pst K E H μ m' Q) : Pst K E H μ m Q := by
  cases r with
  | bad => exact h.elim
  | eq => exact h
  | ok hn f hs => exact fun H' μ' e S' => hQ _ _ _ _ H' μ' _ (fun v r => f.rp S' rfl r) (h H' _ (e.cut S' (by rw [S.len]; exact hn)) (S'.cut rfl hs))
  | er hn f hs =>
    intro cls d H' μ' e S' xr
    refine h cls d H' _ (e.cut S' (by rw [S.len]; exact hn)) (S'.cut rfl hs) ⟨xr.1, ?_⟩
    rcases xr.2 with q | ⟨a, vs, q1, q2, q3, q4⟩
    · exact .inl q
    · exact .inr ⟨a, vs, q1, q2, q3, f.rp S' rfl q4⟩
theorem Ref.qw {Q : VK} (r : Ref st.length m m') (S : StR K H μ st) (h : Pst K E H μ m' (QW K Q)) : Pst K E H μ m (QW K Q) := r.pst S (fun w w' st1 st2 H' μ' μ'' hr q v rv => q v (hr v rv)) h
end
/-! ### what is there already is closed -/
mutual
def W.clo (n : Nat) : W → Prop
  | .tup xs => clos n xs
  | .fl xs => clos n xs
  | .kl xs => clos n xs
  | .fd _ xs => clos n xs
  | .obj _ _ xs => clos n xs
  | .ref i => i < n
  | _ => True
def clos (n : Nat) : List W → Prop
  | [] => True
  | x :: xs => x.clo n ∧ clos n xs
end
mutual
theorem Fz.refl {n : Nat} {g : Sto} : ∀ {w : W}, w.clo n → Fz n g w w
  | .non, h => by simp only [Fz]
  | .bl b, h => by simp only [Fz]
  | .int i, h => by simp only [Fz]
  | .str s, h => by simp only [Fz]
  | .glob s, h => by simp only [Fz]
  | .ty s, h => by simp only [Fz]
  | .tup xs, h => by simp only [Fz]; exact ⟨xs, rfl, FzL.refl (by simpa [W.clo] using h)⟩
  | .fl xs, h => by simp only [Fz]; exact .inl ⟨xs, rfl, FzL.refl (by simpa [W.clo] using h)⟩
  | .kl xs, h => by simp only [Fz]; exact ⟨xs, rfl, FzL.refl (by simpa [W.clo] using h)⟩
  | .fd _ xs, h => by simp only [Fz]; exact .inl ⟨xs, rfl, FzL.refl (by simpa [W.clo] using h)⟩
  | .obj _ _ xs, h => by simp only [Fz]; exact .inl ⟨xs, rfl, FzL.refl (by simpa [W.clo] using h)⟩
  | .ref i, h => by simp only [Fz]; exact ⟨trivial, by simpa [W.clo] using h⟩
theorem FzL.refl {n : Nat} {g : Sto} : ∀ {ws : List W}, clos n ws → FzL n g ws ws
  | [], h => by simp only [FzL]
  | w :: ws, h => by
    simp only [clos] at h
    simp only [FzL]
    exact ⟨w, ws, rfl, Fz.refl h.1, FzL.refl h.2⟩
end
section
variable {K : PySem.W.Frag} {H : Hp} {μ : Mu} {st : Sto}
mutual
theorem Rp.clo : ∀ {w : W} {v : V}, Rp K H μ w v → w.clo μ.m.length
  | .non, v, h => trivial
  | .bl _, v, h => trivial
  | .int _, v, h => trivial
  | .str _, v, h => trivial
  | .glob _, v, h => trivial
  | .ty _, v, h => trivial
  | .tup xs, v, h => by
    simp only [Rp] at h
    obtain ⟨a, vs, _, _, r⟩ := h
    simp only [W.clo]; exact RpL.clo r
  | .fl xs, v, h => by
    simp only [Rp] at h
    obtain ⟨a, vs, _, _, _, r⟩ := h
    simp only [W.clo]; exact RpL.clo r
  | .kl xs, v, h => by
    simp only [Rp] at h
    obtain ⟨a, vs, _, _, r⟩ := h
    simp only [W.clo]; exact RpL.clo r
  | .fd _ xs, v, h => by
    simp only [Rp] at h
    obtain ⟨a, vs, _, _, _, _, r⟩ := h
    simp only [W.clo]; exact RpL.clo r
  | .obj _ _ xs, v, h => by
    simp only [Rp] at h
    obtain ⟨a, dx, vs, _, _, _, _, r⟩ := h
    simp only [W.clo]; exact RpL.clo r
  | .ref i, v, h => by
    simp only [Rp] at h
    obtain ⟨a, _, r⟩ := h
    simp only [W.clo]; exact (List.getElem?_eq_some_iff.mp r).1
theorem RpL.clo : ∀ {ws : List W} {vs : List V}, RpL K H μ ws vs → clos μ.m.length ws
  | [], vs, h => trivial
  | w :: ws, vs, h => by
    simp only [RpL] at h
    obtain ⟨v, r, _, h1, h2⟩ := h
    simp only [clos]; exact ⟨Rp.clo h1, RpL.clo h2⟩
end
def O.clo (n : Nat) : O → Prop
  | .lst xs => clos n xs
  | .dct _ xs => clos n xs
  | .ins _ _ xs => clos n xs
def Sto.clo (st : Sto) : Prop := ∀ o ∈ st, O.clo st.length o
theorem StR.clo (S : StR K H μ st) : Sto.clo st := fun o ho => by
  obtain ⟨i, hi, e⟩ := List.mem_iff_getElem.mp ho
  have hi' : i < μ.m.length := by rw [S.len]; exact hi
  have h := S.at_ i o μ.m[i] (by simp [hi, e]) (by simp [hi'])
  rw [← S.len]
  cases o with
  | lst ws => obtain ⟨vs, _, r⟩ := h; exact r.clo
  | dct ks ws => obtain ⟨vs, _, _, r⟩ := h; exact r.clo
  | ins c ns ws => obtain ⟨dx, vs, _, _, r⟩ := h; exact r.clo
theorem FzS.refl {g : Sto} (h : Sto.clo st) : FzS st.length g st st := ⟨rfl, fun i x y h1 h2 => by
  rw [h1] at h2; cases h2
  have h3 := h x (List.mem_of_getElem? h1)
  cases x with
  | lst ws => exact ⟨ws, rfl, FzL.refl h3⟩
  | dct ks ws => exact ⟨ws, rfl, FzL.refl h3⟩
  | ins c ns ws => exact ⟨ws, rfl, FzL.refl h3⟩⟩
end
/-! ### defs -/
def start0 (n : Nat) (ws : List W) : Rho := ws.map some ++ List.replicate (n - ws.length) none
def RS.out : RS → R W
  | .nx _ st => .ok .non st
  | .rt w st => .ok w st
  | .er x _ st => .er x st
  | _ => .bad
/-- a def's body, its parameters bound -/
noncomputable def runD (Γ : Gm) (n : Nat) (ss : Ss) (ws : List W) (st : Sto) : R W := (evalSs Γ ss (start0 n ws) st).out
theorem start_env {K : PySem.W.Frag} {H : Hp} {μ : Mu} {N : List Str} {ws : List W} {vs : List V} (r : RpL K H μ ws vs) : EnvR K H μ (start0 N.length ws) (L2.start N vs) := by
  have hl := r.length
  refine ⟨by simp [start0, L2.start, hl], fun i w h => ?_⟩
  unfold start0 at h
  unfold L2.start
  by_cases hi : i < ws.length
  · rw [List.getElem?_append_left (by simpa using hi)] at h
    rw [List.getElem?_append_left (by simp [← hl, hi])]
    rw [List.getElem?_map] at h ⊢
    have h' : ws[i]? = some w := by
      cases q : ws[i]? with
      | none => rw [q] at h; cases h
      | some x => rw [q] at h; simpa using h
    obtain ⟨v, e, q⟩ := r.get h'
    exact ⟨v, by rw [e]; rfl, q⟩
  · rw [List.getElem?_append_right (by simp; omega)] at h
    rw [List.getElem?_replicate] at h
    split at h <;> cases h
section
variable {P : Program} {w : World} {K : PySem.W.Frag} {mg : Str → Option Value} {base : Heap} {x qual : Str} {params : Arguments} {body : List Stmt} {scope : Scope} {dvs : List V} {kws : List (Str × V)} {f : Addr} {fd : FuncData} {Γ : Gm} {k : Nat} {N ps : List Str} {ss : Ss}
/-- the names that are cells -/
def cellsOfSc (sc : Scope) : List Str := (sc.names.filter (·.2 == .cell)).map (·.1)
theorem gd_def (k3 : 3 ≤ k) {cdv : Value} {A : Around} {outer : List Env} {s : Shared} {H : Hp} {E : XK} (S : FnScope N ps scope) (G : GOk P w K mg base k Γ) (hr : RmG k (A.deeper (PyProof.Rows.envOfC qual scope s.heap.objs.size f cdv))) :
    Gd (cxOf (L2.CX P w) P w K mg base N qual scope f cdv A outer s H E) Γ k (fun cls d _ H => E cls d H) N scope (cellsOfSc scope) :=
  ⟨rfl, rfl, S.nd, rfl, hr, G, takes_of rfl rfl rfl rfl, fun _ _ => rfl, k3⟩
theorem pstS_out {X : Cx} {E : XK} {Q : VK} {H : Hp} {μ : Mu} {r : RS} (h : Pst K E H μ r.out (QW K Q)) : PstS K (fun cls d _ H => E cls d H) { nx := fun _ H' => Q .non H', rt := Q } H μ r := by
  cases r with
  | nx ρ st => exact fun σ' H' μ' e S ev => h H' μ' e S .non (by rw [rp_non])
  | rt w st => exact fun v H' μ' e S r => h H' μ' e S v r
  | er x ρ st => exact fun cls d σ' H' μ' e S ev xr => h cls d H' μ' e S xr
  | bk ρ st => exact h.elim
  | ct ρ st => exact h.elim
  | bad => exact h.elim
/-- THE RULE for a def: its body checked, its outcome `runD`, or what may stand for that -/
theorem def_ok {m : List W → M W} (k3 : 3 ≤ k) (F : FunD K x qual params body scope dvs kws f fd) (S : FnScope N ps scope) (G : GOk P w K mg base k Γ) (hc : chkSs Γ N scope (cellsOfSc scope) ss body = true)
    (hm : ∀ ws st, ws.length = ps.length → Sto.clo st → clos st.length ws → Ref st.length (runD Γ N.length ss ws st) (m ws st)) : FnG P w K mg base (k + 1) f fd ps (spOf K ps.length m) :=
  funG F S (fun vs H Q E h => h.1) fun cdv A outer s H vs Q E hr h => by
    obtain ⟨hl, μ, st, ws, St, r, p⟩ := h
    refine ⟨_, sndSs (passes_of rfl) (gd_def k3 S G hr) ss hc, ⟨μ, st, start0 N.length ws, St, start_env r, pstS_out (X := cxOf (L2.CX P w) P w K mg base N qual scope f cdv A outer s H E) ?_⟩⟩
    exact (hm ws st (by rw [r.length, hl]) St.clo (by rw [← St.len]; exact r.clo)).qw St p
/-- .. for an __init__: self stands behind the store -/
noncomputable def runK (Γ : Gm) (c : Str) (n : Nat) (ss : Ss) (ws : List W) (st : Sto) : R W := match runD Γ n ss (.ref st.length :: ws) (st ++ [.ins c [] []]) with
  | .ok .non st' => .ok (.ref st.length) st'
  | .er x st' => .er x st'
  | _ => .bad
theorem unt_ext {H H' : Hp} {μ μ' : Mu} {a : Addr} (e : Ext H ⟨μ.m ++ [a], μ.d⟩ H' μ') (hm : a ∉ μ.m) : Ext (unt H a) μ H' μ' := by
  obtain ⟨m, e1⟩ := e.pre
  refine ⟨⟨a :: m, by rw [e1]; simp⟩, e.sub, fun b h1 h2 => ?_, fun b h1 h2 => ?_, fun b o h1 h2 => ?_, fun b o h1 => ?_⟩
  · unfold unt
    by_cases q : b = a
    · rw [if_pos q]
    · rw [if_neg q]
      exact e.new b h1 fun h3 => by
        rcases List.mem_append.mp h3 with h3 | h3
        · exact h2 h3
        · exact q (by simpa using h3)
  · unfold unt
    by_cases q : b = a
    · rw [if_pos q]
    · rw [if_neg q]
      exact e.newd b h1 h2
  · unfold unt at h1
    by_cases q : b = a
    · rw [if_pos q] at h1; cases h1
    · rw [if_neg q] at h1
      exact e.keep b o h1 fun h3 => by
        rcases List.mem_append.mp h3 with h3 | h3
        · exact h2 h3
        · exact q (by simpa using h3)
  · unfold unt at h1
    by_cases q : b = a
    · rw [if_pos q] at h1; cases h1
    · rw [if_neg q] at h1
      exact e.stay b o h1
theorem init_ok {c : Str} {m : List W → M W} (k3 : 3 ≤ k) (F : FunD K x qual params body scope dvs kws f fd) (S : FnScope N ps scope) (G : GOk P w K mg base k Γ) (hc : chkSs Γ N scope (cellsOfSc scope) ss body = true)
    (hm : ∀ ws st, ws.length + 1 = ps.length → Sto.clo st → clos st.length ws → Ref st.length (runK Γ c N.length ss ws st) (m ws st)) : FnG P w K mg base (k + 1) f fd ps (spInit K c ps.length m) :=
  funG F S (fun vs H Q E h => h.1) fun cdv A outer s H vs Q E hr h => by
    obtain ⟨hl, a, dx, rest, μ, st, ws, rfl, hx, hnm, hnd, St, r, p⟩ := h
    have kp : Kp H μ H ⟨μ.m ++ [a], μ.d⟩ := ⟨fun _ _ h => h, fun _ _ _ h => h, fun _ _ _ h => h, fun _ h => h, fun i b h => by show (μ.m ++ [a])[i]? = _; rw [List.getElem?_append_left (List.getElem?_eq_some_iff.mp h).1]; exact h⟩
    have S1 : StR K H ⟨μ.m ++ [a], μ.d⟩ (st ++ [.ins c [] []]) := by
      refine ⟨by simp [St.len], List.nodup_append.mpr ⟨St.nd, by simp, fun b hb d hd e => ?_⟩, fun b hb hm => ?_, St.hd, fun i o b h1 h2 => ?_⟩
      · subst e
        have : b = a := by simpa using hd
        exact hnm (this ▸ hb)
      · rcases List.mem_append.mp hm with hm | hm
        · exact St.dis b hb hm
        · have : b = a := by simpa using hm
          exact hnd (this ▸ hb)
      · by_cases hi : i < st.length
        · rw [List.getElem?_append_left hi] at h1
          have h2 : (μ.m ++ [a])[i]? = some b := h2
          rw [List.getElem?_append_left (by rw [St.len]; exact hi)] at h2
          exact (St.at_ i o b h1 h2).kp kp
        · have h2 : (μ.m ++ [a])[i]? = some b := h2
          have hi' : i = st.length := by
            have := (List.getElem?_eq_some_iff.mp h1).1
            simp at this; omega
          subst hi'
          rw [List.getElem?_append_right (Nat.le_refl _)] at h1
          rw [List.getElem?_append_right (by rw [St.len]; exact Nat.le_refl _)] at h2
          simp [St.len] at h1 h2
          subst h1; subst h2
          exact ⟨dx, [], hx, rfl, by simp [RpL]⟩
    have r1 : RpL K H ⟨μ.m ++ [a], μ.d⟩ (.ref st.length :: ws) (.ref a :: rest) := .cons (by rw [Rp]; exact ⟨a, rfl, by show (μ.m ++ [a])[st.length]? = _; rw [← St.len]; simp⟩) (r.kp kp)
    refine ⟨_, sndSs (passes_of rfl) (gd_def k3 S G hr) ss hc, ⟨_, _, start0 N.length (.ref st.length :: ws), S1, start_env r1, pstS_out (X := cxOf (L2.CX P w) P w K mg base N qual scope f cdv A outer s H E) ?_⟩⟩
    have hl2 : ws.length + 1 = ps.length := by rw [← hl, r.length]; rfl
    have Su : StR K (unt H a) μ st := by
      have hne : ∀ b, b ≠ a → (unt H a) b = H b := fun b hb => by
        unfold unt
        rw [if_neg hb]
      have kp2 : Kp H μ (unt H a) μ := ⟨fun b vs h => by rw [hne b fun q => by rw [q, hx] at h; cases h]; exact h, fun b o u h => by rw [hne b fun q => by rw [q, hx] at h; cases h]; exact h, fun b o hd h => by rw [hne b fun q => hnd (q ▸ hd)]; exact h, fun _ h => h, fun _ _ h => h⟩
      refine ⟨St.len, St.nd, St.dis, fun b hb => ?_, fun i o b h1 h2 => ?_⟩
      · rw [hne b fun q => hnd (q ▸ hb)]; exact St.hd b hb
      · rw [hne b fun q => hnm (q ▸ List.mem_of_getElem? h2)]
        exact (St.at_ i o b h1 h2).kp kp2
    have p2 := (hm ws st hl2 St.clo (by rw [← St.len]; exact r.clo)).pst Su (fun w w' st1 st2 H' μ' μ'' hr q rv => q (hr _ rv)) p
    unfold runK at p2
    show Pst K E H _ (runD Γ N.length ss (.ref st.length :: ws) (st ++ [.ins c [] []])) _
    cases q : runD Γ N.length ss (.ref st.length :: ws) (st ++ [.ins c [] []]) with
    | bad => rw [q] at p2; exact p2.elim
    | er x st' =>
      rw [q] at p2
      exact fun cls d H' μ' e S' xr => p2 cls d H' μ' (unt_ext e hnm) S' xr
    | ok w st' =>
      rw [q] at p2
      cases w with
      | non =>
        refine fun H' μ' e S' v rv => ?_
        rw [rp_non] at rv
        subst rv
        refine p2 H' μ' (unt_ext e hnm) S' ?_
        rw [Rp]
        exact ⟨a, rfl, e.get (by show (μ.m ++ [a])[st.length]? = _; rw [← St.len]; simp)⟩
      | _ => exact p2.elim
end
end Vm
/-! Vm, part W: call shapes; the module's knowledge from rows. -/
namespace Vm
open PySem L2

/-- the parameters in their order: by place, then keyword-only ones (given: true, from the keywords; else from the defaults) -/
def pk {α : Type} (spec : List (Bool × Nat)) (vs mz zs : List α) : List α := vs ++ spec.flatMap fun q => ((if q.1 = true then zs else mz).drop q.2).take 1
theorem vals_drop : ∀ {vs : List V} {us : List Value} (i : Nat), Vals vs us → Vals (vs.drop i) (us.drop i)
  | _, _, 0, h => by simpa using h
  | _, _, i + 1, .nil => .nil
  | _, _, i + 1, .cons r h => by simpa using vals_drop i h
theorem vals_take : ∀ {vs : List V} {us : List Value} (i : Nat), Vals vs us → Vals (vs.take i) (us.take i)
  | _, _, 0, h => by simpa using (.nil : Vals [] [])
  | _, _, i + 1, .nil => .nil
  | _, _, i + 1, .cons r h => by simpa using (.cons r (vals_take i h) : Vals _ _)
theorem vals_app : ∀ {vs vs' : List V} {us us' : List Value}, Vals vs us → Vals vs' us' → Vals (vs ++ vs') (us ++ us')
  | _, _, _, _, .nil, h => h
  | _, _, _, _, .cons r h, h' => .cons r (vals_app h h')
theorem pk_vals {vs mz zs : List V} {us mv ws : List Value} (h1 : Vals vs us) (h2 : Vals mz mv) (h3 : Vals zs ws) : ∀ spec : List (Bool × Nat), Vals (pk spec vs mz zs) (pk spec us mv ws)
  | [] => by simpa [pk] using h1
  | q :: spec => by
    have key : ∀ spec : List (Bool × Nat), Vals (spec.flatMap fun q => ((if q.1 = true then zs else mz).drop q.2).take 1) (spec.flatMap fun q => ((if q.1 = true then ws else mv).drop q.2).take 1) := by
      intro spec
      induction spec with
      | nil => exact .nil
      | cons q spec ih =>
        simp only [List.flatMap_cons]
        refine vals_app (vals_take 1 (vals_drop q.2 ?_)) ih
        cases q.1 with
        | true => exact h3
        | false => exact h2
    exact vals_app h1 (key _)
section
variable {K : PySem.W.Frag} {H : Hp} {μ : Mu}
theorem rpl_drop : ∀ {ws : List W} {vs : List V} (i : Nat), RpL K H μ ws vs → RpL K H μ (ws.drop i) (vs.drop i)
  | ws, vs, 0, h => by simpa using h
  | [], vs, i + 1, h => by simp only [RpL] at h; subst h; simp [RpL]
  | w :: ws, vs, i + 1, h => by
    obtain ⟨v, r', rfl, h1, h2⟩ := h.uncons
    simpa using rpl_drop i h2
theorem rpl_take1 : ∀ {ws : List W} {vs : List V}, RpL K H μ ws vs → RpL K H μ (ws.take 1) (vs.take 1)
  | [], vs, h => by simp only [RpL] at h; subst h; simp [RpL]
  | w :: ws, vs, h => by
    obtain ⟨v, r', rfl, h1, h2⟩ := h.uncons
    exact .cons h1 .nil
theorem pk_rpl {vs mz zs : List V} {us mv ws : List W} (h1 : RpL K H μ us vs) (h2 : RpL K H μ mv mz) (h3 : RpL K H μ ws zs) (spec : List (Bool × Nat)) : RpL K H μ (pk spec us mv ws) (pk spec vs mz zs) := by
  have key : ∀ spec : List (Bool × Nat), RpL K H μ (spec.flatMap fun q => ((if q.1 = true then ws else mv).drop q.2).take 1) (spec.flatMap fun q => ((if q.1 = true then zs else mz).drop q.2).take 1) := by
    intro spec
    induction spec with
    | nil => exact .nil
    | cons q spec ih =>
      simp only [List.flatMap_cons]
      refine (rpl_take1 (rpl_drop q.2 ?_)).append ih
      cases q.1 with
      | true => exact h3
      | false => exact h2
  exact h1.append (key _)
end
theorem pk_len {α : Type} {vs mz zs : List α} : ∀ {spec : List (Bool × Nat)}, (∀ q ∈ spec, q.2 < (if q.1 = true then zs.length else mz.length)) → (pk spec vs mz zs).length = vs.length + spec.length := by
  intro spec h
  unfold pk
  rw [List.length_append]
  congr 1
  induction spec with
  | nil => rfl
  | cons q spec ih =>
    simp only [List.flatMap_cons, List.length_append, List.length_cons]
    rw [ih fun q' hq => h q' (List.mem_cons_of_mem _ hq)]
    have := h q (List.mem_cons_self ..)
    have h1 : (((if q.1 = true then zs else mz).drop q.2).take 1).length = 1 := by
      rw [List.length_take, List.length_drop]
      cases hq : q.1 <;> simp [hq] at this ⊢ <;> omega
    omega
section
variable {P : Program} {w : World} {K : PySem.W.Frag} {mg : Str → Option Value} {base : Heap} {x qual : Str} {params : Arguments} {body : List Stmt} {scope : Scope} {kws : List (Str × V)} {f : Addr} {fd : FuncData} {ps : List Str} {k : Nat} {m : List W → M W} {c : Str}
/-- all by place -/
theorem kbA (F : FunD K x qual params body scope [] kws f fd)
    (h : ∀ (kV doc pm : Value) (an : Option Addr) (cdv ct : Value) (us : List Value), us.length = ps.length → bindArgs (PySem.W.fnOf x qual params body scope .none kV doc pm an cdv ct) ⟨us, []⟩ = pure (ps.zip us)) :
    KBn K fd ps ps.length [] (fun us _ => us) (fun vs _ => vs) := ⟨fun s us ws X l1 l2 => F.bindsA h s us l1, fun r1 r2 => r1⟩
theorem fnE_A (F : FunD K x qual params body scope [] kws f fd) (FO : FnG P w K mg base k f fd ps (spOf K ps.length m))
    (h : ∀ (kV doc pm : Value) (an : Option Addr) (cdv ct : Value) (us : List Value), us.length = ps.length → bindArgs (PySem.W.fnOf x qual params body scope .none kV doc pm an cdv ct) ⟨us, []⟩ = pure (ps.zip us)) :
    FnE P w K mg base k f ps.length [] (fun ws _ => ws) m :=
  ⟨fd, ps, _, _, F.kp, FO, kbA F h, fun H μ ws vs zs us h1 h2 l1 l2 => ⟨h1, by rw [← h1.length, l1]⟩⟩
/-- by place and by name -/
theorem fnE_B (F : FunD K x qual params body scope [] kws f fd) (FO : FnG P w K mg base k f fd ps (spOf K ps.length m)) (n : Nat) (ks : List Str) (ms : List (Str × V)) (spec : List (Bool × Nat)) (dW : List W) (hk : kws ≠ []) (hms : ∀ q ∈ ms, q ∈ kws)
    (hd : ∀ H μ, RpL K H μ dW (ms.map (·.2))) (hn : n + spec.length = ps.length) (hs : ∀ q ∈ spec, q.2 < (if q.1 = true then ks.length else ms.length))
    (h : ∀ (D : Addr) (doc pm : Value) (an : Option Addr) (cdv ct : Value) (us mv ws : List Value), us.length = n → mv.length = ms.length → ws.length = ks.length →
      KwChain D ((ms.map (·.1)).zip mv) (bindArgs (PySem.W.fnOf x qual params body scope .none (.ref D) doc pm an cdv ct) ⟨us, ks.zip ws⟩) (ps.zip (pk spec us mv ws))) :
    FnE P w K mg base k f n ks (fun ws zs => pk spec ws dW zs) m := by
  obtain ⟨mv, B⟩ := F.kbinds0 (ps := ps) n ks ms (fun vs mz zs => pk spec vs mz zs) hk hms (fun r1 r2 r3 => pk_vals r1 r2 r3 spec) h
  refine ⟨fd, ps, _, _, F.kp, FO, B, fun H μ ws vs zs us h1 h2 l1 l2 => ⟨pk_rpl h1 (hd H μ) h2 spec, ?_⟩⟩
  rw [pk_len (fun q hq => ?_), ← h1.length, l1, hn]
  have := hs q hq
  rw [← h2.length, l2]
  simpa using this
theorem mkE_A {j : Nat} (F : FunD K x qual params body scope [] kws f fd) (FO : FnG P w K mg base j f fd ps (spInit K c ps.length m)) (hj : j + 1 ≤ k) {n : Nat} (hn : n + 1 = ps.length)
    (h : ∀ (kV doc pm : Value) (an : Option Addr) (cdv ct : Value) (us : List Value), us.length = ps.length → bindArgs (PySem.W.fnOf x qual params body scope .none kV doc pm an cdv ct) ⟨us, []⟩ = pure (ps.zip us)) :
    MkE P w K mg base k c f n [] (fun ws _ => ws) m :=
  ⟨fd, ps, _, _, j, hj, FO, by rw [hn]; exact kbA F h, fun H μ ws vs zs us y h1 h2 l1 l2 => ⟨vs, rfl, h1, by rw [← h1.length, l1, hn]⟩⟩
theorem mkE_B {j : Nat} (F : FunD K x qual params body scope [] kws f fd) (FO : FnG P w K mg base j f fd ps (spInit K c ps.length m)) (hj : j + 1 ≤ k) (n : Nat) (ks : List Str) (ms : List (Str × V)) (spec : List (Bool × Nat)) (dW : List W) (hk : kws ≠ []) (hms : ∀ q ∈ ms, q ∈ kws)
    (hd : ∀ H μ, RpL K H μ dW (ms.map (·.2))) (hn : n + 1 + spec.length = ps.length) (hs : ∀ q ∈ spec, q.2 < (if q.1 = true then ks.length else ms.length))
    (h : ∀ (D : Addr) (doc pm : Value) (an : Option Addr) (cdv ct : Value) (us mv ws : List Value), us.length = n + 1 → mv.length = ms.length → ws.length = ks.length →
      KwChain D ((ms.map (·.1)).zip mv) (bindArgs (PySem.W.fnOf x qual params body scope .none (.ref D) doc pm an cdv ct) ⟨us, ks.zip ws⟩) (ps.zip (pk spec us mv ws))) :
    MkE P w K mg base k c f n ks (fun ws zs => pk spec ws dW zs) m := by
  obtain ⟨mv, B⟩ := F.kbinds0 (ps := ps) (n + 1) ks ms (fun vs mz zs => pk spec vs mz zs) hk hms (fun r1 r2 r3 => pk_vals r1 r2 r3 spec) h
  refine ⟨fd, ps, _, _, j, hj, FO, B, fun H μ ws vs zs us y h1 h2 l1 l2 => ⟨pk spec vs (ms.map (·.2)) us, rfl, pk_rpl h1 (hd H μ) h2 spec, ?_⟩⟩
  rw [pk_len (fun q hq => ?_), ← h1.length, l1]
  · omega
  have := hs q hq
  rw [← h2.length, l2]
  simpa using this
end
end Vm
/-! Vm, part X: the module's knowledge grows def by def. -/
namespace Vm
open PySem L2

abbrev Sh := Nat × List Str × (List W → List W → List W)
def findSh (rows : List Sh) (n : Nat) (ks : List Str) : Option (List W → List W → List W) := (rows.find? fun r => decide (r.1 = n ∧ r.2.1 = ks)).map (·.2.2)
theorem findSh_some {rows : List Sh} {n : Nat} {ks : List Str} {g : List W → List W → List W} (h : findSh rows n ks = some g) : (n, ks, g) ∈ rows := by
  unfold findSh at h
  cases q : rows.find? fun r => decide (r.1 = n ∧ r.2.1 = ks) with
  | none => rw [q] at h; cases h
  | some r =>
    rw [q] at h
    cases h
    have h1 := List.find?_some q
    have h2 := List.mem_of_find?_eq_some q
    have h3 := of_decide_eq_true h1
    obtain ⟨a, b, c⟩ := r
    obtain ⟨rfl, rfl⟩ := h3
    exact h2
/-- nothing but constants and classes -/
def gm0 (globs : List (Str × W)) (free : List Str) (isa : List (Cl × Cl × Bool)) (cls clsv : List Str) (fld : List (Str × Str)) : Gm where
  fn := fun _ _ => bad
  bnd := fun _ _ _ => none
  glob := fun x => globs.lookup x
  free := fun x => free.contains x
  isa := fun t c => (isa.find? fun r => decide (r.1 = t ∧ r.2.1 = c)).map (·.2.2)
  cls := fun x => cls.contains x
  clsv := fun x => clsv.contains x
  fld := fun c f => fld.contains (c, f)
  mfn := fun _ _ _ => bad
  mbnd := fun _ _ _ _ => none
  kfn := fun _ _ => bad
  kbnd := fun _ _ _ => none
  spc := fun _ _ => false
def Gm.addFn (Γ : Gm) (f : Str) (m : List W → M W) (rows : List Sh) : Gm := { Γ with
  fn := fun x => if x = f then m else Γ.fn x
  bnd := fun x n ks => if x = f then findSh rows n ks else Γ.bnd x n ks }
def Gm.addMe (Γ : Gm) (c f : Str) (m : List W → M W) (rows : List Sh) (spc : Bool) : Gm := { Γ with
  mfn := fun d x => if d = c ∧ x = f then m else Γ.mfn d x
  mbnd := fun d x n ks => if d = c ∧ x = f then findSh rows n ks else Γ.mbnd d x n ks
  spc := fun d x => if d = c ∧ x = f then spc else Γ.spc d x }
def Gm.addMk (Γ : Gm) (c : Str) (m : List W → M W) (rows : List Sh) : Gm := { Γ with
  kfn := fun x => if x = c then m else Γ.kfn x
  kbnd := fun x n ks => if x = c then findSh rows n ks else Γ.kbnd x n ks }
section
variable {P : Program} {w : World} {K : PySem.W.Frag} {mg : Str → Option Value} {base : Heap} {k j : Nat} {Γ : Gm}
theorem FnE.mono {fa : Addr} {n : Nat} {ks : List Str} {g : List W → List W → List W} {m : List W → M W} (F : FnE P w K mg base j fa n ks g m) (h : j ≤ k) : FnE P w K mg base k fa n ks g m := by
  obtain ⟨fd, ps, gR, gV, h1, h2, h3, h4⟩ := F.ex
  exact ⟨fd, ps, gR, gV, h1, h2.mono h, h3, h4⟩
theorem MkE.mono {c : Str} {fa : Addr} {n : Nat} {ks : List Str} {g : List W → List W → List W} {m : List W → M W} (F : MkE P w K mg base j c fa n ks g m) (h : j ≤ k) : MkE P w K mg base k c fa n ks g m := by
  obtain ⟨fd, ps, gR, gV, i, hi, h2, h3, h4⟩ := F.ex
  exact ⟨fd, ps, gR, gV, i, by omega, h2, h3, h4⟩
theorem GOk.mono (G : GOk P w K mg base j Γ) (h : j ≤ k) : GOk P w K mg base k Γ where
  call := fun f n ks g e => by obtain ⟨fa, h1, h2⟩ := G.call f n ks g e; exact ⟨fa, h1, h2.mono h⟩
  glob := G.glob
  free := G.free
  cls := G.cls
  isa := G.isa
  own := G.own
  fld := G.fld
  meth := fun c m n ks g e => by obtain ⟨fa, h1, h2, h3⟩ := G.meth c m n ks g e; exact ⟨fa, h1, h2, h3.mono h⟩
  spc := fun c m e => by
    obtain ⟨h1, h2, h3, fa, i, h4, h5, h6⟩ := G.spc c m e
    exact ⟨h1, h2, h3, fa, i, by omega, h5, h6⟩
  make := fun c n ks g e => by
    obtain ⟨h1, fa, h2, h3⟩ := G.make c n ks g e
    exact ⟨h1, fa, h2, h3.mono h⟩
theorem GOk.addFn {f : Str} {m : List W → M W} {rows : List Sh} {fa : Addr} (G : GOk P w K mg base k Γ) (hm : mg f = some (.ref fa)) (h : ∀ r ∈ rows, FnE P w K mg base k fa r.1 r.2.1 r.2.2 m) : GOk P w K mg base k (Γ.addFn f m rows) where
  call := fun x n ks g e => by
    simp only [Gm.addFn] at e ⊢
    by_cases q : x = f
    · rw [if_pos q] at e ⊢
      subst q
      exact ⟨fa, hm, h _ (findSh_some e)⟩
    · rw [if_neg q] at e ⊢
      exact G.call x n ks g e
  glob := G.glob
  free := G.free
  cls := G.cls
  isa := G.isa
  own := G.own
  fld := G.fld
  meth := G.meth
  spc := G.spc
  make := G.make
theorem GOk.addMe {c f : Str} {m : List W → M W} {rows : List Sh} {spc : Bool} {fa : Addr} (G : GOk P w K mg base k Γ) (hc : Cls K (He.ga K c)) (hm : Meth K (He.ga K c) f fa) (h : ∀ r ∈ rows, FnE P w K mg base j fa r.1 r.2.1 r.2.2 m) (hj : j + 3 ≤ k)
    (hs : spc = true → PySem.W.mroIn K (He.ga K c) (.type "object") = some true ∧ PySem.W.findIn K (.ref (He.ga K c)) "__ne__" = some (some (.builtin "object.__ne__")) ∧ ∀ r ∈ rows, r.2.1 = []) : GOk P w K mg base k (Γ.addMe c f m rows spc) where
  call := G.call
  glob := G.glob
  free := G.free
  cls := G.cls
  isa := G.isa
  own := G.own
  fld := G.fld
  meth := fun d x n ks g e => by
    simp only [Gm.addMe] at e ⊢
    by_cases q : d = c ∧ x = f
    · rw [if_pos q] at e ⊢
      obtain ⟨rfl, rfl⟩ := q
      exact ⟨fa, hc, hm, (h _ (findSh_some e)).mono (by omega)⟩
    · rw [if_neg q] at e ⊢
      exact G.meth d x n ks g e
  spc := fun d x e => by
    simp only [Gm.addMe] at e ⊢
    by_cases q : d = c ∧ x = f
    · rw [if_pos q] at e
      have q' := q
      obtain ⟨rfl, rfl⟩ := q
      obtain ⟨h1, h2, h3⟩ := hs e
      refine ⟨hc, h1, h2, fa, j, hj, hm, fun n g e2 => ?_⟩
      rw [if_pos q'] at e2
      rw [if_pos q']
      exact h _ (findSh_some e2)
    · rw [if_neg q] at e
      obtain ⟨h1, h2, h3, fa', i, h4, h5, h6⟩ := G.spc d x e
      refine ⟨h1, h2, h3, fa', i, h4, h5, fun n g e2 => ?_⟩
      rw [if_neg q] at e2 ⊢
      exact h6 n g e2
  make := G.make
theorem GOk.addMk {c : Str} {m : List W → M W} {rows : List Sh} {fa : Addr} (G : GOk P w K mg base k Γ) (hg : mg c = some (.ref (He.ga K c))) (hm : Mk K (He.ga K c) fa) (h : ∀ r ∈ rows, MkE P w K mg base k c fa r.1 r.2.1 r.2.2 m) : GOk P w K mg base k (Γ.addMk c m rows) where
  call := G.call
  glob := G.glob
  free := G.free
  cls := G.cls
  isa := G.isa
  own := G.own
  fld := G.fld
  meth := G.meth
  spc := G.spc
  make := fun x n ks g e => by
    simp only [Gm.addMk] at e ⊢
    by_cases q : x = c
    · rw [if_pos q] at e ⊢
      subst q
      exact ⟨hg, fa, hm, h _ (findSh_some e)⟩
    · rw [if_neg q] at e ⊢
      exact G.make x n ks g e
/-- the start -/
theorem gm0_ok {globs : List (Str × W)} {free : List Str} {isa : List (Cl × Cl × Bool)} {cls clsv : List Str} {fld : List (Str × Str)}
    (h1 : ∀ q ∈ globs, ∃ v u, mg q.1 = some u ∧ RelV v u ∧ ∀ H μ, Rp K H μ q.2 v) (h2 : ∀ x ∈ free, mg x = none) (h3 : ∀ r ∈ isa, PySem.W.kitOne K (r.1.val K) (r.2.1.val K) = some r.2.2)
    (h4 : ∀ c ∈ cls, Cls K (He.ga K c) ∧ PySem.W.findIn K (.ref (He.ga K c)) "__class__" = some (some (.builtin "object.__class__")) ∧ PySem.W.specialIn K (.builtin "object.__class__") "__get__" = some (some (.builtin "getset_descriptor.__get__")) ∧ PySem.W.takesIn K (.builtin "object.__class__") = some true ∧ PySem.W.mroIn K (He.ga K c) (.type "object") = some true)
    (h5 : ∀ x ∈ clsv, mg x = some (.ref (He.ga K x))) (h6 : ∀ q ∈ fld, Cls K (He.ga K q.1) ∧ NoAttr K (He.ga K q.1) q.2) : GOk P w K mg base k (gm0 globs free isa cls clsv fld) where
  call := fun f n ks g e => by cases e
  glob := fun x w e => by
    have : (x, w) ∈ globs := PySem.mem_of_lookup e
    exact h1 _ this
  free := fun x e => h2 x (List.contains_iff_mem.mp e)
  cls := fun c e => h4 c (List.contains_iff_mem.mp e)
  isa := fun t c b e => by
    simp only [gm0] at e
    cases q : isa.find? fun r => decide (r.1 = t ∧ r.2.1 = c) with
    | none => rw [q] at e; cases e
    | some r =>
      rw [q] at e
      cases e
      have e0 := List.find?_some q
      have e1 := of_decide_eq_true e0
      have e2 := h3 r (List.mem_of_find?_eq_some q)
      rw [← e1.1, ← e1.2]; exact e2
  own := fun x e => h5 x (List.contains_iff_mem.mp e)
  fld := fun c f e => h6 (c, f) (List.contains_iff_mem.mp e)
  meth := fun c m n ks g e => by cases e
  spc := fun c m e => by cases e
  make := fun c n ks g e => by cases e
end
end Vm
/-! Vm, part Y: the end of a law, for contracts where nothing is being shown. -/
namespace Vm
open PySem PySem.Spec PyProof.Rows L2

theorem cx_no {P : Program} {w : World} {outer : List Env} {H : Hp} {s : Shared} {e : Value} {s' : Shared} (h : L2.CX P w outer H s (fun _ _ _ => False) e s') : False := by
  obtain ⟨_, _, _, _, _, _, _, _, _, _, _, _, z⟩ := h
  exact z
/-- the first abstract heap: the script, locked, if it is none of the module's own objects -/
def scr (K : PySem.W.Frag) (a : Addr) (o : Obj) (xs : List V) : Hp := fun b => if b = a ∧ K.lookup a = none then some (.frz o (.lst xs)) else none
theorem scr_cases (K : PySem.W.Frag) (a : Addr) (o : Obj) (xs : List V) (b : Addr) : scr K a o xs b = none ∨ (b = a ∧ K.lookup a = none ∧ scr K a o xs b = some (.frz o (.lst xs))) := by
  unfold scr
  by_cases h : b = a ∧ K.lookup a = none
  · exact .inr ⟨h.1, h.2, if_pos h⟩
  · exact .inl (if_neg h)
abbrev scrO (vs : List Value) : Obj := { cls := .type "list", data := .seq vs.toArray }
section
variable {P : Program} {w : World} {K : PySem.W.Frag} {mg mb : Str → Option Value} {k n : Nat} {fa a : Addr} {fd : FuncData} {x : Str} {sp : Sp} {s : Shared} {vs : List Value} {ns : List Int}
theorem scr_sq (KX : K.In s.heap) (ha : s.heap.get? a = some (scrO vs)) (hi : IntsAre vs ns) (hl : ns.length ≤ sizeLine) : SqL K (scr K a (scrO vs) (ns.map V.int)) a (ns.map V.int) := by
  cases q : K.lookup a with
  | none => exact Or.inl (Or.inr ⟨scrO vs, by unfold scr; rw [if_pos ⟨rfl, q⟩]⟩)
  | some o =>
    have e : o = scrO vs := Option.some.inj ((KX a o q).symm.trans ha)
    refine Or.inr ⟨o, vs.toArray, 0, q, ?_, ?_, ?_, ?_, ?_⟩
    · rw [e]
    · rw [e]
    · rw [e]
    · rw [List.size_toArray, hi.length]; exact hl
    · simpa using vals_ints hi
theorem scr_ok (ha : s.heap.get? a = some (scrO vs)) (hi : IntsAre vs ns) (hl : ns.length ≤ sizeLine) : HOk P w (scr K a (scrO vs) (ns.map V.int)) s.heap := fun b u hu => by
  rcases scr_cases K a (scrO vs) (ns.map V.int) b with h | ⟨rfl, _, h⟩
  · rw [h] at hu; cases hu
  · rw [h] at hu
    cases hu
    exact ⟨ha, by rw [List.length_map]; exact hl, vs, _, vals_ints hi, ha⟩
/-- what is no list is not tracked -/
theorem scr_out {xs : List V} {b : Addr} {o : Obj} (ha : s.heap.get? a = some (scrO vs)) (e : s.heap.get? b = some o) (hd : ∀ us m, o.data ≠ .seq us m) : scr K a (scrO vs) xs b = none := by
  rcases scr_cases K a (scrO vs) xs b with h | ⟨rfl, _, _⟩
  · exact h
  · have z : o = scrO vs := Option.some.inj (e.symm.trans ha)
    exact absurd (by rw [z]) (hd vs.toArray 0)
theorem scr_ns {xs : List V} {b : Addr} {m : Str → Option Value} (ha : s.heap.get? a = some (scrO vs)) (h : s.heap.Ns b m) : (hidT s.heap (scr K a (scrO vs) xs)).Ns b m := by
  obtain ⟨o, es, ep, e, d, r⟩ := h
  refine ⟨o, es, ep, hidT_get e (scr_out ha e fun us m z => ?_), d, r⟩
  rw [d] at z; cases z
/-- the law's call, from what its def promises -/
theorem end_call (KX : K.In s.heap) (hg : s.heap.Ns mainGlobals mg) (hb : s.heap.Ns builtinsNs mb) (hbb : ∀ x : Str, x ≠ "__name__" → mb x = bootBuiltins x) (lim : s.heap.NoLimit) (gens : s.gens = #[])
    (ha : s.heap.get? a = some (scrO vs)) (hi : IntsAre vs ns) (hl : ns.length ≤ sizeLine) (room : Room k callerA) (F : ∀ base : Heap, K.In base → base.Ns mainGlobals mg → FnG P w K mg base k fa fd [x] sp) (bnd : ∀ (s : Shared) (u : Value), BindsTo s fd ⟨[u], []⟩ [(x, u)])
    (pre : ∀ H : Hp, Only H → SqL K H a (ns.map V.int) → sp [.ref a] H (fun v _ => v = .bl true) fun _ _ _ => False) :
    codeAny (model P w) callerA (.call (.ref fa) ⟨[.ref a], []⟩) (fun r t => r = .ok (.ret (.bool true)) ∧ OldK s.heap t.heap ∧ t.os = s.os ∧ AllBare t.gens) s := by
  have only : Only (scr K a (scrO vs) (ns.map V.int)) := fun b => (scr_cases K a (scrO vs) (ns.map V.int) b).imp id fun h => ⟨_, _, h.2.2⟩
  have hok : HOk P w (scr K a (scrO vs) (ns.map V.int)) s.heap := scr_ok ha hi hl
  have kin : K.In (hidT s.heap (scr K a (scrO vs) (ns.map V.int))) := fun b o e => hidT_get (KX b o e) (by
    rcases scr_cases K a (scrO vs) (ns.map V.int) b with h | ⟨rfl, z, _⟩
    · exact h
    · rw [z] at e; cases e)
  have lim2 : (hidT s.heap (scr K a (scrO vs) (ns.map V.int))).NoLimit := by
    obtain ⟨m, l1, l2⟩ := lim
    exact ⟨m, scr_ns ha l1, l2⟩
  have env : Env0 P w K mg (hidT s.heap (scr K a (scrO vs) (ns.map V.int))) callerA [] s (scr K a (scrO vs) (ns.map V.int)) := {
    frames := rfl
    mod := ⟨kin, scr_ns ha hg, ⟨mb, scr_ns ha hb, hbb⟩, lim2⟩
    bs := fun _ _ e => of_hidT e
    bsz := Nat.le_of_eq (hidT_size _ _)
    funs := trivial
    frf := fun _ h => nomatch h
    hok := hok
    bare := .of_eq gens }
  have ran := (F _ kin env.mod.glob).run callerA [] s _ ⟨[.ref a], []⟩ [.ref a] [.ref a] _ _ ⟨room, rfl⟩ env (bnd s (.ref a)) (.cons rfl .nil) (pre _ only (scr_sq KX ha hi hl))
  apply codeAny_mono ran
  intro r t after
  match r, after with
  | .error e, after => exact (cx_no after).elim
  | .ok .next, after => exact after.elim
  | .ok .brk, after => exact after.elim
  | .ok .cont, after => exact after.elim
  | .ok (.ret u), after =>
    obtain ⟨v, H2, os, bare, un, hok2, rel, ev⟩ := after
    have ev : v = .bl true := ev
    subst ev
    cases (show u = Value.bool true from rel)
    refine ⟨rfl, OldK.of_keep fun b o e => ?_, os, bare⟩
    rcases scr_cases K a (scrO vs) (ns.map V.int) b with h | ⟨rfl, _, h⟩
    · exact un.keep b o e h (fun z => nomatch z) (fun z => nomatch z)
    · have old : o = scrO vs := Option.some.inj (e.symm.trans ha)
      have now := (hok2 b _ (un.frzs b _ _ h)).1
      rw [old]; exact now
theorem walk_G {l : PySem.W.OpenLaw} {q : Program} {loose : List Str} {XP : (Str → Option Value) → Heap → Prop} {YP : World → Heap → Prop} {d : DefRec} (most : l.most = some n) (fits : n ≤ sizeLine) (nod : d.params.defaults = []) (room : Room k callerA)
    (F : ∀ (w : World) (mg : Str → Option Value) (fa : Addr) (h : Heap), YP w h → h.Ns mainGlobals mg → mg d.name = some (.ref fa) → ∃ (K : PySem.W.Frag) (fd : FuncData) (sp : Sp), K.In h ∧ (∀ (s : Shared) (u : Value), BindsTo s fd ⟨[u], []⟩ [(x, u)]) ∧
      (∀ (H : Hp) (a : Addr) (ns : List Int), ns.length ≤ n → Only H → SqL K H a (ns.map V.int) → sp [.ref a] H (fun v _ => v = .bl true) fun _ _ _ => False) ∧ ∀ base : Heap, K.In base → base.Ns mainGlobals mg → FnG l.prog w K mg base k fa fd [x] sp) :
    PySem.W.WalkO q loose XP YP l.row.toRowW d [] (fun f vs => PySem.call f vs) :=
  Att.attach_call most nod fun w s0 s1 mg mb fa o pm cd doc a vs ns G Y e1 e2 e3 known script numbers few none_ => by
    obtain ⟨K, fd, sp, inK, bnd, pre, promise⟩ := F w mg fa _ Y G.T.g known
    exact end_call inK G.T.g G.T.b G.T.builtins G.T.nolimit none_ script numbers (Nat.le_trans few fits) room promise bnd fun H only sq => pre H a ns few only sq
end
end Vm
/-! Vm, part Z: facts of the head. -/
namespace Vm
open PySem L2

/-- what of a module is asked of the head -/
structure Md where
  cInt : List (Str × Int)
  cStr : List (Str × Str)
  free : List Str
  cls : List Str
  clsv : List Str
  fld : List (Str × Str)
  isa : List (Cl × Cl × Bool)
  meths : List (Str × Str)
  mks : List Str
  defs : List Str
  neq : List Str
def Md.fa (d : Md) : List He.Fa := d.cInt.map (fun q => .int q.1 q.2) ++ d.cStr.map (fun q => .str q.1 q.2) ++ d.free.map .free ++ d.cls.map .cls ++ d.clsv.map .glo ++ d.fld.map (fun q => .noat q.1 q.2) ++ d.fld.map (fun q => .cls q.1) ++ d.meths.map (fun q => .meth q.1 q.2) ++ d.mks.map .mkr ++ d.defs.map .glo
def Md.ex (d : Md) (K : PySem.W.Frag) : Bool := (d.isa.all fun r => decide (PySem.W.kitOne K (r.1.val K) (r.2.1.val K) = some r.2.2)) &&
  (d.cls.all fun c => He.eqO (PySem.W.findIn K (.ref (He.ga K c)) "__class__") (some (some (.builtin "object.__class__"))) && He.eqO (PySem.W.specialIn K (.builtin "object.__class__") "__get__") (some (some (.builtin "getset_descriptor.__get__"))) && decide (PySem.W.takesIn K (.builtin "object.__class__") = some true) && decide (PySem.W.mroIn K (He.ga K c) (.type "object") = some true)) &&
  (d.neq.all fun c => He.eqO (PySem.W.findIn K (.ref (He.ga K c)) "__ne__") (some (some (.builtin "object.__ne__"))) && decide (PySem.W.mroIn K (He.ga K c) (.type "object") = some true))
def Md.gm (d : Md) : Gm := gm0 (d.cInt.map (fun q => (q.1, .int q.2)) ++ d.cStr.map (fun q => (q.1, .str q.2)) ++ d.defs.map (fun x => (x, .glob x))) d.free d.isa d.cls d.clsv d.fld
section
variable {P : Program} {w : World} {K : PySem.W.Frag} {h : Heap} {mg : Str → Option Value} {base : Heap} {k : Nat} {d : Md}
theorem Md.mem_int {q : Str × Int} (m : q ∈ d.cInt) : He.Fa.int q.1 q.2 ∈ d.fa := by
  unfold Md.fa; simp only [List.mem_append, List.mem_map]
  exact .inl (.inl (.inl (.inl (.inl (.inl (.inl (.inl (.inl ⟨q, m, rfl⟩))))))))
theorem Md.mem_str {q : Str × Str} (m : q ∈ d.cStr) : He.Fa.str q.1 q.2 ∈ d.fa := by
  unfold Md.fa; simp only [List.mem_append, List.mem_map]
  exact .inl (.inl (.inl (.inl (.inl (.inl (.inl (.inl (.inr ⟨q, m, rfl⟩))))))))
theorem Md.mem_free {x : Str} (m : x ∈ d.free) : He.Fa.free x ∈ d.fa := by
  unfold Md.fa; simp only [List.mem_append, List.mem_map]
  exact .inl (.inl (.inl (.inl (.inl (.inl (.inl (.inr ⟨x, m, rfl⟩)))))))
theorem Md.mem_cls {x : Str} (m : x ∈ d.cls) : He.Fa.cls x ∈ d.fa := by
  unfold Md.fa; simp only [List.mem_append, List.mem_map]
  exact .inl (.inl (.inl (.inl (.inl (.inl (.inr ⟨x, m, rfl⟩))))))
theorem Md.mem_clsv {x : Str} (m : x ∈ d.clsv) : He.Fa.glo x ∈ d.fa := by
  unfold Md.fa; simp only [List.mem_append, List.mem_map]
  exact .inl (.inl (.inl (.inl (.inl (.inr ⟨x, m, rfl⟩)))))
theorem Md.mem_fld {q : Str × Str} (m : q ∈ d.fld) : He.Fa.noat q.1 q.2 ∈ d.fa ∧ He.Fa.cls q.1 ∈ d.fa := by
  unfold Md.fa; simp only [List.mem_append, List.mem_map]
  exact ⟨.inl (.inl (.inl (.inl (.inr ⟨q, m, rfl⟩)))), .inl (.inl (.inl (.inr ⟨q, m, rfl⟩)))⟩
theorem Md.mem_meth {q : Str × Str} (m : q ∈ d.meths) : He.Fa.meth q.1 q.2 ∈ d.fa := by
  unfold Md.fa; simp only [List.mem_append, List.mem_map]
  exact .inl (.inl (.inr ⟨q, m, rfl⟩))
theorem Md.mem_mk {x : Str} (m : x ∈ d.mks) : He.Fa.mkr x ∈ d.fa := by
  unfold Md.fa; simp only [List.mem_append, List.mem_map]
  exact .inl (.inr ⟨x, m, rfl⟩)
theorem Md.mem_def {x : Str} (m : x ∈ d.defs) : He.Fa.glo x ∈ d.fa := by
  unfold Md.fa; simp only [List.mem_append, List.mem_map]
  exact .inr ⟨x, m, rfl⟩
/-- the head's word -/
structure Hd (d : Md) (K : PySem.W.Frag) (h : Heap) (mg : Str → Option Value) : Prop where
  X : K.In h
  G : h.Ns mainGlobals mg
  fa : ∀ f ∈ d.fa, f.ok K = true
  ex : d.ex K = true
theorem Hd.gm (H : Hd d K h mg) : GOk P w K mg base k d.gm := by
  have ex := H.ex
  unfold Md.ex at ex
  rw [Bool.and_eq_true, Bool.and_eq_true] at ex
  obtain ⟨⟨e1, e2⟩, e3⟩ := ex
  refine gm0_ok (fun q hq => ?_) (fun x hx => He.free_ok H.X H.G (H.fa _ (Md.mem_free hx))) (fun r hr => of_decide_eq_true (List.all_eq_true.mp e1 r hr)) (fun c hc => ?_) (fun x hx => He.glo_ok H.X H.G (H.fa _ (Md.mem_clsv hx))) fun q hq => ⟨He.cls_ok (H.fa _ (Md.mem_fld hq).2), He.noat_ok (H.fa _ (Md.mem_fld hq).1)⟩
  · rw [List.mem_append, List.mem_append] at hq
    rcases hq with (hq | hq) | hq
    · obtain ⟨p, hp, rfl⟩ := List.mem_map.mp hq
      obtain ⟨t, e⟩ := He.int_ok H.X H.G (H.fa _ (Md.mem_int hp))
      exact ⟨.int p.2, _, e, ⟨t, rfl⟩, fun H μ => by rw [rp_int]⟩
    · obtain ⟨p, hp, rfl⟩ := List.mem_map.mp hq
      obtain ⟨t, e⟩ := He.str_ok H.X H.G (H.fa _ (Md.mem_str hp))
      exact ⟨.str p.2, _, e, ⟨t, rfl⟩, fun H μ => by rw [rp_str]⟩
    · obtain ⟨x, hx, rfl⟩ := List.mem_map.mp hq
      exact ⟨.ref (He.ga K x), _, He.glo_ok H.X H.G (H.fa _ (Md.mem_def hx)), rfl, fun H μ => by simp [Rp]⟩
  · have := List.all_eq_true.mp e2 c hc
    rw [Bool.and_eq_true, Bool.and_eq_true, Bool.and_eq_true] at this
    obtain ⟨⟨⟨a1, a2⟩, a3⟩, a4⟩ := this
    exact ⟨He.cls_ok (H.fa _ (Md.mem_cls hc)), He.eqO_ok a1, He.eqO_ok a2, of_decide_eq_true a3, of_decide_eq_true a4⟩
theorem Hd.def_ (H : Hd d K h mg) {x : Str} (m : x ∈ d.defs) : mg x = some (.ref (He.ga K x)) := He.glo_ok H.X H.G (H.fa _ (Md.mem_def m))
theorem Hd.meth (H : Hd d K h mg) {c f : Str} (m : (c, f) ∈ d.meths) : Meth K (He.ga K c) f (He.ma K (He.ga K c) f) := He.meth_ok (H.fa _ (Md.mem_meth m))
theorem Hd.mk_ (H : Hd d K h mg) {c : Str} (m : c ∈ d.mks) : Mk K (He.ga K c) (He.ma K (He.ga K c) "__init__") := He.mkr_ok (H.fa _ (Md.mem_mk m))
theorem Hd.cls (H : Hd d K h mg) {c : Str} (m : c ∈ d.cls) : Cls K (He.ga K c) := He.cls_ok (H.fa _ (Md.mem_cls m))
theorem Hd.neq (H : Hd d K h mg) {c : Str} (m : c ∈ d.neq) : PySem.W.mroIn K (He.ga K c) (.type "object") = some true ∧ PySem.W.findIn K (.ref (He.ga K c)) "__ne__" = some (some (.builtin "object.__ne__")) := by
  have ex := H.ex
  unfold Md.ex at ex
  rw [Bool.and_eq_true] at ex
  have := List.all_eq_true.mp ex.2 c m
  rw [Bool.and_eq_true] at this
  exact ⟨of_decide_eq_true this.2, He.eqO_ok this.1⟩
end
end Vm
/-! Vm, part Za: what a call made is counted as data where it ends (by a function); defs that call themselves. -/
namespace Vm
open PySem L2

mutual
/-- the places of the store put otherwise -/
def mapW (h : Nat → Option W) : W → Option W
  | .ref i => h i
  | .tup xs => (mapWs h xs).map .tup
  | .fl xs => (mapWs h xs).map .fl
  | .kl xs => (mapWs h xs).map .kl
  | .fd ks xs => (mapWs h xs).map (.fd ks)
  | .obj c ns xs => (mapWs h xs).map (.obj c ns)
  | .non => some .non
  | .bl b => some (.bl b)
  | .int i => some (.int i)
  | .str s => some (.str s)
  | .glob x => some (.glob x)
  | .ty n => some (.ty n)
def mapWs (h : Nat → Option W) : List W → Option (List W)
  | [] => some []
  | x :: xs => match mapW h x, mapWs h xs with
    | some y, some ys => some (y :: ys)
    | _, _ => none
end
/-- a place: as it is below n, else what stands there, as data -/
def fzI (n : Nat) (g : Sto) : Nat → Nat → Option W
  | 0, i => if i < n then some (.ref i) else none
  | k + 1, i => if i < n then some (.ref i) else match g[i - n]? with
    | some (.lst xs) => (mapWs (fzI n g k) xs).map .fl
    | some (.dct ks xs) => (mapWs (fzI n g k) xs).map (.fd ks)
    | some (.ins c ns xs) => (mapWs (fzI n g k) xs).map (.obj c ns)
    | none => none
def mapO (h : Nat → Option W) : O → Option O
  | .lst xs => (mapWs h xs).map .lst
  | .dct ks xs => (mapWs h xs).map (.dct ks)
  | .ins c ns xs => (mapWs h xs).map (.ins c ns)
def mapS (h : Nat → Option W) : Sto → Option Sto
  | [] => some []
  | o :: os => match mapO h o, mapS h os with
    | some p, some ps => some (p :: ps)
    | _, _ => none
def gcF (n : Nat) (st : Sto) : Nat → Option W := fzI n (st.drop n) 6
/-- what lies behind the first n places is dropped, or counted as data -/
def gcR (n : Nat) : R W → R W
  | .ok w st => if n ≤ st.length then (match mapW (gcF n st) w, mapS (gcF n st) (st.take n) with
    | some w', some st' => .ok w' st'
    | _, _ => .bad) else .bad
  | .er x st => if n ≤ st.length then (match mapWs (gcF n st) x.ws, mapS (gcF n st) (st.take n) with
    | some ws', some st' => .er ⟨x.cls, x.ns, ws'⟩ st'
    | _, _ => .bad) else .bad
  | .bad => .bad
section
variable {n : Nat} {g : Sto} {h : Nat → Option W}
mutual
theorem mapW_fz (hh : ∀ i w, h i = some w → Fz n g (.ref i) w) : ∀ {w w' : W}, mapW h w = some w' → Fz n g w w'
  | .ref i, w', e => hh i w' e
  | .non, w', e => by cases e; simp only [Fz]
  | .bl b, w', e => by cases e; simp only [Fz]
  | .int i, w', e => by cases e; simp only [Fz]
  | .str s, w', e => by cases e; simp only [Fz]
  | .glob x, w', e => by cases e; simp only [Fz]
  | .ty x, w', e => by cases e; simp only [Fz]
  | .tup xs, w', e => by
    simp only [mapW] at e
    cases q : mapWs h xs with
    | none => rw [q] at e; cases e
    | some ys => rw [q] at e; cases e; simp only [Fz]; exact ⟨xs, rfl, mapWs_fz hh q⟩
  | .fl xs, w', e => by
    simp only [mapW] at e
    cases q : mapWs h xs with
    | none => rw [q] at e; cases e
    | some ys => rw [q] at e; cases e; simp only [Fz]; exact .inl ⟨xs, rfl, mapWs_fz hh q⟩
  | .kl xs, w', e => by
    simp only [mapW] at e
    cases q : mapWs h xs with
    | none => rw [q] at e; cases e
    | some ys => rw [q] at e; cases e; simp only [Fz]; exact ⟨xs, rfl, mapWs_fz hh q⟩
  | .fd ks xs, w', e => by
    simp only [mapW] at e
    cases q : mapWs h xs with
    | none => rw [q] at e; cases e
    | some ys => rw [q] at e; cases e; simp only [Fz]; exact .inl ⟨xs, rfl, mapWs_fz hh q⟩
  | .obj c ns xs, w', e => by
    simp only [mapW] at e
    cases q : mapWs h xs with
    | none => rw [q] at e; cases e
    | some ys => rw [q] at e; cases e; simp only [Fz]; exact .inl ⟨xs, rfl, mapWs_fz hh q⟩
theorem mapWs_fz (hh : ∀ i w, h i = some w → Fz n g (.ref i) w) : ∀ {xs ys : List W}, mapWs h xs = some ys → FzL n g xs ys
  | [], ys, e => by cases e; simp only [FzL]
  | x :: xs, ys, e => by
    simp only [mapWs] at e
    cases q1 : mapW h x with
    | none => rw [q1] at e; cases e
    | some y =>
      cases q2 : mapWs h xs with
      | none => rw [q1, q2] at e; cases e
      | some r =>
        rw [q1, q2] at e; cases e
        simp only [FzL]
        exact ⟨x, xs, rfl, mapW_fz hh q1, mapWs_fz hh q2⟩
end
theorem fzI_fz : ∀ {k i : Nat} {w : W}, fzI n g k i = some w → Fz n g (.ref i) w
  | 0, i, w, e => by
    unfold fzI at e
    split at e
    · cases e; simp only [Fz]; exact ⟨trivial, by assumption⟩
    · cases e
  | k + 1, i, w, e => by
    unfold fzI at e
    split at e
    · cases e; simp only [Fz]; exact ⟨trivial, by assumption⟩
    · rename_i hn
      have ei : W.ref i = .ref (n + (i - n)) := by congr 1; omega
      cases q : g[i - n]? with
      | none => rw [q] at e; cases e
      | some o =>
        rw [q] at e
        cases o with
        | lst xs =>
          dsimp only at e
          cases q2 : mapWs (fzI n g k) xs with
          | none => rw [q2] at e; cases e
          | some ys => rw [q2] at e; cases e; simp only [Fz]; exact .inr ⟨i - n, xs, ei, q, mapWs_fz (fun j w hj => fzI_fz hj) q2⟩
        | dct ks xs =>
          dsimp only at e
          cases q2 : mapWs (fzI n g k) xs with
          | none => rw [q2] at e; cases e
          | some ys => rw [q2] at e; cases e; simp only [Fz]; exact .inr ⟨i - n, xs, ei, q, mapWs_fz (fun j w hj => fzI_fz hj) q2⟩
        | ins c ns xs =>
          dsimp only at e
          cases q2 : mapWs (fzI n g k) xs with
          | none => rw [q2] at e; cases e
          | some ys => rw [q2] at e; cases e; simp only [Fz]; exact .inr ⟨i - n, xs, ei, q, mapWs_fz (fun j w hj => fzI_fz hj) q2⟩
theorem mapO_fz (hh : ∀ i w, h i = some w → Fz n g (.ref i) w) {o o' : O} (e : mapO h o = some o') : FzO n g o o' := by
  cases o with
  | lst xs =>
    simp only [mapO] at e
    cases q : mapWs h xs with
    | none => rw [q] at e; cases e
    | some ys => rw [q] at e; cases e; exact ⟨xs, rfl, mapWs_fz hh q⟩
  | dct ks xs =>
    simp only [mapO] at e
    cases q : mapWs h xs with
    | none => rw [q] at e; cases e
    | some ys => rw [q] at e; cases e; exact ⟨xs, rfl, mapWs_fz hh q⟩
  | ins c ns xs =>
    simp only [mapO] at e
    cases q : mapWs h xs with
    | none => rw [q] at e; cases e
    | some ys => rw [q] at e; cases e; exact ⟨xs, rfl, mapWs_fz hh q⟩
theorem mapS_fz (hh : ∀ i w, h i = some w → Fz n g (.ref i) w) : ∀ {st st' : Sto}, mapS h st = some st' → FzS n g st st'
  | [], st', e => by cases e; exact ⟨rfl, fun i x y hx => by simp at hx⟩
  | o :: os, st', e => by
    simp only [mapS] at e
    cases q1 : mapO h o with
    | none => rw [q1] at e; cases e
    | some p =>
      cases q2 : mapS h os with
      | none => rw [q1, q2] at e; cases e
      | some ps =>
        rw [q1, q2] at e; cases e
        obtain ⟨l, r⟩ := mapS_fz hh q2
        refine ⟨by simp [l], fun i x y hx hy => ?_⟩
        cases i with
        | zero => cases hx; cases hy; exact mapO_fz hh q1
        | succ i => exact r i x y (by simpa using hx) (by simpa using hy)
end
/-- what `gcR` tells may stand for it -/
theorem gc_ref (n : Nat) (r : R W) : Ref n r (gcR n r) := by
  cases r with
  | bad => exact .bad
  | ok w st =>
    rw [show gcR n (.ok w st) = if n ≤ st.length then (match mapW (gcF n st) w, mapS (gcF n st) (st.take n) with
      | some w', some st' => .ok w' st'
      | _, _ => .bad) else .bad from rfl]
    by_cases hn : n ≤ st.length
    · rw [if_pos hn]
      have hl : (st.take n).length = n := by rw [List.length_take]; omega
      have hh : ∀ i w, gcF n st i = some w → Fz n (st.drop n) (.ref i) w := fun i w e => fzI_fz e
      cases e1 : mapW (gcF n st) w with
      | none => exact .bad
      | some w' =>
        cases e2 : mapS (gcF n st) (st.take n) with
        | none => exact .bad
        | some st' =>
          have key : Ref n (.ok w (st.take n ++ st.drop n)) (.ok w' st') := .ok (by rw [hl]; exact Nat.le_refl _) (by rw [hl]; exact mapW_fz hh e1) (by rw [hl]; exact mapS_fz hh e2)
          rw [List.take_append_drop] at key
          exact key
    · rw [if_neg hn]; exact .bad
  | er x st =>
    rw [show gcR n (.er x st) = if n ≤ st.length then (match mapWs (gcF n st) x.ws, mapS (gcF n st) (st.take n) with
      | some ws', some st' => .er ⟨x.cls, x.ns, ws'⟩ st'
      | _, _ => .bad) else .bad from rfl]
    by_cases hn : n ≤ st.length
    · rw [if_pos hn]
      have hl : (st.take n).length = n := by rw [List.length_take]; omega
      have hh : ∀ i w, gcF n st i = some w → Fz n (st.drop n) (.ref i) w := fun i w e => fzI_fz e
      cases e1 : mapWs (gcF n st) x.ws with
      | none => exact .bad
      | some w' =>
        cases e2 : mapS (gcF n st) (st.take n) with
        | none => exact .bad
        | some st' =>
          have key : Ref n (.er ⟨x.cls, x.ns, x.ws⟩ (st.take n ++ st.drop n)) (.er ⟨x.cls, x.ns, w'⟩ st') := .er (by rw [hl]; exact Nat.le_refl _) (by rw [hl]; exact mapWs_fz hh e1) (by rw [hl]; exact mapS_fz hh e2)
          rw [List.take_append_drop] at key
          exact key
    · rw [if_neg hn]; exact .bad
/-- a def's mirror: its body; what it made is counted as data behind it (b) -/
noncomputable def mD (b : Bool) (Γ : Gm) (n : Nat) (ss : Ss) (ws : List W) : M W := fun st => if b = true then gcR st.length (runD Γ n ss ws st) else runD Γ n ss ws st
/-- .. of an __init__ -/
noncomputable def mK (b : Bool) (Γ : Gm) (c : Str) (n : Nat) (ss : Ss) (ws : List W) : M W := fun st => if b = true then gcR st.length (runK Γ c n ss ws st) else runK Γ c n ss ws st
section
variable {P : Program} {w : World} {K : PySem.W.Frag} {mg : Str → Option Value} {base : Heap} {x qual : Str} {params : Arguments} {body : List Stmt} {scope : Scope} {dvs : List V} {kws : List (Str × V)} {f : Addr} {fd : FuncData} {Γ : Gm} {k : Nat} {N ps : List Str} {ss : Ss}
theorem mD_ok (b : Bool) (k3 : 3 ≤ k) (F : FunD K x qual params body scope dvs kws f fd) (S : FnScope N ps scope) (G : GOk P w K mg base k Γ) (hc : chkSs Γ N scope (cellsOfSc scope) ss body = true) :
    FnG P w K mg base (k + 1) f fd ps (spOf K ps.length (mD b Γ N.length ss)) :=
  def_ok k3 F S G hc fun ws st _ _ _ => by
    unfold mD
    cases b with
    | true => exact gc_ref _ _
    | false => exact .eq
theorem mK_ok (b : Bool) {c : Str} (k3 : 3 ≤ k) (F : FunD K x qual params body scope dvs kws f fd) (S : FnScope N ps scope) (G : GOk P w K mg base k Γ) (hc : chkSs Γ N scope (cellsOfSc scope) ss body = true) :
    FnG P w K mg base (k + 1) f fd ps (spInit K c ps.length (mK b Γ c N.length ss)) :=
  init_ok k3 F S G hc fun ws st _ _ _ => by
    unfold mK
    cases b with
    | true => exact gc_ref _ _
    | false => exact .eq
end
/-- a def that calls itself: so many times at most -/
noncomputable def mR (b : Bool) (Γ : Gm) (f : Str) (rows : List Sh) (n : Nat) (ss : Ss) : Nat → List W → M W
  | 0, _ => bad
  | i + 1, ws => mD b (Γ.addFn f (mR b Γ f rows n ss i) rows) n ss ws
section
variable {P : Program} {w : World} {K : PySem.W.Frag} {mg : Str → Option Value} {base : Heap} {x qual : Str} {params : Arguments} {body : List Stmt} {scope : Scope} {dvs : List V} {kws : List (Str × V)} {fa : Addr} {fd : FuncData} {Γ : Gm} {k : Nat} {N ps : List Str} {ss : Ss} {f : Str} {rows : List Sh}
theorem fnG_bad {sp : Sp} (h : ∀ vs H Q E, ¬ sp vs H Q E) : FnG P w K mg base k fa fd ps sp := ⟨fun vs H Q E z => (h vs H Q E z).elim, fun A outer s H args us vs Q E _ _ _ _ z => (h vs H Q E z).elim⟩
theorem mR_ok (b : Bool) (k3 : 3 ≤ k) (F : FunD K x qual params body scope dvs kws fa fd) (S : FnScope N ps scope) (G : GOk P w K mg base k Γ) (hg : mg f = some (.ref fa))
    (hc : ∀ m, chkSs (Γ.addFn f m rows) N scope (cellsOfSc scope) ss body = true) (hrows : ∀ m j, FnG P w K mg base j fa fd ps (spOf K ps.length m) → ∀ r ∈ rows, FnE P w K mg base j fa r.1 r.2.1 r.2.2 m) :
    ∀ i, FnG P w K mg base (k + i) fa fd ps (spOf K ps.length (mR b Γ f rows N.length ss i))
  | 0 => fnG_bad fun vs H Q E z => by
    obtain ⟨_, μ, st, ws, _, _, p⟩ := z
    exact p
  | i + 1 => mD_ok b (Nat.le_trans k3 (Nat.le_add_right k i)) F S (GOk.addFn (G.mono (Nat.le_add_right k i)) hg (hrows _ _ (mR_ok b k3 F S G hg hc hrows i))) (hc _)
/-- what the law's def is handed -/
theorem pre_ok {m : List W → M W} {ns : List Int} {H : Hp} {a : Addr} (h : ∃ st, m [.kl (ns.map .int)] [] = .ok (.bl true) st) (only : Only H) (sq : SqL K H a (ns.map V.int)) : spOf K 1 m [.ref a] H (fun v _ => v = .bl true) fun _ _ _ => False := by
  obtain ⟨st, e⟩ := h
  have kl : KlR K H a (ns.map V.int) := by
    rcases sq with (q | q) | q
    · rcases only a with z | ⟨o, u, z⟩
      · rw [z] at q; cases q
      · rw [z] at q; cases q
    · exact .inl q
    · exact .inr q
  have rl : ∀ l : List Int, RpL K H ⟨[], []⟩ (l.map W.int) (l.map V.int) := by
    intro l
    induction l with
    | nil => simp [RpL]
    | cons i l ih => simp only [List.map_cons, RpL]; exact ⟨_, _, rfl, by simp [Rp], ih⟩
  refine ⟨rfl, ⟨[], []⟩, [], [.kl (ns.map .int)], ⟨rfl, List.nodup_nil, fun _ z => (by cases z), fun _ z => (by cases z), fun i o b z => by simp at z⟩, ?_, ?_⟩
  · simp only [RpL, Rp]
    exact ⟨_, _, rfl, ⟨a, _, rfl, kl, rl ns⟩, rfl⟩
  · rw [e]
    intro H' μ' x S' v r
    rw [rp_bl] at r
    exact r
end
end Vm
/-! Vm, part Zb: how outcomes are shown. -/
namespace Vm
open PySem L2

/-! ### outcomes -/
def OkR {α : Type} (r : R α) (Q : α → Sto → Prop) (X : Xc → Sto → Prop := fun _ _ => False) : Prop := match r with
  | .ok a st => Q a st
  | .er x st => X x st
  | .bad => False
structure Po where
  nx : Rho → Sto → Prop
  rt : W → Sto → Prop
  bk : Rho → Sto → Prop := fun _ _ => False
  ct : Rho → Sto → Prop := fun _ _ => False
  er : Xc → Rho → Sto → Prop := fun _ _ _ => False
def OkS (r : RS) (D : Po) : Prop := match r with
  | .nx ρ st => D.nx ρ st
  | .rt w st => D.rt w st
  | .bk ρ st => D.bk ρ st
  | .ct ρ st => D.ct ρ st
  | .er x ρ st => D.er x ρ st
  | .bad => False
section
variable {α β : Type} {r r' : R α} {Q : α → Sto → Prop} {X : Xc → Sto → Prop} {D : Po} {s s' : RS} {ρ : Rho} {st : Sto}
theorem OkR_ok {a : α} : OkR (.ok a st) Q X = Q a st := rfl
theorem OkR_er {x : Xc} : OkR (.er x st : R α) Q X = X x st := rfl
theorem OkR_bd {f : α → M β} {Q : β → Sto → Prop} : OkR (r.bd f) Q X = OkR r (fun a st => OkR (f a st) Q X) X := by cases r <;> rfl
theorem OkS_nx : OkS (.nx ρ st) D = D.nx ρ st := rfl
theorem OkS_rt {w : W} : OkS (.rt w st) D = D.rt w st := rfl
theorem OkS_bk : OkS (.bk ρ st) D = D.bk ρ st := rfl
theorem OkS_ct : OkS (.ct ρ st) D = D.ct ρ st := rfl
theorem OkS_er {x : Xc} : OkS (.er x ρ st) D = D.er x ρ st := rfl
theorem OkS_go {f : α → Sto → RS} : OkS (r.go ρ f) D = OkR r (fun a st => OkS (f a st) D) (fun x st => D.er x ρ st) := by cases r <;> rfl
theorem OkS_seq {g : Rho → Sto → RS} : OkS (s.seq g) D = OkS s { D with nx := fun ρ st => OkS (g ρ st) D } := by cases s <;> rfl
theorem OkR_runD {Γ : Gm} {n : Nat} {ss : Ss} {ws : List W} {Q : W → Sto → Prop} : OkR (runD Γ n ss ws st) Q X = OkS (evalSs Γ ss (start0 n ws) st) ⟨fun _ st => Q .non st, Q, fun _ _ => False, fun _ _ => False, fun x _ st => X x st⟩ := by
  unfold runD
  cases evalSs Γ ss (start0 n ws) st <;> rfl
theorem OkR.ex (h : OkR r Q) : ∃ a st, r = .ok a st ∧ Q a st := by
  cases r with
  | ok a st => exact ⟨a, st, rfl, h⟩
  | er _ _ => exact h.elim
  | bad => exact h.elim
theorem OkR.eq {a : α} (h : OkR r fun b st' => b = a ∧ st' = st) : r = .ok a st := by
  obtain ⟨b, st', e, rfl, rfl⟩ := h.ex
  exact e
theorem OkR.of {Q' : α → Sto → Prop} (h : OkR r Q X) (i : ∀ a st, Q a st → Q' a st) : OkR r Q' X := by
  cases r with
  | ok a st => exact i a st h
  | er _ _ => exact h
  | bad => exact h
theorem OkS.of {D' : Po} (h : OkS s D) (i : ∀ ρ st, D.nx ρ st → D'.nx ρ st) (j : ∀ w st, D.rt w st → D'.rt w st) (k : ∀ ρ st, D.bk ρ st → D'.bk ρ st) (l : ∀ ρ st, D.ct ρ st → D'.ct ρ st) (m : ∀ x ρ st, D.er x ρ st → D'.er x ρ st) : OkS s D' := by
  cases s with
  | nx ρ st => exact i _ _ h
  | rt w st => exact j _ _ h
  | bk ρ st => exact k _ _ h
  | ct ρ st => exact l _ _ h
  | er x ρ st => exact m _ _ _ h
  | bad => exact h
theorem go_ok {a : α} {f : α → Sto → RS} : (R.ok a st).go ρ f = f a st := rfl
theorem go_er {x : Xc} {f : α → Sto → RS} : (R.er x st : R α).go ρ f = .er x ρ st := rfl
theorem seq_nx {g : Rho → Sto → RS} : (RS.nx ρ st).seq g = g ρ st := rfl
theorem seq_rt {w : W} {g : Rho → Sto → RS} : (RS.rt w st).seq g = .rt w st := rfl
theorem seq_bk {g : Rho → Sto → RS} : (RS.bk ρ st).seq g = .bk ρ st := rfl
theorem seq_ct {g : Rho → Sto → RS} : (RS.ct ρ st).seq g = .ct ρ st := rfl
theorem seq_er {x : Xc} {g : Rho → Sto → RS} : (RS.er x ρ st).seq g = .er x ρ st := rfl
theorem ofO_some {ρ' : Rho} : RS.ofO (some ρ') st = .nx ρ' st := rfl
theorem ofO_pure {a : α} : (ofO (some a) : M α) = pure a := rfl
end
/-! ### loops -/
theorem OkS_for {f : W → Rho → Sto → RS} {D : Po} : ∀ {items : List W} {ρ : Rho} {st : Sto} (Jn : Nat → Rho → Sto → Prop), Jn 0 ρ st →
    (∀ i w ρ st, items[i]? = some w → Jn i ρ st → OkS (f w ρ st) ⟨Jn (i + 1), D.rt, D.nx, Jn (i + 1), D.er⟩) → (∀ ρ st, Jn items.length ρ st → D.nx ρ st) → OkS (forS f items ρ st) D
  | [], ρ, st, Jn, h0, _, he => he ρ st h0
  | x :: xs, ρ, st, Jn, h0, hs, he => by
    have h1 := hs 0 x ρ st rfl h0
    unfold forS
    cases q : f x ρ st with
    | nx ρ' st' =>
      rw [q] at h1
      exact OkS_for (fun i => Jn (i + 1)) h1 (fun i w ρ st hi hI => hs (i + 1) w ρ st (by simpa using hi) hI) fun ρ st h => he ρ st h
    | ct ρ' st' =>
      rw [q] at h1
      exact OkS_for (fun i => Jn (i + 1)) h1 (fun i w ρ st hi hI => hs (i + 1) w ρ st (by simpa using hi) hI) fun ρ st h => he ρ st h
    | bk ρ' st' => rw [q] at h1; exact h1
    | rt w st' => rw [q] at h1; exact h1
    | er x' ρ' st' => rw [q] at h1; exact h1
    | bad => rw [q] at h1; exact h1
/-- for .. in range(n) -/
theorem OkS_rng {f : W → Rho → Sto → RS} {D : Po} {n : Nat} {ρ : Rho} {st : Sto} (Jn : Nat → Rho → Sto → Prop) (h0 : Jn 0 ρ st)
    (hs : ∀ (i : Nat) ρ st, i < n → Jn i ρ st → OkS (f (.int i) ρ st) ⟨Jn (i + 1), D.rt, D.nx, Jn (i + 1), D.er⟩) (he : ∀ ρ st, Jn n ρ st → D.nx ρ st) : OkS (forS f ((List.range n).map fun k : Nat => W.int k) ρ st) D := by
  refine OkS_for Jn h0 (fun i w ρ st hi hI => ?_) (fun ρ st h => he ρ st (by simpa using h))
  rw [List.getElem?_map] at hi
  have hlt : i < n := by
    by_cases z : i < n
    · exact z
    · rw [List.getElem?_eq_none (by simpa using z)] at hi; cases hi
  rw [List.getElem?_range hlt] at hi
  cases hi
  exact hs i ρ st hlt hI
/-- a while loop, by a measure -/
theorem OkS_wh {t : Rho → M Bool} {b : Rho → Sto → RS} {D : Po} (Jn : Nat → Rho → Sto → Prop) (hs : ∀ i ρ st, Jn i ρ st → OkR (t ρ st) (fun k st' => if k = true then OkS (b ρ st') ⟨fun ρ st => ∃ j, j < i ∧ Jn j ρ st, D.rt, D.nx, fun ρ st => ∃ j, j < i ∧ Jn j ρ st, D.er⟩ else D.nx ρ st') (fun x st => D.er x ρ st)) :
    ∀ (n i : Nat) (ρ : Rho) (st : Sto), i < n → Jn i ρ st → OkS (whS t b n ρ st) D
  | 0, i, ρ, st, hi, _ => absurd hi (Nat.not_lt_zero _)
  | n + 1, i, ρ, st, hi, hI => by
    have h := hs i ρ st hI
    unfold whS
    cases q : t ρ st with
    | bad => rw [q] at h; exact h.elim
    | er x st' => rw [q] at h; exact h
    | ok k st' =>
      rw [q] at h
      rw [go_ok]
      cases k with
      | false => exact h
      | true =>
        simp only [OkR, if_true] at h
        rw [if_pos rfl]
        cases q2 : b ρ st' with
        | nx ρ' st2 => rw [q2] at h; obtain ⟨j, hj, hJ⟩ := h; exact OkS_wh Jn hs n j ρ' st2 (by omega) hJ
        | ct ρ' st2 => rw [q2] at h; obtain ⟨j, hj, hJ⟩ := h; exact OkS_wh Jn hs n j ρ' st2 (by omega) hJ
        | bk ρ' st2 => rw [q2] at h; exact h
        | rt w st2 => rw [q2] at h; exact h
        | er x' ρ' st2 => rw [q2] at h; exact h
        | bad => rw [q2] at h; exact h
/-! ### comprehensions -/
theorem lcM_map {f : W → M (Option W)} {F : W → Option W} {st : Sto} : ∀ {items : List W}, (∀ w ∈ items, f w st = .ok (F w) st) → lcM f items st = .ok (items.filterMap F) st
  | [], _ => rfl
  | x :: xs, h => by
    rw [lcM, run_bind, h x (List.mem_cons_self ..), bd_ok, run_bind, lcM_map (items := xs) fun w hw => h w (List.mem_cons_of_mem _ hw), bd_ok, run_pure, List.filterMap_cons]
    cases F x <;> rfl
theorem OkR_lcM {f : W → M (Option W)} {Q : List W → Sto → Prop} : ∀ {items : List W} {st : Sto} (Jn : Nat → List W → Sto → Prop), Jn 0 [] st →
    (∀ i w ys st, items[i]? = some w → Jn i ys st → OkR (f w st) fun o st' => Jn (i + 1) (ys ++ o.toList) st') → (∀ ys st, Jn items.length ys st → Q ys st) → OkR (lcM f items st) Q
  | [], st, Jn, h0, _, he => he [] st h0
  | x :: xs, st, Jn, h0, hs, he => by
    have h1 := hs 0 x [] st rfl h0
    rw [lcM, run_bind]
    cases q : f x st with
    | bad => rw [q] at h1; exact h1.elim
    | er _ _ => rw [q] at h1; exact h1.elim
    | ok o st' =>
      rw [q] at h1
      rw [bd_ok, run_bind, OkR_bd]
      refine OkR_lcM (items := xs) (fun i ys st => Jn (i + 1) (o.toList ++ ys) st) (by simpa [OkR] using h1) (fun i w ys st hi hI => ?_) fun ys st h => he _ st h
      have := hs (i + 1) w (o.toList ++ ys) st (by simpa using hi) hI
      refine this.of fun o2 st2 h => ?_
      simpa using h
theorem lcM2_map {f : W → M (List W)} {F : W → List W} {st : Sto} : ∀ {items : List W}, (∀ w ∈ items, f w st = .ok (F w) st) → lcM2 f items st = .ok (items.flatMap F) st
  | [], _ => rfl
  | x :: xs, h => by
    rw [lcM2, run_bind, h x (List.mem_cons_self ..), bd_ok, run_bind, lcM2_map (items := xs) fun w hw => h w (List.mem_cons_of_mem _ hw), bd_ok, run_pure, List.flatMap_cons]
theorem noEr_of {α : Type} {m : M α} {a : α} {st st' : Sto} (h : m st = .ok a st') : m.noEr st = .ok a st' := by unfold M.noEr; rw [h]
theorem OkR_noEr {α : Type} {m : M α} {st : Sto} {Q : α → Sto → Prop} {X : Xc → Sto → Prop} (h : OkR (m st) Q) : OkR (m.noEr st) Q X := by
  unfold M.noEr
  cases q : m st with
  | ok a st' => rw [q] at h; exact h
  | er _ _ => rw [q] at h; exact h.elim
  | bad => rw [q] at h; exact h.elim
theorem fm_some {α β : Type} {F : α → β} : ∀ {l : List α}, l.filterMap (fun x => some (F x)) = l.map F
  | [] => rfl
  | x :: l => by rw [List.filterMap_cons, List.map_cons, fm_some]
/-! ### what is made and dropped -/
mutual
theorem mapW_clo {n : Nat} {h : Nat → Option W} (hh : ∀ i, i < n → h i = some (.ref i)) : ∀ {w : W}, w.clo n → mapW h w = some w
  | .non, _ => by simp only [mapW]
  | .bl _, _ => by simp only [mapW]
  | .int _, _ => by simp only [mapW]
  | .str _, _ => by simp only [mapW]
  | .glob _, _ => by simp only [mapW]
  | .ty _, _ => by simp only [mapW]
  | .ref i, c => by simp only [mapW]; exact hh i (by simpa [W.clo] using c)
  | .tup xs, c => by simp only [mapW]; rw [mapWs_clo hh (by simpa [W.clo] using c)]; rfl
  | .fl xs, c => by simp only [mapW]; rw [mapWs_clo hh (by simpa [W.clo] using c)]; rfl
  | .kl xs, c => by simp only [mapW]; rw [mapWs_clo hh (by simpa [W.clo] using c)]; rfl
  | .fd ks xs, c => by simp only [mapW]; rw [mapWs_clo hh (by simpa [W.clo] using c)]; rfl
  | .obj d ns xs, c => by simp only [mapW]; rw [mapWs_clo hh (by simpa [W.clo] using c)]; rfl
theorem mapWs_clo {n : Nat} {h : Nat → Option W} (hh : ∀ i, i < n → h i = some (.ref i)) : ∀ {ws : List W}, clos n ws → mapWs h ws = some ws
  | [], _ => by simp only [mapWs]
  | x :: xs, c => by
    simp only [clos] at c
    simp only [mapWs]
    rw [mapW_clo hh c.1, mapWs_clo hh c.2]
end
theorem mapO_clo {n : Nat} {h : Nat → Option W} (hh : ∀ i, i < n → h i = some (.ref i)) {o : O} (c : O.clo n o) : mapO h o = some o := by
  cases o with
  | lst xs => simp only [mapO]; rw [mapWs_clo hh c]; rfl
  | dct ks xs => simp only [mapO]; rw [mapWs_clo hh c]; rfl
  | ins d ns xs => simp only [mapO]; rw [mapWs_clo hh c]; rfl
theorem mapS_clo {n : Nat} {h : Nat → Option W} (hh : ∀ i, i < n → h i = some (.ref i)) : ∀ {st : Sto}, (∀ o ∈ st, O.clo n o) → mapS h st = some st
  | [], _ => rfl
  | o :: os, c => by
    unfold mapS
    rw [mapO_clo hh (c o (List.mem_cons_self ..)), mapS_clo hh fun p hp => c p (List.mem_cons_of_mem _ hp)]
theorem gcF_lt {n i : Nat} {st : Sto} (h : i < n) : gcF n st i = some (.ref i) := by
  unfold gcF fzI
  rw [if_pos h]
theorem gc_keep {pre g : Sto} {w : W} (hs : Sto.clo pre) (hw : w.clo pre.length) : gcR pre.length (.ok w (pre ++ g)) = .ok w pre := by
  have e : gcR pre.length (.ok w (pre ++ g)) = if pre.length ≤ (pre ++ g).length then (match mapW (gcF pre.length (pre ++ g)) w, mapS (gcF pre.length (pre ++ g)) ((pre ++ g).take pre.length) with
    | some w', some st' => .ok w' st'
    | _, _ => .bad) else .bad := rfl
  rw [e, if_pos (by simp), List.take_left', mapW_clo (n := pre.length) (fun i hi => gcF_lt hi) hw, mapS_clo (n := pre.length) (fun i hi => gcF_lt hi) hs]
  rfl
theorem gc_er {pre g : Sto} {x : Xc} (hs : Sto.clo pre) (hw : clos pre.length x.ws) : gcR pre.length (.er x (pre ++ g)) = .er x pre := by
  have e : gcR pre.length (.er x (pre ++ g)) = if pre.length ≤ (pre ++ g).length then (match mapWs (gcF pre.length (pre ++ g)) x.ws, mapS (gcF pre.length (pre ++ g)) ((pre ++ g).take pre.length) with
    | some ws', some st' => .er ⟨x.cls, x.ns, ws'⟩ st'
    | _, _ => .bad) else .bad := rfl
  rw [e, if_pos (by simp), List.take_left', mapWs_clo (n := pre.length) (fun i hi => gcF_lt hi) hw, mapS_clo (n := pre.length) (fun i hi => gcF_lt hi) hs]
  rfl
/-- a new instance -/
theorem gc_new {pre : Sto} {c : Str} {ns : List Str} {xs : List W} (hs : Sto.clo pre) (hx : clos pre.length xs) : gcR pre.length (.ok (.ref pre.length) (pre ++ [O.ins c ns xs])) = .ok (.obj c ns xs) pre := by
  have e : gcR pre.length (.ok (.ref pre.length) (pre ++ [O.ins c ns xs])) = if pre.length ≤ (pre ++ [O.ins c ns xs]).length then (match mapW (gcF pre.length (pre ++ [O.ins c ns xs])) (.ref pre.length), mapS (gcF pre.length (pre ++ [O.ins c ns xs])) ((pre ++ [O.ins c ns xs]).take pre.length) with
    | some w', some st' => .ok w' st'
    | _, _ => .bad) else .bad := rfl
  have e2 : gcF pre.length (pre ++ [O.ins c ns xs]) pre.length = some (.obj c ns xs) := by
    unfold gcF fzI
    rw [if_neg (Nat.lt_irrefl _), List.drop_left', Nat.sub_self]
    · show (mapWs (fzI pre.length [O.ins c ns xs] 5) xs).map (W.obj c ns) = _
      rw [mapWs_clo (n := pre.length) (fun i hi => by unfold fzI; rw [if_pos hi]) hx]; rfl
    · rfl
  rw [e, if_pos (by simp), List.take_left', mapS_clo (n := pre.length) (fun i hi => gcF_lt hi) hs]
  · simp only [mapW, e2]
  · rfl
mutual
theorem W.clo_mono {m n : Nat} (h : m ≤ n) : ∀ {w : W}, w.clo m → w.clo n
  | .non, _ => trivial
  | .bl _, _ => trivial
  | .int _, _ => trivial
  | .str _, _ => trivial
  | .glob _, _ => trivial
  | .ty _, _ => trivial
  | .ref i, c => by simp only [W.clo] at c ⊢; omega
  | .tup xs, c => by simp only [W.clo] at c ⊢; exact clos_mono h c
  | .fl xs, c => by simp only [W.clo] at c ⊢; exact clos_mono h c
  | .kl xs, c => by simp only [W.clo] at c ⊢; exact clos_mono h c
  | .fd _ xs, c => by simp only [W.clo] at c ⊢; exact clos_mono h c
  | .obj _ _ xs, c => by simp only [W.clo] at c ⊢; exact clos_mono h c
theorem clos_mono {m n : Nat} (h : m ≤ n) : ∀ {ws : List W}, clos m ws → clos n ws
  | [], _ => trivial
  | x :: xs, c => by simp only [clos] at c ⊢; exact ⟨W.clo_mono h c.1, clos_mono h c.2⟩
end
theorem clos_of {n : Nat} : ∀ {ws : List W}, (∀ w ∈ ws, w.clo n) → clos n ws
  | [], _ => trivial
  | x :: xs, h => by simp only [clos]; exact ⟨h x (List.mem_cons_self ..), clos_of fun w hw => h w (List.mem_cons_of_mem _ hw)⟩
theorem clos_map {α : Type} {n : Nat} {f : α → W} {l : List α} (h : ∀ a ∈ l, (f a).clo n) : clos n (l.map f) := clos_of fun w hw => by
  obtain ⟨a, ha, rfl⟩ := List.mem_map.mp hw
  exact h a ha
/-! ### small steps -/
section
variable {Γ : Gm} {st : Sto} {ρ : Rho} {w : W} {o : Option W} {i : Nat}
theorem var_zero : varW 0 (some w :: ρ) = pure w := rfl
theorem var_succ : varW (i + 1) (o :: ρ) = varW i ρ := by unfold varW; rw [List.getElem?_cons_succ]
theorem asB_bl {b : Bool} : asB (.bl b) st = .ok b st := rfl
theorem rng1_ok {n : Int} (h0 : 0 ≤ n) (h1 : n < 2 ^ 62) : rngW (.int 0) (.int n) st = .ok ((List.range n.toNat).map fun k : Nat => W.int k) st := by
  simp only [rngW]
  rw [if_pos ⟨⟨by decide, by decide⟩, by omega, h1⟩, run_pure]
  simp
theorem isi_one {cs : Cl} {b : Bool} (h : isiW Γ w st cs = some b) : isiM Γ [cs] w st = .ok (.bl b) st := by
  unfold isiM
  simp only [List.map, h]
  cases b <;> rfl
theorem get0 {x : O} {xs : Sto} : getO 0 (x :: xs) = .ok x (x :: xs) := rfl
theorem set0 {x y : O} {xs : Sto} : setO 0 y (x :: xs) = .ok () (y :: xs) := by unfold setO; rw [if_pos (by simp)]; rfl
theorem get1 {x y : O} {xs : Sto} : getO 1 (x :: y :: xs) = .ok y (x :: y :: xs) := rfl
theorem getL {pre post : Sto} {y : O} : getO pre.length (pre ++ y :: post) = .ok y (pre ++ y :: post) := by unfold getO; simp
theorem setL {pre post : Sto} {y z : O} : setO pre.length z (pre ++ y :: post) = .ok () (pre ++ z :: post) := by unfold setO; simp
theorem biG_tup {f : Bf} {xs : List W} : biG Γ f [.tup xs] st = biW f [.tup xs] st := rfl
theorem biG_fl {f : Bf} {xs : List W} : biG Γ f [.fl xs] st = biW f [.fl xs] st := rfl
theorem biG_kl {f : Bf} {xs : List W} : biG Γ f [.kl xs] st = biW f [.kl xs] st := rfl
theorem biG_int {f : Bf} {n : Int} : biG Γ f [.int n] st = biW f [.int n] st := rfl
theorem biG_bl {f : Bf} {n : Bool} : biG Γ f [.bl n] st = biW f [.bl n] st := rfl
theorem biG_str {f : Bf} {n : Str} : biG Γ f [.str n] st = biW f [.str n] st := rfl
theorem biG_two {f : Bf} {x y : W} : biG Γ f [x, y] st = biW f [x, y] st := rfl
theorem biG_ref {f : Bf} {xs : List W} (h : st[i]? = some (.lst xs)) : biG Γ f [.ref i] st = biW f [.ref i] st := by
  unfold biG; simp only [clsOfW, h]
theorem biG_r0 {f : Bf} {xs : List W} : biG Γ f [.ref 0] (.lst xs :: st) = biW f [.ref 0] (.lst xs :: st) := rfl
theorem biG_r1 {f : Bf} {xs : List W} {x : O} : biG Γ f [.ref 1] (x :: .lst xs :: st) = biW f [.ref 1] (x :: .lst xs :: st) := rfl
theorem biG_r2 {f : Bf} {xs : List W} {x y : O} : biG Γ f [.ref 2] (x :: y :: .lst xs :: st) = biW f [.ref 2] (x :: y :: .lst xs :: st) := rfl
theorem cmpG_int {op : CmpOp} {n : Int} {y : W} : cmpG Γ op (.int n) y st = cmpW op (.int n) y st := rfl
theorem cmpG_bl {op : CmpOp} {n : Bool} {y : W} : cmpG Γ op (.bl n) y st = cmpW op (.bl n) y st := rfl
theorem cmpG_str {op : CmpOp} {n : Str} {y : W} : cmpG Γ op (.str n) y st = cmpW op (.str n) y st := rfl
theorem cmpG_tup {op : CmpOp} {n : List W} {y : W} : cmpG Γ op (.tup n) y st = cmpW op (.tup n) y st := rfl
theorem cmpG_fl {op : CmpOp} {n : List W} {y : W} : cmpG Γ op (.fl n) y st = cmpW op (.fl n) y st := rfl
theorem cmpG_non {op : CmpOp} {y : W} : cmpG Γ op .non y st = cmpW op .non y st := rfl
section
variable {n m : Int} {a b : Bool} {x y : Str} {xs ys : List W}
theorem cw_eq : cmpW .Eq (.int n) (.int m) st = .ok (.bl (decide (n = m))) st := rfl
theorem cw_ne : cmpW .NotEq (.int n) (.int m) st = .ok (.bl (!decide (n = m))) st := rfl
theorem cw_lt : cmpW .Lt (.int n) (.int m) st = .ok (.bl (decide (n < m))) st := rfl
theorem cw_le : cmpW .LtE (.int n) (.int m) st = .ok (.bl (decide (n ≤ m))) st := rfl
theorem cw_gt : cmpW .Gt (.int n) (.int m) st = .ok (.bl (decide (m < n))) st := rfl
theorem cw_ge : cmpW .GtE (.int n) (.int m) st = .ok (.bl (decide (m ≤ n))) st := rfl
theorem cw_eqb : cmpW .Eq (.bl a) (.bl b) st = .ok (.bl (decide (a = b))) st := rfl
theorem cw_neb : cmpW .NotEq (.bl a) (.bl b) st = .ok (.bl (!decide (a = b))) st := rfl
theorem cw_eqs : cmpW .Eq (.str x) (.str y) st = .ok (.bl (decide (x = y))) st := rfl
theorem cw_nes : cmpW .NotEq (.str x) (.str y) st = .ok (.bl (!decide (x = y))) st := rfl
theorem cw_eqt {x y : W} {b : Bool} (h : eqW x y = some b) : cmpW .Eq x y st = .ok (.bl b) st := by simp only [cmpW, eqA, h]; rfl
theorem cw_eqa {x y : W} {b : Bool} (h : eqA x y = some b) : cmpW .Eq x y st = .ok (.bl b) st := by simp only [cmpW, h]; rfl
theorem cw_net {x y : W} {b : Bool} (h : eqW x y = some b) : cmpW .NotEq x y st = .ok (.bl (!b)) st := by simp only [cmpW, h]; rfl
theorem bw_add : binW .Add (.int n) (.int m) st = .ok (.int (n + m)) st := rfl
theorem bw_sub : binW .Sub (.int n) (.int m) st = .ok (.int (n - m)) st := rfl
theorem bw_mul (h : CMul n m) : binW .Mult (.int n) (.int m) st = .ok (.int (n * m)) st := by simp only [binW]; rw [if_pos h]; rfl
theorem bw_div (h : 0 < m ∧ m < 1073741824) : binW .FloorDiv (.int n) (.int m) st = .ok (.int (n / m)) st := by simp only [binW]; rw [if_pos h]; rfl
theorem bw_mod (h : 0 < m) : binW .Mod (.int n) (.int m) st = .ok (.int (n % m)) st := by simp only [binW]; rw [if_pos h]; rfl
theorem bw_pow (h : CPow n m) : binW .Pow (.int n) (.int m) st = .ok (.int (n ^ m.toNat)) st := by simp only [binW]; rw [if_pos h]; rfl
theorem bw_cat (h : x.length + y.length ≤ sizeLine) : binW .Add (.str x) (.str y) st = .ok (.str (x ++ y)) st := by simp only [binW]; rw [if_pos h]; rfl
theorem nw : negW (.int n) st = .ok (.int (-n)) st := rfl
theorem at_ok {w : W} (h : atI xs n = some w) : atW xs n st = .ok w st := by unfold atW; rw [h]; rfl
theorem sub_tup : subW (.tup xs) (.int n) st = atW xs n st := rfl
theorem sub_fl : subW (.fl xs) (.int n) st = atW xs n st := rfl
theorem sub_kl : subW (.kl xs) (.int n) st = atW xs n st := rfl
theorem sub_r0 : subW (.ref 0) (.int n) (.lst xs :: st) = atW xs n (.lst xs :: st) := rfl
theorem sub_r1 {u : O} : subW (.ref 1) (.int n) (u :: .lst xs :: st) = atW xs n (u :: .lst xs :: st) := rfl
theorem sub_r2 {u v : O} : subW (.ref 2) (.int n) (u :: v :: .lst xs :: st) = atW xs n (u :: v :: .lst xs :: st) := rfl
theorem len_tup : biW .len [.tup xs] st = .ok (.int xs.length) st := rfl
theorem len_fl : biW .len [.fl xs] st = .ok (.int xs.length) st := rfl
theorem len_kl : biW .len [.kl xs] st = .ok (.int xs.length) st := rfl
theorem len_r0 : biW .len [.ref 0] (.lst xs :: st) = .ok (.int xs.length) (.lst xs :: st) := rfl
theorem len_r1 {u : O} : biW .len [.ref 1] (u :: .lst xs :: st) = .ok (.int xs.length) (u :: .lst xs :: st) := rfl
theorem tuple_fl : biW .tuple [.fl xs] st = .ok (.tup xs) st := rfl
theorem tuple_r0 : biW .tuple [.ref 0] (.lst xs :: st) = .ok (.tup xs) (.lst xs :: st) := rfl
theorem tuple_r1 {u : O} : biW .tuple [.ref 1] (u :: .lst xs :: st) = .ok (.tup xs) (u :: .lst xs :: st) := rfl
theorem list_fl : biW .list [.fl xs] st = .ok (.fl xs) st := rfl
theorem list_tup : biW .list [.tup xs] st = .ok (.fl xs) st := rfl
theorem list_kl : biW .list [.kl xs] st = .ok (.fl xs) st := rfl
theorem blsOf_map {α : Type} {F : α → Bool} : ∀ {l : List α}, blsOf (l.map fun x => W.bl (F x)) = some (l.map F)
  | [] => rfl
  | x :: l => by simp only [List.map_cons, blsOf, blsOf_map]; rfl
theorem intsOf_map {α : Type} {F : α → Int} : ∀ {l : List α}, intsOf (l.map fun x => W.int (F x)) = some (l.map F)
  | [] => rfl
  | x :: l => by simp only [List.map_cons, intsOf, intsOf_map]; rfl
theorem strsOf_map {α : Type} {F : α → Str} : ∀ {l : List α}, strsOf (l.map fun x => W.str (F x)) = some (l.map F)
  | [] => rfl
  | x :: l => by simp only [List.map_cons, strsOf, strsOf_map]; rfl
theorem all_fl {bs : List Bool} (h : blsOf xs = some bs) : biW .all [.fl xs] st = .ok (.bl (bs.all id)) st := by simp only [biW, fl1, h]; rfl
theorem any_fl {bs : List Bool} (h : blsOf xs = some bs) : biW .any [.fl xs] st = .ok (.bl (bs.any id)) st := by simp only [biW, fl1, h]; rfl
theorem str_int (h : n.natAbs.log2 < 1920) : biW .str [.int n] st = .ok (.str (toString n)) st := by simp only [biW, int1]; rw [if_pos h]; rfl
theorem items_tup : itemsI (.tup xs) st = .ok xs st := rfl
theorem items_fl : itemsI (.fl xs) st = .ok xs st := rfl
theorem items_kl : itemsI (.kl xs) st = .ok xs st := rfl
/-! isinstance of plain kinds -/
theorem ii_int : isiM Γ [.ty "int"] (.int n) st = .ok (.bl true) st := rfl
theorem ib_int : isiM Γ [.ty "bool"] (.int n) st = .ok (.bl false) st := rfl
theorem is_int : isiM Γ [.ty "str"] (.int n) st = .ok (.bl false) st := rfl
theorem it_int : isiM Γ [.ty "tuple"] (.int n) st = .ok (.bl false) st := rfl
theorem il_int : isiM Γ [.ty "list"] (.int n) st = .ok (.bl false) st := rfl
theorem itl_int : isiM Γ [.ty "tuple", .ty "list"] (.int n) st = .ok (.bl false) st := rfl
theorem ii_tup : isiM Γ [.ty "int"] (.tup xs) st = .ok (.bl false) st := rfl
theorem ib_tup : isiM Γ [.ty "bool"] (.tup xs) st = .ok (.bl false) st := rfl
theorem is_tup : isiM Γ [.ty "str"] (.tup xs) st = .ok (.bl false) st := rfl
theorem it_tup : isiM Γ [.ty "tuple"] (.tup xs) st = .ok (.bl true) st := rfl
theorem il_tup : isiM Γ [.ty "list"] (.tup xs) st = .ok (.bl false) st := rfl
theorem itl_tup : isiM Γ [.ty "tuple", .ty "list"] (.tup xs) st = .ok (.bl true) st := rfl
theorem ii_fl : isiM Γ [.ty "int"] (.fl xs) st = .ok (.bl false) st := rfl
theorem ib_fl : isiM Γ [.ty "bool"] (.fl xs) st = .ok (.bl false) st := rfl
theorem is_fl : isiM Γ [.ty "str"] (.fl xs) st = .ok (.bl false) st := rfl
theorem it_fl : isiM Γ [.ty "tuple"] (.fl xs) st = .ok (.bl false) st := rfl
theorem il_fl : isiM Γ [.ty "list"] (.fl xs) st = .ok (.bl true) st := rfl
theorem itl_fl : isiM Γ [.ty "tuple", .ty "list"] (.fl xs) st = .ok (.bl true) st := rfl
theorem ii_str : isiM Γ [.ty "int"] (.str x) st = .ok (.bl false) st := rfl
theorem ib_str : isiM Γ [.ty "bool"] (.str x) st = .ok (.bl false) st := rfl
theorem is_str : isiM Γ [.ty "str"] (.str x) st = .ok (.bl true) st := rfl
theorem it_str : isiM Γ [.ty "tuple"] (.str x) st = .ok (.bl false) st := rfl
theorem il_str : isiM Γ [.ty "list"] (.str x) st = .ok (.bl false) st := rfl
theorem itl_str : isiM Γ [.ty "tuple", .ty "list"] (.str x) st = .ok (.bl false) st := rfl
theorem ii_bl : isiM Γ [.ty "int"] (.bl a) st = .ok (.bl true) st := rfl
theorem ib_bl : isiM Γ [.ty "bool"] (.bl a) st = .ok (.bl true) st := rfl
theorem is_bl : isiM Γ [.ty "str"] (.bl a) st = .ok (.bl false) st := rfl
theorem it_bl : isiM Γ [.ty "tuple"] (.bl a) st = .ok (.bl false) st := rfl
theorem il_bl : isiM Γ [.ty "list"] (.bl a) st = .ok (.bl false) st := rfl
theorem ii_non : isiM Γ [.ty "int"] .non st = .ok (.bl false) st := rfl
theorem ib_non : isiM Γ [.ty "bool"] .non st = .ok (.bl false) st := rfl
theorem is_non : isiM Γ [.ty "str"] .non st = .ok (.bl false) st := rfl
theorem it_non : isiM Γ [.ty "tuple"] .non st = .ok (.bl false) st := rfl
theorem il_non : isiM Γ [.ty "list"] .non st = .ok (.bl false) st := rfl
end
theorem setA_new {Γ : Gm} {pre : Sto} {c f : Str} {ns : List Str} {ws : List W} {w : W} (h : Γ.fld c f = true) (h1 : ns.length < 1000) (h2 : ns.length = ws.length) : setAW Γ f (.ref pre.length) w (pre ++ [.ins c ns ws]) = .ok () (pre ++ [.ins c (putW f w ns ws).1 (putW f w ns ws).2]) := by
  unfold setAW
  simp only [run_bind, getL, bd_ok]
  rw [if_pos ⟨h, h1, h2⟩, setL]
end
end Vm
namespace VmL
open PySem PySem.Spec PyProof.Rows L2 Vm

def top (i : Nat) : Stmt := PySem.Challenge.pw_pixelstages_k10_makers.main.body.getD i (.Pass ⟨0, 0, 0, 0⟩)
def inCls (i j : Nat) : Stmt := (match top i with | .ClassDef _ _ _ body _ _ _ _ _ _ _ => body.getD j (.Pass ⟨0, 0, 0, 0⟩) | s => s)
abbrev s_source : Stmt := top 2
def d_source : He.DefD := ⟨("source", none), "source", "source", defArgs s_source, defBody s_source, defScope s_source, [], [("border", .str "near")]⟩
abbrev s_framed : Stmt := top 3
def d_framed : He.DefD := ⟨("framed", none), "framed", "framed", defArgs s_framed, defBody s_framed, defScope s_framed, [], [("border", .str "near")]⟩
abbrev s_moved : Stmt := top 4
def d_moved : He.DefD := ⟨("moved", none), "moved", "moved", defArgs s_moved, defBody s_moved, defScope s_moved, [], [("right", .int (0)), ("down", .int (0))]⟩
abbrev s_flipped : Stmt := top 5
def d_flipped : He.DefD := ⟨("flipped", none), "flipped", "flipped", defArgs s_flipped, defBody s_flipped, defScope s_flipped, [], [("across", .bl true)]⟩
abbrev s_turned : Stmt := top 6
def d_turned : He.DefD := ⟨("turned", none), "turned", "turned", defArgs s_turned, defBody s_turned, defScope s_turned, [], []⟩
abbrev s_curved : Stmt := top 7
def d_curved : He.DefD := ⟨("curved", none), "curved", "curved", defArgs s_curved, defBody s_curved, defScope s_curved, [], [("depth", .non)]⟩
abbrev s_lifted : Stmt := top 8
def d_lifted : He.DefD := ⟨("lifted", none), "lifted", "lifted", defArgs s_lifted, defBody s_lifted, defScope s_lifted, [], []⟩
abbrev s_unlifted : Stmt := top 9
def d_unlifted : He.DefD := ⟨("unlifted", none), "unlifted", "unlifted", defArgs s_unlifted, defBody s_unlifted, defScope s_unlifted, [], []⟩
abbrev s_mixed : Stmt := top 10
def d_mixed : He.DefD := ⟨("mixed", none), "mixed", "mixed", defArgs s_mixed, defBody s_mixed, defScope s_mixed, [], [("by", .int (1)), ("plus", .int (0))]⟩
abbrev s_filtered : Stmt := top 11
def d_filtered : He.DefD := ⟨("filtered", none), "filtered", "filtered", defArgs s_filtered, defBody s_filtered, defScope s_filtered, [], [("by", .int (1)), ("plus", .int (0))]⟩
abbrev s_ranked : Stmt := top 12
def d_ranked : He.DefD := ⟨("ranked", none), "ranked", "ranked", defArgs s_ranked, defBody s_ranked, defScope s_ranked, [], [("rank", .int (0))]⟩
abbrev s_reduced : Stmt := top 13
def d_reduced : He.DefD := ⟨("reduced", none), "reduced", "reduced", defArgs s_reduced, defBody s_reduced, defScope s_reduced, [], [("wide", .int (2)), ("high", .int (2))]⟩
abbrev s_enlarged : Stmt := top 14
def d_enlarged : He.DefD := ⟨("enlarged", none), "enlarged", "enlarged", defArgs s_enlarged, defBody s_enlarged, defScope s_enlarged, [], [("wide", .int (2)), ("high", .int (2))]⟩
abbrev s_near_band : Stmt := top 15
def d_near_band : He.DefD := ⟨("near_band", none), "near_band", "near_band", defArgs s_near_band, defBody s_near_band, defScope s_near_band, [], [("across", .bl true)]⟩
abbrev s_far_band : Stmt := top 16
def d_far_band : He.DefD := ⟨("far_band", none), "far_band", "far_band", defArgs s_far_band, defBody s_far_band, defScope s_far_band, [], [("across", .bl true)]⟩
abbrev s_paired : Stmt := top 17
def d_paired : He.DefD := ⟨("paired", none), "paired", "paired", defArgs s_paired, defBody s_paired, defScope s_paired, [], [("across", .bl true)]⟩
abbrev s_summed : Stmt := top 18
def d_summed : He.DefD := ⟨("summed", none), "summed", "summed", defArgs s_summed, defBody s_summed, defScope s_summed, [], []⟩
abbrev s_unsummed : Stmt := top 19
def d_unsummed : He.DefD := ⟨("unsummed", none), "unsummed", "unsummed", defArgs s_unsummed, defBody s_unsummed, defScope s_unsummed, [], []⟩
abbrev s_levelled : Stmt := top 20
def d_levelled : He.DefD := ⟨("levelled", none), "levelled", "levelled", defArgs s_levelled, defBody s_levelled, defScope s_levelled, [], []⟩
abbrev s_met : Stmt := top 21
def d_met : He.DefD := ⟨("met", none), "met", "met", defArgs s_met, defBody s_met, defScope s_met, [], [("how", .str "least")]⟩
abbrev s_chosen : Stmt := top 22
def d_chosen : He.DefD := ⟨("chosen", none), "chosen", "chosen", defArgs s_chosen, defBody s_chosen, defScope s_chosen, [], []⟩
abbrev s_own : Stmt := top 23
def d_own : He.DefD := ⟨("own", none), "own", "own", defArgs s_own, defBody s_own, defScope s_own, [], []⟩
abbrev s_is_whole : Stmt := top 31
def d_is_whole : He.DefD := ⟨("is_whole", none), "is_whole", "is_whole", defArgs s_is_whole, defBody s_is_whole, defScope s_is_whole, [], []⟩
abbrev s_is_from : Stmt := top 32
def d_is_from : He.DefD := ⟨("is_from", none), "is_from", "is_from", defArgs s_is_from, defBody s_is_from, defScope s_is_from, [], []⟩
abbrev s_are_wholes : Stmt := top 33
def d_are_wholes : He.DefD := ⟨("are_wholes", none), "are_wholes", "are_wholes", defArgs s_are_wholes, defBody s_are_wholes, defScope s_are_wholes, [], []⟩
abbrev s_are_rows : Stmt := top 34
def d_are_rows : He.DefD := ⟨("are_rows", none), "are_rows", "are_rows", defArgs s_are_rows, defBody s_are_rows, defScope s_are_rows, [], []⟩
abbrev s_lies_in : Stmt := top 35
def d_lies_in : He.DefD := ⟨("lies_in", none), "lies_in", "lies_in", defArgs s_lies_in, defBody s_lies_in, defScope s_lies_in, [], []⟩
abbrev s_are_planes : Stmt := top 40
def d_are_planes : He.DefD := ⟨("are_planes", none), "are_planes", "are_planes", defArgs s_are_planes, defBody s_are_planes, defScope s_are_planes, [], []⟩
abbrev s_Picture_init : Stmt := inCls 41 0
def d_Picture_init : He.DefD := ⟨("Picture", some "__init__"), "__init__", "Picture.__init__", defArgs s_Picture_init, defBody s_Picture_init, defScope s_Picture_init, [], [("left", .int (0)), ("up", .int (0)), ("depth", .int (255))]⟩
abbrev s_Picture_window : Stmt := inCls 41 1
def d_Picture_window : He.DefD := ⟨("Picture", some "window"), "window", "Picture.window", defArgs s_Picture_window, defBody s_Picture_window, defScope s_Picture_window, [], []⟩
abbrev s_Picture_at : Stmt := inCls 41 2
def d_Picture_at : He.DefD := ⟨("Picture", some "at"), "at", "Picture.at", defArgs s_Picture_at, defBody s_Picture_at, defScope s_Picture_at, [], [("plane", .int (0))]⟩
abbrev s_Picture_eq : Stmt := inCls 41 3
def d_Picture_eq : He.DefD := ⟨("Picture", some "__eq__"), "__eq__", "Picture.__eq__", defArgs s_Picture_eq, defBody s_Picture_eq, defScope s_Picture_eq, [], []⟩
abbrev s_Picture_len : Stmt := inCls 41 4
def d_Picture_len : He.DefD := ⟨("Picture", some "__len__"), "__len__", "Picture.__len__", defArgs s_Picture_len, defBody s_Picture_len, defScope s_Picture_len, [], []⟩
abbrev s_Picture_str : Stmt := inCls 41 5
def d_Picture_str : He.DefD := ⟨("Picture", some "__str__"), "__str__", "Picture.__str__", defArgs s_Picture_str, defBody s_Picture_str, defScope s_Picture_str, [], []⟩
abbrev s_Picture_repr : Stmt := inCls 41 6
def d_Picture_repr : He.DefD := ⟨("Picture", some "__repr__"), "__repr__", "Picture.__repr__", defArgs s_Picture_repr, defBody s_Picture_repr, defScope s_Picture_repr, [], []⟩
abbrev s__law_pen : Stmt := top 43
def d__law_pen : He.DefD := ⟨("_law_pen", none), "_law_pen", "_law_pen", defArgs s__law_pen, defBody s__law_pen, defScope s__law_pen, [], []⟩
abbrev s__law_draw : Stmt := top 44
def d__law_draw : He.DefD := ⟨("_law_draw", none), "_law_draw", "_law_draw", defArgs s__law_draw, defBody s__law_draw, defScope s__law_draw, [], []⟩
abbrev s__law_same : Stmt := top 45
def d__law_same : He.DefD := ⟨("_law_same", none), "_law_same", "_law_same", defArgs s__law_same, defBody s__law_same, defScope s__law_same, [], []⟩
abbrev s__law_thing : Stmt := top 46
def d__law_thing : He.DefD := ⟨("_law_thing", none), "_law_thing", "_law_thing", defArgs s__law_thing, defBody s__law_thing, defScope s__law_thing, [], []⟩
abbrev s__law_first_right : Stmt := top 47
def d__law_first_right : He.DefD := ⟨("_law_first_right", none), "_law_first_right", "_law_first_right", defArgs s__law_first_right, defBody s__law_first_right, defScope s__law_first_right, [], []⟩
abbrev s__law_second_right : Stmt := top 48
def d__law_second_right : He.DefD := ⟨("_law_second_right", none), "_law_second_right", "_law_second_right", defArgs s__law_second_right, defBody s__law_second_right, defScope s__law_second_right, [], []⟩
abbrev s_law : Stmt := top 49
def d_law : He.DefD := ⟨("law", none), "law", "law", defArgs s_law, defBody s_law, defScope s_law, [], []⟩
def fn : List He.DefD := [d_source, d_framed, d_moved, d_flipped, d_turned, d_curved, d_lifted, d_unlifted, d_mixed, d_filtered, d_ranked, d_reduced, d_enlarged, d_near_band, d_far_band, d_paired, d_summed, d_unsummed, d_levelled, d_met, d_chosen, d_own, d_is_whole, d_is_from, d_are_wholes, d_are_rows, d_lies_in, d_are_planes, d_Picture_init, d_Picture_window, d_Picture_at, d_Picture_eq, d_Picture_len, d_Picture_str, d_Picture_repr, d__law_pen, d__law_draw, d__law_same, d__law_thing, d__law_first_right, d__law_second_right, d_law]
def loose0 : List PySem.Str := [("__name__" : PySem.Str), ("NEAR" : PySem.Str), ("source" : PySem.Str), ("framed" : PySem.Str), ("moved" : PySem.Str), ("flipped" : PySem.Str), ("turned" : PySem.Str), ("curved" : PySem.Str), ("lifted" : PySem.Str), ("unlifted" : PySem.Str), ("mixed" : PySem.Str), ("filtered" : PySem.Str), ("ranked" : PySem.Str), ("reduced" : PySem.Str), ("enlarged" : PySem.Str), ("near_band" : PySem.Str), ("far_band" : PySem.Str), ("paired" : PySem.Str), ("summed" : PySem.Str), ("unsummed" : PySem.Str), ("levelled" : PySem.Str), ("met" : PySem.Str), ("chosen" : PySem.Str), ("own" : PySem.Str), ("PixelError" : PySem.Str), ("NoPicture" : PySem.Str), ("NoWindow" : PySem.Str), ("FARTHEST" : PySem.Str), ("WIDEST" : PySem.Str), ("is_whole" : PySem.Str), ("is_from" : PySem.Str), ("are_wholes" : PySem.Str), ("are_rows" : PySem.Str), ("lies_in" : PySem.Str), ("DEPTH" : PySem.Str)]
def loose1 : List PySem.Str := [("MOST_PLANES" : PySem.Str), ("DEEPEST" : PySem.Str), ("are_planes" : PySem.Str), ("Picture" : PySem.Str), ("_law_pen" : PySem.Str), ("_law_draw" : PySem.Str), ("_law_same" : PySem.Str), ("_law_thing" : PySem.Str), ("_law_first_right" : PySem.Str), ("_law_second_right" : PySem.Str)]
abbrev loose : List PySem.Str := loose0 ++ loose1
def md : Md where
  cInt := [(("FARTHEST" : Str), 1000), (("WIDEST" : Str), 48), (("DEPTH" : Str), 255), (("MOST_PLANES" : Str), 4), (("DEEPEST" : Str), 65535)]
  cStr := [(("NEAR" : Str), ("near" : Str))]
  free := [("len" : Str), ("all" : Str), ("list" : Str), ("tuple" : Str), ("str" : Str), ("int" : Str), ("repr" : Str), ("bool" : Str), ("isinstance" : Str), ("range" : Str), ("zip" : Str)]
  cls := [("Picture" : Str)]
  clsv := [("Picture" : Str)]
  fld := [(("Picture" : Str), ("planes" : Str)), (("Picture" : Str), ("left" : Str)), (("Picture" : Str), ("up" : Str)), (("Picture" : Str), ("depth" : Str))]
  isa := [(.ty "NoneType", .own "Picture", false), (.ty "bool", .own "Picture", false), (.ty "int", .own "Picture", false), (.ty "str", .own "Picture", false), (.ty "tuple", .own "Picture", false), (.ty "list", .own "Picture", false), (.ty "dict", .own "Picture", false), (.own "Picture", .own "Picture", true), (.own "Picture", .ty "bool", false), (.own "Picture", .ty "int", false), (.own "Picture", .ty "str", false), (.own "Picture", .ty "tuple", false), (.own "Picture", .ty "list", false)]
  meths := [(("Picture" : Str), ("window" : Str)), (("Picture" : Str), ("at" : Str)), (("Picture" : Str), ("__eq__" : Str)), (("Picture" : Str), ("__len__" : Str)), (("Picture" : Str), ("__str__" : Str)), (("Picture" : Str), ("__repr__" : Str))]
  mks := [("Picture" : Str)]
  defs := [("source" : Str), ("framed" : Str), ("moved" : Str), ("flipped" : Str), ("turned" : Str), ("curved" : Str), ("lifted" : Str), ("unlifted" : Str), ("mixed" : Str), ("filtered" : Str), ("ranked" : Str), ("reduced" : Str), ("enlarged" : Str), ("near_band" : Str), ("far_band" : Str), ("paired" : Str), ("summed" : Str), ("unsummed" : Str), ("levelled" : Str), ("met" : Str), ("chosen" : Str), ("own" : Str), ("is_whole" : Str), ("is_from" : Str), ("are_wholes" : Str), ("are_rows" : Str), ("lies_in" : Str), ("are_planes" : Str), ("_law_pen" : Str), ("_law_draw" : Str)] ++ [("_law_same" : Str), ("_law_thing" : Str), ("_law_first_right" : Str), ("_law_second_right" : Str), ("law" : Str), ("Picture" : Str)]
  neq := [("Picture" : Str)]
abbrev R : PySem.W.OpenRow := PySem.W.OpenLaw.row PySem.Challenge.rw_pixelstages_k10_makers
abbrev hk : PySem.W.Hook := He.hookX 5 md.fa fn [] [] md.ex
def ob (s : PySem.W.SharedT) : He.AlX := He.obsX 5 md.fa fn [] [] md.ex (HandSHeadRun.getT s)
theorem ob_eq (s : PySem.W.SharedT) : ob s = hk.obs s.abs := He.obsX_eq (HandSHeadRun.getT_eq s)
theorem run (w : World) : HandSHeadRun.RunEq R (PySem.W.view R.prog [49]) hk ob 4000 loose w := by
  intro os
  kernel_rfl

end VmL
namespace VmL
open PySem L2 Vm
def n_source : List Str := [("picture" : Str), ("border" : Str)]
def p_source : List Str := [("picture" : Str), ("border" : Str)]
def s1_source : Ss := .cons (.ret (.tup (.cons (.str "source") (.cons (.var 0) (.cons (.var 1) .nil))))) .nil
def c_source : Ss := s1_source
theorem sc_source : FnScope n_source p_source (defScope s_source) := C8.fnScope_by (by decide +kernel)
def n_framed : List Str := [("of" : Str), ("window" : Str), ("border" : Str)]
def p_framed : List Str := [("of" : Str), ("window" : Str), ("border" : Str)]
def s1_framed : Ss := .cons (.ret (.tup (.cons (.str "framed") (.cons (.var 0) (.cons (.var 1) (.cons (.var 2) .nil)))))) .nil
def c_framed : Ss := s1_framed
theorem sc_framed : FnScope n_framed p_framed (defScope s_framed) := C8.fnScope_by (by decide +kernel)
def n_moved : List Str := [("of" : Str), ("right" : Str), ("down" : Str)]
def p_moved : List Str := [("of" : Str), ("right" : Str), ("down" : Str)]
def s1_moved : Ss := .cons (.ret (.tup (.cons (.str "moved") (.cons (.var 0) (.cons (.var 1) (.cons (.var 2) .nil)))))) .nil
def c_moved : Ss := s1_moved
theorem sc_moved : FnScope n_moved p_moved (defScope s_moved) := C8.fnScope_by (by decide +kernel)
def n_flipped : List Str := [("of" : Str), ("across" : Str)]
def p_flipped : List Str := [("of" : Str), ("across" : Str)]
def s1_flipped : Ss := .cons (.ret (.tup (.cons (.str "flipped") (.cons (.var 0) (.cons (.var 1) .nil))))) .nil
def c_flipped : Ss := s1_flipped
theorem sc_flipped : FnScope n_flipped p_flipped (defScope s_flipped) := C8.fnScope_by (by decide +kernel)
def n_turned : List Str := [("of" : Str)]
def p_turned : List Str := [("of" : Str)]
def s1_turned : Ss := .cons (.ret (.tup (.cons (.str "turned") (.cons (.var 0) .nil)))) .nil
def c_turned : Ss := s1_turned
theorem sc_turned : FnScope n_turned p_turned (defScope s_turned) := C8.fnScope_by (by decide +kernel)
def n_curved : List Str := [("of" : Str), ("table" : Str), ("depth" : Str)]
def p_curved : List Str := [("of" : Str), ("table" : Str), ("depth" : Str)]
def s1_curved : Ss := .cons (.ret (.tup (.cons (.str "curved") (.cons (.var 0) (.cons (.var 1) (.cons (.var 2) .nil)))))) .nil
def c_curved : Ss := s1_curved
theorem sc_curved : FnScope n_curved p_curved (defScope s_curved) := C8.fnScope_by (by decide +kernel)
def n_lifted : List Str := [("of" : Str), ("steps" : Str)]
def p_lifted : List Str := [("of" : Str), ("steps" : Str)]
def s1_lifted : Ss := .cons (.ret (.tup (.cons (.str "lifted") (.cons (.var 0) (.cons (.var 1) .nil))))) .nil
def c_lifted : Ss := s1_lifted
theorem sc_lifted : FnScope n_lifted p_lifted (defScope s_lifted) := C8.fnScope_by (by decide +kernel)
def n_unlifted : List Str := [("of" : Str), ("steps" : Str)]
def p_unlifted : List Str := [("of" : Str), ("steps" : Str)]
def s1_unlifted : Ss := .cons (.ret (.tup (.cons (.str "unlifted") (.cons (.var 0) (.cons (.var 1) .nil))))) .nil
def c_unlifted : Ss := s1_unlifted
theorem sc_unlifted : FnScope n_unlifted p_unlifted (defScope s_unlifted) := C8.fnScope_by (by decide +kernel)
def n_mixed : List Str := [("of" : Str), ("rows" : Str), ("by" : Str), ("plus" : Str)]
def p_mixed : List Str := [("of" : Str), ("rows" : Str), ("by" : Str), ("plus" : Str)]
def s1_mixed : Ss := .cons (.ret (.tup (.cons (.str "mixed") (.cons (.var 0) (.cons (.var 1) (.cons (.var 2) (.cons (.var 3) .nil))))))) .nil
def c_mixed : Ss := s1_mixed
theorem sc_mixed : FnScope n_mixed p_mixed (defScope s_mixed) := C8.fnScope_by (by decide +kernel)
def n_filtered : List Str := [("of" : Str), ("weights" : Str), ("by" : Str), ("plus" : Str)]
def p_filtered : List Str := [("of" : Str), ("weights" : Str), ("by" : Str), ("plus" : Str)]
def s1_filtered : Ss := .cons (.ret (.tup (.cons (.str "filtered") (.cons (.var 0) (.cons (.var 1) (.cons (.var 2) (.cons (.var 3) .nil))))))) .nil
def c_filtered : Ss := s1_filtered
theorem sc_filtered : FnScope n_filtered p_filtered (defScope s_filtered) := C8.fnScope_by (by decide +kernel)
def n_ranked : List Str := [("of" : Str), ("form" : Str), ("rank" : Str)]
def p_ranked : List Str := [("of" : Str), ("form" : Str), ("rank" : Str)]
def s1_ranked : Ss := .cons (.ret (.tup (.cons (.str "ranked") (.cons (.var 0) (.cons (.var 1) (.cons (.var 2) .nil)))))) .nil
def c_ranked : Ss := s1_ranked
theorem sc_ranked : FnScope n_ranked p_ranked (defScope s_ranked) := C8.fnScope_by (by decide +kernel)
def n_reduced : List Str := [("of" : Str), ("wide" : Str), ("high" : Str)]
def p_reduced : List Str := [("of" : Str), ("wide" : Str), ("high" : Str)]
def s1_reduced : Ss := .cons (.ret (.tup (.cons (.str "reduced") (.cons (.var 0) (.cons (.var 1) (.cons (.var 2) .nil)))))) .nil
def c_reduced : Ss := s1_reduced
theorem sc_reduced : FnScope n_reduced p_reduced (defScope s_reduced) := C8.fnScope_by (by decide +kernel)
def n_enlarged : List Str := [("of" : Str), ("wide" : Str), ("high" : Str)]
def p_enlarged : List Str := [("of" : Str), ("wide" : Str), ("high" : Str)]
def s1_enlarged : Ss := .cons (.ret (.tup (.cons (.str "enlarged") (.cons (.var 0) (.cons (.var 1) (.cons (.var 2) .nil)))))) .nil
def c_enlarged : Ss := s1_enlarged
theorem sc_enlarged : FnScope n_enlarged p_enlarged (defScope s_enlarged) := C8.fnScope_by (by decide +kernel)
def n_near_band : List Str := [("of" : Str), ("across" : Str)]
def p_near_band : List Str := [("of" : Str), ("across" : Str)]
def s1_near_band : Ss := .cons (.ret (.tup (.cons (.str "near_band") (.cons (.var 0) (.cons (.var 1) .nil))))) .nil
def c_near_band : Ss := s1_near_band
theorem sc_near_band : FnScope n_near_band p_near_band (defScope s_near_band) := C8.fnScope_by (by decide +kernel)
def n_far_band : List Str := [("of" : Str), ("across" : Str)]
def p_far_band : List Str := [("of" : Str), ("across" : Str)]
def s1_far_band : Ss := .cons (.ret (.tup (.cons (.str "far_band") (.cons (.var 0) (.cons (.var 1) .nil))))) .nil
def c_far_band : Ss := s1_far_band
theorem sc_far_band : FnScope n_far_band p_far_band (defScope s_far_band) := C8.fnScope_by (by decide +kernel)
def n_paired : List Str := [("near" : Str), ("far" : Str), ("across" : Str)]
def p_paired : List Str := [("near" : Str), ("far" : Str), ("across" : Str)]
def s1_paired : Ss := .cons (.ret (.tup (.cons (.str "paired") (.cons (.var 0) (.cons (.var 1) (.cons (.var 2) .nil)))))) .nil
def c_paired : Ss := s1_paired
theorem sc_paired : FnScope n_paired p_paired (defScope s_paired) := C8.fnScope_by (by decide +kernel)
def n_summed : List Str := [("of" : Str), ("window" : Str)]
def p_summed : List Str := [("of" : Str), ("window" : Str)]
def s1_summed : Ss := .cons (.ret (.tup (.cons (.str "summed") (.cons (.var 0) (.cons (.var 1) .nil))))) .nil
def c_summed : Ss := s1_summed
theorem sc_summed : FnScope n_summed p_summed (defScope s_summed) := C8.fnScope_by (by decide +kernel)
def n_unsummed : List Str := [("of" : Str)]
def p_unsummed : List Str := [("of" : Str)]
def s1_unsummed : Ss := .cons (.ret (.tup (.cons (.str "unsummed") (.cons (.var 0) .nil)))) .nil
def c_unsummed : Ss := s1_unsummed
theorem sc_unsummed : FnScope n_unsummed p_unsummed (defScope s_unsummed) := C8.fnScope_by (by decide +kernel)
def n_levelled : List Str := [("of" : Str), ("window" : Str)]
def p_levelled : List Str := [("of" : Str), ("window" : Str)]
def s1_levelled : Ss := .cons (.ret (.tup (.cons (.str "levelled") (.cons (.var 0) (.cons (.var 1) .nil))))) .nil
def c_levelled : Ss := s1_levelled
theorem sc_levelled : FnScope n_levelled p_levelled (defScope s_levelled) := C8.fnScope_by (by decide +kernel)
def n_met : List Str := [("of" : Str), ("other" : Str), ("how" : Str)]
def p_met : List Str := [("of" : Str), ("other" : Str), ("how" : Str)]
def s1_met : Ss := .cons (.ret (.tup (.cons (.str "met") (.cons (.var 0) (.cons (.var 1) (.cons (.var 2) .nil)))))) .nil
def c_met : Ss := s1_met
theorem sc_met : FnScope n_met p_met (defScope s_met) := C8.fnScope_by (by decide +kernel)
def n_chosen : List Str := [("of" : Str), ("other" : Str), ("mask" : Str)]
def p_chosen : List Str := [("of" : Str), ("other" : Str), ("mask" : Str)]
def s1_chosen : Ss := .cons (.ret (.tup (.cons (.str "chosen") (.cons (.var 0) (.cons (.var 1) (.cons (.var 2) .nil)))))) .nil
def c_chosen : Ss := s1_chosen
theorem sc_chosen : FnScope n_chosen p_chosen (defScope s_chosen) := C8.fnScope_by (by decide +kernel)
def n_own : List Str := [("of" : Str), ("tell" : Str)]
def p_own : List Str := [("of" : Str), ("tell" : Str)]
def s1_own : Ss := .cons (.ret (.tup (.cons (.str "own") (.cons (.var 0) (.cons (.var 1) .nil))))) .nil
def c_own : Ss := s1_own
theorem sc_own : FnScope n_own p_own (defScope s_own) := C8.fnScope_by (by decide +kernel)
def n_is_whole : List Str := [("thing" : Str)]
def p_is_whole : List Str := [("thing" : Str)]
def s1_is_whole : Ss := .cons (.ret (.and (.isi (.var 0) [(.ty "int")]) (.cons (.not (.isi (.var 0) [(.ty "bool")])) .nil))) .nil
def c_is_whole : Ss := s1_is_whole
theorem sc_is_whole : FnScope n_is_whole p_is_whole (defScope s_is_whole) := C8.fnScope_by (by decide +kernel)
def n_is_from : List Str := [("thing" : Str), ("least" : Str), ("most" : Str)]
def p_is_from : List Str := [("thing" : Str), ("least" : Str), ("most" : Str)]
def s1_is_from : Ss := .cons (.ret (.and (.call "is_whole" (.cons (.var 0) .nil) [] .nil) (.cons (.chn .LtE .LtE (.var 1) (.var 0) (.var 2)) .nil))) .nil
def c_is_from : Ss := s1_is_from
theorem sc_is_from : FnScope n_is_from p_is_from (defScope s_is_from) := C8.fnScope_by (by decide +kernel)
def n_are_wholes : List Str := [("thing" : Str), ("least" : Str), ("most" : Str), ("one" : Str)]
def p_are_wholes : List Str := [("thing" : Str), ("least" : Str), ("most" : Str)]
def e1_are_wholes : C :=
    (.call "is_from" (.cons (.var 3) (.cons (.var 1) (.cons (.var 2) .nil))) [] .nil)
def s1_are_wholes : Ss := .cons (.ret (.and (.isi (.var 0) [(.ty "tuple")]) (.cons (.bi .all (.cons (.lc false [("one", 3)] e1_are_wholes (.name 3) (.seq (.var 0)) .nil) .nil)) .nil))) .nil
def c_are_wholes : Ss := s1_are_wholes
theorem sc_are_wholes : FnScope n_are_wholes p_are_wholes (defScope s_are_wholes) := C8.fnScope_by (by decide +kernel)
def n_are_rows : List Str := [("thing" : Str), ("most_rows" : Str), ("most_columns" : Str), ("row" : Str)]
def p_are_rows : List Str := [("thing" : Str), ("most_rows" : Str), ("most_columns" : Str)]
def s4_are_rows : Ss := .cons (.ret (.bl false)) .nil
def e1_are_rows : C :=
    (.and (.isi (.var 3) [(.ty "tuple")]) (.cons (.chn .LtE .LtE (.int 1) (.bi .len (.cons (.var 3) .nil)) (.var 2)) .nil))
def s5_are_rows : Ss := .cons (.ret (.bl false)) .nil
def e2_are_rows : C :=
    (.bi .len (.cons (.var 3) .nil))
def s3_are_rows : Ss := .cons (.ret (.cmp .Eq (.lenSet [("row", 3)] e2_are_rows (.name 3) (.seq (.var 0)) .nil) (.int 1))) .nil
def s2_are_rows : Ss := .cons (.ite (.not (.val (.bi .all (.cons (.lc false [("row", 3)] e1_are_rows (.name 3) (.seq (.var 0)) .nil) .nil))))
    s5_are_rows
    .nil) s3_are_rows
def s1_are_rows : Ss := .cons (.ite (.or (.not (.val (.isi (.var 0) [(.ty "tuple")]))) (.cons (.not (.chn .LtE .LtE (.int 1) (.bi .len (.cons (.var 0) .nil)) (.var 1))) .nil))
    s4_are_rows
    .nil) s2_are_rows
def c_are_rows : Ss := s1_are_rows
theorem sc_are_rows : FnScope n_are_rows p_are_rows (defScope s_are_rows) := C8.fnScope_by (by decide +kernel)
def n_lies_in : List Str := [("window" : Str), ("x" : Str), ("y" : Str), ("left" : Str), ("up" : Str), ("wide" : Str), ("high" : Str)]
def p_lies_in : List Str := [("window" : Str), ("x" : Str), ("y" : Str)]
def s2_lies_in : Ss := .cons (.ret (.and (.chn .LtE .Lt (.var 3) (.var 1) (.bin .Add (.var 3) (.var 5))) (.cons (.chn .LtE .Lt (.var 4) (.var 2) (.bin .Add (.var 4) (.var 6))) .nil))) .nil
def s1_lies_in : Ss := .cons (.asg (.tup [(.name 3), (.name 4), (.name 5), (.name 6)]) (.var 0)) s2_lies_in
def c_lies_in : Ss := s1_lies_in
theorem sc_lies_in : FnScope n_lies_in p_lies_in (defScope s_lies_in) := C8.fnScope_by (by decide +kernel)
def n_are_planes : List Str := [("thing" : Str), ("depth" : Str), ("plane" : Str), ("row" : Str)]
def p_are_planes : List Str := [("thing" : Str), ("depth" : Str)]
def s5_are_planes : Ss := .cons (.ret (.bl false)) .nil
def e1_are_planes : C :=
    (.call "are_rows" (.cons (.var 2) (.cons (.glb "WIDEST") (.cons (.glb "WIDEST") .nil))) [] .nil)
def s6_are_planes : Ss := .cons (.ret (.bl false)) .nil
def e2_are_planes : C :=
    (.tup (.cons (.bi .len (.cons (.var 2) .nil)) (.cons (.bi .len (.cons (.sub (.var 2) (.int 0)) .nil)) .nil)))
def s7_are_planes : Ss := .cons (.ret (.bl false)) .nil
def e3_are_planes : C :=
    (.call "are_wholes" (.cons (.var 3) (.cons (.int 0) (.cons (.var 1) .nil))) [] .nil)
def j1_are_planes : Vm.It :=
    (.seq (.var 2))
def s4_are_planes : Ss := .cons (.ret (.bi .all (.cons (.lc2 false [("plane", 2), ("row", 3)] [3] e3_are_planes (.name 2) (.seq (.var 0)) .nil (.name 3) j1_are_planes .nil) .nil))) .nil
def s3_are_planes : Ss := .cons (.ite (.cmp .NotEq (.lenSet [("plane", 2)] e2_are_planes (.name 2) (.seq (.var 0)) .nil) (.int 1))
    s7_are_planes
    .nil) s4_are_planes
def s2_are_planes : Ss := .cons (.ite (.not (.val (.bi .all (.cons (.lc false [("plane", 2)] e1_are_planes (.name 2) (.seq (.var 0)) .nil) .nil))))
    s6_are_planes
    .nil) s3_are_planes
def s1_are_planes : Ss := .cons (.ite (.or (.not (.val (.isi (.var 0) [(.ty "tuple")]))) (.cons (.not (.chn .LtE .LtE (.int 1) (.bi .len (.cons (.var 0) .nil)) (.glb "MOST_PLANES"))) .nil))
    s5_are_planes
    .nil) s2_are_planes
def c_are_planes : Ss := s1_are_planes
theorem sc_are_planes : FnScope n_are_planes p_are_planes (defScope s_are_planes) := C8.fnScope_by (by decide +kernel)
def n_Picture_init : List Str := [("self" : Str), ("planes" : Str), ("left" : Str), ("up" : Str), ("depth" : Str)]
def p_Picture_init : List Str := [("self" : Str), ("planes" : Str), ("left" : Str), ("up" : Str), ("depth" : Str)]
def s7_Picture_init : Ss := .cons .never .nil
def s8_Picture_init : Ss := .cons .never .nil
def s6_Picture_init : Ss := .cons (.setA (.var 0) "depth" (.var 4)) .nil
def s5_Picture_init : Ss := .cons (.setA (.var 0) "up" (.var 3)) s6_Picture_init
def s4_Picture_init : Ss := .cons (.setA (.var 0) "left" (.var 2)) s5_Picture_init
def s3_Picture_init : Ss := .cons (.setA (.var 0) "planes" (.var 1)) s4_Picture_init
def s2_Picture_init : Ss := .cons (.ite (.or (.not (.val (.call "is_from" (.cons (.var 4) (.cons (.int 1) (.cons (.glb "DEEPEST") .nil))) [] .nil))) (.cons (.not (.val (.call "are_planes" (.cons (.var 1) (.cons (.var 4) .nil)) [] .nil))) .nil))
    s8_Picture_init
    .nil) s3_Picture_init
def s1_Picture_init : Ss := .cons (.ite (.or (.not (.val (.call "is_from" (.cons (.var 2) (.cons (.neg (.glb "FARTHEST")) (.cons (.glb "FARTHEST") .nil))) [] .nil))) (.cons (.not (.val (.call "is_from" (.cons (.var 3) (.cons (.neg (.glb "FARTHEST")) (.cons (.glb "FARTHEST") .nil))) [] .nil))) .nil))
    s7_Picture_init
    .nil) s2_Picture_init
def c_Picture_init : Ss := s1_Picture_init
theorem sc_Picture_init : FnScope n_Picture_init p_Picture_init (defScope s_Picture_init) := C8.fnScope_by (by decide +kernel)
def n_Picture_window : List Str := [("self" : Str), ("plane" : Str)]
def p_Picture_window : List Str := [("self" : Str)]
def s2_Picture_window : Ss := .cons (.ret (.tup (.cons (.attr (.var 0) "left") (.cons (.attr (.var 0) "up") (.cons (.bi .len (.cons (.sub (.var 1) (.int 0)) .nil)) (.cons (.bi .len (.cons (.var 1) .nil)) .nil)))))) .nil
def s1_Picture_window : Ss := .cons (.asg (.name 1) (.sub (.attr (.var 0) "planes") (.int 0))) s2_Picture_window
def c_Picture_window : Ss := s1_Picture_window
theorem sc_Picture_window : FnScope n_Picture_window p_Picture_window (defScope s_Picture_window) := C8.fnScope_by (by decide +kernel)
def n_Picture_at : List Str := [("self" : Str), ("x" : Str), ("y" : Str), ("plane" : Str)]
def p_Picture_at : List Str := [("self" : Str), ("x" : Str), ("y" : Str), ("plane" : Str)]
def s4_Picture_at : Ss := .cons .never .nil
def s5_Picture_at : Ss := .cons .never .nil
def s3_Picture_at : Ss := .cons (.ret (.sub (.sub (.sub (.attr (.var 0) "planes") (.var 3)) (.bin .Sub (.var 2) (.attr (.var 0) "up"))) (.bin .Sub (.var 1) (.attr (.var 0) "left")))) .nil
def s2_Picture_at : Ss := .cons (.ite (.not (.val (.call "is_from" (.cons (.var 3) (.cons (.int 0) (.cons (.bin .Sub (.bi .len (.cons (.attr (.var 0) "planes") .nil)) (.int 1)) .nil))) [] .nil)))
    s5_Picture_at
    .nil) s3_Picture_at
def s1_Picture_at : Ss := .cons (.ite (.or (.not (.val (.call "is_whole" (.cons (.var 1) .nil) [] .nil))) (.cons (.not (.val (.call "is_whole" (.cons (.var 2) .nil) [] .nil))) (.cons (.not (.val (.call "lies_in" (.cons (.meth "Picture" (.var 0) "window" .nil [] .nil) (.cons (.var 1) (.cons (.var 2) .nil))) [] .nil))) .nil)))
    s4_Picture_at
    .nil) s2_Picture_at
def c_Picture_at : Ss := s1_Picture_at
theorem sc_Picture_at : FnScope n_Picture_at p_Picture_at (defScope s_Picture_at) := C8.fnScope_by (by decide +kernel)
def n_Picture_eq : List Str := [("self" : Str), ("other" : Str), ("mine" : Str)]
def p_Picture_eq : List Str := [("self" : Str), ("other" : Str)]
def s4_Picture_eq : Ss := .cons (.ret (.bl false)) .nil
def s3_Picture_eq : Ss := .cons (.ret (.cmp .Eq (.var 2) (.tup (.cons (.attr (.var 1) "planes") (.cons (.attr (.var 1) "left") (.cons (.attr (.var 1) "up") (.cons (.attr (.var 1) "depth") .nil))))))) .nil
def s2_Picture_eq : Ss := .cons (.asg (.name 2) (.tup (.cons (.attr (.var 0) "planes") (.cons (.attr (.var 0) "left") (.cons (.attr (.var 0) "up") (.cons (.attr (.var 0) "depth") .nil)))))) s3_Picture_eq
def s1_Picture_eq : Ss := .cons (.ite (.not (.val (.isi (.var 1) [(.own "Picture")])))
    s4_Picture_eq
    .nil) s2_Picture_eq
def c_Picture_eq : Ss := s1_Picture_eq
theorem sc_Picture_eq : FnScope n_Picture_eq p_Picture_eq (defScope s_Picture_eq) := C8.fnScope_by (by decide +kernel)
def n_Picture_len : List Str := [("self" : Str)]
def p_Picture_len : List Str := [("self" : Str)]
def s1_Picture_len : Ss := .cons (.ret (.lenRng (.bin .Mult (.bi .len (.cons (.sub (.attr (.var 0) "planes") (.int 0)) .nil)) (.bi .len (.cons (.sub (.sub (.attr (.var 0) "planes") (.int 0)) (.int 0)) .nil))))) .nil
def c_Picture_len : Ss := s1_Picture_len
theorem sc_Picture_len : FnScope n_Picture_len p_Picture_len (defScope s_Picture_len) := C8.fnScope_by (by decide +kernel)
def n_Picture_str : List Str := [("self" : Str), ("plane" : Str), ("row" : Str), ("one" : Str)]
def p_Picture_str : List Str := [("self" : Str)]
def e1_Picture_str : C :=
    (.bi .str (.cons (.var 3) .nil))
def e2_Picture_str : C :=
    (.bm .join (.str " ") (.cons (.lc false [("one", 3)] e1_Picture_str (.name 3) (.seq (.var 2)) .nil) .nil))
def j1_Picture_str : Vm.It :=
    (.seq (.var 1))
def s1_Picture_str : Ss := .cons (.ret (.bm .join (.str "\n") (.cons (.lc2 false [("plane", 1), ("row", 2)] [2] e2_Picture_str (.name 1) (.seq (.attr (.var 0) "planes")) .nil (.name 2) j1_Picture_str .nil) .nil))) .nil
def c_Picture_str : Ss := s1_Picture_str
theorem sc_Picture_str : FnScope n_Picture_str p_Picture_str (defScope s_Picture_str) := C8.fnScope_by (by decide +kernel)
def n_Picture_repr : List Str := [("self" : Str), ("left" : Str), ("up" : Str), ("wide" : Str), ("high" : Str)]
def p_Picture_repr : List Str := [("self" : Str)]
def s2_Picture_repr : Ss := .cons (.ret (.fst (.cons (.str "Picture(") (.cons (.var 1) (.cons (.str " ") (.cons (.var 2) (.cons (.str " ") (.cons (.var 3) (.cons (.str " ") (.cons (.var 4) (.cons (.str ", ") (.cons (.bi .len (.cons (.attr (.var 0) "planes") .nil)) (.cons (.str ", ") (.cons (.attr (.var 0) "depth") (.cons (.str ")") .nil))))))))))))))) .nil
def s1_Picture_repr : Ss := .cons (.asg (.tup [(.name 1), (.name 2), (.name 3), (.name 4)]) (.meth "Picture" (.var 0) "window" .nil [] .nil)) s2_Picture_repr
def c_Picture_repr : Ss := s1_Picture_repr
theorem sc_Picture_repr : FnScope n_Picture_repr p_Picture_repr (defScope s_Picture_repr) := C8.fnScope_by (by decide +kernel)
def n__law_pen : List Str := [("_law_script" : Str)]
def p__law_pen : List Str := [("_law_script" : Str)]
def s1__law_pen : Ss := .cons (.ret (.lst true (.cons (.bi .list (.cons (.sli (.var 0) .no (.yes (.int 63))) .nil)) (.cons (.int 0) (.cons (.int 0) .nil))))) .nil
def c__law_pen : Ss := s1__law_pen
theorem sc__law_pen : FnScope n__law_pen p__law_pen (defScope s__law_pen) := C8.fnScope_by (by decide +kernel)
def n__law_draw : List Str := [("_law_pen_here" : Str), ("_law_many" : Str), ("_law_found" : Str), ("_law_at" : Str), ("_law_cell" : Str), ("_law_number" : Str)]
def p__law_draw : List Str := [("_law_pen_here" : Str), ("_law_many" : Str)]
def s13__law_draw : Ss := .cons (.ret (.var 2)) .nil
def s12__law_draw : Ss := .cons (.setI (.var 0) (.int 2) (.bin .FloorDiv (.sub (.var 0) (.int 2)) (.var 1))) s13__law_draw
def s11__law_draw : Ss := .cons (.asg (.name 2) (.bin .Mod (.sub (.var 0) (.int 2)) (.var 1))) s12__law_draw
def s14__law_draw : Ss := .cons (.asg (.name 4) (.sub (.sub (.var 0) (.int 0)) (.bin .Mod (.var 3) (.bi .len (.cons (.sub (.var 0) (.int 0)) .nil))))) .nil
def s16__law_draw : Ss := .cons (.ret (.bin .Mod (.var 4) (.var 1))) .nil
def s15__law_draw : Ss := .cons (.setI (.var 0) (.int 2) (.bin .FloorDiv (.var 4) (.var 1))) s16__law_draw
def s17__law_draw : Ss := .cons (.asg (.name 5) (.bin .Add (.bin .Mult (.var 5) (.int 2147483629)) (.bin .Mod (.bin .Mult (.bin .Mod (.var 5) (.int 1000003)) (.int 48271)) (.int 2147483587)))) .nil
def s10__law_draw : Ss := .cons (.ret (.bin .Mod (.bin .FloorDiv (.var 5) (.int 64)) (.var 1))) .nil
def s9__law_draw : Ss := .cons (.ite (.cmp .Gt (.var 1) (.bin .Pow (.int 10) (.int 6)))
    s17__law_draw
    .nil) s10__law_draw
def s8__law_draw : Ss := .cons (.asg (.name 5) (.bin .Mod (.bin .Mult (.bin .Mod (.bin .Add (.bin .Pow (.var 5) (.int 3)) (.bin .Mult (.int 69621) (.var 3))) (.int 2147483587)) (.int 40692)) (.int 2147483399))) s9__law_draw
def s7__law_draw : Ss := .cons (.asg (.name 5) (.bin .Mod (.bin .Mult (.bin .Add (.bin .Mod (.var 4) (.int 2147483629)) (.int 11)) (.bin .Add (.bin .Add (.bin .Mult (.var 3) (.var 3)) (.bin .Mult (.int 5) (.var 3))) (.int 3))) (.int 2147483647))) s8__law_draw
def s6__law_draw : Ss := .cons (.ite (.and (.cmp .Lt (.var 3) (.bi .len (.cons (.sub (.var 0) (.int 0)) .nil))) (.cons (.cmp .GtE (.var 4) (.bin .Pow (.int 10) (.int 18))) .nil))
    s15__law_draw
    .nil) s7__law_draw
def s5__law_draw : Ss := .cons (.ite (.cmp .Gt (.bi .len (.cons (.sub (.var 0) (.int 0)) .nil)) (.int 0))
    s14__law_draw
    .nil) s6__law_draw
def s4__law_draw : Ss := .cons (.asg (.name 4) (.int 7)) s5__law_draw
def s3__law_draw : Ss := .cons (.setI (.var 0) (.int 1) (.bin .Add (.var 3) (.int 1))) s4__law_draw
def s2__law_draw : Ss := .cons (.asg (.name 3) (.sub (.var 0) (.int 1))) s3__law_draw
def s1__law_draw : Ss := .cons (.ite (.cmp .Gt (.sub (.var 0) (.int 2)) (.int 0))
    s11__law_draw
    .nil) s2__law_draw
def c__law_draw : Ss := s1__law_draw
theorem sc__law_draw : FnScope n__law_draw p__law_draw (defScope s__law_draw) := C8.fnScope_by (by decide +kernel)
def n__law_same : List Str := [("_law_found" : Str), ("_law_due" : Str), ("_law_one" : Str), ("_law_other" : Str)]
def p__law_same : List Str := [("_law_found" : Str), ("_law_due" : Str)]
def s6__law_same : Ss := .cons (.ret (.and (.isi (.var 1) [(.ty "bool")]) (.cons (.isi (.var 0) [(.ty "bool")]) (.cons (.cmp .Eq (.var 0) (.var 1)) .nil)))) .nil
def s7__law_same : Ss := .cons (.ret (.and (.isN (.var 1)) (.cons (.isN (.var 0)) .nil))) .nil
def s10__law_same : Ss := .cons (.ret (.bl false)) .nil
def e1__law_same : C :=
    (.call "_law_same" (.cons (.var 2) (.cons (.var 3) .nil)) [] .nil)
def s9__law_same : Ss := .cons (.ret (.and (.cmp .Eq (.bi .len (.cons (.var 0) .nil)) (.bi .len (.cons (.var 1) .nil))) (.cons (.bi .all (.cons (.lc false [("_law_one", 2), ("_law_other", 3)] e1__law_same (.tup [(.name 2), (.name 3)]) (.zip (.var 0) (.var 1)) .nil) .nil)) .nil))) .nil
def s8__law_same : Ss := .cons (.ite (.or (.cmp .NotEq (.isi (.var 0) [(.ty "tuple")]) (.isi (.var 1) [(.ty "tuple")])) (.cons (.cmp .NotEq (.isi (.var 0) [(.ty "list")]) (.isi (.var 1) [(.ty "list")])) .nil))
    s10__law_same
    .nil) s9__law_same
def s11__law_same : Ss := .cons (.ret (.bl false)) .nil
def s5__law_same : Ss := .cons (.ret (.cmp .Eq (.var 0) (.var 1))) .nil
def s4__law_same : Ss := .cons (.ite (.or (.cmp .NotEq (.isi (.var 1) [(.ty "int")]) (.isi (.var 0) [(.ty "int")])) (.cons (.cmp .NotEq (.isi (.var 1) [(.ty "str")]) (.isi (.var 0) [(.ty "str")])) .nil))
    s11__law_same
    .nil) s5__law_same
def s3__law_same : Ss := .cons (.ite (.val (.isi (.var 1) [(.ty "tuple"), (.ty "list")]))
    s8__law_same
    .nil) s4__law_same
def s2__law_same : Ss := .cons (.ite (.or (.isN (.var 1)) (.cons (.isN (.var 0)) .nil))
    s7__law_same
    .nil) s3__law_same
def s1__law_same : Ss := .cons (.ite (.or (.val (.isi (.var 1) [(.ty "bool")])) (.cons (.val (.isi (.var 0) [(.ty "bool")])) .nil))
    s6__law_same
    .nil) s2__law_same
def c__law_same : Ss := s1__law_same
theorem sc__law_same : FnScope n__law_same p__law_same (defScope s__law_same) := C8.fnScope_by (by decide +kernel)
def n__law_thing : List Str := [("_law_pen_here" : Str), ("_law_some" : Str)]
def p__law_thing : List Str := [("_law_pen_here" : Str)]
def s2__law_thing : Ss := .cons (.ret (.sub (.var 1) (.call "_law_draw" (.cons (.var 0) (.cons (.int 15) .nil)) [] .nil))) .nil
def s1__law_thing : Ss := .cons (.asg (.name 1) (.lst false (.cons .non (.cons (.bl true) (.cons (.int 0) (.cons (.neg (.int 7)) (.cons (.bin .Pow (.int 10) (.int 20)) (.cons (.str "") (.cons (.str "name") (.cons (.str "near") (.cons (.tup .nil) (.cons (.tup (.cons (.tup (.cons (.int 1) (.cons (.int 2) .nil))) (.cons (.tup (.cons (.int 3) (.cons (.int 4) .nil))) .nil))) (.cons (.lst false .nil) (.cons (.lst false (.cons (.int 1) .nil)) (.cons (.dct false [] .nil) (.cons (.dct false [(.inr "a")] (.cons (.int 1) .nil)) (.cons (.tup (.cons (.int 0) (.cons (.int 0) (.cons (.int 4) (.cons (.int 4) .nil))))) .nil))))))))))))))))) s2__law_thing
def c__law_thing : Ss := s1__law_thing
theorem sc__law_thing : FnScope n__law_thing p__law_thing (defScope s__law_thing) := C8.fnScope_by (by decide +kernel)
def n__law_first_right : List Str := [("_law_a" : Str), ("_law_b" : Str), ("_law_c" : Str), ("_law_d" : Str), ("_law_told" : Str), ("_law_due" : Str)]
def p__law_first_right : List Str := [("_law_a" : Str), ("_law_b" : Str), ("_law_c" : Str), ("_law_d" : Str)]
def s11__law_first_right : Ss := .cons (.ret (.call "_law_same" (.cons (.var 4) (.cons (.var 5) .nil)) [] .nil)) .nil
def s10__law_first_right : Ss := .cons (.asg (.name 5) (.cat false (.var 5) (.lst false (.cons (.tup (.cons (.str "mixed") (.cons (.var 0) (.cons (.var 1) (.cons (.int 1) (.cons (.var 3) .nil)))))) (.cons (.tup (.cons (.str "mixed") (.cons (.var 0) (.cons (.var 1) (.cons (.var 2) (.cons (.var 3) .nil)))))) (.cons (.tup (.cons (.str "filtered") (.cons (.var 0) (.cons (.var 1) (.cons (.int 1) (.cons (.int 0) .nil)))))) (.cons (.tup (.cons (.str "filtered") (.cons (.var 0) (.cons (.var 1) (.cons (.var 2) (.cons (.var 3) .nil)))))) .nil))))))) s11__law_first_right
def s9__law_first_right : Ss := .cons (.asg (.name 4) (.cat false (.var 4) (.lst false (.cons (.call "mixed" (.cons (.var 0) (.cons (.var 1) .nil)) ["plus"] (.cons (.var 3) .nil)) (.cons (.call "mixed" (.cons (.var 0) (.cons (.var 1) .nil)) ["plus", "by"] (.cons (.var 3) (.cons (.var 2) .nil))) (.cons (.call "filtered" (.cons (.var 0) (.cons (.var 1) .nil)) [] .nil) (.cons (.call "filtered" (.cons (.var 0) (.cons (.var 1) .nil)) ["by", "plus"] (.cons (.var 2) (.cons (.var 3) .nil))) .nil))))))) s10__law_first_right
def s8__law_first_right : Ss := .cons (.asg (.name 5) (.cat false (.var 5) (.lst false (.cons (.tup (.cons (.str "mixed") (.cons (.var 0) (.cons (.var 1) (.cons (.int 1) (.cons (.int 0) .nil)))))) (.cons (.tup (.cons (.str "mixed") (.cons (.var 0) (.cons (.var 1) (.cons (.var 2) (.cons (.int 0) .nil)))))) .nil))))) s9__law_first_right
def s7__law_first_right : Ss := .cons (.asg (.name 5) (.cat false (.var 5) (.lst false (.cons (.tup (.cons (.str "curved") (.cons (.var 0) (.cons (.var 1) (.cons .non .nil))))) (.cons (.tup (.cons (.str "curved") (.cons (.var 0) (.cons (.var 1) (.cons (.var 2) .nil))))) (.cons (.tup (.cons (.str "lifted") (.cons (.var 0) (.cons (.var 1) .nil)))) (.cons (.tup (.cons (.str "unlifted") (.cons (.var 0) (.cons (.var 1) .nil)))) .nil))))))) s8__law_first_right
def s6__law_first_right : Ss := .cons (.asg (.name 4) (.cat false (.var 4) (.lst false (.cons (.call "curved" (.cons (.var 0) (.cons (.var 1) .nil)) [] .nil) (.cons (.call "curved" (.cons (.var 0) (.cons (.var 1) .nil)) ["depth"] (.cons (.var 2) .nil)) (.cons (.call "lifted" (.cons (.var 0) (.cons (.var 1) .nil)) [] .nil) (.cons (.call "unlifted" (.cons (.var 0) (.cons (.var 1) .nil)) [] .nil) (.cons (.call "mixed" (.cons (.var 0) (.cons (.var 1) .nil)) [] .nil) (.cons (.call "mixed" (.cons (.var 0) (.cons (.var 1) .nil)) ["by"] (.cons (.var 2) .nil)) .nil))))))))) s7__law_first_right
def s5__law_first_right : Ss := .cons (.asg (.name 5) (.cat false (.var 5) (.lst false (.cons (.tup (.cons (.str "moved") (.cons (.var 0) (.cons (.int 0) (.cons (.var 2) .nil))))) (.cons (.tup (.cons (.str "moved") (.cons (.var 0) (.cons (.var 1) (.cons (.var 2) .nil))))) (.cons (.tup (.cons (.str "flipped") (.cons (.var 0) (.cons (.bl true) .nil)))) (.cons (.tup (.cons (.str "flipped") (.cons (.var 0) (.cons (.var 1) .nil)))) (.cons (.tup (.cons (.str "turned") (.cons (.var 0) .nil))) .nil)))))))) s6__law_first_right
def s4__law_first_right : Ss := .cons (.asg (.name 4) (.cat false (.var 4) (.lst false (.cons (.call "moved" (.cons (.var 0) .nil) ["down"] (.cons (.var 2) .nil)) (.cons (.call "moved" (.cons (.var 0) .nil) ["down", "right"] (.cons (.var 2) (.cons (.var 1) .nil))) (.cons (.call "flipped" (.cons (.var 0) .nil) [] .nil) (.cons (.call "flipped" (.cons (.var 0) .nil) ["across"] (.cons (.var 1) .nil)) (.cons (.call "turned" (.cons (.var 0) .nil) [] .nil) .nil)))))))) s5__law_first_right
def s3__law_first_right : Ss := .cons (.asg (.name 5) (.cat false (.var 5) (.lst false (.cons (.tup (.cons (.str "moved") (.cons (.var 0) (.cons (.var 1) (.cons (.int 0) .nil))))) .nil)))) s4__law_first_right
def s2__law_first_right : Ss := .cons (.asg (.name 5) (.lst false (.cons (.tup (.cons (.str "source") (.cons (.var 0) (.cons (.str "near") .nil)))) (.cons (.tup (.cons (.str "source") (.cons (.var 0) (.cons (.var 1) .nil)))) (.cons (.tup (.cons (.str "framed") (.cons (.var 0) (.cons (.var 1) (.cons (.str "near") .nil))))) (.cons (.tup (.cons (.str "framed") (.cons (.var 0) (.cons (.var 1) (.cons (.var 2) .nil))))) (.cons (.tup (.cons (.str "moved") (.cons (.var 0) (.cons (.int 0) (.cons (.int 0) .nil))))) .nil))))))) s3__law_first_right
def s1__law_first_right : Ss := .cons (.asg (.name 4) (.lst false (.cons (.call "source" (.cons (.var 0) .nil) [] .nil) (.cons (.call "source" (.cons (.var 0) .nil) ["border"] (.cons (.var 1) .nil)) (.cons (.call "framed" (.cons (.var 0) (.cons (.var 1) .nil)) [] .nil) (.cons (.call "framed" (.cons (.var 0) (.cons (.var 1) .nil)) ["border"] (.cons (.var 2) .nil)) (.cons (.call "moved" (.cons (.var 0) .nil) [] .nil) (.cons (.call "moved" (.cons (.var 0) .nil) ["right"] (.cons (.var 1) .nil)) .nil)))))))) s2__law_first_right
def c__law_first_right : Ss := s1__law_first_right
theorem sc__law_first_right : FnScope n__law_first_right p__law_first_right (defScope s__law_first_right) := C8.fnScope_by (by decide +kernel)
def n__law_second_right : List Str := [("_law_a" : Str), ("_law_b" : Str), ("_law_c" : Str), ("_law_d" : Str), ("_law_told" : Str), ("_law_due" : Str)]
def p__law_second_right : List Str := [("_law_a" : Str), ("_law_b" : Str), ("_law_c" : Str), ("_law_d" : Str)]
def s12__law_second_right : Ss := .cons (.ret (.call "_law_same" (.cons (.cat false (.var 4) (.lst false (.cons (.call "chosen" (.cons (.var 0) (.cons (.var 1) (.cons (.var 2) .nil))) [] .nil) .nil))) (.cons (.var 5) .nil)) [] .nil)) .nil
def s11__law_second_right : Ss := .cons (.asg (.name 5) (.cat false (.var 5) (.lst false (.cons (.tup (.cons (.str "met") (.cons (.var 0) (.cons (.var 1) (.cons (.var 2) .nil))))) (.cons (.tup (.cons (.str "chosen") (.cons (.var 0) (.cons (.var 1) (.cons (.var 2) .nil))))) .nil))))) s12__law_second_right
def s10__law_second_right : Ss := .cons (.asg (.name 5) (.cat false (.var 5) (.lst false (.cons (.tup (.cons (.str "paired") (.cons (.var 0) (.cons (.var 1) (.cons (.var 2) .nil))))) (.cons (.tup (.cons (.str "summed") (.cons (.var 0) (.cons (.var 1) .nil)))) (.cons (.tup (.cons (.str "unsummed") (.cons (.var 0) .nil))) (.cons (.tup (.cons (.str "levelled") (.cons (.var 0) (.cons (.var 1) .nil)))) (.cons (.tup (.cons (.str "met") (.cons (.var 0) (.cons (.var 1) (.cons (.str "least") .nil))))) .nil)))))))) s11__law_second_right
def s9__law_second_right : Ss := .cons (.asg (.name 4) (.cat false (.var 4) (.lst false (.cons (.call "paired" (.cons (.var 0) (.cons (.var 1) .nil)) ["across"] (.cons (.var 2) .nil)) (.cons (.call "summed" (.cons (.var 0) (.cons (.var 1) .nil)) [] .nil) (.cons (.call "unsummed" (.cons (.var 0) .nil) [] .nil) (.cons (.call "levelled" (.cons (.var 0) (.cons (.var 1) .nil)) [] .nil) (.cons (.call "met" (.cons (.var 0) (.cons (.var 1) .nil)) [] .nil) (.cons (.call "met" (.cons (.var 0) (.cons (.var 1) .nil)) ["how"] (.cons (.var 2) .nil)) .nil))))))))) s10__law_second_right
def s8__law_second_right : Ss := .cons (.exp (.bm .append (.var 5) (.cons (.tup (.cons (.str "paired") (.cons (.var 0) (.cons (.var 1) (.cons (.bl true) .nil))))) .nil))) s9__law_second_right
def s7__law_second_right : Ss := .cons (.asg (.name 5) (.cat true (.var 5) (.lst false (.cons (.tup (.cons (.str "near_band") (.cons (.var 0) (.cons (.bl true) .nil)))) (.cons (.tup (.cons (.str "near_band") (.cons (.var 0) (.cons (.var 1) .nil)))) (.cons (.tup (.cons (.str "far_band") (.cons (.var 0) (.cons (.bl true) .nil)))) (.cons (.tup (.cons (.str "far_band") (.cons (.var 0) (.cons (.var 1) .nil)))) .nil))))))) s8__law_second_right
def s6__law_second_right : Ss := .cons (.asg (.name 4) (.cat false (.var 4) (.lst false (.cons (.call "near_band" (.cons (.var 0) .nil) [] .nil) (.cons (.call "near_band" (.cons (.var 0) .nil) ["across"] (.cons (.var 1) .nil)) (.cons (.call "far_band" (.cons (.var 0) .nil) [] .nil) (.cons (.call "far_band" (.cons (.var 0) .nil) ["across"] (.cons (.var 1) .nil)) (.cons (.call "paired" (.cons (.var 0) (.cons (.var 1) .nil)) [] .nil) .nil)))))))) s7__law_second_right
def s5__law_second_right : Ss := .cons (.asg (.name 5) (.cat false (.var 5) (.lst false (.cons (.tup (.cons (.str "reduced") (.cons (.var 0) (.cons (.var 1) (.cons (.var 2) .nil))))) (.cons (.tup (.cons (.str "enlarged") (.cons (.var 0) (.cons (.int 2) (.cons (.int 2) .nil))))) (.cons (.tup (.cons (.str "enlarged") (.cons (.var 0) (.cons (.var 1) (.cons (.int 2) .nil))))) (.cons (.tup (.cons (.str "enlarged") (.cons (.var 0) (.cons (.var 1) (.cons (.var 2) .nil))))) .nil))))))) s6__law_second_right
def s4__law_second_right : Ss := .cons (.asg (.name 4) (.cat false (.var 4) (.lst false (.cons (.call "reduced" (.cons (.var 0) .nil) ["high", "wide"] (.cons (.var 2) (.cons (.var 1) .nil))) (.cons (.call "enlarged" (.cons (.var 0) .nil) [] .nil) (.cons (.call "enlarged" (.cons (.var 0) .nil) ["wide"] (.cons (.var 1) .nil)) (.cons (.call "enlarged" (.cons (.var 0) .nil) ["high", "wide"] (.cons (.var 2) (.cons (.var 1) .nil))) .nil))))))) s5__law_second_right
def s3__law_second_right : Ss := .cons (.exp (.bm .append (.var 5) (.cons (.tup (.cons (.str "reduced") (.cons (.var 0) (.cons (.int 2) (.cons (.var 1) .nil))))) .nil))) s4__law_second_right
def s2__law_second_right : Ss := .cons (.asg (.name 5) (.lst true (.cons (.tup (.cons (.str "filtered") (.cons (.var 0) (.cons (.var 1) (.cons (.int 1) (.cons (.var 2) .nil)))))) (.cons (.tup (.cons (.str "ranked") (.cons (.var 0) (.cons (.var 1) (.cons (.int 0) .nil))))) (.cons (.tup (.cons (.str "ranked") (.cons (.var 0) (.cons (.var 1) (.cons (.var 2) .nil))))) (.cons (.tup (.cons (.str "reduced") (.cons (.var 0) (.cons (.int 2) (.cons (.int 2) .nil))))) .nil)))))) s3__law_second_right
def s1__law_second_right : Ss := .cons (.asg (.name 4) (.lst false (.cons (.call "filtered" (.cons (.var 0) (.cons (.var 1) .nil)) ["plus"] (.cons (.var 2) .nil)) (.cons (.call "ranked" (.cons (.var 0) (.cons (.var 1) .nil)) [] .nil) (.cons (.call "ranked" (.cons (.var 0) (.cons (.var 1) .nil)) ["rank"] (.cons (.var 2) .nil)) (.cons (.call "reduced" (.cons (.var 0) .nil) [] .nil) (.cons (.call "reduced" (.cons (.var 0) .nil) ["high"] (.cons (.var 1) .nil)) .nil))))))) s2__law_second_right
def c__law_second_right : Ss := s1__law_second_right
theorem sc__law_second_right : FnScope n__law_second_right p__law_second_right (defScope s__law_second_right) := C8.fnScope_by (by decide +kernel)
def n_law : List Str := [("_law_script" : Str), ("_law_pen_here" : Str), ("_law_k" : Str), ("_law_things" : Str), ("_law_kept" : Str), ("_law_picture" : Str), ("_law_one" : Str), ("_law_other" : Str), ("_law_j" : Str)]
def p_law : List Str := [("_law_script" : Str)]
def e1_law : C :=
    (.call "_law_thing" (.cons (.var 1) .nil) [] .nil)
def s11_law : Ss := .cons (.ret (.bl false)) .nil
def s12_law : Ss := .cons (.ret (.bl false)) .nil
def s10_law : Ss := .cons (.ite (.or (.not (.val (.call "_law_second_right" (.cons (.sub (.var 3) (.int 0)) (.cons (.sub (.var 3) (.int 1)) (.cons (.sub (.var 3) (.int 2)) (.cons (.sub (.var 3) (.int 3)) .nil)))) [] .nil))) (.cons (.cmp .NotEq (.bi .repr (.cons (.var 3) .nil)) (.var 4)) .nil))
    s12_law
    .nil) .nil
def s9_law : Ss := .cons (.ite (.not (.val (.call "_law_first_right" (.cons (.sub (.var 3) (.int 0)) (.cons (.sub (.var 3) (.int 1)) (.cons (.sub (.var 3) (.int 2)) (.cons (.sub (.var 3) (.int 3)) .nil)))) [] .nil)))
    s11_law
    .nil) s10_law
def s8_law : Ss := .cons (.asg (.name 4) (.bi .repr (.cons (.var 3) .nil))) s9_law
def s7_law : Ss := .cons (.asg (.name 3) (.lc false [("_law_j", 8)] e1_law (.name 8) (.rng1 (.int 4)) .nil)) s8_law
def s13_law : Ss := .cons (.ret (.bl false)) .nil
def s6_law : Ss := .cons (.ret (.cmp .Eq (.var 7) (.tup (.cons (.str "own") (.cons (.str "a") (.cons (.glb "_law_thing") .nil)))))) .nil
def s5_law : Ss := .cons (.ite (.or (.cmp .NotEq (.sub (.var 6) (.int 0)) (.str "source")) (.cons (.cmp .NotEq (.sub (.var 6) (.int 1)) (.var 5)) (.cons (.cmp .NotEq (.bi .len (.cons (.var 6) .nil)) (.int 3)) .nil)))
    s13_law
    .nil) s6_law
def s4_law : Ss := .cons (.par 6 7 (.call "source" (.cons (.var 5) .nil) [] .nil) (.call "own" (.cons (.str "a") (.cons (.glb "_law_thing") .nil)) [] .nil)) s5_law
def s3_law : Ss := .cons (.asg (.name 5) (.mk "Picture" (.cons (.tup (.cons (.tup (.cons (.tup (.cons (.int 5) .nil)) .nil)) .nil)) .nil) [] .nil)) s4_law
def s2_law : Ss := .cons (.forr (.name 2) (.rng1 (.int 2))
    s7_law) s3_law
def s1_law : Ss := .cons (.asg (.name 1) (.call "_law_pen" (.cons (.var 0) .nil) [] .nil)) s2_law
def c_law : Ss := s1_law
theorem sc_law : FnScope n_law p_law (defScope s_law) := C8.fnScope_by (by decide +kernel)
end VmL
namespace VmL
open PySem L2 Vm
def g0 : Gm := md.gm
def r_source : List Sh := [(1, [], fun ws zs => pk [(false, 0)] ws [.str "near"] zs), (1, [("border" : Str)], fun ws zs => pk [(true, 0)] ws [] zs)]
noncomputable def m_source : List W → M W := mD false g0 2 c_source
theorem k_source : chkSs g0 n_source (defScope s_source) (cellsOfSc (defScope s_source)) c_source (defBody s_source) = true := by kernel_rfl
def r_framed : List Sh := [(2, [], fun ws zs => pk [(false, 0)] ws [.str "near"] zs), (2, [("border" : Str)], fun ws zs => pk [(true, 0)] ws [] zs)]
noncomputable def m_framed : List W → M W := mD false g0 3 c_framed
theorem k_framed : chkSs g0 n_framed (defScope s_framed) (cellsOfSc (defScope s_framed)) c_framed (defBody s_framed) = true := by kernel_rfl
def r_moved : List Sh := [(1, [], fun ws zs => pk [(false, 0), (false, 1)] ws [.int (0), .int (0)] zs), (1, [("right" : Str)], fun ws zs => pk [(true, 0), (false, 0)] ws [.int (0)] zs), (1, [("down" : Str)], fun ws zs => pk [(false, 0), (true, 0)] ws [.int (0)] zs), (1, [("down" : Str), ("right" : Str)], fun ws zs => pk [(true, 1), (true, 0)] ws [] zs)]
noncomputable def m_moved : List W → M W := mD false g0 3 c_moved
theorem k_moved : chkSs g0 n_moved (defScope s_moved) (cellsOfSc (defScope s_moved)) c_moved (defBody s_moved) = true := by kernel_rfl
def r_flipped : List Sh := [(1, [], fun ws zs => pk [(false, 0)] ws [.bl true] zs), (1, [("across" : Str)], fun ws zs => pk [(true, 0)] ws [] zs)]
noncomputable def m_flipped : List W → M W := mD false g0 2 c_flipped
theorem k_flipped : chkSs g0 n_flipped (defScope s_flipped) (cellsOfSc (defScope s_flipped)) c_flipped (defBody s_flipped) = true := by kernel_rfl
def r_turned : List Sh := [(1, [], fun ws _ => ws)]
noncomputable def m_turned : List W → M W := mD false g0 1 c_turned
theorem k_turned : chkSs g0 n_turned (defScope s_turned) (cellsOfSc (defScope s_turned)) c_turned (defBody s_turned) = true := by kernel_rfl
def r_curved : List Sh := [(2, [], fun ws zs => pk [(false, 0)] ws [.non] zs), (2, [("depth" : Str)], fun ws zs => pk [(true, 0)] ws [] zs)]
noncomputable def m_curved : List W → M W := mD false g0 3 c_curved
theorem k_curved : chkSs g0 n_curved (defScope s_curved) (cellsOfSc (defScope s_curved)) c_curved (defBody s_curved) = true := by kernel_rfl
def r_lifted : List Sh := [(2, [], fun ws _ => ws)]
noncomputable def m_lifted : List W → M W := mD false g0 2 c_lifted
theorem k_lifted : chkSs g0 n_lifted (defScope s_lifted) (cellsOfSc (defScope s_lifted)) c_lifted (defBody s_lifted) = true := by kernel_rfl
def r_unlifted : List Sh := [(2, [], fun ws _ => ws)]
noncomputable def m_unlifted : List W → M W := mD false g0 2 c_unlifted
theorem k_unlifted : chkSs g0 n_unlifted (defScope s_unlifted) (cellsOfSc (defScope s_unlifted)) c_unlifted (defBody s_unlifted) = true := by kernel_rfl
def r_mixed : List Sh := [(2, [], fun ws zs => pk [(false, 0), (false, 1)] ws [.int (1), .int (0)] zs), (2, [("by" : Str)], fun ws zs => pk [(true, 0), (false, 0)] ws [.int (0)] zs), (2, [("plus" : Str)], fun ws zs => pk [(false, 0), (true, 0)] ws [.int (1)] zs), (2, [("plus" : Str), ("by" : Str)], fun ws zs => pk [(true, 1), (true, 0)] ws [] zs)]
noncomputable def m_mixed : List W → M W := mD false g0 4 c_mixed
theorem k_mixed : chkSs g0 n_mixed (defScope s_mixed) (cellsOfSc (defScope s_mixed)) c_mixed (defBody s_mixed) = true := by kernel_rfl
def r_filtered : List Sh := [(2, [], fun ws zs => pk [(false, 0), (false, 1)] ws [.int (1), .int (0)] zs), (2, [("by" : Str), ("plus" : Str)], fun ws zs => pk [(true, 0), (true, 1)] ws [] zs), (2, [("plus" : Str)], fun ws zs => pk [(false, 0), (true, 0)] ws [.int (1)] zs)]
noncomputable def m_filtered : List W → M W := mD false g0 4 c_filtered
theorem k_filtered : chkSs g0 n_filtered (defScope s_filtered) (cellsOfSc (defScope s_filtered)) c_filtered (defBody s_filtered) = true := by kernel_rfl
def r_ranked : List Sh := [(2, [], fun ws zs => pk [(false, 0)] ws [.int (0)] zs), (2, [("rank" : Str)], fun ws zs => pk [(true, 0)] ws [] zs)]
noncomputable def m_ranked : List W → M W := mD false g0 3 c_ranked
theorem k_ranked : chkSs g0 n_ranked (defScope s_ranked) (cellsOfSc (defScope s_ranked)) c_ranked (defBody s_ranked) = true := by kernel_rfl
def r_reduced : List Sh := [(1, [], fun ws zs => pk [(false, 0), (false, 1)] ws [.int (2), .int (2)] zs), (1, [("high" : Str)], fun ws zs => pk [(false, 0), (true, 0)] ws [.int (2)] zs), (1, [("high" : Str), ("wide" : Str)], fun ws zs => pk [(true, 1), (true, 0)] ws [] zs)]
noncomputable def m_reduced : List W → M W := mD false g0 3 c_reduced
theorem k_reduced : chkSs g0 n_reduced (defScope s_reduced) (cellsOfSc (defScope s_reduced)) c_reduced (defBody s_reduced) = true := by kernel_rfl
def r_enlarged : List Sh := [(1, [], fun ws zs => pk [(false, 0), (false, 1)] ws [.int (2), .int (2)] zs), (1, [("wide" : Str)], fun ws zs => pk [(true, 0), (false, 0)] ws [.int (2)] zs), (1, [("high" : Str), ("wide" : Str)], fun ws zs => pk [(true, 1), (true, 0)] ws [] zs)]
noncomputable def m_enlarged : List W → M W := mD false g0 3 c_enlarged
theorem k_enlarged : chkSs g0 n_enlarged (defScope s_enlarged) (cellsOfSc (defScope s_enlarged)) c_enlarged (defBody s_enlarged) = true := by kernel_rfl
def r_near_band : List Sh := [(1, [], fun ws zs => pk [(false, 0)] ws [.bl true] zs), (1, [("across" : Str)], fun ws zs => pk [(true, 0)] ws [] zs)]
noncomputable def m_near_band : List W → M W := mD false g0 2 c_near_band
theorem k_near_band : chkSs g0 n_near_band (defScope s_near_band) (cellsOfSc (defScope s_near_band)) c_near_band (defBody s_near_band) = true := by kernel_rfl
def r_far_band : List Sh := [(1, [], fun ws zs => pk [(false, 0)] ws [.bl true] zs), (1, [("across" : Str)], fun ws zs => pk [(true, 0)] ws [] zs)]
noncomputable def m_far_band : List W → M W := mD false g0 2 c_far_band
theorem k_far_band : chkSs g0 n_far_band (defScope s_far_band) (cellsOfSc (defScope s_far_band)) c_far_band (defBody s_far_band) = true := by kernel_rfl
def r_paired : List Sh := [(2, [], fun ws zs => pk [(false, 0)] ws [.bl true] zs), (2, [("across" : Str)], fun ws zs => pk [(true, 0)] ws [] zs)]
noncomputable def m_paired : List W → M W := mD false g0 3 c_paired
theorem k_paired : chkSs g0 n_paired (defScope s_paired) (cellsOfSc (defScope s_paired)) c_paired (defBody s_paired) = true := by kernel_rfl
def r_summed : List Sh := [(2, [], fun ws _ => ws)]
noncomputable def m_summed : List W → M W := mD false g0 2 c_summed
theorem k_summed : chkSs g0 n_summed (defScope s_summed) (cellsOfSc (defScope s_summed)) c_summed (defBody s_summed) = true := by kernel_rfl
def r_unsummed : List Sh := [(1, [], fun ws _ => ws)]
noncomputable def m_unsummed : List W → M W := mD false g0 1 c_unsummed
theorem k_unsummed : chkSs g0 n_unsummed (defScope s_unsummed) (cellsOfSc (defScope s_unsummed)) c_unsummed (defBody s_unsummed) = true := by kernel_rfl
def r_levelled : List Sh := [(2, [], fun ws _ => ws)]
noncomputable def m_levelled : List W → M W := mD false g0 2 c_levelled
theorem k_levelled : chkSs g0 n_levelled (defScope s_levelled) (cellsOfSc (defScope s_levelled)) c_levelled (defBody s_levelled) = true := by kernel_rfl
def r_met : List Sh := [(2, [], fun ws zs => pk [(false, 0)] ws [.str "least"] zs), (2, [("how" : Str)], fun ws zs => pk [(true, 0)] ws [] zs)]
noncomputable def m_met : List W → M W := mD false g0 3 c_met
theorem k_met : chkSs g0 n_met (defScope s_met) (cellsOfSc (defScope s_met)) c_met (defBody s_met) = true := by kernel_rfl
def r_chosen : List Sh := [(3, [], fun ws _ => ws)]
noncomputable def m_chosen : List W → M W := mD false g0 3 c_chosen
theorem k_chosen : chkSs g0 n_chosen (defScope s_chosen) (cellsOfSc (defScope s_chosen)) c_chosen (defBody s_chosen) = true := by kernel_rfl
def r_own : List Sh := [(2, [], fun ws _ => ws)]
noncomputable def m_own : List W → M W := mD false g0 2 c_own
theorem k_own : chkSs g0 n_own (defScope s_own) (cellsOfSc (defScope s_own)) c_own (defBody s_own) = true := by kernel_rfl
def r_is_whole : List Sh := [(1, [], fun ws _ => ws)]
noncomputable def m_is_whole : List W → M W := mD false g0 1 c_is_whole
theorem k_is_whole : chkSs g0 n_is_whole (defScope s_is_whole) (cellsOfSc (defScope s_is_whole)) c_is_whole (defBody s_is_whole) = true := by kernel_rfl
def r_lies_in : List Sh := [(3, [], fun ws _ => ws)]
noncomputable def m_lies_in : List W → M W := mD false g0 7 c_lies_in
theorem k_lies_in : chkSs g0 n_lies_in (defScope s_lies_in) (cellsOfSc (defScope s_lies_in)) c_lies_in (defBody s_lies_in) = true := by kernel_rfl
def r_Picture_eq : List Sh := [(2, [], fun ws _ => ws)]
noncomputable def m_Picture_eq : List W → M W := mD false g0 3 c_Picture_eq
theorem k_Picture_eq : chkSs g0 n_Picture_eq (defScope s_Picture_eq) (cellsOfSc (defScope s_Picture_eq)) c_Picture_eq (defBody s_Picture_eq) = true := by kernel_rfl
def r_Picture_len : List Sh := [(1, [], fun ws _ => ws)]
noncomputable def m_Picture_len : List W → M W := mD false g0 1 c_Picture_len
theorem k_Picture_len : chkSs g0 n_Picture_len (defScope s_Picture_len) (cellsOfSc (defScope s_Picture_len)) c_Picture_len (defBody s_Picture_len) = true := by kernel_rfl
def r_Picture_str : List Sh := [(1, [], fun ws _ => ws)]
noncomputable def m_Picture_str : List W → M W := mD false g0 4 c_Picture_str
theorem k_Picture_str : chkSs g0 n_Picture_str (defScope s_Picture_str) (cellsOfSc (defScope s_Picture_str)) c_Picture_str (defBody s_Picture_str) = true := by kernel_rfl
def r__law_pen : List Sh := [(1, [], fun ws _ => ws)]
noncomputable def m__law_pen : List W → M W := mD false g0 1 c__law_pen
theorem k__law_pen : chkSs g0 n__law_pen (defScope s__law_pen) (cellsOfSc (defScope s__law_pen)) c__law_pen (defBody s__law_pen) = true := by kernel_rfl
noncomputable def g1 : Gm := ((((((((((((((((((((((((((((g0.addFn "source" m_source r_source).addFn "framed" m_framed r_framed).addFn "moved" m_moved r_moved).addFn "flipped" m_flipped r_flipped).addFn "turned" m_turned r_turned).addFn "curved" m_curved r_curved).addFn "lifted" m_lifted r_lifted).addFn "unlifted" m_unlifted r_unlifted).addFn "mixed" m_mixed r_mixed).addFn "filtered" m_filtered r_filtered).addFn "ranked" m_ranked r_ranked).addFn "reduced" m_reduced r_reduced).addFn "enlarged" m_enlarged r_enlarged).addFn "near_band" m_near_band r_near_band).addFn "far_band" m_far_band r_far_band).addFn "paired" m_paired r_paired).addFn "summed" m_summed r_summed).addFn "unsummed" m_unsummed r_unsummed).addFn "levelled" m_levelled r_levelled).addFn "met" m_met r_met).addFn "chosen" m_chosen r_chosen).addFn "own" m_own r_own).addFn "is_whole" m_is_whole r_is_whole).addFn "lies_in" m_lies_in r_lies_in).addMe "Picture" "__eq__" m_Picture_eq r_Picture_eq true).addMe "Picture" "__len__" m_Picture_len r_Picture_len true).addMe "Picture" "__str__" m_Picture_str r_Picture_str true).addFn "_law_pen" m__law_pen r__law_pen)
theorem ok1 {P : Program} {w : World} {K : PySem.W.Frag} {h : Heap} {mg : Str → Option Value} {base : Heap} (c : He.SaysD md.fa fn K) (H : Hd md K h mg) : GOk P w K mg base 7 g1 := by
  have G0 : GOk P w K mg base 3 g0 := H.gm
  have G : GOk P w K mg base 7 g0 := G0.mono (by omega)
  have G : GOk P w K mg base 7 (g0.addFn "source" m_source r_source) := by
    obtain ⟨fd, F⟩ := c.def_ 0 (d := d_source) rfl
    have FO := (mD_ok false (by omega) F sc_source G0 k_source).mono (show 4 ≤ 7 by omega)
    exact GOk.addFn G (H.def_ (List.mem_of_getElem? (i := 0) rfl)) fun r hr => by
      unfold r_source at hr
      simp only [List.mem_cons, List.not_mem_nil, or_false] at hr
      rcases hr with rfl | rfl
      · exact (fnE_B F FO 1 [] [(("border" : Str), V.str "near")] [(false, 0)] [.str "near"] (by intro z; cases z) (fun q hq => by simp only [List.mem_cons, List.not_mem_nil, or_false] at hq; rcases hq with rfl <;> (unfold He.DefD.kws; rw [List.mem_map]; first | exact ⟨_, .head _, rfl⟩ | exact ⟨_, .tail _ (.head _), rfl⟩ | exact ⟨_, .tail _ (.tail _ (.head _)), rfl⟩)) (fun H μ => by simp only [RpL, Rp, List.map]; exact ⟨_, _, rfl, rfl, rfl⟩) rfl (by intro q hq; simp at hq; rcases hq with rfl <;> simp) (fun D doc pm an cdv ct us mv ws h1 h2 h3 => by match us, mv, ws, h1, h2, h3 with | [_], [_], [], _, _, _ => exact ⟨_, _, _, _, _, _, rfl, rfl, rfl⟩))
      · exact (fnE_B F FO 1 [("border" : Str)] [] [(true, 0)] [] (by intro z; cases z) (fun q hq => by cases hq) (fun H μ => by simp only [RpL, List.map]) rfl (by intro q hq; simp at hq; rcases hq with rfl <;> simp) (fun D doc pm an cdv ct us mv ws h1 h2 h3 => by match us, mv, ws, h1, h2, h3 with | [_], [], [_], _, _, _ => exact rfl))
  have G : GOk P w K mg base 7 ((g0.addFn "source" m_source r_source).addFn "framed" m_framed r_framed) := by
    obtain ⟨fd, F⟩ := c.def_ 1 (d := d_framed) rfl
    have FO := (mD_ok false (by omega) F sc_framed G0 k_framed).mono (show 4 ≤ 7 by omega)
    exact GOk.addFn G (H.def_ (List.mem_of_getElem? (i := 1) rfl)) fun r hr => by
      unfold r_framed at hr
      simp only [List.mem_cons, List.not_mem_nil, or_false] at hr
      rcases hr with rfl | rfl
      · exact (fnE_B F FO 2 [] [(("border" : Str), V.str "near")] [(false, 0)] [.str "near"] (by intro z; cases z) (fun q hq => by simp only [List.mem_cons, List.not_mem_nil, or_false] at hq; rcases hq with rfl <;> (unfold He.DefD.kws; rw [List.mem_map]; first | exact ⟨_, .head _, rfl⟩ | exact ⟨_, .tail _ (.head _), rfl⟩ | exact ⟨_, .tail _ (.tail _ (.head _)), rfl⟩)) (fun H μ => by simp only [RpL, Rp, List.map]; exact ⟨_, _, rfl, rfl, rfl⟩) rfl (by intro q hq; simp at hq; rcases hq with rfl <;> simp) (fun D doc pm an cdv ct us mv ws h1 h2 h3 => by match us, mv, ws, h1, h2, h3 with | [_, _], [_], [], _, _, _ => exact ⟨_, _, _, _, _, _, rfl, rfl, rfl⟩))
      · exact (fnE_B F FO 2 [("border" : Str)] [] [(true, 0)] [] (by intro z; cases z) (fun q hq => by cases hq) (fun H μ => by simp only [RpL, List.map]) rfl (by intro q hq; simp at hq; rcases hq with rfl <;> simp) (fun D doc pm an cdv ct us mv ws h1 h2 h3 => by match us, mv, ws, h1, h2, h3 with | [_, _], [], [_], _, _, _ => exact rfl))
  have G : GOk P w K mg base 7 (((g0.addFn "source" m_source r_source).addFn "framed" m_framed r_framed).addFn "moved" m_moved r_moved) := by
    obtain ⟨fd, F⟩ := c.def_ 2 (d := d_moved) rfl
    have FO := (mD_ok false (by omega) F sc_moved G0 k_moved).mono (show 4 ≤ 7 by omega)
    exact GOk.addFn G (H.def_ (List.mem_of_getElem? (i := 2) rfl)) fun r hr => by
      unfold r_moved at hr
      simp only [List.mem_cons, List.not_mem_nil, or_false] at hr
      rcases hr with rfl | rfl | rfl | rfl
      · exact (fnE_B F FO 1 [] [(("right" : Str), V.int (0)), (("down" : Str), V.int (0))] [(false, 0), (false, 1)] [.int (0), .int (0)] (by intro z; cases z) (fun q hq => by simp only [List.mem_cons, List.not_mem_nil, or_false] at hq; rcases hq with rfl | rfl <;> (unfold He.DefD.kws; rw [List.mem_map]; first | exact ⟨_, .head _, rfl⟩ | exact ⟨_, .tail _ (.head _), rfl⟩ | exact ⟨_, .tail _ (.tail _ (.head _)), rfl⟩)) (fun H μ => by simp only [RpL, Rp, List.map]; exact ⟨_, _, rfl, rfl, ⟨_, _, rfl, rfl, rfl⟩⟩) rfl (by intro q hq; simp at hq; rcases hq with rfl | rfl <;> simp) (fun D doc pm an cdv ct us mv ws h1 h2 h3 => by match us, mv, ws, h1, h2, h3 with | [_], [_, _], [], _, _, _ => exact ⟨_, _, _, _, _, _, rfl, rfl, _, _, _, _, _, _, rfl, rfl, rfl⟩))
      · exact (fnE_B F FO 1 [("right" : Str)] [(("down" : Str), V.int (0))] [(true, 0), (false, 0)] [.int (0)] (by intro z; cases z) (fun q hq => by simp only [List.mem_cons, List.not_mem_nil, or_false] at hq; rcases hq with rfl <;> (unfold He.DefD.kws; rw [List.mem_map]; first | exact ⟨_, .head _, rfl⟩ | exact ⟨_, .tail _ (.head _), rfl⟩ | exact ⟨_, .tail _ (.tail _ (.head _)), rfl⟩)) (fun H μ => by simp only [RpL, Rp, List.map]; exact ⟨_, _, rfl, rfl, rfl⟩) rfl (by intro q hq; simp at hq; rcases hq with rfl | rfl <;> simp) (fun D doc pm an cdv ct us mv ws h1 h2 h3 => by match us, mv, ws, h1, h2, h3 with | [_], [_], [_], _, _, _ => exact ⟨_, _, _, _, _, _, rfl, rfl, rfl⟩))
      · exact (fnE_B F FO 1 [("down" : Str)] [(("right" : Str), V.int (0))] [(false, 0), (true, 0)] [.int (0)] (by intro z; cases z) (fun q hq => by simp only [List.mem_cons, List.not_mem_nil, or_false] at hq; rcases hq with rfl <;> (unfold He.DefD.kws; rw [List.mem_map]; first | exact ⟨_, .head _, rfl⟩ | exact ⟨_, .tail _ (.head _), rfl⟩ | exact ⟨_, .tail _ (.tail _ (.head _)), rfl⟩)) (fun H μ => by simp only [RpL, Rp, List.map]; exact ⟨_, _, rfl, rfl, rfl⟩) rfl (by intro q hq; simp at hq; rcases hq with rfl | rfl <;> simp) (fun D doc pm an cdv ct us mv ws h1 h2 h3 => by match us, mv, ws, h1, h2, h3 with | [_], [_], [_], _, _, _ => exact ⟨_, _, _, _, _, _, rfl, rfl, rfl⟩))
      · exact (fnE_B F FO 1 [("down" : Str), ("right" : Str)] [] [(true, 1), (true, 0)] [] (by intro z; cases z) (fun q hq => by cases hq) (fun H μ => by simp only [RpL, List.map]) rfl (by intro q hq; simp at hq; rcases hq with rfl | rfl <;> simp) (fun D doc pm an cdv ct us mv ws h1 h2 h3 => by match us, mv, ws, h1, h2, h3 with | [_], [], [_, _], _, _, _ => exact rfl))
  have G : GOk P w K mg base 7 ((((g0.addFn "source" m_source r_source).addFn "framed" m_framed r_framed).addFn "moved" m_moved r_moved).addFn "flipped" m_flipped r_flipped) := by
    obtain ⟨fd, F⟩ := c.def_ 3 (d := d_flipped) rfl
    have FO := (mD_ok false (by omega) F sc_flipped G0 k_flipped).mono (show 4 ≤ 7 by omega)
    exact GOk.addFn G (H.def_ (List.mem_of_getElem? (i := 3) rfl)) fun r hr => by
      unfold r_flipped at hr
      simp only [List.mem_cons, List.not_mem_nil, or_false] at hr
      rcases hr with rfl | rfl
      · exact (fnE_B F FO 1 [] [(("across" : Str), V.bl true)] [(false, 0)] [.bl true] (by intro z; cases z) (fun q hq => by simp only [List.mem_cons, List.not_mem_nil, or_false] at hq; rcases hq with rfl <;> (unfold He.DefD.kws; rw [List.mem_map]; first | exact ⟨_, .head _, rfl⟩ | exact ⟨_, .tail _ (.head _), rfl⟩ | exact ⟨_, .tail _ (.tail _ (.head _)), rfl⟩)) (fun H μ => by simp only [RpL, Rp, List.map]; exact ⟨_, _, rfl, rfl, rfl⟩) rfl (by intro q hq; simp at hq; rcases hq with rfl <;> simp) (fun D doc pm an cdv ct us mv ws h1 h2 h3 => by match us, mv, ws, h1, h2, h3 with | [_], [_], [], _, _, _ => exact ⟨_, _, _, _, _, _, rfl, rfl, rfl⟩))
      · exact (fnE_B F FO 1 [("across" : Str)] [] [(true, 0)] [] (by intro z; cases z) (fun q hq => by cases hq) (fun H μ => by simp only [RpL, List.map]) rfl (by intro q hq; simp at hq; rcases hq with rfl <;> simp) (fun D doc pm an cdv ct us mv ws h1 h2 h3 => by match us, mv, ws, h1, h2, h3 with | [_], [], [_], _, _, _ => exact rfl))
  have G : GOk P w K mg base 7 (((((g0.addFn "source" m_source r_source).addFn "framed" m_framed r_framed).addFn "moved" m_moved r_moved).addFn "flipped" m_flipped r_flipped).addFn "turned" m_turned r_turned) := by
    obtain ⟨fd, F⟩ := c.def_ 4 (d := d_turned) rfl
    have FO := (mD_ok false (by omega) F sc_turned G0 k_turned).mono (show 4 ≤ 7 by omega)
    exact GOk.addFn G (H.def_ (List.mem_of_getElem? (i := 4) rfl)) fun r hr => by
      unfold r_turned at hr
      simp only [List.mem_cons, List.not_mem_nil, or_false] at hr
      rcases hr with rfl
      · exact (fnE_A F FO fun _ _ _ _ _ _ us hl => match us, hl with | [_], _ => rfl)
  have G : GOk P w K mg base 7 ((((((g0.addFn "source" m_source r_source).addFn "framed" m_framed r_framed).addFn "moved" m_moved r_moved).addFn "flipped" m_flipped r_flipped).addFn "turned" m_turned r_turned).addFn "curved" m_curved r_curved) := by
    obtain ⟨fd, F⟩ := c.def_ 5 (d := d_curved) rfl
    have FO := (mD_ok false (by omega) F sc_curved G0 k_curved).mono (show 4 ≤ 7 by omega)
    exact GOk.addFn G (H.def_ (List.mem_of_getElem? (i := 5) rfl)) fun r hr => by
      unfold r_curved at hr
      simp only [List.mem_cons, List.not_mem_nil, or_false] at hr
      rcases hr with rfl | rfl
      · exact (fnE_B F FO 2 [] [(("depth" : Str), V.non)] [(false, 0)] [.non] (by intro z; cases z) (fun q hq => by simp only [List.mem_cons, List.not_mem_nil, or_false] at hq; rcases hq with rfl <;> (unfold He.DefD.kws; rw [List.mem_map]; first | exact ⟨_, .head _, rfl⟩ | exact ⟨_, .tail _ (.head _), rfl⟩ | exact ⟨_, .tail _ (.tail _ (.head _)), rfl⟩)) (fun H μ => by simp only [RpL, Rp, List.map]; exact ⟨_, _, rfl, rfl, rfl⟩) rfl (by intro q hq; simp at hq; rcases hq with rfl <;> simp) (fun D doc pm an cdv ct us mv ws h1 h2 h3 => by match us, mv, ws, h1, h2, h3 with | [_, _], [_], [], _, _, _ => exact ⟨_, _, _, _, _, _, rfl, rfl, rfl⟩))
      · exact (fnE_B F FO 2 [("depth" : Str)] [] [(true, 0)] [] (by intro z; cases z) (fun q hq => by cases hq) (fun H μ => by simp only [RpL, List.map]) rfl (by intro q hq; simp at hq; rcases hq with rfl <;> simp) (fun D doc pm an cdv ct us mv ws h1 h2 h3 => by match us, mv, ws, h1, h2, h3 with | [_, _], [], [_], _, _, _ => exact rfl))
  have G : GOk P w K mg base 7 (((((((g0.addFn "source" m_source r_source).addFn "framed" m_framed r_framed).addFn "moved" m_moved r_moved).addFn "flipped" m_flipped r_flipped).addFn "turned" m_turned r_turned).addFn "curved" m_curved r_curved).addFn "lifted" m_lifted r_lifted) := by
    obtain ⟨fd, F⟩ := c.def_ 6 (d := d_lifted) rfl
    have FO := (mD_ok false (by omega) F sc_lifted G0 k_lifted).mono (show 4 ≤ 7 by omega)
    exact GOk.addFn G (H.def_ (List.mem_of_getElem? (i := 6) rfl)) fun r hr => by
      unfold r_lifted at hr
      simp only [List.mem_cons, List.not_mem_nil, or_false] at hr
      rcases hr with rfl
      · exact (fnE_A F FO fun _ _ _ _ _ _ us hl => match us, hl with | [_, _], _ => rfl)
  have G : GOk P w K mg base 7 ((((((((g0.addFn "source" m_source r_source).addFn "framed" m_framed r_framed).addFn "moved" m_moved r_moved).addFn "flipped" m_flipped r_flipped).addFn "turned" m_turned r_turned).addFn "curved" m_curved r_curved).addFn "lifted" m_lifted r_lifted).addFn "unlifted" m_unlifted r_unlifted) := by
    obtain ⟨fd, F⟩ := c.def_ 7 (d := d_unlifted) rfl
    have FO := (mD_ok false (by omega) F sc_unlifted G0 k_unlifted).mono (show 4 ≤ 7 by omega)
    exact GOk.addFn G (H.def_ (List.mem_of_getElem? (i := 7) rfl)) fun r hr => by
      unfold r_unlifted at hr
      simp only [List.mem_cons, List.not_mem_nil, or_false] at hr
      rcases hr with rfl
      · exact (fnE_A F FO fun _ _ _ _ _ _ us hl => match us, hl with | [_, _], _ => rfl)
  have G : GOk P w K mg base 7 (((((((((g0.addFn "source" m_source r_source).addFn "framed" m_framed r_framed).addFn "moved" m_moved r_moved).addFn "flipped" m_flipped r_flipped).addFn "turned" m_turned r_turned).addFn "curved" m_curved r_curved).addFn "lifted" m_lifted r_lifted).addFn "unlifted" m_unlifted r_unlifted).addFn "mixed" m_mixed r_mixed) := by
    obtain ⟨fd, F⟩ := c.def_ 8 (d := d_mixed) rfl
    have FO := (mD_ok false (by omega) F sc_mixed G0 k_mixed).mono (show 4 ≤ 7 by omega)
    exact GOk.addFn G (H.def_ (List.mem_of_getElem? (i := 8) rfl)) fun r hr => by
      unfold r_mixed at hr
      simp only [List.mem_cons, List.not_mem_nil, or_false] at hr
      rcases hr with rfl | rfl | rfl | rfl
      · exact (fnE_B F FO 2 [] [(("by" : Str), V.int (1)), (("plus" : Str), V.int (0))] [(false, 0), (false, 1)] [.int (1), .int (0)] (by intro z; cases z) (fun q hq => by simp only [List.mem_cons, List.not_mem_nil, or_false] at hq; rcases hq with rfl | rfl <;> (unfold He.DefD.kws; rw [List.mem_map]; first | exact ⟨_, .head _, rfl⟩ | exact ⟨_, .tail _ (.head _), rfl⟩ | exact ⟨_, .tail _ (.tail _ (.head _)), rfl⟩)) (fun H μ => by simp only [RpL, Rp, List.map]; exact ⟨_, _, rfl, rfl, ⟨_, _, rfl, rfl, rfl⟩⟩) rfl (by intro q hq; simp at hq; rcases hq with rfl | rfl <;> simp) (fun D doc pm an cdv ct us mv ws h1 h2 h3 => by match us, mv, ws, h1, h2, h3 with | [_, _], [_, _], [], _, _, _ => exact ⟨_, _, _, _, _, _, rfl, rfl, _, _, _, _, _, _, rfl, rfl, rfl⟩))
      · exact (fnE_B F FO 2 [("by" : Str)] [(("plus" : Str), V.int (0))] [(true, 0), (false, 0)] [.int (0)] (by intro z; cases z) (fun q hq => by simp only [List.mem_cons, List.not_mem_nil, or_false] at hq; rcases hq with rfl <;> (unfold He.DefD.kws; rw [List.mem_map]; first | exact ⟨_, .head _, rfl⟩ | exact ⟨_, .tail _ (.head _), rfl⟩ | exact ⟨_, .tail _ (.tail _ (.head _)), rfl⟩)) (fun H μ => by simp only [RpL, Rp, List.map]; exact ⟨_, _, rfl, rfl, rfl⟩) rfl (by intro q hq; simp at hq; rcases hq with rfl | rfl <;> simp) (fun D doc pm an cdv ct us mv ws h1 h2 h3 => by match us, mv, ws, h1, h2, h3 with | [_, _], [_], [_], _, _, _ => exact ⟨_, _, _, _, _, _, rfl, rfl, rfl⟩))
      · exact (fnE_B F FO 2 [("plus" : Str)] [(("by" : Str), V.int (1))] [(false, 0), (true, 0)] [.int (1)] (by intro z; cases z) (fun q hq => by simp only [List.mem_cons, List.not_mem_nil, or_false] at hq; rcases hq with rfl <;> (unfold He.DefD.kws; rw [List.mem_map]; first | exact ⟨_, .head _, rfl⟩ | exact ⟨_, .tail _ (.head _), rfl⟩ | exact ⟨_, .tail _ (.tail _ (.head _)), rfl⟩)) (fun H μ => by simp only [RpL, Rp, List.map]; exact ⟨_, _, rfl, rfl, rfl⟩) rfl (by intro q hq; simp at hq; rcases hq with rfl | rfl <;> simp) (fun D doc pm an cdv ct us mv ws h1 h2 h3 => by match us, mv, ws, h1, h2, h3 with | [_, _], [_], [_], _, _, _ => exact ⟨_, _, _, _, _, _, rfl, rfl, rfl⟩))
      · exact (fnE_B F FO 2 [("plus" : Str), ("by" : Str)] [] [(true, 1), (true, 0)] [] (by intro z; cases z) (fun q hq => by cases hq) (fun H μ => by simp only [RpL, List.map]) rfl (by intro q hq; simp at hq; rcases hq with rfl | rfl <;> simp) (fun D doc pm an cdv ct us mv ws h1 h2 h3 => by match us, mv, ws, h1, h2, h3 with | [_, _], [], [_, _], _, _, _ => exact rfl))
  have G : GOk P w K mg base 7 ((((((((((g0.addFn "source" m_source r_source).addFn "framed" m_framed r_framed).addFn "moved" m_moved r_moved).addFn "flipped" m_flipped r_flipped).addFn "turned" m_turned r_turned).addFn "curved" m_curved r_curved).addFn "lifted" m_lifted r_lifted).addFn "unlifted" m_unlifted r_unlifted).addFn "mixed" m_mixed r_mixed).addFn "filtered" m_filtered r_filtered) := by
    obtain ⟨fd, F⟩ := c.def_ 9 (d := d_filtered) rfl
    have FO := (mD_ok false (by omega) F sc_filtered G0 k_filtered).mono (show 4 ≤ 7 by omega)
    exact GOk.addFn G (H.def_ (List.mem_of_getElem? (i := 9) rfl)) fun r hr => by
      unfold r_filtered at hr
      simp only [List.mem_cons, List.not_mem_nil, or_false] at hr
      rcases hr with rfl | rfl | rfl
      · exact (fnE_B F FO 2 [] [(("by" : Str), V.int (1)), (("plus" : Str), V.int (0))] [(false, 0), (false, 1)] [.int (1), .int (0)] (by intro z; cases z) (fun q hq => by simp only [List.mem_cons, List.not_mem_nil, or_false] at hq; rcases hq with rfl | rfl <;> (unfold He.DefD.kws; rw [List.mem_map]; first | exact ⟨_, .head _, rfl⟩ | exact ⟨_, .tail _ (.head _), rfl⟩ | exact ⟨_, .tail _ (.tail _ (.head _)), rfl⟩)) (fun H μ => by simp only [RpL, Rp, List.map]; exact ⟨_, _, rfl, rfl, ⟨_, _, rfl, rfl, rfl⟩⟩) rfl (by intro q hq; simp at hq; rcases hq with rfl | rfl <;> simp) (fun D doc pm an cdv ct us mv ws h1 h2 h3 => by match us, mv, ws, h1, h2, h3 with | [_, _], [_, _], [], _, _, _ => exact ⟨_, _, _, _, _, _, rfl, rfl, _, _, _, _, _, _, rfl, rfl, rfl⟩))
      · exact (fnE_B F FO 2 [("by" : Str), ("plus" : Str)] [] [(true, 0), (true, 1)] [] (by intro z; cases z) (fun q hq => by cases hq) (fun H μ => by simp only [RpL, List.map]) rfl (by intro q hq; simp at hq; rcases hq with rfl | rfl <;> simp) (fun D doc pm an cdv ct us mv ws h1 h2 h3 => by match us, mv, ws, h1, h2, h3 with | [_, _], [], [_, _], _, _, _ => exact rfl))
      · exact (fnE_B F FO 2 [("plus" : Str)] [(("by" : Str), V.int (1))] [(false, 0), (true, 0)] [.int (1)] (by intro z; cases z) (fun q hq => by simp only [List.mem_cons, List.not_mem_nil, or_false] at hq; rcases hq with rfl <;> (unfold He.DefD.kws; rw [List.mem_map]; first | exact ⟨_, .head _, rfl⟩ | exact ⟨_, .tail _ (.head _), rfl⟩ | exact ⟨_, .tail _ (.tail _ (.head _)), rfl⟩)) (fun H μ => by simp only [RpL, Rp, List.map]; exact ⟨_, _, rfl, rfl, rfl⟩) rfl (by intro q hq; simp at hq; rcases hq with rfl | rfl <;> simp) (fun D doc pm an cdv ct us mv ws h1 h2 h3 => by match us, mv, ws, h1, h2, h3 with | [_, _], [_], [_], _, _, _ => exact ⟨_, _, _, _, _, _, rfl, rfl, rfl⟩))
  have G : GOk P w K mg base 7 (((((((((((g0.addFn "source" m_source r_source).addFn "framed" m_framed r_framed).addFn "moved" m_moved r_moved).addFn "flipped" m_flipped r_flipped).addFn "turned" m_turned r_turned).addFn "curved" m_curved r_curved).addFn "lifted" m_lifted r_lifted).addFn "unlifted" m_unlifted r_unlifted).addFn "mixed" m_mixed r_mixed).addFn "filtered" m_filtered r_filtered).addFn "ranked" m_ranked r_ranked) := by
    obtain ⟨fd, F⟩ := c.def_ 10 (d := d_ranked) rfl
    have FO := (mD_ok false (by omega) F sc_ranked G0 k_ranked).mono (show 4 ≤ 7 by omega)
    exact GOk.addFn G (H.def_ (List.mem_of_getElem? (i := 10) rfl)) fun r hr => by
      unfold r_ranked at hr
      simp only [List.mem_cons, List.not_mem_nil, or_false] at hr
      rcases hr with rfl | rfl
      · exact (fnE_B F FO 2 [] [(("rank" : Str), V.int (0))] [(false, 0)] [.int (0)] (by intro z; cases z) (fun q hq => by simp only [List.mem_cons, List.not_mem_nil, or_false] at hq; rcases hq with rfl <;> (unfold He.DefD.kws; rw [List.mem_map]; first | exact ⟨_, .head _, rfl⟩ | exact ⟨_, .tail _ (.head _), rfl⟩ | exact ⟨_, .tail _ (.tail _ (.head _)), rfl⟩)) (fun H μ => by simp only [RpL, Rp, List.map]; exact ⟨_, _, rfl, rfl, rfl⟩) rfl (by intro q hq; simp at hq; rcases hq with rfl <;> simp) (fun D doc pm an cdv ct us mv ws h1 h2 h3 => by match us, mv, ws, h1, h2, h3 with | [_, _], [_], [], _, _, _ => exact ⟨_, _, _, _, _, _, rfl, rfl, rfl⟩))
      · exact (fnE_B F FO 2 [("rank" : Str)] [] [(true, 0)] [] (by intro z; cases z) (fun q hq => by cases hq) (fun H μ => by simp only [RpL, List.map]) rfl (by intro q hq; simp at hq; rcases hq with rfl <;> simp) (fun D doc pm an cdv ct us mv ws h1 h2 h3 => by match us, mv, ws, h1, h2, h3 with | [_, _], [], [_], _, _, _ => exact rfl))
  have G : GOk P w K mg base 7 ((((((((((((g0.addFn "source" m_source r_source).addFn "framed" m_framed r_framed).addFn "moved" m_moved r_moved).addFn "flipped" m_flipped r_flipped).addFn "turned" m_turned r_turned).addFn "curved" m_curved r_curved).addFn "lifted" m_lifted r_lifted).addFn "unlifted" m_unlifted r_unlifted).addFn "mixed" m_mixed r_mixed).addFn "filtered" m_filtered r_filtered).addFn "ranked" m_ranked r_ranked).addFn "reduced" m_reduced r_reduced) := by
    obtain ⟨fd, F⟩ := c.def_ 11 (d := d_reduced) rfl
    have FO := (mD_ok false (by omega) F sc_reduced G0 k_reduced).mono (show 4 ≤ 7 by omega)
    exact GOk.addFn G (H.def_ (List.mem_of_getElem? (i := 11) rfl)) fun r hr => by
      unfold r_reduced at hr
      simp only [List.mem_cons, List.not_mem_nil, or_false] at hr
      rcases hr with rfl | rfl | rfl
      · exact (fnE_B F FO 1 [] [(("wide" : Str), V.int (2)), (("high" : Str), V.int (2))] [(false, 0), (false, 1)] [.int (2), .int (2)] (by intro z; cases z) (fun q hq => by simp only [List.mem_cons, List.not_mem_nil, or_false] at hq; rcases hq with rfl | rfl <;> (unfold He.DefD.kws; rw [List.mem_map]; first | exact ⟨_, .head _, rfl⟩ | exact ⟨_, .tail _ (.head _), rfl⟩ | exact ⟨_, .tail _ (.tail _ (.head _)), rfl⟩)) (fun H μ => by simp only [RpL, Rp, List.map]; exact ⟨_, _, rfl, rfl, ⟨_, _, rfl, rfl, rfl⟩⟩) rfl (by intro q hq; simp at hq; rcases hq with rfl | rfl <;> simp) (fun D doc pm an cdv ct us mv ws h1 h2 h3 => by match us, mv, ws, h1, h2, h3 with | [_], [_, _], [], _, _, _ => exact ⟨_, _, _, _, _, _, rfl, rfl, _, _, _, _, _, _, rfl, rfl, rfl⟩))
      · exact (fnE_B F FO 1 [("high" : Str)] [(("wide" : Str), V.int (2))] [(false, 0), (true, 0)] [.int (2)] (by intro z; cases z) (fun q hq => by simp only [List.mem_cons, List.not_mem_nil, or_false] at hq; rcases hq with rfl <;> (unfold He.DefD.kws; rw [List.mem_map]; first | exact ⟨_, .head _, rfl⟩ | exact ⟨_, .tail _ (.head _), rfl⟩ | exact ⟨_, .tail _ (.tail _ (.head _)), rfl⟩)) (fun H μ => by simp only [RpL, Rp, List.map]; exact ⟨_, _, rfl, rfl, rfl⟩) rfl (by intro q hq; simp at hq; rcases hq with rfl | rfl <;> simp) (fun D doc pm an cdv ct us mv ws h1 h2 h3 => by match us, mv, ws, h1, h2, h3 with | [_], [_], [_], _, _, _ => exact ⟨_, _, _, _, _, _, rfl, rfl, rfl⟩))
      · exact (fnE_B F FO 1 [("high" : Str), ("wide" : Str)] [] [(true, 1), (true, 0)] [] (by intro z; cases z) (fun q hq => by cases hq) (fun H μ => by simp only [RpL, List.map]) rfl (by intro q hq; simp at hq; rcases hq with rfl | rfl <;> simp) (fun D doc pm an cdv ct us mv ws h1 h2 h3 => by match us, mv, ws, h1, h2, h3 with | [_], [], [_, _], _, _, _ => exact rfl))
  have G : GOk P w K mg base 7 (((((((((((((g0.addFn "source" m_source r_source).addFn "framed" m_framed r_framed).addFn "moved" m_moved r_moved).addFn "flipped" m_flipped r_flipped).addFn "turned" m_turned r_turned).addFn "curved" m_curved r_curved).addFn "lifted" m_lifted r_lifted).addFn "unlifted" m_unlifted r_unlifted).addFn "mixed" m_mixed r_mixed).addFn "filtered" m_filtered r_filtered).addFn "ranked" m_ranked r_ranked).addFn "reduced" m_reduced r_reduced).addFn "enlarged" m_enlarged r_enlarged) := by
    obtain ⟨fd, F⟩ := c.def_ 12 (d := d_enlarged) rfl
    have FO := (mD_ok false (by omega) F sc_enlarged G0 k_enlarged).mono (show 4 ≤ 7 by omega)
    exact GOk.addFn G (H.def_ (List.mem_of_getElem? (i := 12) rfl)) fun r hr => by
      unfold r_enlarged at hr
      simp only [List.mem_cons, List.not_mem_nil, or_false] at hr
      rcases hr with rfl | rfl | rfl
      · exact (fnE_B F FO 1 [] [(("wide" : Str), V.int (2)), (("high" : Str), V.int (2))] [(false, 0), (false, 1)] [.int (2), .int (2)] (by intro z; cases z) (fun q hq => by simp only [List.mem_cons, List.not_mem_nil, or_false] at hq; rcases hq with rfl | rfl <;> (unfold He.DefD.kws; rw [List.mem_map]; first | exact ⟨_, .head _, rfl⟩ | exact ⟨_, .tail _ (.head _), rfl⟩ | exact ⟨_, .tail _ (.tail _ (.head _)), rfl⟩)) (fun H μ => by simp only [RpL, Rp, List.map]; exact ⟨_, _, rfl, rfl, ⟨_, _, rfl, rfl, rfl⟩⟩) rfl (by intro q hq; simp at hq; rcases hq with rfl | rfl <;> simp) (fun D doc pm an cdv ct us mv ws h1 h2 h3 => by match us, mv, ws, h1, h2, h3 with | [_], [_, _], [], _, _, _ => exact ⟨_, _, _, _, _, _, rfl, rfl, _, _, _, _, _, _, rfl, rfl, rfl⟩))
      · exact (fnE_B F FO 1 [("wide" : Str)] [(("high" : Str), V.int (2))] [(true, 0), (false, 0)] [.int (2)] (by intro z; cases z) (fun q hq => by simp only [List.mem_cons, List.not_mem_nil, or_false] at hq; rcases hq with rfl <;> (unfold He.DefD.kws; rw [List.mem_map]; first | exact ⟨_, .head _, rfl⟩ | exact ⟨_, .tail _ (.head _), rfl⟩ | exact ⟨_, .tail _ (.tail _ (.head _)), rfl⟩)) (fun H μ => by simp only [RpL, Rp, List.map]; exact ⟨_, _, rfl, rfl, rfl⟩) rfl (by intro q hq; simp at hq; rcases hq with rfl | rfl <;> simp) (fun D doc pm an cdv ct us mv ws h1 h2 h3 => by match us, mv, ws, h1, h2, h3 with | [_], [_], [_], _, _, _ => exact ⟨_, _, _, _, _, _, rfl, rfl, rfl⟩))
      · exact (fnE_B F FO 1 [("high" : Str), ("wide" : Str)] [] [(true, 1), (true, 0)] [] (by intro z; cases z) (fun q hq => by cases hq) (fun H μ => by simp only [RpL, List.map]) rfl (by intro q hq; simp at hq; rcases hq with rfl | rfl <;> simp) (fun D doc pm an cdv ct us mv ws h1 h2 h3 => by match us, mv, ws, h1, h2, h3 with | [_], [], [_, _], _, _, _ => exact rfl))
  have G : GOk P w K mg base 7 ((((((((((((((g0.addFn "source" m_source r_source).addFn "framed" m_framed r_framed).addFn "moved" m_moved r_moved).addFn "flipped" m_flipped r_flipped).addFn "turned" m_turned r_turned).addFn "curved" m_curved r_curved).addFn "lifted" m_lifted r_lifted).addFn "unlifted" m_unlifted r_unlifted).addFn "mixed" m_mixed r_mixed).addFn "filtered" m_filtered r_filtered).addFn "ranked" m_ranked r_ranked).addFn "reduced" m_reduced r_reduced).addFn "enlarged" m_enlarged r_enlarged).addFn "near_band" m_near_band r_near_band) := by
    obtain ⟨fd, F⟩ := c.def_ 13 (d := d_near_band) rfl
    have FO := (mD_ok false (by omega) F sc_near_band G0 k_near_band).mono (show 4 ≤ 7 by omega)
    exact GOk.addFn G (H.def_ (List.mem_of_getElem? (i := 13) rfl)) fun r hr => by
      unfold r_near_band at hr
      simp only [List.mem_cons, List.not_mem_nil, or_false] at hr
      rcases hr with rfl | rfl
      · exact (fnE_B F FO 1 [] [(("across" : Str), V.bl true)] [(false, 0)] [.bl true] (by intro z; cases z) (fun q hq => by simp only [List.mem_cons, List.not_mem_nil, or_false] at hq; rcases hq with rfl <;> (unfold He.DefD.kws; rw [List.mem_map]; first | exact ⟨_, .head _, rfl⟩ | exact ⟨_, .tail _ (.head _), rfl⟩ | exact ⟨_, .tail _ (.tail _ (.head _)), rfl⟩)) (fun H μ => by simp only [RpL, Rp, List.map]; exact ⟨_, _, rfl, rfl, rfl⟩) rfl (by intro q hq; simp at hq; rcases hq with rfl <;> simp) (fun D doc pm an cdv ct us mv ws h1 h2 h3 => by match us, mv, ws, h1, h2, h3 with | [_], [_], [], _, _, _ => exact ⟨_, _, _, _, _, _, rfl, rfl, rfl⟩))
      · exact (fnE_B F FO 1 [("across" : Str)] [] [(true, 0)] [] (by intro z; cases z) (fun q hq => by cases hq) (fun H μ => by simp only [RpL, List.map]) rfl (by intro q hq; simp at hq; rcases hq with rfl <;> simp) (fun D doc pm an cdv ct us mv ws h1 h2 h3 => by match us, mv, ws, h1, h2, h3 with | [_], [], [_], _, _, _ => exact rfl))
  have G : GOk P w K mg base 7 (((((((((((((((g0.addFn "source" m_source r_source).addFn "framed" m_framed r_framed).addFn "moved" m_moved r_moved).addFn "flipped" m_flipped r_flipped).addFn "turned" m_turned r_turned).addFn "curved" m_curved r_curved).addFn "lifted" m_lifted r_lifted).addFn "unlifted" m_unlifted r_unlifted).addFn "mixed" m_mixed r_mixed).addFn "filtered" m_filtered r_filtered).addFn "ranked" m_ranked r_ranked).addFn "reduced" m_reduced r_reduced).addFn "enlarged" m_enlarged r_enlarged).addFn "near_band" m_near_band r_near_band).addFn "far_band" m_far_band r_far_band) := by
    obtain ⟨fd, F⟩ := c.def_ 14 (d := d_far_band) rfl
    have FO := (mD_ok false (by omega) F sc_far_band G0 k_far_band).mono (show 4 ≤ 7 by omega)
    exact GOk.addFn G (H.def_ (List.mem_of_getElem? (i := 14) rfl)) fun r hr => by
      unfold r_far_band at hr
      simp only [List.mem_cons, List.not_mem_nil, or_false] at hr
      rcases hr with rfl | rfl
      · exact (fnE_B F FO 1 [] [(("across" : Str), V.bl true)] [(false, 0)] [.bl true] (by intro z; cases z) (fun q hq => by simp only [List.mem_cons, List.not_mem_nil, or_false] at hq; rcases hq with rfl <;> (unfold He.DefD.kws; rw [List.mem_map]; first | exact ⟨_, .head _, rfl⟩ | exact ⟨_, .tail _ (.head _), rfl⟩ | exact ⟨_, .tail _ (.tail _ (.head _)), rfl⟩)) (fun H μ => by simp only [RpL, Rp, List.map]; exact ⟨_, _, rfl, rfl, rfl⟩) rfl (by intro q hq; simp at hq; rcases hq with rfl <;> simp) (fun D doc pm an cdv ct us mv ws h1 h2 h3 => by match us, mv, ws, h1, h2, h3 with | [_], [_], [], _, _, _ => exact ⟨_, _, _, _, _, _, rfl, rfl, rfl⟩))
      · exact (fnE_B F FO 1 [("across" : Str)] [] [(true, 0)] [] (by intro z; cases z) (fun q hq => by cases hq) (fun H μ => by simp only [RpL, List.map]) rfl (by intro q hq; simp at hq; rcases hq with rfl <;> simp) (fun D doc pm an cdv ct us mv ws h1 h2 h3 => by match us, mv, ws, h1, h2, h3 with | [_], [], [_], _, _, _ => exact rfl))
  have G : GOk P w K mg base 7 ((((((((((((((((g0.addFn "source" m_source r_source).addFn "framed" m_framed r_framed).addFn "moved" m_moved r_moved).addFn "flipped" m_flipped r_flipped).addFn "turned" m_turned r_turned).addFn "curved" m_curved r_curved).addFn "lifted" m_lifted r_lifted).addFn "unlifted" m_unlifted r_unlifted).addFn "mixed" m_mixed r_mixed).addFn "filtered" m_filtered r_filtered).addFn "ranked" m_ranked r_ranked).addFn "reduced" m_reduced r_reduced).addFn "enlarged" m_enlarged r_enlarged).addFn "near_band" m_near_band r_near_band).addFn "far_band" m_far_band r_far_band).addFn "paired" m_paired r_paired) := by
    obtain ⟨fd, F⟩ := c.def_ 15 (d := d_paired) rfl
    have FO := (mD_ok false (by omega) F sc_paired G0 k_paired).mono (show 4 ≤ 7 by omega)
    exact GOk.addFn G (H.def_ (List.mem_of_getElem? (i := 15) rfl)) fun r hr => by
      unfold r_paired at hr
      simp only [List.mem_cons, List.not_mem_nil, or_false] at hr
      rcases hr with rfl | rfl
      · exact (fnE_B F FO 2 [] [(("across" : Str), V.bl true)] [(false, 0)] [.bl true] (by intro z; cases z) (fun q hq => by simp only [List.mem_cons, List.not_mem_nil, or_false] at hq; rcases hq with rfl <;> (unfold He.DefD.kws; rw [List.mem_map]; first | exact ⟨_, .head _, rfl⟩ | exact ⟨_, .tail _ (.head _), rfl⟩ | exact ⟨_, .tail _ (.tail _ (.head _)), rfl⟩)) (fun H μ => by simp only [RpL, Rp, List.map]; exact ⟨_, _, rfl, rfl, rfl⟩) rfl (by intro q hq; simp at hq; rcases hq with rfl <;> simp) (fun D doc pm an cdv ct us mv ws h1 h2 h3 => by match us, mv, ws, h1, h2, h3 with | [_, _], [_], [], _, _, _ => exact ⟨_, _, _, _, _, _, rfl, rfl, rfl⟩))
      · exact (fnE_B F FO 2 [("across" : Str)] [] [(true, 0)] [] (by intro z; cases z) (fun q hq => by cases hq) (fun H μ => by simp only [RpL, List.map]) rfl (by intro q hq; simp at hq; rcases hq with rfl <;> simp) (fun D doc pm an cdv ct us mv ws h1 h2 h3 => by match us, mv, ws, h1, h2, h3 with | [_, _], [], [_], _, _, _ => exact rfl))
  have G : GOk P w K mg base 7 (((((((((((((((((g0.addFn "source" m_source r_source).addFn "framed" m_framed r_framed).addFn "moved" m_moved r_moved).addFn "flipped" m_flipped r_flipped).addFn "turned" m_turned r_turned).addFn "curved" m_curved r_curved).addFn "lifted" m_lifted r_lifted).addFn "unlifted" m_unlifted r_unlifted).addFn "mixed" m_mixed r_mixed).addFn "filtered" m_filtered r_filtered).addFn "ranked" m_ranked r_ranked).addFn "reduced" m_reduced r_reduced).addFn "enlarged" m_enlarged r_enlarged).addFn "near_band" m_near_band r_near_band).addFn "far_band" m_far_band r_far_band).addFn "paired" m_paired r_paired).addFn "summed" m_summed r_summed) := by
    obtain ⟨fd, F⟩ := c.def_ 16 (d := d_summed) rfl
    have FO := (mD_ok false (by omega) F sc_summed G0 k_summed).mono (show 4 ≤ 7 by omega)
    exact GOk.addFn G (H.def_ (List.mem_of_getElem? (i := 16) rfl)) fun r hr => by
      unfold r_summed at hr
      simp only [List.mem_cons, List.not_mem_nil, or_false] at hr
      rcases hr with rfl
      · exact (fnE_A F FO fun _ _ _ _ _ _ us hl => match us, hl with | [_, _], _ => rfl)
  have G : GOk P w K mg base 7 ((((((((((((((((((g0.addFn "source" m_source r_source).addFn "framed" m_framed r_framed).addFn "moved" m_moved r_moved).addFn "flipped" m_flipped r_flipped).addFn "turned" m_turned r_turned).addFn "curved" m_curved r_curved).addFn "lifted" m_lifted r_lifted).addFn "unlifted" m_unlifted r_unlifted).addFn "mixed" m_mixed r_mixed).addFn "filtered" m_filtered r_filtered).addFn "ranked" m_ranked r_ranked).addFn "reduced" m_reduced r_reduced).addFn "enlarged" m_enlarged r_enlarged).addFn "near_band" m_near_band r_near_band).addFn "far_band" m_far_band r_far_band).addFn "paired" m_paired r_paired).addFn "summed" m_summed r_summed).addFn "unsummed" m_unsummed r_unsummed) := by
    obtain ⟨fd, F⟩ := c.def_ 17 (d := d_unsummed) rfl
    have FO := (mD_ok false (by omega) F sc_unsummed G0 k_unsummed).mono (show 4 ≤ 7 by omega)
    exact GOk.addFn G (H.def_ (List.mem_of_getElem? (i := 17) rfl)) fun r hr => by
      unfold r_unsummed at hr
      simp only [List.mem_cons, List.not_mem_nil, or_false] at hr
      rcases hr with rfl
      · exact (fnE_A F FO fun _ _ _ _ _ _ us hl => match us, hl with | [_], _ => rfl)
  have G : GOk P w K mg base 7 (((((((((((((((((((g0.addFn "source" m_source r_source).addFn "framed" m_framed r_framed).addFn "moved" m_moved r_moved).addFn "flipped" m_flipped r_flipped).addFn "turned" m_turned r_turned).addFn "curved" m_curved r_curved).addFn "lifted" m_lifted r_lifted).addFn "unlifted" m_unlifted r_unlifted).addFn "mixed" m_mixed r_mixed).addFn "filtered" m_filtered r_filtered).addFn "ranked" m_ranked r_ranked).addFn "reduced" m_reduced r_reduced).addFn "enlarged" m_enlarged r_enlarged).addFn "near_band" m_near_band r_near_band).addFn "far_band" m_far_band r_far_band).addFn "paired" m_paired r_paired).addFn "summed" m_summed r_summed).addFn "unsummed" m_unsummed r_unsummed).addFn "levelled" m_levelled r_levelled) := by
    obtain ⟨fd, F⟩ := c.def_ 18 (d := d_levelled) rfl
    have FO := (mD_ok false (by omega) F sc_levelled G0 k_levelled).mono (show 4 ≤ 7 by omega)
    exact GOk.addFn G (H.def_ (List.mem_of_getElem? (i := 18) rfl)) fun r hr => by
      unfold r_levelled at hr
      simp only [List.mem_cons, List.not_mem_nil, or_false] at hr
      rcases hr with rfl
      · exact (fnE_A F FO fun _ _ _ _ _ _ us hl => match us, hl with | [_, _], _ => rfl)
  have G : GOk P w K mg base 7 ((((((((((((((((((((g0.addFn "source" m_source r_source).addFn "framed" m_framed r_framed).addFn "moved" m_moved r_moved).addFn "flipped" m_flipped r_flipped).addFn "turned" m_turned r_turned).addFn "curved" m_curved r_curved).addFn "lifted" m_lifted r_lifted).addFn "unlifted" m_unlifted r_unlifted).addFn "mixed" m_mixed r_mixed).addFn "filtered" m_filtered r_filtered).addFn "ranked" m_ranked r_ranked).addFn "reduced" m_reduced r_reduced).addFn "enlarged" m_enlarged r_enlarged).addFn "near_band" m_near_band r_near_band).addFn "far_band" m_far_band r_far_band).addFn "paired" m_paired r_paired).addFn "summed" m_summed r_summed).addFn "unsummed" m_unsummed r_unsummed).addFn "levelled" m_levelled r_levelled).addFn "met" m_met r_met) := by
    obtain ⟨fd, F⟩ := c.def_ 19 (d := d_met) rfl
    have FO := (mD_ok false (by omega) F sc_met G0 k_met).mono (show 4 ≤ 7 by omega)
    exact GOk.addFn G (H.def_ (List.mem_of_getElem? (i := 19) rfl)) fun r hr => by
      unfold r_met at hr
      simp only [List.mem_cons, List.not_mem_nil, or_false] at hr
      rcases hr with rfl | rfl
      · exact (fnE_B F FO 2 [] [(("how" : Str), V.str "least")] [(false, 0)] [.str "least"] (by intro z; cases z) (fun q hq => by simp only [List.mem_cons, List.not_mem_nil, or_false] at hq; rcases hq with rfl <;> (unfold He.DefD.kws; rw [List.mem_map]; first | exact ⟨_, .head _, rfl⟩ | exact ⟨_, .tail _ (.head _), rfl⟩ | exact ⟨_, .tail _ (.tail _ (.head _)), rfl⟩)) (fun H μ => by simp only [RpL, Rp, List.map]; exact ⟨_, _, rfl, rfl, rfl⟩) rfl (by intro q hq; simp at hq; rcases hq with rfl <;> simp) (fun D doc pm an cdv ct us mv ws h1 h2 h3 => by match us, mv, ws, h1, h2, h3 with | [_, _], [_], [], _, _, _ => exact ⟨_, _, _, _, _, _, rfl, rfl, rfl⟩))
      · exact (fnE_B F FO 2 [("how" : Str)] [] [(true, 0)] [] (by intro z; cases z) (fun q hq => by cases hq) (fun H μ => by simp only [RpL, List.map]) rfl (by intro q hq; simp at hq; rcases hq with rfl <;> simp) (fun D doc pm an cdv ct us mv ws h1 h2 h3 => by match us, mv, ws, h1, h2, h3 with | [_, _], [], [_], _, _, _ => exact rfl))
  have G : GOk P w K mg base 7 (((((((((((((((((((((g0.addFn "source" m_source r_source).addFn "framed" m_framed r_framed).addFn "moved" m_moved r_moved).addFn "flipped" m_flipped r_flipped).addFn "turned" m_turned r_turned).addFn "curved" m_curved r_curved).addFn "lifted" m_lifted r_lifted).addFn "unlifted" m_unlifted r_unlifted).addFn "mixed" m_mixed r_mixed).addFn "filtered" m_filtered r_filtered).addFn "ranked" m_ranked r_ranked).addFn "reduced" m_reduced r_reduced).addFn "enlarged" m_enlarged r_enlarged).addFn "near_band" m_near_band r_near_band).addFn "far_band" m_far_band r_far_band).addFn "paired" m_paired r_paired).addFn "summed" m_summed r_summed).addFn "unsummed" m_unsummed r_unsummed).addFn "levelled" m_levelled r_levelled).addFn "met" m_met r_met).addFn "chosen" m_chosen r_chosen) := by
    obtain ⟨fd, F⟩ := c.def_ 20 (d := d_chosen) rfl
    have FO := (mD_ok false (by omega) F sc_chosen G0 k_chosen).mono (show 4 ≤ 7 by omega)
    exact GOk.addFn G (H.def_ (List.mem_of_getElem? (i := 20) rfl)) fun r hr => by
      unfold r_chosen at hr
      simp only [List.mem_cons, List.not_mem_nil, or_false] at hr
      rcases hr with rfl
      · exact (fnE_A F FO fun _ _ _ _ _ _ us hl => match us, hl with | [_, _, _], _ => rfl)
  have G : GOk P w K mg base 7 ((((((((((((((((((((((g0.addFn "source" m_source r_source).addFn "framed" m_framed r_framed).addFn "moved" m_moved r_moved).addFn "flipped" m_flipped r_flipped).addFn "turned" m_turned r_turned).addFn "curved" m_curved r_curved).addFn "lifted" m_lifted r_lifted).addFn "unlifted" m_unlifted r_unlifted).addFn "mixed" m_mixed r_mixed).addFn "filtered" m_filtered r_filtered).addFn "ranked" m_ranked r_ranked).addFn "reduced" m_reduced r_reduced).addFn "enlarged" m_enlarged r_enlarged).addFn "near_band" m_near_band r_near_band).addFn "far_band" m_far_band r_far_band).addFn "paired" m_paired r_paired).addFn "summed" m_summed r_summed).addFn "unsummed" m_unsummed r_unsummed).addFn "levelled" m_levelled r_levelled).addFn "met" m_met r_met).addFn "chosen" m_chosen r_chosen).addFn "own" m_own r_own) := by
    obtain ⟨fd, F⟩ := c.def_ 21 (d := d_own) rfl
    have FO := (mD_ok false (by omega) F sc_own G0 k_own).mono (show 4 ≤ 7 by omega)
    exact GOk.addFn G (H.def_ (List.mem_of_getElem? (i := 21) rfl)) fun r hr => by
      unfold r_own at hr
      simp only [List.mem_cons, List.not_mem_nil, or_false] at hr
      rcases hr with rfl
      · exact (fnE_A F FO fun _ _ _ _ _ _ us hl => match us, hl with | [_, _], _ => rfl)
  have G : GOk P w K mg base 7 (((((((((((((((((((((((g0.addFn "source" m_source r_source).addFn "framed" m_framed r_framed).addFn "moved" m_moved r_moved).addFn "flipped" m_flipped r_flipped).addFn "turned" m_turned r_turned).addFn "curved" m_curved r_curved).addFn "lifted" m_lifted r_lifted).addFn "unlifted" m_unlifted r_unlifted).addFn "mixed" m_mixed r_mixed).addFn "filtered" m_filtered r_filtered).addFn "ranked" m_ranked r_ranked).addFn "reduced" m_reduced r_reduced).addFn "enlarged" m_enlarged r_enlarged).addFn "near_band" m_near_band r_near_band).addFn "far_band" m_far_band r_far_band).addFn "paired" m_paired r_paired).addFn "summed" m_summed r_summed).addFn "unsummed" m_unsummed r_unsummed).addFn "levelled" m_levelled r_levelled).addFn "met" m_met r_met).addFn "chosen" m_chosen r_chosen).addFn "own" m_own r_own).addFn "is_whole" m_is_whole r_is_whole) := by
    obtain ⟨fd, F⟩ := c.def_ 22 (d := d_is_whole) rfl
    have FO := (mD_ok false (by omega) F sc_is_whole G0 k_is_whole).mono (show 4 ≤ 7 by omega)
    exact GOk.addFn G (H.def_ (List.mem_of_getElem? (i := 22) rfl)) fun r hr => by
      unfold r_is_whole at hr
      simp only [List.mem_cons, List.not_mem_nil, or_false] at hr
      rcases hr with rfl
      · exact (fnE_A F FO fun _ _ _ _ _ _ us hl => match us, hl with | [_], _ => rfl)
  have G : GOk P w K mg base 7 ((((((((((((((((((((((((g0.addFn "source" m_source r_source).addFn "framed" m_framed r_framed).addFn "moved" m_moved r_moved).addFn "flipped" m_flipped r_flipped).addFn "turned" m_turned r_turned).addFn "curved" m_curved r_curved).addFn "lifted" m_lifted r_lifted).addFn "unlifted" m_unlifted r_unlifted).addFn "mixed" m_mixed r_mixed).addFn "filtered" m_filtered r_filtered).addFn "ranked" m_ranked r_ranked).addFn "reduced" m_reduced r_reduced).addFn "enlarged" m_enlarged r_enlarged).addFn "near_band" m_near_band r_near_band).addFn "far_band" m_far_band r_far_band).addFn "paired" m_paired r_paired).addFn "summed" m_summed r_summed).addFn "unsummed" m_unsummed r_unsummed).addFn "levelled" m_levelled r_levelled).addFn "met" m_met r_met).addFn "chosen" m_chosen r_chosen).addFn "own" m_own r_own).addFn "is_whole" m_is_whole r_is_whole).addFn "lies_in" m_lies_in r_lies_in) := by
    obtain ⟨fd, F⟩ := c.def_ 26 (d := d_lies_in) rfl
    have FO := (mD_ok false (by omega) F sc_lies_in G0 k_lies_in).mono (show 4 ≤ 7 by omega)
    exact GOk.addFn G (H.def_ (List.mem_of_getElem? (i := 26) rfl)) fun r hr => by
      unfold r_lies_in at hr
      simp only [List.mem_cons, List.not_mem_nil, or_false] at hr
      rcases hr with rfl
      · exact (fnE_A F FO fun _ _ _ _ _ _ us hl => match us, hl with | [_, _, _], _ => rfl)
  have G : GOk P w K mg base 7 (((((((((((((((((((((((((g0.addFn "source" m_source r_source).addFn "framed" m_framed r_framed).addFn "moved" m_moved r_moved).addFn "flipped" m_flipped r_flipped).addFn "turned" m_turned r_turned).addFn "curved" m_curved r_curved).addFn "lifted" m_lifted r_lifted).addFn "unlifted" m_unlifted r_unlifted).addFn "mixed" m_mixed r_mixed).addFn "filtered" m_filtered r_filtered).addFn "ranked" m_ranked r_ranked).addFn "reduced" m_reduced r_reduced).addFn "enlarged" m_enlarged r_enlarged).addFn "near_band" m_near_band r_near_band).addFn "far_band" m_far_band r_far_band).addFn "paired" m_paired r_paired).addFn "summed" m_summed r_summed).addFn "unsummed" m_unsummed r_unsummed).addFn "levelled" m_levelled r_levelled).addFn "met" m_met r_met).addFn "chosen" m_chosen r_chosen).addFn "own" m_own r_own).addFn "is_whole" m_is_whole r_is_whole).addFn "lies_in" m_lies_in r_lies_in).addMe "Picture" "__eq__" m_Picture_eq r_Picture_eq true) := by
    obtain ⟨fd, F⟩ := c.def_ 31 (d := d_Picture_eq) rfl
    have FO := mD_ok false (by omega) F sc_Picture_eq G0 k_Picture_eq
    exact GOk.addMe (j := 4) G (H.cls (List.mem_of_getElem? (i := 0) rfl)) (H.meth (List.mem_of_getElem? (i := 2) rfl)) (fun r hr => by
      unfold r_Picture_eq at hr
      simp only [List.mem_cons, List.not_mem_nil, or_false] at hr
      rcases hr with rfl
      · exact (fnE_A F FO fun _ _ _ _ _ _ us hl => match us, hl with | [_, _], _ => rfl)
      ) (by omega) (fun _ => ⟨(H.neq (List.mem_of_getElem? (i := 0) rfl)).1, (H.neq (List.mem_of_getElem? (i := 0) rfl)).2, fun r hr => by unfold r_Picture_eq at hr; simp only [List.mem_cons, List.not_mem_nil, or_false] at hr; rcases hr with rfl; rfl⟩)
  have G : GOk P w K mg base 7 ((((((((((((((((((((((((((g0.addFn "source" m_source r_source).addFn "framed" m_framed r_framed).addFn "moved" m_moved r_moved).addFn "flipped" m_flipped r_flipped).addFn "turned" m_turned r_turned).addFn "curved" m_curved r_curved).addFn "lifted" m_lifted r_lifted).addFn "unlifted" m_unlifted r_unlifted).addFn "mixed" m_mixed r_mixed).addFn "filtered" m_filtered r_filtered).addFn "ranked" m_ranked r_ranked).addFn "reduced" m_reduced r_reduced).addFn "enlarged" m_enlarged r_enlarged).addFn "near_band" m_near_band r_near_band).addFn "far_band" m_far_band r_far_band).addFn "paired" m_paired r_paired).addFn "summed" m_summed r_summed).addFn "unsummed" m_unsummed r_unsummed).addFn "levelled" m_levelled r_levelled).addFn "met" m_met r_met).addFn "chosen" m_chosen r_chosen).addFn "own" m_own r_own).addFn "is_whole" m_is_whole r_is_whole).addFn "lies_in" m_lies_in r_lies_in).addMe "Picture" "__eq__" m_Picture_eq r_Picture_eq true).addMe "Picture" "__len__" m_Picture_len r_Picture_len true) := by
    obtain ⟨fd, F⟩ := c.def_ 32 (d := d_Picture_len) rfl
    have FO := mD_ok false (by omega) F sc_Picture_len G0 k_Picture_len
    exact GOk.addMe (j := 4) G (H.cls (List.mem_of_getElem? (i := 0) rfl)) (H.meth (List.mem_of_getElem? (i := 3) rfl)) (fun r hr => by
      unfold r_Picture_len at hr
      simp only [List.mem_cons, List.not_mem_nil, or_false] at hr
      rcases hr with rfl
      · exact (fnE_A F FO fun _ _ _ _ _ _ us hl => match us, hl with | [_], _ => rfl)
      ) (by omega) (fun _ => ⟨(H.neq (List.mem_of_getElem? (i := 0) rfl)).1, (H.neq (List.mem_of_getElem? (i := 0) rfl)).2, fun r hr => by unfold r_Picture_len at hr; simp only [List.mem_cons, List.not_mem_nil, or_false] at hr; rcases hr with rfl; rfl⟩)
  have G : GOk P w K mg base 7 (((((((((((((((((((((((((((g0.addFn "source" m_source r_source).addFn "framed" m_framed r_framed).addFn "moved" m_moved r_moved).addFn "flipped" m_flipped r_flipped).addFn "turned" m_turned r_turned).addFn "curved" m_curved r_curved).addFn "lifted" m_lifted r_lifted).addFn "unlifted" m_unlifted r_unlifted).addFn "mixed" m_mixed r_mixed).addFn "filtered" m_filtered r_filtered).addFn "ranked" m_ranked r_ranked).addFn "reduced" m_reduced r_reduced).addFn "enlarged" m_enlarged r_enlarged).addFn "near_band" m_near_band r_near_band).addFn "far_band" m_far_band r_far_band).addFn "paired" m_paired r_paired).addFn "summed" m_summed r_summed).addFn "unsummed" m_unsummed r_unsummed).addFn "levelled" m_levelled r_levelled).addFn "met" m_met r_met).addFn "chosen" m_chosen r_chosen).addFn "own" m_own r_own).addFn "is_whole" m_is_whole r_is_whole).addFn "lies_in" m_lies_in r_lies_in).addMe "Picture" "__eq__" m_Picture_eq r_Picture_eq true).addMe "Picture" "__len__" m_Picture_len r_Picture_len true).addMe "Picture" "__str__" m_Picture_str r_Picture_str true) := by
    obtain ⟨fd, F⟩ := c.def_ 33 (d := d_Picture_str) rfl
    have FO := mD_ok false (by omega) F sc_Picture_str G0 k_Picture_str
    exact GOk.addMe (j := 4) G (H.cls (List.mem_of_getElem? (i := 0) rfl)) (H.meth (List.mem_of_getElem? (i := 4) rfl)) (fun r hr => by
      unfold r_Picture_str at hr
      simp only [List.mem_cons, List.not_mem_nil, or_false] at hr
      rcases hr with rfl
      · exact (fnE_A F FO fun _ _ _ _ _ _ us hl => match us, hl with | [_], _ => rfl)
      ) (by omega) (fun _ => ⟨(H.neq (List.mem_of_getElem? (i := 0) rfl)).1, (H.neq (List.mem_of_getElem? (i := 0) rfl)).2, fun r hr => by unfold r_Picture_str at hr; simp only [List.mem_cons, List.not_mem_nil, or_false] at hr; rcases hr with rfl; rfl⟩)
  have G : GOk P w K mg base 7 ((((((((((((((((((((((((((((g0.addFn "source" m_source r_source).addFn "framed" m_framed r_framed).addFn "moved" m_moved r_moved).addFn "flipped" m_flipped r_flipped).addFn "turned" m_turned r_turned).addFn "curved" m_curved r_curved).addFn "lifted" m_lifted r_lifted).addFn "unlifted" m_unlifted r_unlifted).addFn "mixed" m_mixed r_mixed).addFn "filtered" m_filtered r_filtered).addFn "ranked" m_ranked r_ranked).addFn "reduced" m_reduced r_reduced).addFn "enlarged" m_enlarged r_enlarged).addFn "near_band" m_near_band r_near_band).addFn "far_band" m_far_band r_far_band).addFn "paired" m_paired r_paired).addFn "summed" m_summed r_summed).addFn "unsummed" m_unsummed r_unsummed).addFn "levelled" m_levelled r_levelled).addFn "met" m_met r_met).addFn "chosen" m_chosen r_chosen).addFn "own" m_own r_own).addFn "is_whole" m_is_whole r_is_whole).addFn "lies_in" m_lies_in r_lies_in).addMe "Picture" "__eq__" m_Picture_eq r_Picture_eq true).addMe "Picture" "__len__" m_Picture_len r_Picture_len true).addMe "Picture" "__str__" m_Picture_str r_Picture_str true).addFn "_law_pen" m__law_pen r__law_pen) := by
    obtain ⟨fd, F⟩ := c.def_ 35 (d := d__law_pen) rfl
    have FO := (mD_ok false (by omega) F sc__law_pen G0 k__law_pen).mono (show 4 ≤ 7 by omega)
    exact GOk.addFn G (H.def_ (List.mem_of_getElem? (i := 28) rfl)) fun r hr => by
      unfold r__law_pen at hr
      simp only [List.mem_cons, List.not_mem_nil, or_false] at hr
      rcases hr with rfl
      · exact (fnE_A F FO fun _ _ _ _ _ _ us hl => match us, hl with | [_], _ => rfl)
  exact G
def r_is_from : List Sh := [(3, [], fun ws _ => ws)]
noncomputable def m_is_from : List W → M W := mD false g1 3 c_is_from
theorem k_is_from : chkSs g1 n_is_from (defScope s_is_from) (cellsOfSc (defScope s_is_from)) c_is_from (defBody s_is_from) = true := by kernel_rfl
def r_are_rows : List Sh := [(3, [], fun ws _ => ws)]
noncomputable def m_are_rows : List W → M W := mD false g1 4 c_are_rows
theorem k_are_rows : chkSs g1 n_are_rows (defScope s_are_rows) (cellsOfSc (defScope s_are_rows)) c_are_rows (defBody s_are_rows) = true := by kernel_rfl
def r_Picture_window : List Sh := [(1, [], fun ws _ => ws)]
noncomputable def m_Picture_window : List W → M W := mD false g1 2 c_Picture_window
theorem k_Picture_window : chkSs g1 n_Picture_window (defScope s_Picture_window) (cellsOfSc (defScope s_Picture_window)) c_Picture_window (defBody s_Picture_window) = true := by kernel_rfl
def r__law_draw : List Sh := [(2, [], fun ws _ => ws)]
noncomputable def m__law_draw : List W → M W := mD false g1 6 c__law_draw
theorem k__law_draw : chkSs g1 n__law_draw (defScope s__law_draw) (cellsOfSc (defScope s__law_draw)) c__law_draw (defBody s__law_draw) = true := by kernel_rfl
def r__law_same : List Sh := [(2, [], fun ws _ => ws)]
noncomputable def m__law_same (i : Nat) : List W → M W := mR false g1 "_law_same" r__law_same 4 c__law_same i
theorem k__law_same : ∀ m, chkSs (g1.addFn "_law_same" m r__law_same) n__law_same (defScope s__law_same) (cellsOfSc (defScope s__law_same)) c__law_same (defBody s__law_same) = true := fun m => by kernel_rfl
noncomputable def g2 : Gm := (((((g1.addFn "is_from" m_is_from r_is_from).addFn "are_rows" m_are_rows r_are_rows).addMe "Picture" "window" m_Picture_window r_Picture_window false).addFn "_law_draw" m__law_draw r__law_draw).addFn "_law_same" (m__law_same 12) r__law_same)
theorem ok2 {P : Program} {w : World} {K : PySem.W.Frag} {h : Heap} {mg : Str → Option Value} {base : Heap} (c : He.SaysD md.fa fn K) (H : Hd md K h mg) : GOk P w K mg base 23 g2 := by
  have G0 : GOk P w K mg base 7 g1 := ok1 c H
  have G : GOk P w K mg base 23 g1 := G0.mono (by omega)
  have G : GOk P w K mg base 23 (g1.addFn "is_from" m_is_from r_is_from) := by
    obtain ⟨fd, F⟩ := c.def_ 23 (d := d_is_from) rfl
    have FO := (mD_ok false (by omega) F sc_is_from G0 k_is_from).mono (show 8 ≤ 23 by omega)
    exact GOk.addFn G (H.def_ (List.mem_of_getElem? (i := 23) rfl)) fun r hr => by
      unfold r_is_from at hr
      simp only [List.mem_cons, List.not_mem_nil, or_false] at hr
      rcases hr with rfl
      · exact (fnE_A F FO fun _ _ _ _ _ _ us hl => match us, hl with | [_, _, _], _ => rfl)
  have G : GOk P w K mg base 23 ((g1.addFn "is_from" m_is_from r_is_from).addFn "are_rows" m_are_rows r_are_rows) := by
    obtain ⟨fd, F⟩ := c.def_ 25 (d := d_are_rows) rfl
    have FO := (mD_ok false (by omega) F sc_are_rows G0 k_are_rows).mono (show 8 ≤ 23 by omega)
    exact GOk.addFn G (H.def_ (List.mem_of_getElem? (i := 25) rfl)) fun r hr => by
      unfold r_are_rows at hr
      simp only [List.mem_cons, List.not_mem_nil, or_false] at hr
      rcases hr with rfl
      · exact (fnE_A F FO fun _ _ _ _ _ _ us hl => match us, hl with | [_, _, _], _ => rfl)
  have G : GOk P w K mg base 23 (((g1.addFn "is_from" m_is_from r_is_from).addFn "are_rows" m_are_rows r_are_rows).addMe "Picture" "window" m_Picture_window r_Picture_window false) := by
    obtain ⟨fd, F⟩ := c.def_ 29 (d := d_Picture_window) rfl
    have FO := mD_ok false (by omega) F sc_Picture_window G0 k_Picture_window
    exact GOk.addMe (j := 8) G (H.cls (List.mem_of_getElem? (i := 0) rfl)) (H.meth (List.mem_of_getElem? (i := 0) rfl)) (fun r hr => by
      unfold r_Picture_window at hr
      simp only [List.mem_cons, List.not_mem_nil, or_false] at hr
      rcases hr with rfl
      · exact (fnE_A F FO fun _ _ _ _ _ _ us hl => match us, hl with | [_], _ => rfl)
      ) (by omega) (fun z => by cases z)
  have G : GOk P w K mg base 23 ((((g1.addFn "is_from" m_is_from r_is_from).addFn "are_rows" m_are_rows r_are_rows).addMe "Picture" "window" m_Picture_window r_Picture_window false).addFn "_law_draw" m__law_draw r__law_draw) := by
    obtain ⟨fd, F⟩ := c.def_ 36 (d := d__law_draw) rfl
    have FO := (mD_ok false (by omega) F sc__law_draw G0 k__law_draw).mono (show 8 ≤ 23 by omega)
    exact GOk.addFn G (H.def_ (List.mem_of_getElem? (i := 29) rfl)) fun r hr => by
      unfold r__law_draw at hr
      simp only [List.mem_cons, List.not_mem_nil, or_false] at hr
      rcases hr with rfl
      · exact (fnE_A F FO fun _ _ _ _ _ _ us hl => match us, hl with | [_, _], _ => rfl)
  have G : GOk P w K mg base 23 (((((g1.addFn "is_from" m_is_from r_is_from).addFn "are_rows" m_are_rows r_are_rows).addMe "Picture" "window" m_Picture_window r_Picture_window false).addFn "_law_draw" m__law_draw r__law_draw).addFn "_law_same" (m__law_same 12) r__law_same) := by
    obtain ⟨fd, F⟩ := c.def_ 37 (d := d__law_same) rfl
    have hr0 : ∀ m j, FnG P w K mg base j _ fd p__law_same (spOf K p__law_same.length m) → ∀ r ∈ r__law_same, FnE P w K mg base j _ r.1 r.2.1 r.2.2 m := fun m j FO r hr => by
      unfold r__law_same at hr
      simp only [List.mem_cons, List.not_mem_nil, or_false] at hr
      rcases hr with rfl
      · exact (fnE_A F FO fun _ _ _ _ _ _ us hl => match us, hl with | [_, _], _ => rfl)
    have FO := mR_ok (rows := r__law_same) false (by omega) F sc__law_same G0 (H.def_ (List.mem_of_getElem? (i := 30) rfl)) k__law_same hr0 12
    exact GOk.addFn G (H.def_ (List.mem_of_getElem? (i := 30) rfl)) fun r hr => (hr0 _ _ FO r hr).mono (by omega)
  exact G
def r_are_wholes : List Sh := [(3, [], fun ws _ => ws)]
noncomputable def m_are_wholes : List W → M W := mD false g2 4 c_are_wholes
theorem k_are_wholes : chkSs g2 n_are_wholes (defScope s_are_wholes) (cellsOfSc (defScope s_are_wholes)) c_are_wholes (defBody s_are_wholes) = true := by kernel_rfl
def r_Picture_at : List Sh := []
noncomputable def m_Picture_at : List W → M W := mD false g2 4 c_Picture_at
theorem k_Picture_at : chkSs g2 n_Picture_at (defScope s_Picture_at) (cellsOfSc (defScope s_Picture_at)) c_Picture_at (defBody s_Picture_at) = true := by kernel_rfl
def r_Picture_repr : List Sh := [(1, [], fun ws _ => ws)]
noncomputable def m_Picture_repr : List W → M W := mD false g2 5 c_Picture_repr
theorem k_Picture_repr : chkSs g2 n_Picture_repr (defScope s_Picture_repr) (cellsOfSc (defScope s_Picture_repr)) c_Picture_repr (defBody s_Picture_repr) = true := by kernel_rfl
def r__law_thing : List Sh := [(1, [], fun ws _ => ws)]
noncomputable def m__law_thing : List W → M W := mD false g2 2 c__law_thing
theorem k__law_thing : chkSs g2 n__law_thing (defScope s__law_thing) (cellsOfSc (defScope s__law_thing)) c__law_thing (defBody s__law_thing) = true := by kernel_rfl
def r__law_first_right : List Sh := [(4, [], fun ws _ => ws)]
noncomputable def m__law_first_right : List W → M W := mD false g2 6 c__law_first_right
theorem k__law_first_right : chkSs g2 n__law_first_right (defScope s__law_first_right) (cellsOfSc (defScope s__law_first_right)) c__law_first_right (defBody s__law_first_right) = true := by kernel_rfl
def r__law_second_right : List Sh := [(4, [], fun ws _ => ws)]
noncomputable def m__law_second_right : List W → M W := mD true g2 6 c__law_second_right
theorem k__law_second_right : chkSs g2 n__law_second_right (defScope s__law_second_right) (cellsOfSc (defScope s__law_second_right)) c__law_second_right (defBody s__law_second_right) = true := by kernel_rfl
noncomputable def g3 : Gm := ((((((g2.addFn "are_wholes" m_are_wholes r_are_wholes).addMe "Picture" "at" m_Picture_at r_Picture_at false).addMe "Picture" "__repr__" m_Picture_repr r_Picture_repr true).addFn "_law_thing" m__law_thing r__law_thing).addFn "_law_first_right" m__law_first_right r__law_first_right).addFn "_law_second_right" m__law_second_right r__law_second_right)
theorem ok3 {P : Program} {w : World} {K : PySem.W.Frag} {h : Heap} {mg : Str → Option Value} {base : Heap} (c : He.SaysD md.fa fn K) (H : Hd md K h mg) : GOk P w K mg base 27 g3 := by
  have G0 : GOk P w K mg base 23 g2 := ok2 c H
  have G : GOk P w K mg base 27 g2 := G0.mono (by omega)
  have G : GOk P w K mg base 27 (g2.addFn "are_wholes" m_are_wholes r_are_wholes) := by
    obtain ⟨fd, F⟩ := c.def_ 24 (d := d_are_wholes) rfl
    have FO := (mD_ok false (by omega) F sc_are_wholes G0 k_are_wholes).mono (show 24 ≤ 27 by omega)
    exact GOk.addFn G (H.def_ (List.mem_of_getElem? (i := 24) rfl)) fun r hr => by
      unfold r_are_wholes at hr
      simp only [List.mem_cons, List.not_mem_nil, or_false] at hr
      rcases hr with rfl
      · exact (fnE_A F FO fun _ _ _ _ _ _ us hl => match us, hl with | [_, _, _], _ => rfl)
  have G : GOk P w K mg base 27 ((g2.addFn "are_wholes" m_are_wholes r_are_wholes).addMe "Picture" "at" m_Picture_at r_Picture_at false) := by
    obtain ⟨fd, F⟩ := c.def_ 30 (d := d_Picture_at) rfl
    have FO := mD_ok false (by omega) F sc_Picture_at G0 k_Picture_at
    exact GOk.addMe (j := 24) G (H.cls (List.mem_of_getElem? (i := 0) rfl)) (H.meth (List.mem_of_getElem? (i := 1) rfl)) (fun r hr => by
      unfold r_Picture_at at hr
      cases hr
      ) (by omega) (fun z => by cases z)
  have G : GOk P w K mg base 27 (((g2.addFn "are_wholes" m_are_wholes r_are_wholes).addMe "Picture" "at" m_Picture_at r_Picture_at false).addMe "Picture" "__repr__" m_Picture_repr r_Picture_repr true) := by
    obtain ⟨fd, F⟩ := c.def_ 34 (d := d_Picture_repr) rfl
    have FO := mD_ok false (by omega) F sc_Picture_repr G0 k_Picture_repr
    exact GOk.addMe (j := 24) G (H.cls (List.mem_of_getElem? (i := 0) rfl)) (H.meth (List.mem_of_getElem? (i := 5) rfl)) (fun r hr => by
      unfold r_Picture_repr at hr
      simp only [List.mem_cons, List.not_mem_nil, or_false] at hr
      rcases hr with rfl
      · exact (fnE_A F FO fun _ _ _ _ _ _ us hl => match us, hl with | [_], _ => rfl)
      ) (by omega) (fun _ => ⟨(H.neq (List.mem_of_getElem? (i := 0) rfl)).1, (H.neq (List.mem_of_getElem? (i := 0) rfl)).2, fun r hr => by unfold r_Picture_repr at hr; simp only [List.mem_cons, List.not_mem_nil, or_false] at hr; rcases hr with rfl; rfl⟩)
  have G : GOk P w K mg base 27 ((((g2.addFn "are_wholes" m_are_wholes r_are_wholes).addMe "Picture" "at" m_Picture_at r_Picture_at false).addMe "Picture" "__repr__" m_Picture_repr r_Picture_repr true).addFn "_law_thing" m__law_thing r__law_thing) := by
    obtain ⟨fd, F⟩ := c.def_ 38 (d := d__law_thing) rfl
    have FO := (mD_ok false (by omega) F sc__law_thing G0 k__law_thing).mono (show 24 ≤ 27 by omega)
    exact GOk.addFn G (H.def_ (List.mem_of_getElem? (i := 31) rfl)) fun r hr => by
      unfold r__law_thing at hr
      simp only [List.mem_cons, List.not_mem_nil, or_false] at hr
      rcases hr with rfl
      · exact (fnE_A F FO fun _ _ _ _ _ _ us hl => match us, hl with | [_], _ => rfl)
  have G : GOk P w K mg base 27 (((((g2.addFn "are_wholes" m_are_wholes r_are_wholes).addMe "Picture" "at" m_Picture_at r_Picture_at false).addMe "Picture" "__repr__" m_Picture_repr r_Picture_repr true).addFn "_law_thing" m__law_thing r__law_thing).addFn "_law_first_right" m__law_first_right r__law_first_right) := by
    obtain ⟨fd, F⟩ := c.def_ 39 (d := d__law_first_right) rfl
    have FO := (mD_ok false (by omega) F sc__law_first_right G0 k__law_first_right).mono (show 24 ≤ 27 by omega)
    exact GOk.addFn G (H.def_ (List.mem_of_getElem? (i := 32) rfl)) fun r hr => by
      unfold r__law_first_right at hr
      simp only [List.mem_cons, List.not_mem_nil, or_false] at hr
      rcases hr with rfl
      · exact (fnE_A F FO fun _ _ _ _ _ _ us hl => match us, hl with | [_, _, _, _], _ => rfl)
  have G : GOk P w K mg base 27 ((((((g2.addFn "are_wholes" m_are_wholes r_are_wholes).addMe "Picture" "at" m_Picture_at r_Picture_at false).addMe "Picture" "__repr__" m_Picture_repr r_Picture_repr true).addFn "_law_thing" m__law_thing r__law_thing).addFn "_law_first_right" m__law_first_right r__law_first_right).addFn "_law_second_right" m__law_second_right r__law_second_right) := by
    obtain ⟨fd, F⟩ := c.def_ 40 (d := d__law_second_right) rfl
    have FO := (mD_ok true (by omega) F sc__law_second_right G0 k__law_second_right).mono (show 24 ≤ 27 by omega)
    exact GOk.addFn G (H.def_ (List.mem_of_getElem? (i := 33) rfl)) fun r hr => by
      unfold r__law_second_right at hr
      simp only [List.mem_cons, List.not_mem_nil, or_false] at hr
      rcases hr with rfl
      · exact (fnE_A F FO fun _ _ _ _ _ _ us hl => match us, hl with | [_, _, _, _], _ => rfl)
  exact G
def r_are_planes : List Sh := [(2, [], fun ws _ => ws)]
noncomputable def m_are_planes : List W → M W := mD false g3 4 c_are_planes
theorem k_are_planes : chkSs g3 n_are_planes (defScope s_are_planes) (cellsOfSc (defScope s_are_planes)) c_are_planes (defBody s_are_planes) = true := by kernel_rfl
noncomputable def g4 : Gm := (g3.addFn "are_planes" m_are_planes r_are_planes)
theorem ok4 {P : Program} {w : World} {K : PySem.W.Frag} {h : Heap} {mg : Str → Option Value} {base : Heap} (c : He.SaysD md.fa fn K) (H : Hd md K h mg) : GOk P w K mg base 31 g4 := by
  have G0 : GOk P w K mg base 27 g3 := ok3 c H
  have G : GOk P w K mg base 31 g3 := G0.mono (by omega)
  have G : GOk P w K mg base 31 (g3.addFn "are_planes" m_are_planes r_are_planes) := by
    obtain ⟨fd, F⟩ := c.def_ 27 (d := d_are_planes) rfl
    have FO := (mD_ok false (by omega) F sc_are_planes G0 k_are_planes).mono (show 28 ≤ 31 by omega)
    exact GOk.addFn G (H.def_ (List.mem_of_getElem? (i := 27) rfl)) fun r hr => by
      unfold r_are_planes at hr
      simp only [List.mem_cons, List.not_mem_nil, or_false] at hr
      rcases hr with rfl
      · exact (fnE_A F FO fun _ _ _ _ _ _ us hl => match us, hl with | [_, _], _ => rfl)
  exact G
def r_Picture_init : List Sh := [(1, [], fun ws zs => pk [(false, 0), (false, 1), (false, 2)] ws [.int (0), .int (0), .int (255)] zs)]
noncomputable def m_Picture_init : List W → M W := mK true g4 "Picture" 5 c_Picture_init
theorem k_Picture_init : chkSs g4 n_Picture_init (defScope s_Picture_init) (cellsOfSc (defScope s_Picture_init)) c_Picture_init (defBody s_Picture_init) = true := by kernel_rfl
noncomputable def g5 : Gm := (g4.addMk "Picture" m_Picture_init r_Picture_init)
theorem ok5 {P : Program} {w : World} {K : PySem.W.Frag} {h : Heap} {mg : Str → Option Value} {base : Heap} (c : He.SaysD md.fa fn K) (H : Hd md K h mg) : GOk P w K mg base 35 g5 := by
  have G0 : GOk P w K mg base 31 g4 := ok4 c H
  have G : GOk P w K mg base 35 g4 := G0.mono (by omega)
  have G : GOk P w K mg base 35 (g4.addMk "Picture" m_Picture_init r_Picture_init) := by
    obtain ⟨fd, F⟩ := c.def_ 28 (d := d_Picture_init) rfl
    have FO := mK_ok (c := "Picture") true (by omega) F sc_Picture_init G0 k_Picture_init
    exact GOk.addMk G (H.def_ (List.mem_of_getElem? (i := 35) rfl)) (H.mk_ (List.mem_of_getElem? (i := 0) rfl)) fun r hr => by
      unfold r_Picture_init at hr
      simp only [List.mem_cons, List.not_mem_nil, or_false] at hr
      rcases hr with rfl
      · exact (mkE_B F FO (by omega) 1 [] [(("left" : Str), V.int (0)), (("up" : Str), V.int (0)), (("depth" : Str), V.int (255))] [(false, 0), (false, 1), (false, 2)] [.int (0), .int (0), .int (255)] (by intro z; cases z) (fun q hq => by simp only [List.mem_cons, List.not_mem_nil, or_false] at hq; rcases hq with rfl | rfl | rfl <;> (unfold He.DefD.kws; rw [List.mem_map]; first | exact ⟨_, .head _, rfl⟩ | exact ⟨_, .tail _ (.head _), rfl⟩ | exact ⟨_, .tail _ (.tail _ (.head _)), rfl⟩)) (fun H μ => by simp only [RpL, Rp, List.map]; exact ⟨_, _, rfl, rfl, ⟨_, _, rfl, rfl, ⟨_, _, rfl, rfl, rfl⟩⟩⟩) rfl (by intro q hq; simp at hq; rcases hq with rfl | rfl | rfl <;> simp) (fun D doc pm an cdv ct us mv ws h1 h2 h3 => by match us, mv, ws, h1, h2, h3 with | [_, _], [_, _, _], [], _, _, _ => exact ⟨_, _, _, _, _, _, rfl, rfl, _, _, _, _, _, _, rfl, rfl, _, _, _, _, _, _, rfl, rfl, rfl⟩))
  exact G
def r_law : List Sh := []
noncomputable def m_law : List W → M W := mD false g5 9 c_law
theorem k_law : chkSs g5 n_law (defScope s_law) (cellsOfSc (defScope s_law)) c_law (defBody s_law) = true := by kernel_rfl
noncomputable def g6 : Gm := (g5.addFn "law" m_law r_law)
theorem ok6 {P : Program} {w : World} {K : PySem.W.Frag} {h : Heap} {mg : Str → Option Value} {base : Heap} (c : He.SaysD md.fa fn K) (H : Hd md K h mg) : GOk P w K mg base 39 g6 := by
  have G0 : GOk P w K mg base 35 g5 := ok5 c H
  have G : GOk P w K mg base 39 g5 := G0.mono (by omega)
  have G : GOk P w K mg base 39 (g5.addFn "law" m_law r_law) := by
    obtain ⟨fd, F⟩ := c.def_ 41 (d := d_law) rfl
    have FO := (mD_ok false (by omega) F sc_law G0 k_law).mono (show 36 ≤ 39 by omega)
    exact GOk.addFn G (H.def_ (List.mem_of_getElem? (i := 34) rfl)) fun r hr => by
      unfold r_law at hr
      cases hr
  exact G
end VmL
namespace VmL
open PySem L2 Vm
abbrev o_Picture (x0 x1 x2 x3 : W) : W := .obj "Picture" [("planes" : Str), ("left" : Str), ("up" : Str), ("depth" : Str)] [x0, x1, x2, x3]
theorem st_source (a0 a1 : W) : start0 2 [a0, a1] = [some a0, some a1] := rfl
theorem un_source (ws : List W) (st : Sto) : m_source ws st = runD g0 2 c_source ws st := rfl
theorem q0_gl_NEAR : g0.glob "NEAR" = some (.str "near") := by kernel_rfl
theorem st_framed (a0 a1 a2 : W) : start0 3 [a0, a1, a2] = [some a0, some a1, some a2] := rfl
theorem un_framed (ws : List W) (st : Sto) : m_framed ws st = runD g0 3 c_framed ws st := rfl
theorem st_moved (a0 a1 a2 : W) : start0 3 [a0, a1, a2] = [some a0, some a1, some a2] := rfl
theorem un_moved (ws : List W) (st : Sto) : m_moved ws st = runD g0 3 c_moved ws st := rfl
theorem st_flipped (a0 a1 : W) : start0 2 [a0, a1] = [some a0, some a1] := rfl
theorem un_flipped (ws : List W) (st : Sto) : m_flipped ws st = runD g0 2 c_flipped ws st := rfl
theorem st_turned (a0 : W) : start0 1 [a0] = [some a0] := rfl
theorem un_turned (ws : List W) (st : Sto) : m_turned ws st = runD g0 1 c_turned ws st := rfl
theorem st_curved (a0 a1 a2 : W) : start0 3 [a0, a1, a2] = [some a0, some a1, some a2] := rfl
theorem un_curved (ws : List W) (st : Sto) : m_curved ws st = runD g0 3 c_curved ws st := rfl
theorem st_lifted (a0 a1 : W) : start0 2 [a0, a1] = [some a0, some a1] := rfl
theorem un_lifted (ws : List W) (st : Sto) : m_lifted ws st = runD g0 2 c_lifted ws st := rfl
theorem st_unlifted (a0 a1 : W) : start0 2 [a0, a1] = [some a0, some a1] := rfl
theorem un_unlifted (ws : List W) (st : Sto) : m_unlifted ws st = runD g0 2 c_unlifted ws st := rfl
theorem st_mixed (a0 a1 a2 a3 : W) : start0 4 [a0, a1, a2, a3] = [some a0, some a1, some a2, some a3] := rfl
theorem un_mixed (ws : List W) (st : Sto) : m_mixed ws st = runD g0 4 c_mixed ws st := rfl
theorem st_filtered (a0 a1 a2 a3 : W) : start0 4 [a0, a1, a2, a3] = [some a0, some a1, some a2, some a3] := rfl
theorem un_filtered (ws : List W) (st : Sto) : m_filtered ws st = runD g0 4 c_filtered ws st := rfl
theorem st_ranked (a0 a1 a2 : W) : start0 3 [a0, a1, a2] = [some a0, some a1, some a2] := rfl
theorem un_ranked (ws : List W) (st : Sto) : m_ranked ws st = runD g0 3 c_ranked ws st := rfl
theorem st_reduced (a0 a1 a2 : W) : start0 3 [a0, a1, a2] = [some a0, some a1, some a2] := rfl
theorem un_reduced (ws : List W) (st : Sto) : m_reduced ws st = runD g0 3 c_reduced ws st := rfl
theorem st_enlarged (a0 a1 a2 : W) : start0 3 [a0, a1, a2] = [some a0, some a1, some a2] := rfl
theorem un_enlarged (ws : List W) (st : Sto) : m_enlarged ws st = runD g0 3 c_enlarged ws st := rfl
theorem st_near_band (a0 a1 : W) : start0 2 [a0, a1] = [some a0, some a1] := rfl
theorem un_near_band (ws : List W) (st : Sto) : m_near_band ws st = runD g0 2 c_near_band ws st := rfl
theorem st_far_band (a0 a1 : W) : start0 2 [a0, a1] = [some a0, some a1] := rfl
theorem un_far_band (ws : List W) (st : Sto) : m_far_band ws st = runD g0 2 c_far_band ws st := rfl
theorem st_paired (a0 a1 a2 : W) : start0 3 [a0, a1, a2] = [some a0, some a1, some a2] := rfl
theorem un_paired (ws : List W) (st : Sto) : m_paired ws st = runD g0 3 c_paired ws st := rfl
theorem st_summed (a0 a1 : W) : start0 2 [a0, a1] = [some a0, some a1] := rfl
theorem un_summed (ws : List W) (st : Sto) : m_summed ws st = runD g0 2 c_summed ws st := rfl
theorem st_unsummed (a0 : W) : start0 1 [a0] = [some a0] := rfl
theorem un_unsummed (ws : List W) (st : Sto) : m_unsummed ws st = runD g0 1 c_unsummed ws st := rfl
theorem st_levelled (a0 a1 : W) : start0 2 [a0, a1] = [some a0, some a1] := rfl
theorem un_levelled (ws : List W) (st : Sto) : m_levelled ws st = runD g0 2 c_levelled ws st := rfl
theorem st_met (a0 a1 a2 : W) : start0 3 [a0, a1, a2] = [some a0, some a1, some a2] := rfl
theorem un_met (ws : List W) (st : Sto) : m_met ws st = runD g0 3 c_met ws st := rfl
theorem st_chosen (a0 a1 a2 : W) : start0 3 [a0, a1, a2] = [some a0, some a1, some a2] := rfl
theorem un_chosen (ws : List W) (st : Sto) : m_chosen ws st = runD g0 3 c_chosen ws st := rfl
theorem st_own (a0 a1 : W) : start0 2 [a0, a1] = [some a0, some a1] := rfl
theorem un_own (ws : List W) (st : Sto) : m_own ws st = runD g0 2 c_own ws st := rfl
theorem st_is_whole (a0 : W) : start0 1 [a0] = [some a0] := rfl
theorem un_is_whole (ws : List W) (st : Sto) : m_is_whole ws st = runD g0 1 c_is_whole ws st := rfl
theorem st_is_from (a0 a1 a2 : W) : start0 3 [a0, a1, a2] = [some a0, some a1, some a2] := rfl
theorem un_is_from (ws : List W) (st : Sto) : m_is_from ws st = runD g1 3 c_is_from ws st := rfl
theorem q1_is_whole_1 (x0 : W) : callW g1 "is_whole" [] [x0] [] = m_is_whole [x0] := by kernel_rfl
theorem st_are_wholes (a0 a1 a2 : W) : start0 4 [a0, a1, a2] = [some a0, some a1, some a2, none] := rfl
theorem un_are_wholes (ws : List W) (st : Sto) : m_are_wholes ws st = runD g2 4 c_are_wholes ws st := rfl
theorem q2_is_from_3 (x0 x1 x2 : W) : callW g2 "is_from" [] [x0, x1, x2] [] = m_is_from [x0, x1, x2] := by kernel_rfl
theorem st_are_rows (a0 a1 a2 : W) : start0 4 [a0, a1, a2] = [some a0, some a1, some a2, none] := rfl
theorem un_are_rows (ws : List W) (st : Sto) : m_are_rows ws st = runD g1 4 c_are_rows ws st := rfl
theorem q1_Eq_Picture (z0 z1 z2 z3 t0 t1 t2 t3 : W) (st : Sto) : cmpG g1 .Eq (.obj "Picture" [("planes" : Str), ("left" : Str), ("up" : Str), ("depth" : Str)] [z0, z1, z2, z3]) (.obj "Picture" [("planes" : Str), ("left" : Str), ("up" : Str), ("depth" : Str)] [t0, t1, t2, t3]) st = match m_Picture_eq [.obj "Picture" [("planes" : Str), ("left" : Str), ("up" : Str), ("depth" : Str)] [z0, z1, z2, z3], .obj "Picture" [("planes" : Str), ("left" : Str), ("up" : Str), ("depth" : Str)] [t0, t1, t2, t3]] st with | .ok (.bl b) st' => .ok (.bl b) st' | _ => .bad := by kernel_rfl
theorem q1_NotEq_Picture (z0 z1 z2 z3 t0 t1 t2 t3 : W) (st : Sto) : cmpG g1 .NotEq (.obj "Picture" [("planes" : Str), ("left" : Str), ("up" : Str), ("depth" : Str)] [z0, z1, z2, z3]) (.obj "Picture" [("planes" : Str), ("left" : Str), ("up" : Str), ("depth" : Str)] [t0, t1, t2, t3]) st = match m_Picture_eq [.obj "Picture" [("planes" : Str), ("left" : Str), ("up" : Str), ("depth" : Str)] [z0, z1, z2, z3], .obj "Picture" [("planes" : Str), ("left" : Str), ("up" : Str), ("depth" : Str)] [t0, t1, t2, t3]] st with | .ok (.bl b) st' => .ok (.bl (!b)) st' | _ => .bad := by kernel_rfl
theorem q1_len_Picture (z0 z1 z2 z3 : W) (st : Sto) : biG g1 .len [.obj "Picture" [("planes" : Str), ("left" : Str), ("up" : Str), ("depth" : Str)] [z0, z1, z2, z3]] st = match m_Picture_len [.obj "Picture" [("planes" : Str), ("left" : Str), ("up" : Str), ("depth" : Str)] [z0, z1, z2, z3]] st with | .ok w st' => if okLen w = true then .ok w st' else .bad | _ => .bad := by kernel_rfl
theorem st_lies_in (a0 a1 a2 : W) : start0 7 [a0, a1, a2] = [some a0, some a1, some a2, none, none, none, none] := rfl
theorem un_lies_in (ws : List W) (st : Sto) : m_lies_in ws st = runD g0 7 c_lies_in ws st := rfl
theorem st_are_planes (a0 a1 : W) : start0 4 [a0, a1] = [some a0, some a1, none, none] := rfl
theorem un_are_planes (ws : List W) (st : Sto) : m_are_planes ws st = runD g3 4 c_are_planes ws st := rfl
theorem q3_Eq_Picture (z0 z1 z2 z3 t0 t1 t2 t3 : W) (st : Sto) : cmpG g3 .Eq (.obj "Picture" [("planes" : Str), ("left" : Str), ("up" : Str), ("depth" : Str)] [z0, z1, z2, z3]) (.obj "Picture" [("planes" : Str), ("left" : Str), ("up" : Str), ("depth" : Str)] [t0, t1, t2, t3]) st = match m_Picture_eq [.obj "Picture" [("planes" : Str), ("left" : Str), ("up" : Str), ("depth" : Str)] [z0, z1, z2, z3], .obj "Picture" [("planes" : Str), ("left" : Str), ("up" : Str), ("depth" : Str)] [t0, t1, t2, t3]] st with | .ok (.bl b) st' => .ok (.bl b) st' | _ => .bad := by kernel_rfl
theorem q3_NotEq_Picture (z0 z1 z2 z3 t0 t1 t2 t3 : W) (st : Sto) : cmpG g3 .NotEq (.obj "Picture" [("planes" : Str), ("left" : Str), ("up" : Str), ("depth" : Str)] [z0, z1, z2, z3]) (.obj "Picture" [("planes" : Str), ("left" : Str), ("up" : Str), ("depth" : Str)] [t0, t1, t2, t3]) st = match m_Picture_eq [.obj "Picture" [("planes" : Str), ("left" : Str), ("up" : Str), ("depth" : Str)] [z0, z1, z2, z3], .obj "Picture" [("planes" : Str), ("left" : Str), ("up" : Str), ("depth" : Str)] [t0, t1, t2, t3]] st with | .ok (.bl b) st' => .ok (.bl (!b)) st' | _ => .bad := by kernel_rfl
theorem q3_len_Picture (z0 z1 z2 z3 : W) (st : Sto) : biG g3 .len [.obj "Picture" [("planes" : Str), ("left" : Str), ("up" : Str), ("depth" : Str)] [z0, z1, z2, z3]] st = match m_Picture_len [.obj "Picture" [("planes" : Str), ("left" : Str), ("up" : Str), ("depth" : Str)] [z0, z1, z2, z3]] st with | .ok w st' => if okLen w = true then .ok w st' else .bad | _ => .bad := by kernel_rfl
theorem q3_are_wholes_3 (x0 x1 x2 : W) : callW g3 "are_wholes" [] [x0, x1, x2] [] = m_are_wholes [x0, x1, x2] := by kernel_rfl
theorem q3_gl_MOST_PLANES : g3.glob "MOST_PLANES" = some (.int 4) := by kernel_rfl
theorem q3_are_rows_3 (x0 x1 x2 : W) : callW g3 "are_rows" [] [x0, x1, x2] [] = m_are_rows [x0, x1, x2] := by kernel_rfl
theorem q3_gl_WIDEST : g3.glob "WIDEST" = some (.int 48) := by kernel_rfl
theorem st_Picture_init (a0 a1 a2 a3 a4 : W) : start0 5 [a0, a1, a2, a3, a4] = [some a0, some a1, some a2, some a3, some a4] := rfl
theorem un_Picture_init (ws : List W) (st : Sto) : m_Picture_init ws st = gcR st.length (runK g4 "Picture" 5 c_Picture_init ws st) := rfl
theorem q4_gl_DEPTH : g4.glob "DEPTH" = some (.int 255) := by kernel_rfl
theorem q4_is_from_3 (x0 x1 x2 : W) : callW g4 "is_from" [] [x0, x1, x2] [] = m_is_from [x0, x1, x2] := by kernel_rfl
theorem q4_are_planes_2 (x0 x1 : W) : callW g4 "are_planes" [] [x0, x1] [] = m_are_planes [x0, x1] := by kernel_rfl
theorem q4_gl_FARTHEST : g4.glob "FARTHEST" = some (.int 1000) := by kernel_rfl
theorem q4_gl_DEEPEST : g4.glob "DEEPEST" = some (.int 65535) := by kernel_rfl
theorem q4_sa_Picture_0 (pre : Sto) (w : W) : setAW g4 "planes" (.ref pre.length) w (pre ++ [.ins "Picture" [] []]) = .ok () (pre ++ [.ins "Picture" [("planes" : Str)] [w]]) := (setA_new (Γ := g4) (by kernel_rfl) (by decide) rfl).trans (by kernel_rfl)
theorem q4_sa_Picture_1 (pre : Sto) (x0 w : W) : setAW g4 "left" (.ref pre.length) w (pre ++ [.ins "Picture" [("planes" : Str)] [x0]]) = .ok () (pre ++ [.ins "Picture" [("planes" : Str), ("left" : Str)] [x0, w]]) := (setA_new (Γ := g4) (by kernel_rfl) (by decide) rfl).trans (by kernel_rfl)
theorem q4_sa_Picture_2 (pre : Sto) (x0 x1 w : W) : setAW g4 "up" (.ref pre.length) w (pre ++ [.ins "Picture" [("planes" : Str), ("left" : Str)] [x0, x1]]) = .ok () (pre ++ [.ins "Picture" [("planes" : Str), ("left" : Str), ("up" : Str)] [x0, x1, w]]) := (setA_new (Γ := g4) (by kernel_rfl) (by decide) rfl).trans (by kernel_rfl)
theorem q4_sa_Picture_3 (pre : Sto) (x0 x1 x2 w : W) : setAW g4 "depth" (.ref pre.length) w (pre ++ [.ins "Picture" [("planes" : Str), ("left" : Str), ("up" : Str)] [x0, x1, x2]]) = .ok () (pre ++ [.ins "Picture" [("planes" : Str), ("left" : Str), ("up" : Str), ("depth" : Str)] [x0, x1, x2, w]]) := (setA_new (Γ := g4) (by kernel_rfl) (by decide) rfl).trans (by kernel_rfl)
theorem st_Picture_window (a0 : W) : start0 2 [a0] = [some a0, none] := rfl
theorem un_Picture_window (ws : List W) (st : Sto) : m_Picture_window ws st = runD g1 2 c_Picture_window ws st := rfl
theorem q1_at_Picture_planes (z0 z1 z2 z3 : W) : attrW g1 "planes" (.obj "Picture" [("planes" : Str), ("left" : Str), ("up" : Str), ("depth" : Str)] [z0, z1, z2, z3]) = pure z0 := by kernel_rfl
theorem q1_at_Picture_left (z0 z1 z2 z3 : W) : attrW g1 "left" (.obj "Picture" [("planes" : Str), ("left" : Str), ("up" : Str), ("depth" : Str)] [z0, z1, z2, z3]) = pure z1 := by kernel_rfl
theorem q1_at_Picture_up (z0 z1 z2 z3 : W) : attrW g1 "up" (.obj "Picture" [("planes" : Str), ("left" : Str), ("up" : Str), ("depth" : Str)] [z0, z1, z2, z3]) = pure z2 := by kernel_rfl
theorem st_Picture_at (a0 a1 a2 a3 : W) : start0 4 [a0, a1, a2, a3] = [some a0, some a1, some a2, some a3] := rfl
theorem un_Picture_at (ws : List W) (st : Sto) : m_Picture_at ws st = runD g2 4 c_Picture_at ws st := rfl
theorem q2_is_whole_1 (x0 : W) : callW g2 "is_whole" [] [x0] [] = m_is_whole [x0] := by kernel_rfl
theorem q2_lies_in_3 (x0 x1 x2 : W) : callW g2 "lies_in" [] [x0, x1, x2] [] = m_lies_in [x0, x1, x2] := by kernel_rfl
theorem q2_at_Picture_left (z0 z1 z2 z3 : W) : attrW g2 "left" (.obj "Picture" [("planes" : Str), ("left" : Str), ("up" : Str), ("depth" : Str)] [z0, z1, z2, z3]) = pure z1 := by kernel_rfl
theorem q2_me_Picture_window_0 (w : W) : methW g2 "Picture" "window" [] w [] [] = m_Picture_window [w] := by kernel_rfl
theorem q2_ck_Picture_window (z0 z1 z2 z3 : W) : chkM g2 "Picture" "window" (.obj "Picture" [("planes" : Str), ("left" : Str), ("up" : Str), ("depth" : Str)] [z0, z1, z2, z3]) = pure () := by kernel_rfl
theorem q2_len_Picture (z0 z1 z2 z3 : W) (st : Sto) : biG g2 .len [.obj "Picture" [("planes" : Str), ("left" : Str), ("up" : Str), ("depth" : Str)] [z0, z1, z2, z3]] st = match m_Picture_len [.obj "Picture" [("planes" : Str), ("left" : Str), ("up" : Str), ("depth" : Str)] [z0, z1, z2, z3]] st with | .ok w st' => if okLen w = true then .ok w st' else .bad | _ => .bad := by kernel_rfl
theorem q2_at_Picture_planes (z0 z1 z2 z3 : W) : attrW g2 "planes" (.obj "Picture" [("planes" : Str), ("left" : Str), ("up" : Str), ("depth" : Str)] [z0, z1, z2, z3]) = pure z0 := by kernel_rfl
theorem q2_at_Picture_up (z0 z1 z2 z3 : W) : attrW g2 "up" (.obj "Picture" [("planes" : Str), ("left" : Str), ("up" : Str), ("depth" : Str)] [z0, z1, z2, z3]) = pure z2 := by kernel_rfl
theorem st_Picture_eq (a0 a1 : W) : start0 3 [a0, a1] = [some a0, some a1, none] := rfl
theorem un_Picture_eq (ws : List W) (st : Sto) : m_Picture_eq ws st = runD g0 3 c_Picture_eq ws st := rfl
theorem q0_isi_Picture (z0 z1 z2 z3 : W) (st : Sto) : isiM g0 [.own "Picture"] (.obj "Picture" [("planes" : Str), ("left" : Str), ("up" : Str), ("depth" : Str)] [z0, z1, z2, z3]) st = .ok (.bl true) st := by kernel_rfl
theorem q0_at_Picture_planes (z0 z1 z2 z3 : W) : attrW g0 "planes" (.obj "Picture" [("planes" : Str), ("left" : Str), ("up" : Str), ("depth" : Str)] [z0, z1, z2, z3]) = pure z0 := by kernel_rfl
theorem q0_at_Picture_left (z0 z1 z2 z3 : W) : attrW g0 "left" (.obj "Picture" [("planes" : Str), ("left" : Str), ("up" : Str), ("depth" : Str)] [z0, z1, z2, z3]) = pure z1 := by kernel_rfl
theorem q0_at_Picture_up (z0 z1 z2 z3 : W) : attrW g0 "up" (.obj "Picture" [("planes" : Str), ("left" : Str), ("up" : Str), ("depth" : Str)] [z0, z1, z2, z3]) = pure z2 := by kernel_rfl
theorem q0_at_Picture_depth (z0 z1 z2 z3 : W) : attrW g0 "depth" (.obj "Picture" [("planes" : Str), ("left" : Str), ("up" : Str), ("depth" : Str)] [z0, z1, z2, z3]) = pure z3 := by kernel_rfl
theorem st_Picture_len (a0 : W) : start0 1 [a0] = [some a0] := rfl
theorem un_Picture_len (ws : List W) (st : Sto) : m_Picture_len ws st = runD g0 1 c_Picture_len ws st := rfl
theorem st_Picture_str (a0 : W) : start0 4 [a0] = [some a0, none, none, none] := rfl
theorem un_Picture_str (ws : List W) (st : Sto) : m_Picture_str ws st = runD g0 4 c_Picture_str ws st := rfl
theorem st_Picture_repr (a0 : W) : start0 5 [a0] = [some a0, none, none, none, none] := rfl
theorem un_Picture_repr (ws : List W) (st : Sto) : m_Picture_repr ws st = runD g2 5 c_Picture_repr ws st := rfl
theorem q2_at_Picture_depth (z0 z1 z2 z3 : W) : attrW g2 "depth" (.obj "Picture" [("planes" : Str), ("left" : Str), ("up" : Str), ("depth" : Str)] [z0, z1, z2, z3]) = pure z3 := by kernel_rfl
theorem st__law_pen (a0 : W) : start0 1 [a0] = [some a0] := rfl
theorem un__law_pen (ws : List W) (st : Sto) : m__law_pen ws st = runD g0 1 c__law_pen ws st := rfl
theorem st__law_draw (a0 a1 : W) : start0 6 [a0, a1] = [some a0, some a1, none, none, none, none] := rfl
theorem un__law_draw (ws : List W) (st : Sto) : m__law_draw ws st = runD g1 6 c__law_draw ws st := rfl
theorem st__law_same (a0 a1 : W) : start0 4 [a0, a1] = [some a0, some a1, none, none] := rfl
theorem un__law_same (i : Nat) (ws : List W) (st : Sto) : m__law_same (i + 1) ws st = runD (g1.addFn "_law_same" (m__law_same i) r__law_same) 4 c__law_same ws st := rfl
theorem qr__law_same_Eq_Picture (i : Nat) (z0 z1 z2 z3 t0 t1 t2 t3 : W) (st : Sto) : cmpG (g1.addFn "_law_same" (m__law_same i) r__law_same) .Eq (.obj "Picture" [("planes" : Str), ("left" : Str), ("up" : Str), ("depth" : Str)] [z0, z1, z2, z3]) (.obj "Picture" [("planes" : Str), ("left" : Str), ("up" : Str), ("depth" : Str)] [t0, t1, t2, t3]) st = match m_Picture_eq [.obj "Picture" [("planes" : Str), ("left" : Str), ("up" : Str), ("depth" : Str)] [z0, z1, z2, z3], .obj "Picture" [("planes" : Str), ("left" : Str), ("up" : Str), ("depth" : Str)] [t0, t1, t2, t3]] st with | .ok (.bl b) st' => .ok (.bl b) st' | _ => .bad := by kernel_rfl
theorem qr__law_same_NotEq_Picture (i : Nat) (z0 z1 z2 z3 t0 t1 t2 t3 : W) (st : Sto) : cmpG (g1.addFn "_law_same" (m__law_same i) r__law_same) .NotEq (.obj "Picture" [("planes" : Str), ("left" : Str), ("up" : Str), ("depth" : Str)] [z0, z1, z2, z3]) (.obj "Picture" [("planes" : Str), ("left" : Str), ("up" : Str), ("depth" : Str)] [t0, t1, t2, t3]) st = match m_Picture_eq [.obj "Picture" [("planes" : Str), ("left" : Str), ("up" : Str), ("depth" : Str)] [z0, z1, z2, z3], .obj "Picture" [("planes" : Str), ("left" : Str), ("up" : Str), ("depth" : Str)] [t0, t1, t2, t3]] st with | .ok (.bl b) st' => .ok (.bl (!b)) st' | _ => .bad := by kernel_rfl
theorem qr__law_same_len_Picture (i : Nat) (z0 z1 z2 z3 : W) (st : Sto) : biG (g1.addFn "_law_same" (m__law_same i) r__law_same) .len [.obj "Picture" [("planes" : Str), ("left" : Str), ("up" : Str), ("depth" : Str)] [z0, z1, z2, z3]] st = match m_Picture_len [.obj "Picture" [("planes" : Str), ("left" : Str), ("up" : Str), ("depth" : Str)] [z0, z1, z2, z3]] st with | .ok w st' => if okLen w = true then .ok w st' else .bad | _ => .bad := by kernel_rfl
theorem qr__law_same__law_same_2 (i : Nat) (x0 x1 : W) : callW (g1.addFn "_law_same" (m__law_same i) r__law_same) "_law_same" [] [x0, x1] [] = m__law_same i [x0, x1] := by kernel_rfl
theorem st__law_thing (a0 : W) : start0 2 [a0] = [some a0, none] := rfl
theorem un__law_thing (ws : List W) (st : Sto) : m__law_thing ws st = runD g2 2 c__law_thing ws st := rfl
theorem q2__law_draw_2 (x0 x1 : W) : callW g2 "_law_draw" [] [x0, x1] [] = m__law_draw [x0, x1] := by kernel_rfl
theorem st__law_first_right (a0 a1 a2 a3 : W) : start0 6 [a0, a1, a2, a3] = [some a0, some a1, some a2, some a3, none, none] := rfl
theorem un__law_first_right (ws : List W) (st : Sto) : m__law_first_right ws st = runD g2 6 c__law_first_right ws st := rfl
theorem q2__law_same_2 (x0 x1 : W) : callW g2 "_law_same" [] [x0, x1] [] = m__law_same 12 [x0, x1] := by kernel_rfl
theorem q2_source_1 (x0 : W) : callW g2 "source" [] [x0] [] = m_source [x0, .str "near"] := by kernel_rfl
theorem q2_source_1_border (x0 y0 : W) : callW g2 "source" [("border" : Str)] [x0] [y0] = m_source [x0, y0] := by kernel_rfl
theorem q2_framed_2 (x0 x1 : W) : callW g2 "framed" [] [x0, x1] [] = m_framed [x0, x1, .str "near"] := by kernel_rfl
theorem q2_framed_2_border (x0 x1 y0 : W) : callW g2 "framed" [("border" : Str)] [x0, x1] [y0] = m_framed [x0, x1, y0] := by kernel_rfl
theorem q2_moved_1 (x0 : W) : callW g2 "moved" [] [x0] [] = m_moved [x0, .int (0), .int (0)] := by kernel_rfl
theorem q2_moved_1_right (x0 y0 : W) : callW g2 "moved" [("right" : Str)] [x0] [y0] = m_moved [x0, y0, .int (0)] := by kernel_rfl
theorem q2_moved_1_down (x0 y0 : W) : callW g2 "moved" [("down" : Str)] [x0] [y0] = m_moved [x0, .int (0), y0] := by kernel_rfl
theorem q2_moved_1_down_right (x0 y0 y1 : W) : callW g2 "moved" [("down" : Str), ("right" : Str)] [x0] [y0, y1] = m_moved [x0, y1, y0] := by kernel_rfl
theorem q2_flipped_1 (x0 : W) : callW g2 "flipped" [] [x0] [] = m_flipped [x0, .bl true] := by kernel_rfl
theorem q2_flipped_1_across (x0 y0 : W) : callW g2 "flipped" [("across" : Str)] [x0] [y0] = m_flipped [x0, y0] := by kernel_rfl
theorem q2_turned_1 (x0 : W) : callW g2 "turned" [] [x0] [] = m_turned [x0] := by kernel_rfl
theorem q2_curved_2 (x0 x1 : W) : callW g2 "curved" [] [x0, x1] [] = m_curved [x0, x1, .non] := by kernel_rfl
theorem q2_curved_2_depth (x0 x1 y0 : W) : callW g2 "curved" [("depth" : Str)] [x0, x1] [y0] = m_curved [x0, x1, y0] := by kernel_rfl
theorem q2_lifted_2 (x0 x1 : W) : callW g2 "lifted" [] [x0, x1] [] = m_lifted [x0, x1] := by kernel_rfl
theorem q2_unlifted_2 (x0 x1 : W) : callW g2 "unlifted" [] [x0, x1] [] = m_unlifted [x0, x1] := by kernel_rfl
theorem q2_mixed_2 (x0 x1 : W) : callW g2 "mixed" [] [x0, x1] [] = m_mixed [x0, x1, .int (1), .int (0)] := by kernel_rfl
theorem q2_mixed_2_by (x0 x1 y0 : W) : callW g2 "mixed" [("by" : Str)] [x0, x1] [y0] = m_mixed [x0, x1, y0, .int (0)] := by kernel_rfl
theorem q2_mixed_2_plus (x0 x1 y0 : W) : callW g2 "mixed" [("plus" : Str)] [x0, x1] [y0] = m_mixed [x0, x1, .int (1), y0] := by kernel_rfl
theorem q2_mixed_2_plus_by (x0 x1 y0 y1 : W) : callW g2 "mixed" [("plus" : Str), ("by" : Str)] [x0, x1] [y0, y1] = m_mixed [x0, x1, y1, y0] := by kernel_rfl
theorem q2_filtered_2 (x0 x1 : W) : callW g2 "filtered" [] [x0, x1] [] = m_filtered [x0, x1, .int (1), .int (0)] := by kernel_rfl
theorem q2_filtered_2_by_plus (x0 x1 y0 y1 : W) : callW g2 "filtered" [("by" : Str), ("plus" : Str)] [x0, x1] [y0, y1] = m_filtered [x0, x1, y0, y1] := by kernel_rfl
theorem st__law_second_right (a0 a1 a2 a3 : W) : start0 6 [a0, a1, a2, a3] = [some a0, some a1, some a2, some a3, none, none] := rfl
theorem un__law_second_right (ws : List W) (st : Sto) : m__law_second_right ws st = gcR st.length (runD g2 6 c__law_second_right ws st) := rfl
theorem q2_filtered_2_plus (x0 x1 y0 : W) : callW g2 "filtered" [("plus" : Str)] [x0, x1] [y0] = m_filtered [x0, x1, .int (1), y0] := by kernel_rfl
theorem q2_ranked_2 (x0 x1 : W) : callW g2 "ranked" [] [x0, x1] [] = m_ranked [x0, x1, .int (0)] := by kernel_rfl
theorem q2_ranked_2_rank (x0 x1 y0 : W) : callW g2 "ranked" [("rank" : Str)] [x0, x1] [y0] = m_ranked [x0, x1, y0] := by kernel_rfl
theorem q2_reduced_1 (x0 : W) : callW g2 "reduced" [] [x0] [] = m_reduced [x0, .int (2), .int (2)] := by kernel_rfl
theorem q2_reduced_1_high (x0 y0 : W) : callW g2 "reduced" [("high" : Str)] [x0] [y0] = m_reduced [x0, .int (2), y0] := by kernel_rfl
theorem q2_reduced_1_high_wide (x0 y0 y1 : W) : callW g2 "reduced" [("high" : Str), ("wide" : Str)] [x0] [y0, y1] = m_reduced [x0, y1, y0] := by kernel_rfl
theorem q2_enlarged_1 (x0 : W) : callW g2 "enlarged" [] [x0] [] = m_enlarged [x0, .int (2), .int (2)] := by kernel_rfl
theorem q2_enlarged_1_wide (x0 y0 : W) : callW g2 "enlarged" [("wide" : Str)] [x0] [y0] = m_enlarged [x0, y0, .int (2)] := by kernel_rfl
theorem q2_enlarged_1_high_wide (x0 y0 y1 : W) : callW g2 "enlarged" [("high" : Str), ("wide" : Str)] [x0] [y0, y1] = m_enlarged [x0, y1, y0] := by kernel_rfl
theorem q2_near_band_1 (x0 : W) : callW g2 "near_band" [] [x0] [] = m_near_band [x0, .bl true] := by kernel_rfl
theorem q2_near_band_1_across (x0 y0 : W) : callW g2 "near_band" [("across" : Str)] [x0] [y0] = m_near_band [x0, y0] := by kernel_rfl
theorem q2_far_band_1 (x0 : W) : callW g2 "far_band" [] [x0] [] = m_far_band [x0, .bl true] := by kernel_rfl
theorem q2_far_band_1_across (x0 y0 : W) : callW g2 "far_band" [("across" : Str)] [x0] [y0] = m_far_band [x0, y0] := by kernel_rfl
theorem q2_paired_2 (x0 x1 : W) : callW g2 "paired" [] [x0, x1] [] = m_paired [x0, x1, .bl true] := by kernel_rfl
theorem q2_paired_2_across (x0 x1 y0 : W) : callW g2 "paired" [("across" : Str)] [x0, x1] [y0] = m_paired [x0, x1, y0] := by kernel_rfl
theorem q2_summed_2 (x0 x1 : W) : callW g2 "summed" [] [x0, x1] [] = m_summed [x0, x1] := by kernel_rfl
theorem q2_unsummed_1 (x0 : W) : callW g2 "unsummed" [] [x0] [] = m_unsummed [x0] := by kernel_rfl
theorem q2_levelled_2 (x0 x1 : W) : callW g2 "levelled" [] [x0, x1] [] = m_levelled [x0, x1] := by kernel_rfl
theorem q2_met_2 (x0 x1 : W) : callW g2 "met" [] [x0, x1] [] = m_met [x0, x1, .str "least"] := by kernel_rfl
theorem q2_met_2_how (x0 x1 y0 : W) : callW g2 "met" [("how" : Str)] [x0, x1] [y0] = m_met [x0, x1, y0] := by kernel_rfl
theorem q2_chosen_3 (x0 x1 x2 : W) : callW g2 "chosen" [] [x0, x1, x2] [] = m_chosen [x0, x1, x2] := by kernel_rfl
theorem st_law (a0 : W) : start0 9 [a0] = [some a0, none, none, none, none, none, none, none, none] := rfl
theorem un_law (ws : List W) (st : Sto) : m_law ws st = runD g5 9 c_law ws st := rfl
theorem q5__law_pen_1 (x0 : W) : callW g5 "_law_pen" [] [x0] [] = m__law_pen [x0] := by kernel_rfl
theorem q5_mk_Picture_1 (x0 : W) : mkW g5 "Picture" [] [x0] [] = m_Picture_init [x0, .int (0), .int (0), .int (255)] := by kernel_rfl
theorem q5_Eq_Picture (z0 z1 z2 z3 t0 t1 t2 t3 : W) (st : Sto) : cmpG g5 .Eq (.obj "Picture" [("planes" : Str), ("left" : Str), ("up" : Str), ("depth" : Str)] [z0, z1, z2, z3]) (.obj "Picture" [("planes" : Str), ("left" : Str), ("up" : Str), ("depth" : Str)] [t0, t1, t2, t3]) st = match m_Picture_eq [.obj "Picture" [("planes" : Str), ("left" : Str), ("up" : Str), ("depth" : Str)] [z0, z1, z2, z3], .obj "Picture" [("planes" : Str), ("left" : Str), ("up" : Str), ("depth" : Str)] [t0, t1, t2, t3]] st with | .ok (.bl b) st' => .ok (.bl b) st' | _ => .bad := by kernel_rfl
theorem q5_NotEq_Picture (z0 z1 z2 z3 t0 t1 t2 t3 : W) (st : Sto) : cmpG g5 .NotEq (.obj "Picture" [("planes" : Str), ("left" : Str), ("up" : Str), ("depth" : Str)] [z0, z1, z2, z3]) (.obj "Picture" [("planes" : Str), ("left" : Str), ("up" : Str), ("depth" : Str)] [t0, t1, t2, t3]) st = match m_Picture_eq [.obj "Picture" [("planes" : Str), ("left" : Str), ("up" : Str), ("depth" : Str)] [z0, z1, z2, z3], .obj "Picture" [("planes" : Str), ("left" : Str), ("up" : Str), ("depth" : Str)] [t0, t1, t2, t3]] st with | .ok (.bl b) st' => .ok (.bl (!b)) st' | _ => .bad := by kernel_rfl
theorem q5_repr_Picture (z0 z1 z2 z3 : W) (st : Sto) : biG g5 .repr [.obj "Picture" [("planes" : Str), ("left" : Str), ("up" : Str), ("depth" : Str)] [z0, z1, z2, z3]] st = match m_Picture_repr [.obj "Picture" [("planes" : Str), ("left" : Str), ("up" : Str), ("depth" : Str)] [z0, z1, z2, z3]] st with | .ok w st' => if okStr w = true then .ok w st' else .bad | _ => .bad := by kernel_rfl
theorem q5_source_1 (x0 : W) : callW g5 "source" [] [x0] [] = m_source [x0, .str "near"] := by kernel_rfl
theorem q5_own_2 (x0 x1 : W) : callW g5 "own" [] [x0, x1] [] = m_own [x0, x1] := by kernel_rfl
theorem q5__law_thing_1 (x0 : W) : callW g5 "_law_thing" [] [x0] [] = m__law_thing [x0] := by kernel_rfl
theorem q5__law_first_right_4 (x0 x1 x2 x3 : W) : callW g5 "_law_first_right" [] [x0, x1, x2, x3] [] = m__law_first_right [x0, x1, x2, x3] := by kernel_rfl
theorem q5_len_Picture (z0 z1 z2 z3 : W) (st : Sto) : biG g5 .len [.obj "Picture" [("planes" : Str), ("left" : Str), ("up" : Str), ("depth" : Str)] [z0, z1, z2, z3]] st = match m_Picture_len [.obj "Picture" [("planes" : Str), ("left" : Str), ("up" : Str), ("depth" : Str)] [z0, z1, z2, z3]] st with | .ok w st' => if okLen w = true then .ok w st' else .bad | _ => .bad := by kernel_rfl
theorem q5__law_second_right_4 (x0 x1 x2 x3 : W) : callW g5 "_law_second_right" [] [x0, x1, x2, x3] [] = m__law_second_right [x0, x1, x2, x3] := by kernel_rfl
end VmL
namespace VmL
open PySem L2 Vm
/-! ### small things of the plain part -/
theorem szl {n : Nat} (h : n ≤ 1000) : (n ≤ sizeLine) = True := eq_true (Nat.le_trans h (by decide))
theorem tup_if {ws : List W} (h : ws.length ≤ 1000) : (if ws.length ≤ sizeLine then (pure (.tup ws) : M W) else bad) = pure (.tup ws) := if_pos (Nat.le_trans h (by decide))
theorem lst_if {ws : List W} {a b : M W} (h : ws.length ≤ 1000) : (if ws.length ≤ sizeLine then a else b) = a := if_pos (Nat.le_trans h (by decide))
theorem atI_z {α : Type} {xs : List α} {i : Int} {v : α} (h0 : 0 ≤ i) (h : xs[i.toNat]? = some v) : atI xs i = some v := by
  have := atI_nat h
  rwa [Int.toNat_of_nonneg h0] at this
theorem at0 {x : W} {xs : List W} {st : Sto} : atW (x :: xs) 0 st = .ok x st := at_ok (atI_nat (j := 0) rfl)
theorem at1 {x y : W} {xs : List W} {st : Sto} : atW (x :: y :: xs) 1 st = .ok y st := at_ok (atI_nat (j := 1) rfl)
theorem at2 {x y z : W} {xs : List W} {st : Sto} : atW (x :: y :: z :: xs) 2 st = .ok z st := at_ok (atI_nat (j := 2) rfl)
theorem at3 {x y z u : W} {xs : List W} {st : Sto} : atW (x :: y :: z :: u :: xs) 3 st = .ok u st := at_ok (atI_nat (j := 3) rfl)
theorem lenRng_ok {n : Nat} {st : Sto} (h : n ≤ 1000000) : lenRngW (.int n) st = .ok (.int n) st := by
  have h1 : -(2 ^ 62) ≤ (n : Int) ∧ (n : Int) < 2 ^ 62 := ⟨by omega, by omega⟩
  simp only [lenRngW]
  rw [if_pos h1, Int.toNat_natCast]; rfl
theorem tyM_join {a : Str} {st : Sto} : tyM (Mf.ty .join) (.str a) st = .ok () st := rfl
theorem tyM_app0 {xs : List W} {st : Sto} : tyM (Mf.ty .append) (.ref 0) (.lst xs :: st) = .ok () (.lst xs :: st) := rfl
theorem tyM_app1 {x : O} {xs : List W} {st : Sto} : tyM (Mf.ty .append) (.ref 1) (x :: .lst xs :: st) = .ok () (x :: .lst xs :: st) := rfl
theorem tyM_app2 {x y : O} {xs : List W} {st : Sto} : tyM (Mf.ty .append) (.ref 2) (x :: y :: .lst xs :: st) = .ok () (x :: y :: .lst xs :: st) := rfl
theorem join_ok {a : Str} {xs : List W} {ys : List Str} {st : Sto} (h : strsOf xs = some ys) (h2 : joinRoom a ys = true) : bmW .join (.str a) [.fl xs] st = .ok (.str (Txt.join a ys)) st := by
  simp only [bmW, one1, run_bind, itemsI, run_pure, bd_ok, h, ofO_pure]
  rw [if_pos h2]; rfl
theorem sum_le {m : Nat} : ∀ {l : List Nat}, (∀ x ∈ l, x ≤ m) → l.sum ≤ l.length * m
  | [], _ => by simp
  | x :: l, h => by
    have h1 := h x (List.mem_cons_self ..)
    have h2 := sum_le (l := l) fun y hy => h y (List.mem_cons_of_mem _ hy)
    rw [List.sum_cons, List.length_cons, Nat.add_mul]; omega
theorem room_of {a : Str} {ys : List Str} {m n : Nat} (h : ∀ y ∈ ys, y.length ≤ m) (hn : ys.length ≤ n) (hb : n * (m + a.length) ≤ 16777216) : joinRoom a ys = true := by
  unfold joinRoom
  refine decide_eq_true ?_
  have h1 := sum_le (m := m) (l := ys.map (·.length)) fun x hx => by obtain ⟨y, hy, rfl⟩ := List.mem_map.mp hx; exact h y hy
  rw [List.length_map] at h1
  have h2 : ys.length * m + ys.length * a.length = ys.length * (m + a.length) := (Nat.mul_add _ _ _).symm
  have h3 : ys.length * (m + a.length) ≤ n * (m + a.length) := Nat.mul_le_mul_right _ hn
  omega
theorem join_len {a : Str} {ys : List Str} {m n : Nat} (h : ∀ y ∈ ys, y.length ≤ m) (hn : ys.length ≤ n) : (Txt.join a ys).length ≤ n * (m + a.length) := by
  have e := size_glued a ys
  have h1 := sum_le (m := m) (l := ys.map (·.length)) fun x hx => by obtain ⟨y, hy, rfl⟩ := List.mem_map.mp hx; exact h y hy
  rw [List.length_map] at h1
  have h2 : ys.length * m + ys.length * a.length = ys.length * (m + a.length) := (Nat.mul_add _ _ _).symm
  have h3 : ys.length * (m + a.length) ≤ n * (m + a.length) := Nat.mul_le_mul_right _ hn
  have h4 : (ys.length - 1) * a.length ≤ ys.length * a.length := Nat.mul_le_mul_right _ (by omega)
  have e2 : (Txt.join a ys).length = (ys.map (·.length)).sum + (ys.length - 1) * a.length := e
  omega
theorem num_len {i : Int} (h : i.natAbs < 10 ^ 9) : (Str.ofString (toString i)).length ≤ 10 := by
  have := int_text_length_le10 (a := i) (k := 9) (by decide) h
  rw [ofString_length]; exact this
theorem num_ok {i : Int} (h : i.natAbs < 10 ^ 9) : i.natAbs.log2 < 1920 := by
  by_cases z : i.natAbs = 0
  · rw [z]; decide
  · have h2 : i.natAbs < 2 ^ 1920 := Nat.lt_of_lt_of_le h (Nat.le_of_lt (by decide +kernel))
    exact (Nat.log2_lt z).mpr h2
/-- joined in two steps -/
theorem join_app {s : Str} : ∀ {xs ys : List Str}, xs ≠ [] → ys ≠ [] → Str.join s (xs ++ ys) = Str.join s xs ++ s ++ Str.join s ys
  | [x], y :: ys, _, _ => rfl
  | x :: x' :: xs, y :: ys, _, _ => by
    have ih := join_app (s := s) (xs := x' :: xs) (ys := y :: ys) (by simp) (by simp)
    show x ++ s ++ Str.join s (x' :: xs ++ y :: ys) = x ++ s ++ Str.join s (x' :: xs) ++ s ++ Str.join s (y :: ys)
    rw [ih]
    simp only [Str.append_assoc]
theorem join_flat {α : Type} {s : Str} {f : α → List Str} : ∀ {l : List α}, (∀ a ∈ l, f a ≠ []) → Str.join s (l.flatMap f) = Str.join s (l.map fun a => Str.join s (f a))
  | [], _ => rfl
  | [a], h => by simp [Str.join]
  | a :: b :: l, h => by
    have ih := join_flat (s := s) (f := f) (l := b :: l) fun c hc => h c (List.mem_cons_of_mem _ hc)
    have hb := h b (by simp)
    rw [List.flatMap_cons, join_app (h a (by simp)) (by rw [List.flatMap_cons]; intro z; exact hb (List.append_eq_nil_iff.mp z).1), ih]
    rfl
theorem txt_join {s : Str} {l : List Str} : Txt.join s l = Str.join s l := StrLaws.glued_eq_join s l
theorem strs_str : ∀ {l : List Str}, strsOf (l.map W.str) = some l
  | [] => rfl
  | x :: l => by simp only [List.map_cons, strsOf, strs_str]; rfl
theorem bT_name {i : Nat} {w : W} {ρ : Rho} : bindT (.name i) w ρ = some (ρ.set i (some w)) := by rw [bindT]
theorem bT_tup {ts : List Tg} {ws : List W} {ρ : Rho} : bindT (.tup ts) (.tup ws) ρ = bindTs ts ws ρ := by rw [bindT]
theorem bTs_nil {ρ : Rho} : bindTs [] [] ρ = some ρ := by rw [bindTs]
theorem bTs_cons {t : Tg} {ts : List Tg} {w : W} {ws : List W} {ρ : Rho} : bindTs (t :: ts) (w :: ws) ρ = (bindT t w ρ).bind fun ρ' => bindTs ts ws ρ' := by rw [bindTs]
theorem fs_if {a : Str} {x y : M W} (h : a.length ≤ 1000) : (if a.length ≤ sizeLine then x else y) = x := if_pos (Nat.le_trans h (by decide))
theorem ef_cons {Γ : Gm} {c : C} {cs : Cs} {ρ : Rho} {acc : Str} {st : Sto} (w : W) (a : Str) (h1 : evalE Γ c ρ st = .ok w st) (h2 : fmtW w = some a) (h3 : (acc ++ a).length ≤ 1000) : evalF Γ (.cons c cs) ρ acc st = evalF Γ cs ρ (acc ++ a) st := by
  rw [evalF, run_bind, h1, bd_ok, run_bind, h2, ofO_pure, run_pure, bd_ok, if_pos (Nat.le_trans h3 (by decide))]
theorem ef_nil {Γ : Gm} {ρ : Rho} {acc : Str} {st : Sto} : evalF Γ .nil ρ acc st = .ok (.str acc) st := by rw [evalF]; rfl
theorem OkR_gc {n : Nat} {r : Vm.R W} {Q : W → Sto → Prop} {X : Xc → Sto → Prop} (h : OkR r (fun w st => ∃ pre g, st = pre ++ g ∧ pre.length = n ∧ Sto.clo pre ∧ w.clo n ∧ Q w pre) (fun x st => ∃ pre g, st = pre ++ g ∧ pre.length = n ∧ Sto.clo pre ∧ clos n x.ws ∧ X x pre)) : OkR (gcR n r) Q X := by
  cases r with
  | bad => exact h
  | ok w st =>
    obtain ⟨pre, g, rfl, rfl, h1, h2, h3⟩ := h
    rw [gc_keep h1 h2]; exact h3
  | er x st =>
    obtain ⟨pre, g, rfl, rfl, h1, h2, h3⟩ := h
    rw [gc_er h1 h2]; exact h3
theorem app1 {x : O} {xs : List W} {w : W} {st : Sto} (h : xs.length ≤ 1000000) : bmW .append (.ref 1) [w] (x :: .lst xs :: st) = .ok .non (x :: .lst (xs ++ [w]) :: st) := by
  have e : xs.length < sizeLine := Nat.lt_of_le_of_lt h (by decide)
  have e2 : getO 1 (x :: .lst xs :: st) = .ok (.lst xs) (x :: .lst xs :: st) := rfl
  have e3 : setO 1 (.lst (xs ++ [w])) (x :: .lst xs :: st) = .ok () (x :: .lst (xs ++ [w]) :: st) := by unfold setO; rw [if_pos (by simp)]; rfl
  simp only [bmW, one1, run_bind, e2, bd_ok, lstOf, run_pure]
  rw [if_pos e, run_bind, e3]; rfl
theorem lcEnd_t {ws : List W} {st : Sto} (h : ws.length ≤ 16777216) : lcEnd true ws st = .ok (.ref st.length) (st ++ [.lst ws]) := by
  unfold lcEnd
  rw [if_pos (Nat.le_trans h (by decide))]; rfl
theorem lst_new {ws : List W} {st : Sto} : newO (.lst ws) st = .ok (.ref st.length) (st ++ [.lst ws]) := rfl
theorem setI_last {pre : Sto} {xs : List W} {i : Int} {w : W} (h0 : 0 ≤ i) (h1 : i < xs.length) : setIW (.ref pre.length) (.int i) w (pre ++ [.lst xs]) = .ok () (pre ++ [.lst (xs.set i.toNat w)]) := by
  have e : ixN xs.length i = some i.toNat := by unfold ixN; rw [if_pos h0, if_pos h1]
  simp only [setIW, run_bind, getL, bd_ok, lstOf, run_pure, e, ofO_pure, setL]
theorem sli_last {pre : Sto} {xs : List W} {lo hi : Option Int} : sliW (.ref pre.length) lo hi (pre ++ [.lst xs]) = .ok (.fl (cutW xs lo hi)) (pre ++ [.lst xs]) := by
  simp only [sliW, run_bind, getL, bd_ok, lstOf, run_pure]
theorem cut_mid {xs : List W} {a b : Nat} (h : a + b ≤ xs.length) : cutW xs (some (a : Int)) (some ((a : Int) + (b : Int))) = (xs.drop a).take b := by
  unfold cutW
  have e1 : ((a : Int) + b) = ((a + b : Nat) : Int) := by omega
  have m1 : min a xs.length = a := Nat.min_eq_left (by omega)
  have m2 : min (a + b) xs.length = a + b := Nat.min_eq_left h
  rw [e1, HT.sIx_nat, HT.sIx_nat, m1, m2, Nat.add_sub_cancel_left]
theorem app_at {pre post : Sto} {xs : List W} {w : W} (h : xs.length ≤ 1000000) : bmW .append (.ref pre.length) [w] (pre ++ .lst xs :: post) = .ok .non (pre ++ .lst (xs ++ [w]) :: post) := by
  have e : xs.length < sizeLine := Nat.lt_of_le_of_lt h (by decide)
  simp only [bmW, one1, run_bind, getL, bd_ok, lstOf, run_pure]
  rw [if_pos e, run_bind, setL]; rfl
theorem tyM_at {pre post : Sto} {xs : List W} : tyM (Mf.ty .append) (.ref pre.length) (pre ++ .lst xs :: post) = .ok () (pre ++ .lst xs :: post) := by
  simp only [tyM, run_bind, getL, bd_ok]; rfl
theorem tuple_at {Γ : Gm} {pre post : Sto} {xs : List W} : biG Γ .tuple [.ref pre.length] (pre ++ .lst xs :: post) = .ok (.tup xs) (pre ++ .lst xs :: post) := by
  rw [biG_ref (xs := xs) (by simp)]
  simp only [biW, one1, itemsOf, run_bind, getL, bd_ok, lstOf, run_pure]

/-! ### whole numbers -/
theorem e_is_whole (i : Int) (st : Sto) : m_is_whole [.int i] st = .ok (.bl true) st := by
  refine OkR.eq ?_
  rw [un_is_whole, OkR_runD, st_is_whole]
  simp only [OkR_ok, OkS_nx, OkS_rt, OkS_bk, OkS_ct, OkS_go, OkS_seq, OkR_bd, bd_ok, go_ok, seq_nx, seq_rt, ofO_some, ofO_pure, run_bind, run_pure, evalSs, evalS, evalE, evalEs, evalT, evalTAnd, evalTOr, evalAnd, evalOr, evalI, evalO, Vm.evalAll, intO, bT_name, bT_tup, bTs_nil, bTs_cons, Option.bind_some, List.set_cons_zero, List.set_cons_succ, var_zero, var_succ, asB_bl, Vm.isNon, biG_tup, biG_fl, biG_kl, biG_int, biG_bl, biG_str, biG_two, biG_r0, biG_r1, biG_r2, cmpG_int, cmpG_bl, cmpG_str, cmpG_tup, cmpG_fl, cmpG_non, cw_eq, cw_ne, cw_lt, cw_le, cw_gt, cw_ge, cw_eqb, cw_neb, cw_eqs, cw_nes, bw_add, bw_sub, nw, sub_tup, sub_fl, sub_kl, sub_r0, sub_r1, sub_r2, len_tup, len_fl, len_kl, len_r0, len_r1, tuple_fl, tuple_r0, tuple_r1, list_fl, list_tup, list_kl, items_tup, items_fl, items_kl, ii_int, ib_int, is_int, it_int, il_int, itl_int, ii_tup, ib_tup, is_tup, it_tup, il_tup, itl_tup, ii_fl, ib_fl, is_fl, it_fl, il_fl, itl_fl, ii_str, ib_str, is_str, it_str, il_str, itl_str, ii_bl, ib_bl, is_bl, it_bl, il_bl, ii_non, ib_non, is_non, it_non, il_non, ↓reduceIte, Bool.not_true, Bool.not_false, Bool.false_eq_true, decide_true, decide_false, decide_eq_true_eq, Bool.true_eq_false, eq_self, not_true_eq_false, not_false_eq_true, List.length_cons, List.length_nil, Nat.reduceAdd, szl, tup_if, lst_if, and_self, wipeR, List.map_cons, List.map_nil, Nat.reduceLeDiff, Int.cast_ofNat_Int, Int.reduceNeg, Int.reduceEq, Int.reduceLE, Int.reduceLT, at0, at1, at2, at3, st_is_whole, un_is_whole, c_is_whole, s1_is_whole]
theorem e_is_from (i a b : Int) (st : Sto) : m_is_from [.int i, .int a, .int b] st = .ok (.bl (decide (a ≤ i ∧ i ≤ b))) st := by
  refine OkR.eq ?_
  rw [un_is_from, OkR_runD, st_is_from]
  by_cases h1 : a ≤ i <;> by_cases h2 : i ≤ b <;> simp [OkR_ok, OkS_nx, OkS_rt, OkS_bk, OkS_ct, OkS_go, OkS_seq, OkR_bd, bd_ok, go_ok, seq_nx, seq_rt, ofO_some, ofO_pure, run_bind, run_pure, evalSs, evalS, evalE, evalEs, evalT, evalTAnd, evalTOr, evalAnd, evalOr, evalI, evalO, Vm.evalAll, intO, bT_name, bT_tup, bTs_nil, bTs_cons, Option.bind_some, List.set_cons_zero, List.set_cons_succ, var_zero, var_succ, asB_bl, Vm.isNon, biG_tup, biG_fl, biG_kl, biG_int, biG_bl, biG_str, biG_two, biG_r0, biG_r1, biG_r2, cmpG_int, cmpG_bl, cmpG_str, cmpG_tup, cmpG_fl, cmpG_non, cw_eq, cw_ne, cw_lt, cw_le, cw_gt, cw_ge, cw_eqb, cw_neb, cw_eqs, cw_nes, bw_add, bw_sub, nw, sub_tup, sub_fl, sub_kl, sub_r0, sub_r1, sub_r2, len_tup, len_fl, len_kl, len_r0, len_r1, tuple_fl, tuple_r0, tuple_r1, list_fl, list_tup, list_kl, items_tup, items_fl, items_kl, ii_int, ib_int, is_int, it_int, il_int, itl_int, ii_tup, ib_tup, is_tup, it_tup, il_tup, itl_tup, ii_fl, ib_fl, is_fl, it_fl, il_fl, itl_fl, ii_str, ib_str, is_str, it_str, il_str, itl_str, ii_bl, ib_bl, is_bl, it_bl, il_bl, ii_non, ib_non, is_non, it_non, il_non, ↓reduceIte, Bool.not_true, Bool.not_false, Bool.false_eq_true, decide_true, decide_false, decide_eq_true_eq, Bool.true_eq_false, eq_self, not_true_eq_false, not_false_eq_true, List.length_cons, List.length_nil, Nat.reduceAdd, szl, tup_if, lst_if, and_self, wipeR, List.map_cons, List.map_nil, Nat.reduceLeDiff, Int.cast_ofNat_Int, Int.reduceNeg, Int.reduceEq, Int.reduceLE, Int.reduceLT, at0, at1, at2, at3, st_is_from, un_is_from, q1_is_whole_1, c_is_from, s1_is_from, e_is_whole, h1, h2]
/-! ### rows and planes as data -/
def eR (row : List Int) : W := .tup (row.map .int)
def eP (pl : List (List Int)) : W := .tup (pl.map eR)
def ePs (P : List (List (List Int))) : W := .tup (P.map eP)
theorem lcF1 {Γ : Gm} {i : Nat} {e : C} {ρ ρ' : Rho} {w y : W} {st : Sto} (h : ρ.set i (some w) = ρ') (h2 : evalE Γ e ρ' st = .ok y st) : lcF (.name i) (fun _ => pure true) (fun ρ' => evalE Γ e ρ') ρ w st = .ok (some y) st := by
  unfold lcF
  simp only [run_bind, bindT, ofO_pure, run_pure, bd_ok, if_true, h, h2]
/-- a comprehension without tests, of values that leave the store -/
theorem lc_ok {Γ : Gm} {i : Nat} {e : C} {ρ : Rho} {items : List W} {F : W → W} {st : Sto} (h : ∀ w ∈ items, evalE Γ e (ρ.set i (some w)) st = .ok (F w) st) : (lcM (lcF (.name i) (fun _ => pure true) (fun ρ' => evalE Γ e ρ') ρ) items).noEr st = .ok (items.map F) st := by
  refine noEr_of ?_
  rw [lcM_map (F := fun w => some (F w)) fun w hw => lcF1 rfl (h w hw), fm_some]
theorem all_true {α : Type} {F : α → Bool} {l : List α} : ((l.map F).all id) = l.all F := by rw [List.all_map]; rfl
theorem all_tt {α : Type} {l : List α} : (l.all fun _ => true) = true := by simp
theorem lcEnd_f {ws : List W} {st : Sto} (h : ws.length ≤ 16777216) : lcEnd false ws st = .ok (.fl ws) st := by
  unfold lcEnd
  rw [if_pos (Nat.le_trans h (by decide))]; rfl
theorem e_are_wholes (row : List Int) (a b : Int) (st : Sto) (h : row.length ≤ 16777216) : m_are_wholes [eR row, .int a, .int b] st = .ok (.bl (row.all fun i => decide (a ≤ i ∧ i ≤ b))) st := by
  refine OkR.eq ?_
  rw [un_are_wholes, OkR_runD, st_are_wholes]
  simp only [OkR_ok, OkS_nx, OkS_rt, OkS_bk, OkS_ct, OkS_go, OkS_seq, OkR_bd, bd_ok, go_ok, seq_nx, seq_rt, ofO_some, ofO_pure, run_bind, run_pure, evalSs, evalS, evalE, evalEs, evalT, evalTAnd, evalTOr, evalAnd, evalOr, evalI, evalO, Vm.evalAll, intO, bT_name, bT_tup, bTs_nil, bTs_cons, Option.bind_some, List.set_cons_zero, List.set_cons_succ, var_zero, var_succ, asB_bl, Vm.isNon, biG_tup, biG_fl, biG_kl, biG_int, biG_bl, biG_str, biG_two, biG_r0, biG_r1, biG_r2, cmpG_int, cmpG_bl, cmpG_str, cmpG_tup, cmpG_fl, cmpG_non, cw_eq, cw_ne, cw_lt, cw_le, cw_gt, cw_ge, cw_eqb, cw_neb, cw_eqs, cw_nes, bw_add, bw_sub, nw, sub_tup, sub_fl, sub_kl, sub_r0, sub_r1, sub_r2, len_tup, len_fl, len_kl, len_r0, len_r1, tuple_fl, tuple_r0, tuple_r1, list_fl, list_tup, list_kl, items_tup, items_fl, items_kl, ii_int, ib_int, is_int, it_int, il_int, itl_int, ii_tup, ib_tup, is_tup, it_tup, il_tup, itl_tup, ii_fl, ib_fl, is_fl, it_fl, il_fl, itl_fl, ii_str, ib_str, is_str, it_str, il_str, itl_str, ii_bl, ib_bl, is_bl, it_bl, il_bl, ii_non, ib_non, is_non, it_non, il_non, ↓reduceIte, Bool.not_true, Bool.not_false, Bool.false_eq_true, decide_true, decide_false, decide_eq_true_eq, Bool.true_eq_false, eq_self, not_true_eq_false, not_false_eq_true, List.length_cons, List.length_nil, Nat.reduceAdd, szl, tup_if, lst_if, and_self, wipeR, List.map_cons, List.map_nil, Nat.reduceLeDiff, Int.cast_ofNat_Int, Int.reduceNeg, Int.reduceEq, Int.reduceLE, Int.reduceLT, at0, at1, at2, at3, st_are_wholes, un_are_wholes, q2_is_from_3, c_are_wholes, s1_are_wholes, eR, List.map, wipeR]
  rw [lc_ok (F := fun w => match w with | .int i => .bl (decide (a ≤ i ∧ i ≤ b)) | w => w)]
  · simp only [OkR_ok, OkS_nx, OkS_rt, OkS_bk, OkS_ct, OkS_go, OkS_seq, OkR_bd, bd_ok, go_ok, seq_nx, seq_rt, ofO_some, ofO_pure, run_bind, run_pure, evalSs, evalS, evalE, evalEs, evalT, evalTAnd, evalTOr, evalAnd, evalOr, evalI, evalO, Vm.evalAll, intO, bT_name, bT_tup, bTs_nil, bTs_cons, Option.bind_some, List.set_cons_zero, List.set_cons_succ, var_zero, var_succ, asB_bl, Vm.isNon, biG_tup, biG_fl, biG_kl, biG_int, biG_bl, biG_str, biG_two, biG_r0, biG_r1, biG_r2, cmpG_int, cmpG_bl, cmpG_str, cmpG_tup, cmpG_fl, cmpG_non, cw_eq, cw_ne, cw_lt, cw_le, cw_gt, cw_ge, cw_eqb, cw_neb, cw_eqs, cw_nes, bw_add, bw_sub, nw, sub_tup, sub_fl, sub_kl, sub_r0, sub_r1, sub_r2, len_tup, len_fl, len_kl, len_r0, len_r1, tuple_fl, tuple_r0, tuple_r1, list_fl, list_tup, list_kl, items_tup, items_fl, items_kl, ii_int, ib_int, is_int, it_int, il_int, itl_int, ii_tup, ib_tup, is_tup, it_tup, il_tup, itl_tup, ii_fl, ib_fl, is_fl, it_fl, il_fl, itl_fl, ii_str, ib_str, is_str, it_str, il_str, itl_str, ii_bl, ib_bl, is_bl, it_bl, il_bl, ii_non, ib_non, is_non, it_non, il_non, ↓reduceIte, Bool.not_true, Bool.not_false, Bool.false_eq_true, decide_true, decide_false, decide_eq_true_eq, Bool.true_eq_false, eq_self, not_true_eq_false, not_false_eq_true, List.length_cons, List.length_nil, Nat.reduceAdd, szl, tup_if, lst_if, and_self, wipeR, List.map_cons, List.map_nil, Nat.reduceLeDiff, Int.cast_ofNat_Int, Int.reduceNeg, Int.reduceEq, Int.reduceLE, Int.reduceLT, at0, at1, at2, at3, st_are_wholes, un_are_wholes, q2_is_from_3, c_are_wholes, lcEnd_f, List.length_map, h, List.map_map, Function.comp_def]
    rw [all_fl blsOf_map, all_true]
    simp only [OkR_ok, OkS_nx, OkS_rt, OkS_bk, OkS_ct, OkS_go, OkS_seq, OkR_bd, bd_ok, go_ok, seq_nx, seq_rt, ofO_some, ofO_pure, run_bind, run_pure, evalSs, evalS, evalE, evalEs, evalT, evalTAnd, evalTOr, evalAnd, evalOr, evalI, evalO, Vm.evalAll, intO, bT_name, bT_tup, bTs_nil, bTs_cons, Option.bind_some, List.set_cons_zero, List.set_cons_succ, var_zero, var_succ, asB_bl, Vm.isNon, biG_tup, biG_fl, biG_kl, biG_int, biG_bl, biG_str, biG_two, biG_r0, biG_r1, biG_r2, cmpG_int, cmpG_bl, cmpG_str, cmpG_tup, cmpG_fl, cmpG_non, cw_eq, cw_ne, cw_lt, cw_le, cw_gt, cw_ge, cw_eqb, cw_neb, cw_eqs, cw_nes, bw_add, bw_sub, nw, sub_tup, sub_fl, sub_kl, sub_r0, sub_r1, sub_r2, len_tup, len_fl, len_kl, len_r0, len_r1, tuple_fl, tuple_r0, tuple_r1, list_fl, list_tup, list_kl, items_tup, items_fl, items_kl, ii_int, ib_int, is_int, it_int, il_int, itl_int, ii_tup, ib_tup, is_tup, it_tup, il_tup, itl_tup, ii_fl, ib_fl, is_fl, it_fl, il_fl, itl_fl, ii_str, ib_str, is_str, it_str, il_str, itl_str, ii_bl, ib_bl, is_bl, it_bl, il_bl, ii_non, ib_non, is_non, it_non, il_non, ↓reduceIte, Bool.not_true, Bool.not_false, Bool.false_eq_true, decide_true, decide_false, decide_eq_true_eq, Bool.true_eq_false, eq_self, not_true_eq_false, not_false_eq_true, List.length_cons, List.length_nil, Nat.reduceAdd, szl, tup_if, lst_if, and_self, wipeR, List.map_cons, List.map_nil, Nat.reduceLeDiff, Int.cast_ofNat_Int, Int.reduceNeg, Int.reduceEq, Int.reduceLE, Int.reduceLT, at0, at1, at2, at3]
  · intro w hw
    obtain ⟨i, _, rfl⟩ := List.mem_map.mp hw
    simp only [OkR_ok, OkS_nx, OkS_rt, OkS_bk, OkS_ct, OkS_go, OkS_seq, OkR_bd, bd_ok, go_ok, seq_nx, seq_rt, ofO_some, ofO_pure, run_bind, run_pure, evalSs, evalS, evalE, evalEs, evalT, evalTAnd, evalTOr, evalAnd, evalOr, evalI, evalO, Vm.evalAll, intO, bT_name, bT_tup, bTs_nil, bTs_cons, Option.bind_some, List.set_cons_zero, List.set_cons_succ, var_zero, var_succ, asB_bl, Vm.isNon, biG_tup, biG_fl, biG_kl, biG_int, biG_bl, biG_str, biG_two, biG_r0, biG_r1, biG_r2, cmpG_int, cmpG_bl, cmpG_str, cmpG_tup, cmpG_fl, cmpG_non, cw_eq, cw_ne, cw_lt, cw_le, cw_gt, cw_ge, cw_eqb, cw_neb, cw_eqs, cw_nes, bw_add, bw_sub, nw, sub_tup, sub_fl, sub_kl, sub_r0, sub_r1, sub_r2, len_tup, len_fl, len_kl, len_r0, len_r1, tuple_fl, tuple_r0, tuple_r1, list_fl, list_tup, list_kl, items_tup, items_fl, items_kl, ii_int, ib_int, is_int, it_int, il_int, itl_int, ii_tup, ib_tup, is_tup, it_tup, il_tup, itl_tup, ii_fl, ib_fl, is_fl, it_fl, il_fl, itl_fl, ii_str, ib_str, is_str, it_str, il_str, itl_str, ii_bl, ib_bl, is_bl, it_bl, il_bl, ii_non, ib_non, is_non, it_non, il_non, ↓reduceIte, Bool.not_true, Bool.not_false, Bool.false_eq_true, decide_true, decide_false, decide_eq_true_eq, Bool.true_eq_false, eq_self, not_true_eq_false, not_false_eq_true, List.length_cons, List.length_nil, Nat.reduceAdd, szl, tup_if, lst_if, and_self, wipeR, List.map_cons, List.map_nil, Nat.reduceLeDiff, Int.cast_ofNat_Int, Int.reduceNeg, Int.reduceEq, Int.reduceLE, Int.reduceLT, at0, at1, at2, at3, st_are_wholes, un_are_wholes, q2_is_from_3, c_are_wholes, e1_are_wholes, e_is_from]
theorem set_len_ints {l : List Int} {st : Sto} (h : l.length + 1 < 1000) : setLen (l.map W.int) st = .ok (.int (l.foldl insU []).length) st := by
  unfold setLen
  have e : intsOf (l.map W.int) = some l := by rw [show l.map W.int = l.map fun x => W.int (id x) from rfl, intsOf_map]; simp
  rw [e]
  dsimp only
  rw [if_pos h]; rfl
/-- all alike: one -/
theorem insU_same {α : Type} [DecidableEq α] {a : α} : ∀ {l : List α}, (∀ x ∈ l, x = a) → ∀ acc : List α, acc = [a] ∨ (acc = [] ∧ l ≠ []) → l.foldl insU acc = [a]
  | [], _, acc, h => by
    rcases h with h | ⟨_, h⟩
    · exact h
    · exact absurd rfl h
  | x :: l, hx, acc, h => by
    have e := hx x (List.mem_cons_self ..)
    subst e
    rw [List.foldl_cons]
    refine insU_same (fun y hy => hx y (List.mem_cons_of_mem _ hy)) _ (.inl ?_)
    rcases h with h | ⟨h, _⟩
    · subst h; simp [insU]
    · subst h; simp [insU]
theorem e_are_rows (pl : List (List Int)) (a b : Int) (wd : Nat) (st : Sto) (h0 : 1 ≤ pl.length) (h1 : (pl.length : Int) ≤ a) (h2 : pl.length ≤ 900) (h3 : ∀ row ∈ pl, row.length = wd) (h4 : 1 ≤ wd) (h5 : (wd : Int) ≤ b) : m_are_rows [eP pl, .int a, .int b] st = .ok (.bl true) st := by
  refine OkR.eq ?_
  rw [un_are_rows, OkR_runD, st_are_rows]
  simp only [OkR_ok, OkS_nx, OkS_rt, OkS_bk, OkS_ct, OkS_go, OkS_seq, OkR_bd, bd_ok, go_ok, seq_nx, seq_rt, ofO_some, ofO_pure, run_bind, run_pure, evalSs, evalS, evalE, evalEs, evalT, evalTAnd, evalTOr, evalAnd, evalOr, evalI, evalO, Vm.evalAll, intO, bT_name, bT_tup, bTs_nil, bTs_cons, Option.bind_some, List.set_cons_zero, List.set_cons_succ, var_zero, var_succ, asB_bl, Vm.isNon, biG_tup, biG_fl, biG_kl, biG_int, biG_bl, biG_str, biG_two, biG_r0, biG_r1, biG_r2, cmpG_int, cmpG_bl, cmpG_str, cmpG_tup, cmpG_fl, cmpG_non, cw_eq, cw_ne, cw_lt, cw_le, cw_gt, cw_ge, cw_eqb, cw_neb, cw_eqs, cw_nes, bw_add, bw_sub, nw, sub_tup, sub_fl, sub_kl, sub_r0, sub_r1, sub_r2, len_tup, len_fl, len_kl, len_r0, len_r1, tuple_fl, tuple_r0, tuple_r1, list_fl, list_tup, list_kl, items_tup, items_fl, items_kl, ii_int, ib_int, is_int, it_int, il_int, itl_int, ii_tup, ib_tup, is_tup, it_tup, il_tup, itl_tup, ii_fl, ib_fl, is_fl, it_fl, il_fl, itl_fl, ii_str, ib_str, is_str, it_str, il_str, itl_str, ii_bl, ib_bl, is_bl, it_bl, il_bl, ii_non, ib_non, is_non, it_non, il_non, ↓reduceIte, Bool.not_true, Bool.not_false, Bool.false_eq_true, decide_true, decide_false, decide_eq_true_eq, Bool.true_eq_false, eq_self, not_true_eq_false, not_false_eq_true, List.length_cons, List.length_nil, Nat.reduceAdd, szl, tup_if, lst_if, and_self, wipeR, List.map_cons, List.map_nil, Nat.reduceLeDiff, Int.cast_ofNat_Int, Int.reduceNeg, Int.reduceEq, Int.reduceLE, Int.reduceLT, at0, at1, at2, at3, st_are_rows, un_are_rows, q1_Eq_Picture, q1_NotEq_Picture, q1_len_Picture, c_are_rows, s1_are_rows, eP, wipeR, List.length_map]
  have g0 : (1 : Int) ≤ pl.length := by omega
  simp only [OkR_ok, OkS_nx, OkS_rt, OkS_bk, OkS_ct, OkS_go, OkS_seq, OkR_bd, bd_ok, go_ok, seq_nx, seq_rt, ofO_some, ofO_pure, run_bind, run_pure, evalSs, evalS, evalE, evalEs, evalT, evalTAnd, evalTOr, evalAnd, evalOr, evalI, evalO, Vm.evalAll, intO, bT_name, bT_tup, bTs_nil, bTs_cons, Option.bind_some, List.set_cons_zero, List.set_cons_succ, var_zero, var_succ, asB_bl, Vm.isNon, biG_tup, biG_fl, biG_kl, biG_int, biG_bl, biG_str, biG_two, biG_r0, biG_r1, biG_r2, cmpG_int, cmpG_bl, cmpG_str, cmpG_tup, cmpG_fl, cmpG_non, cw_eq, cw_ne, cw_lt, cw_le, cw_gt, cw_ge, cw_eqb, cw_neb, cw_eqs, cw_nes, bw_add, bw_sub, nw, sub_tup, sub_fl, sub_kl, sub_r0, sub_r1, sub_r2, len_tup, len_fl, len_kl, len_r0, len_r1, tuple_fl, tuple_r0, tuple_r1, list_fl, list_tup, list_kl, items_tup, items_fl, items_kl, ii_int, ib_int, is_int, it_int, il_int, itl_int, ii_tup, ib_tup, is_tup, it_tup, il_tup, itl_tup, ii_fl, ib_fl, is_fl, it_fl, il_fl, itl_fl, ii_str, ib_str, is_str, it_str, il_str, itl_str, ii_bl, ib_bl, is_bl, it_bl, il_bl, ii_non, ib_non, is_non, it_non, il_non, ↓reduceIte, Bool.not_true, Bool.not_false, Bool.false_eq_true, decide_true, decide_false, decide_eq_true_eq, Bool.true_eq_false, eq_self, not_true_eq_false, not_false_eq_true, List.length_cons, List.length_nil, Nat.reduceAdd, szl, tup_if, lst_if, and_self, wipeR, List.map_cons, List.map_nil, Nat.reduceLeDiff, Int.cast_ofNat_Int, Int.reduceNeg, Int.reduceEq, Int.reduceLE, Int.reduceLT, at0, at1, at2, at3, st_are_rows, un_are_rows, q1_Eq_Picture, q1_NotEq_Picture, q1_len_Picture, c_are_rows, g0, h1, s2_are_rows, wipeR]
  rw [lc_ok (F := fun w => .bl true)]
  · simp only [OkR_ok, OkS_nx, OkS_rt, OkS_bk, OkS_ct, OkS_go, OkS_seq, OkR_bd, bd_ok, go_ok, seq_nx, seq_rt, ofO_some, ofO_pure, run_bind, run_pure, evalSs, evalS, evalE, evalEs, evalT, evalTAnd, evalTOr, evalAnd, evalOr, evalI, evalO, Vm.evalAll, intO, bT_name, bT_tup, bTs_nil, bTs_cons, Option.bind_some, List.set_cons_zero, List.set_cons_succ, var_zero, var_succ, asB_bl, Vm.isNon, biG_tup, biG_fl, biG_kl, biG_int, biG_bl, biG_str, biG_two, biG_r0, biG_r1, biG_r2, cmpG_int, cmpG_bl, cmpG_str, cmpG_tup, cmpG_fl, cmpG_non, cw_eq, cw_ne, cw_lt, cw_le, cw_gt, cw_ge, cw_eqb, cw_neb, cw_eqs, cw_nes, bw_add, bw_sub, nw, sub_tup, sub_fl, sub_kl, sub_r0, sub_r1, sub_r2, len_tup, len_fl, len_kl, len_r0, len_r1, tuple_fl, tuple_r0, tuple_r1, list_fl, list_tup, list_kl, items_tup, items_fl, items_kl, ii_int, ib_int, is_int, it_int, il_int, itl_int, ii_tup, ib_tup, is_tup, it_tup, il_tup, itl_tup, ii_fl, ib_fl, is_fl, it_fl, il_fl, itl_fl, ii_str, ib_str, is_str, it_str, il_str, itl_str, ii_bl, ib_bl, is_bl, it_bl, il_bl, ii_non, ib_non, is_non, it_non, il_non, ↓reduceIte, Bool.not_true, Bool.not_false, Bool.false_eq_true, decide_true, decide_false, decide_eq_true_eq, Bool.true_eq_false, eq_self, not_true_eq_false, not_false_eq_true, List.length_cons, List.length_nil, Nat.reduceAdd, szl, tup_if, lst_if, and_self, wipeR, List.map_cons, List.map_nil, Nat.reduceLeDiff, Int.cast_ofNat_Int, Int.reduceNeg, Int.reduceEq, Int.reduceLE, Int.reduceLT, at0, at1, at2, at3, st_are_rows, un_are_rows, q1_Eq_Picture, q1_NotEq_Picture, q1_len_Picture, c_are_rows, lcEnd_f, List.length_map, List.map_map, Function.comp_def, show pl.length ≤ 16777216 by omega]
    rw [all_fl (blsOf_map (F := fun _ => true)), all_true]
    simp only [OkR_ok, OkS_nx, OkS_rt, OkS_bk, OkS_ct, OkS_go, OkS_seq, OkR_bd, bd_ok, go_ok, seq_nx, seq_rt, ofO_some, ofO_pure, run_bind, run_pure, evalSs, evalS, evalE, evalEs, evalT, evalTAnd, evalTOr, evalAnd, evalOr, evalI, evalO, Vm.evalAll, intO, bT_name, bT_tup, bTs_nil, bTs_cons, Option.bind_some, List.set_cons_zero, List.set_cons_succ, var_zero, var_succ, asB_bl, Vm.isNon, biG_tup, biG_fl, biG_kl, biG_int, biG_bl, biG_str, biG_two, biG_r0, biG_r1, biG_r2, cmpG_int, cmpG_bl, cmpG_str, cmpG_tup, cmpG_fl, cmpG_non, cw_eq, cw_ne, cw_lt, cw_le, cw_gt, cw_ge, cw_eqb, cw_neb, cw_eqs, cw_nes, bw_add, bw_sub, nw, sub_tup, sub_fl, sub_kl, sub_r0, sub_r1, sub_r2, len_tup, len_fl, len_kl, len_r0, len_r1, tuple_fl, tuple_r0, tuple_r1, list_fl, list_tup, list_kl, items_tup, items_fl, items_kl, ii_int, ib_int, is_int, it_int, il_int, itl_int, ii_tup, ib_tup, is_tup, it_tup, il_tup, itl_tup, ii_fl, ib_fl, is_fl, it_fl, il_fl, itl_fl, ii_str, ib_str, is_str, it_str, il_str, itl_str, ii_bl, ib_bl, is_bl, it_bl, il_bl, ii_non, ib_non, is_non, it_non, il_non, ↓reduceIte, Bool.not_true, Bool.not_false, Bool.false_eq_true, decide_true, decide_false, decide_eq_true_eq, Bool.true_eq_false, eq_self, not_true_eq_false, not_false_eq_true, List.length_cons, List.length_nil, Nat.reduceAdd, szl, tup_if, lst_if, and_self, wipeR, List.map_cons, List.map_nil, Nat.reduceLeDiff, Int.cast_ofNat_Int, Int.reduceNeg, Int.reduceEq, Int.reduceLE, Int.reduceLT, at0, at1, at2, at3, st_are_rows, un_are_rows, q1_Eq_Picture, q1_NotEq_Picture, q1_len_Picture, c_are_rows, all_tt, s3_are_rows]
    rw [lc_ok (F := fun w => .int wd)]
    · simp only [OkR_ok, OkS_nx, OkS_rt, OkS_bk, OkS_ct, OkS_go, OkS_seq, OkR_bd, bd_ok, go_ok, seq_nx, seq_rt, ofO_some, ofO_pure, run_bind, run_pure, evalSs, evalS, evalE, evalEs, evalT, evalTAnd, evalTOr, evalAnd, evalOr, evalI, evalO, Vm.evalAll, intO, bT_name, bT_tup, bTs_nil, bTs_cons, Option.bind_some, List.set_cons_zero, List.set_cons_succ, var_zero, var_succ, asB_bl, Vm.isNon, biG_tup, biG_fl, biG_kl, biG_int, biG_bl, biG_str, biG_two, biG_r0, biG_r1, biG_r2, cmpG_int, cmpG_bl, cmpG_str, cmpG_tup, cmpG_fl, cmpG_non, cw_eq, cw_ne, cw_lt, cw_le, cw_gt, cw_ge, cw_eqb, cw_neb, cw_eqs, cw_nes, bw_add, bw_sub, nw, sub_tup, sub_fl, sub_kl, sub_r0, sub_r1, sub_r2, len_tup, len_fl, len_kl, len_r0, len_r1, tuple_fl, tuple_r0, tuple_r1, list_fl, list_tup, list_kl, items_tup, items_fl, items_kl, ii_int, ib_int, is_int, it_int, il_int, itl_int, ii_tup, ib_tup, is_tup, it_tup, il_tup, itl_tup, ii_fl, ib_fl, is_fl, it_fl, il_fl, itl_fl, ii_str, ib_str, is_str, it_str, il_str, itl_str, ii_bl, ib_bl, is_bl, it_bl, il_bl, ii_non, ib_non, is_non, it_non, il_non, ↓reduceIte, Bool.not_true, Bool.not_false, Bool.false_eq_true, decide_true, decide_false, decide_eq_true_eq, Bool.true_eq_false, eq_self, not_true_eq_false, not_false_eq_true, List.length_cons, List.length_nil, Nat.reduceAdd, szl, tup_if, lst_if, and_self, wipeR, List.map_cons, List.map_nil, Nat.reduceLeDiff, Int.cast_ofNat_Int, Int.reduceNeg, Int.reduceEq, Int.reduceLE, Int.reduceLT, at0, at1, at2, at3, st_are_rows, un_are_rows, q1_Eq_Picture, q1_NotEq_Picture, q1_len_Picture, c_are_rows, List.map_map, Function.comp_def]
      rw [show (pl.map fun _ => W.int (wd : Int)) = (pl.map fun _ => (wd : Int)).map W.int by rw [List.map_map]; rfl, set_len_ints (by rw [List.length_map]; omega), insU_same (a := (wd : Int)) (fun x hx => by obtain ⟨_, _, rfl⟩ := List.mem_map.mp hx; rfl) [] (.inr ⟨rfl, by intro z; rw [List.map_eq_nil_iff] at z; subst z; simp at h0⟩)]
      simp [OkR_ok, OkS_nx, OkS_rt, OkS_bk, OkS_ct, OkS_go, OkS_seq, OkR_bd, bd_ok, go_ok, seq_nx, seq_rt, ofO_some, ofO_pure, run_bind, run_pure, evalSs, evalS, evalE, evalEs, evalT, evalTAnd, evalTOr, evalAnd, evalOr, evalI, evalO, Vm.evalAll, intO, bT_name, bT_tup, bTs_nil, bTs_cons, Option.bind_some, List.set_cons_zero, List.set_cons_succ, var_zero, var_succ, asB_bl, Vm.isNon, biG_tup, biG_fl, biG_kl, biG_int, biG_bl, biG_str, biG_two, biG_r0, biG_r1, biG_r2, cmpG_int, cmpG_bl, cmpG_str, cmpG_tup, cmpG_fl, cmpG_non, cw_eq, cw_ne, cw_lt, cw_le, cw_gt, cw_ge, cw_eqb, cw_neb, cw_eqs, cw_nes, bw_add, bw_sub, nw, sub_tup, sub_fl, sub_kl, sub_r0, sub_r1, sub_r2, len_tup, len_fl, len_kl, len_r0, len_r1, tuple_fl, tuple_r0, tuple_r1, list_fl, list_tup, list_kl, items_tup, items_fl, items_kl, ii_int, ib_int, is_int, it_int, il_int, itl_int, ii_tup, ib_tup, is_tup, it_tup, il_tup, itl_tup, ii_fl, ib_fl, is_fl, it_fl, il_fl, itl_fl, ii_str, ib_str, is_str, it_str, il_str, itl_str, ii_bl, ib_bl, is_bl, it_bl, il_bl, ii_non, ib_non, is_non, it_non, il_non, ↓reduceIte, Bool.not_true, Bool.not_false, Bool.false_eq_true, decide_true, decide_false, decide_eq_true_eq, Bool.true_eq_false, eq_self, not_true_eq_false, not_false_eq_true, List.length_cons, List.length_nil, Nat.reduceAdd, szl, tup_if, lst_if, and_self, wipeR, List.map_cons, List.map_nil, Nat.reduceLeDiff, Int.cast_ofNat_Int, Int.reduceNeg, Int.reduceEq, Int.reduceLE, Int.reduceLT, at0, at1, at2, at3, st_are_rows, un_are_rows, q1_Eq_Picture, q1_NotEq_Picture, q1_len_Picture, c_are_rows]
    · intro w hw
      obtain ⟨row, hr, rfl⟩ := List.mem_map.mp hw
      have e := h3 row hr
      simp only [OkR_ok, OkS_nx, OkS_rt, OkS_bk, OkS_ct, OkS_go, OkS_seq, OkR_bd, bd_ok, go_ok, seq_nx, seq_rt, ofO_some, ofO_pure, run_bind, run_pure, evalSs, evalS, evalE, evalEs, evalT, evalTAnd, evalTOr, evalAnd, evalOr, evalI, evalO, Vm.evalAll, intO, bT_name, bT_tup, bTs_nil, bTs_cons, Option.bind_some, List.set_cons_zero, List.set_cons_succ, var_zero, var_succ, asB_bl, Vm.isNon, biG_tup, biG_fl, biG_kl, biG_int, biG_bl, biG_str, biG_two, biG_r0, biG_r1, biG_r2, cmpG_int, cmpG_bl, cmpG_str, cmpG_tup, cmpG_fl, cmpG_non, cw_eq, cw_ne, cw_lt, cw_le, cw_gt, cw_ge, cw_eqb, cw_neb, cw_eqs, cw_nes, bw_add, bw_sub, nw, sub_tup, sub_fl, sub_kl, sub_r0, sub_r1, sub_r2, len_tup, len_fl, len_kl, len_r0, len_r1, tuple_fl, tuple_r0, tuple_r1, list_fl, list_tup, list_kl, items_tup, items_fl, items_kl, ii_int, ib_int, is_int, it_int, il_int, itl_int, ii_tup, ib_tup, is_tup, it_tup, il_tup, itl_tup, ii_fl, ib_fl, is_fl, it_fl, il_fl, itl_fl, ii_str, ib_str, is_str, it_str, il_str, itl_str, ii_bl, ib_bl, is_bl, it_bl, il_bl, ii_non, ib_non, is_non, it_non, il_non, ↓reduceIte, Bool.not_true, Bool.not_false, Bool.false_eq_true, decide_true, decide_false, decide_eq_true_eq, Bool.true_eq_false, eq_self, not_true_eq_false, not_false_eq_true, List.length_cons, List.length_nil, Nat.reduceAdd, szl, tup_if, lst_if, and_self, wipeR, List.map_cons, List.map_nil, Nat.reduceLeDiff, Int.cast_ofNat_Int, Int.reduceNeg, Int.reduceEq, Int.reduceLE, Int.reduceLT, at0, at1, at2, at3, st_are_rows, un_are_rows, q1_Eq_Picture, q1_NotEq_Picture, q1_len_Picture, c_are_rows, e2_are_rows, eR, List.length_map, e]
  · intro w hw
    obtain ⟨row, hr, rfl⟩ := List.mem_map.mp hw
    have e := h3 row hr
    have g4 : (1 : Int) ≤ wd := by omega
    simp only [OkR_ok, OkS_nx, OkS_rt, OkS_bk, OkS_ct, OkS_go, OkS_seq, OkR_bd, bd_ok, go_ok, seq_nx, seq_rt, ofO_some, ofO_pure, run_bind, run_pure, evalSs, evalS, evalE, evalEs, evalT, evalTAnd, evalTOr, evalAnd, evalOr, evalI, evalO, Vm.evalAll, intO, bT_name, bT_tup, bTs_nil, bTs_cons, Option.bind_some, List.set_cons_zero, List.set_cons_succ, var_zero, var_succ, asB_bl, Vm.isNon, biG_tup, biG_fl, biG_kl, biG_int, biG_bl, biG_str, biG_two, biG_r0, biG_r1, biG_r2, cmpG_int, cmpG_bl, cmpG_str, cmpG_tup, cmpG_fl, cmpG_non, cw_eq, cw_ne, cw_lt, cw_le, cw_gt, cw_ge, cw_eqb, cw_neb, cw_eqs, cw_nes, bw_add, bw_sub, nw, sub_tup, sub_fl, sub_kl, sub_r0, sub_r1, sub_r2, len_tup, len_fl, len_kl, len_r0, len_r1, tuple_fl, tuple_r0, tuple_r1, list_fl, list_tup, list_kl, items_tup, items_fl, items_kl, ii_int, ib_int, is_int, it_int, il_int, itl_int, ii_tup, ib_tup, is_tup, it_tup, il_tup, itl_tup, ii_fl, ib_fl, is_fl, it_fl, il_fl, itl_fl, ii_str, ib_str, is_str, it_str, il_str, itl_str, ii_bl, ib_bl, is_bl, it_bl, il_bl, ii_non, ib_non, is_non, it_non, il_non, ↓reduceIte, Bool.not_true, Bool.not_false, Bool.false_eq_true, decide_true, decide_false, decide_eq_true_eq, Bool.true_eq_false, eq_self, not_true_eq_false, not_false_eq_true, List.length_cons, List.length_nil, Nat.reduceAdd, szl, tup_if, lst_if, and_self, wipeR, List.map_cons, List.map_nil, Nat.reduceLeDiff, Int.cast_ofNat_Int, Int.reduceNeg, Int.reduceEq, Int.reduceLE, Int.reduceLT, at0, at1, at2, at3, st_are_rows, un_are_rows, q1_Eq_Picture, q1_NotEq_Picture, q1_len_Picture, c_are_rows, e1_are_rows, eR, List.length_map, e, g4, h5]

theorem flat_len {α β : Type} {f : α → List β} {m : Nat} : ∀ {l : List α}, (∀ a ∈ l, (f a).length ≤ m) → (l.flatMap f).length ≤ l.length * m
  | [], _ => by simp
  | a :: l, h => by
    have h1 := h a (List.mem_cons_self ..)
    have h2 := flat_len (l := l) fun b hb => h b (List.mem_cons_of_mem _ hb)
    rw [List.flatMap_cons, List.length_append, List.length_cons, Nat.add_mul]
    omega
theorem bls_tt : ∀ {l : List W}, (∀ w ∈ l, w = .bl true) → blsOf l = some (l.map fun _ => true)
  | [], _ => rfl
  | a :: l, h => by
    have e := h a (List.mem_cons_self ..)
    subst e
    simp only [blsOf, bls_tt (l := l) fun b hb => h b (List.mem_cons_of_mem _ hb), List.map_cons]; rfl
/-- the planes of a picture -/
structure Pic (P : List (List (List Int))) (wd hg : Nat) (dp : Int) : Prop where
  n0 : 1 ≤ P.length
  n1 : P.length ≤ 4
  w0 : 1 ≤ wd
  w1 : wd ≤ 48
  h0 : 1 ≤ hg
  h1 : hg ≤ 48
  rows : ∀ pl ∈ P, pl.length = hg
  cols : ∀ pl ∈ P, ∀ row ∈ pl, row.length = wd
  nums : ∀ pl ∈ P, ∀ row ∈ pl, ∀ i ∈ row, 0 ≤ i ∧ i ≤ dp
theorem lcF2 {Γ : Gm} {i j : Nat} {e : C} {it : Vm.It} {ρ : Rho} {w : W} {items : List W} {st : Sto} {vs : List Nat} {F : W → W} (h1 : evalI Γ it (ρ.set i (some w)) st = .ok items st) (h2 : ∀ u ∈ items, evalE Γ e ((wipeR (ρ.set i (some w)) vs).set j (some u)) st = .ok (F u) st) :
    lc2F (.name i) (fun _ => pure true) (fun ρ' => evalI Γ it ρ') (.name j) (fun _ => pure true) (fun ρ' => evalE Γ e ρ') vs ρ w st = .ok (items.map F) st := by
  unfold lc2F
  simp only [run_bind, bindT, ofO_pure, run_pure, bd_ok, if_true, h1]
  rw [lcM_map (F := fun w => some (F w)) fun u hu => lcF1 rfl (h2 u hu), fm_some]
theorem lc2_ok {Γ : Gm} {i j : Nat} {e : C} {it : Vm.It} {ρ : Rho} {items : List W} {st : Sto} {vs : List Nat} (I : W → List W) (F : W → W) (h1 : ∀ w ∈ items, evalI Γ it (ρ.set i (some w)) st = .ok (I w) st) (h2 : ∀ w ∈ items, ∀ u ∈ I w, evalE Γ e ((wipeR (ρ.set i (some w)) vs).set j (some u)) st = .ok (F u) st) :
    (lcM2 (lc2F (.name i) (fun _ => pure true) (fun ρ' => evalI Γ it ρ') (.name j) (fun _ => pure true) (fun ρ' => evalE Γ e ρ') vs ρ) items).noEr st = .ok (items.flatMap fun w => (I w).map F) st := by
  refine noEr_of ?_
  exact lcM2_map fun w hw => lcF2 (h1 w hw) (h2 w hw)
theorem set_len_tups {l : List (List Int)} {st : Sto} (h0 : l ≠ []) (h : l.length + 1 < 64) : setLen (l.map eR) st = .ok (.int (l.foldl insU []).length) st := by
  unfold setLen
  have e1 : intsOf (l.map eR) = none := by
    cases l with
    | nil => exact absurd rfl h0
    | cons x l => rfl
  have e2 : ∀ l : List (List Int), tupsI (l.map eR) = some l := by
    intro l
    induction l with
    | nil => rfl
    | cons x l ih =>
      have e3 : tupI (eR x) = some x := by
        show intsOf (x.map W.int) = some x
        rw [show x.map W.int = x.map fun y => W.int (id y) from rfl, intsOf_map]; simp
      simp only [List.map_cons, tupsI, e3, ih]; rfl
  rw [e1, e2]
  dsimp only
  rw [if_pos h]; rfl
theorem e_are_planes {P : List (List (List Int))} {wd hg : Nat} {dp : Int} (h : Pic P wd hg dp) (st : Sto) : m_are_planes [ePs P, .int dp] st = .ok (.bl true) st := by
  have n0 := h.n0; have n1 := h.n1; have w0 := h.w0; have w1 := h.w1; have q0 := h.h0; have q1 := h.h1
  refine OkR.eq ?_
  rw [un_are_planes, OkR_runD, st_are_planes]
  have g0 : (1 : Int) ≤ P.length := by omega
  have g1 : (P.length : Int) ≤ 4 := by omega
  simp only [OkR_ok, OkS_nx, OkS_rt, OkS_bk, OkS_ct, OkS_go, OkS_seq, OkR_bd, bd_ok, go_ok, seq_nx, seq_rt, ofO_some, ofO_pure, run_bind, run_pure, evalSs, evalS, evalE, evalEs, evalT, evalTAnd, evalTOr, evalAnd, evalOr, evalI, evalO, Vm.evalAll, intO, bT_name, bT_tup, bTs_nil, bTs_cons, Option.bind_some, List.set_cons_zero, List.set_cons_succ, var_zero, var_succ, asB_bl, Vm.isNon, biG_tup, biG_fl, biG_kl, biG_int, biG_bl, biG_str, biG_two, biG_r0, biG_r1, biG_r2, cmpG_int, cmpG_bl, cmpG_str, cmpG_tup, cmpG_fl, cmpG_non, cw_eq, cw_ne, cw_lt, cw_le, cw_gt, cw_ge, cw_eqb, cw_neb, cw_eqs, cw_nes, bw_add, bw_sub, nw, sub_tup, sub_fl, sub_kl, sub_r0, sub_r1, sub_r2, len_tup, len_fl, len_kl, len_r0, len_r1, tuple_fl, tuple_r0, tuple_r1, list_fl, list_tup, list_kl, items_tup, items_fl, items_kl, ii_int, ib_int, is_int, it_int, il_int, itl_int, ii_tup, ib_tup, is_tup, it_tup, il_tup, itl_tup, ii_fl, ib_fl, is_fl, it_fl, il_fl, itl_fl, ii_str, ib_str, is_str, it_str, il_str, itl_str, ii_bl, ib_bl, is_bl, it_bl, il_bl, ii_non, ib_non, is_non, it_non, il_non, ↓reduceIte, Bool.not_true, Bool.not_false, Bool.false_eq_true, decide_true, decide_false, decide_eq_true_eq, Bool.true_eq_false, eq_self, not_true_eq_false, not_false_eq_true, List.length_cons, List.length_nil, Nat.reduceAdd, szl, tup_if, lst_if, and_self, wipeR, List.map_cons, List.map_nil, Nat.reduceLeDiff, Int.cast_ofNat_Int, Int.reduceNeg, Int.reduceEq, Int.reduceLE, Int.reduceLT, at0, at1, at2, at3, st_are_planes, un_are_planes, q3_Eq_Picture, q3_NotEq_Picture, q3_len_Picture, q3_are_wholes_3, q3_gl_MOST_PLANES, q3_are_rows_3, q3_gl_WIDEST, c_are_planes, s1_are_planes, ePs, List.length_map, g0, g1, s2_are_planes]
  rw [lc_ok (F := fun w => .bl true)]
  · simp only [OkR_ok, OkS_nx, OkS_rt, OkS_bk, OkS_ct, OkS_go, OkS_seq, OkR_bd, bd_ok, go_ok, seq_nx, seq_rt, ofO_some, ofO_pure, run_bind, run_pure, evalSs, evalS, evalE, evalEs, evalT, evalTAnd, evalTOr, evalAnd, evalOr, evalI, evalO, Vm.evalAll, intO, bT_name, bT_tup, bTs_nil, bTs_cons, Option.bind_some, List.set_cons_zero, List.set_cons_succ, var_zero, var_succ, asB_bl, Vm.isNon, biG_tup, biG_fl, biG_kl, biG_int, biG_bl, biG_str, biG_two, biG_r0, biG_r1, biG_r2, cmpG_int, cmpG_bl, cmpG_str, cmpG_tup, cmpG_fl, cmpG_non, cw_eq, cw_ne, cw_lt, cw_le, cw_gt, cw_ge, cw_eqb, cw_neb, cw_eqs, cw_nes, bw_add, bw_sub, nw, sub_tup, sub_fl, sub_kl, sub_r0, sub_r1, sub_r2, len_tup, len_fl, len_kl, len_r0, len_r1, tuple_fl, tuple_r0, tuple_r1, list_fl, list_tup, list_kl, items_tup, items_fl, items_kl, ii_int, ib_int, is_int, it_int, il_int, itl_int, ii_tup, ib_tup, is_tup, it_tup, il_tup, itl_tup, ii_fl, ib_fl, is_fl, it_fl, il_fl, itl_fl, ii_str, ib_str, is_str, it_str, il_str, itl_str, ii_bl, ib_bl, is_bl, it_bl, il_bl, ii_non, ib_non, is_non, it_non, il_non, ↓reduceIte, Bool.not_true, Bool.not_false, Bool.false_eq_true, decide_true, decide_false, decide_eq_true_eq, Bool.true_eq_false, eq_self, not_true_eq_false, not_false_eq_true, List.length_cons, List.length_nil, Nat.reduceAdd, szl, tup_if, lst_if, and_self, wipeR, List.map_cons, List.map_nil, Nat.reduceLeDiff, Int.cast_ofNat_Int, Int.reduceNeg, Int.reduceEq, Int.reduceLE, Int.reduceLT, at0, at1, at2, at3, st_are_planes, un_are_planes, q3_Eq_Picture, q3_NotEq_Picture, q3_len_Picture, q3_are_wholes_3, q3_gl_MOST_PLANES, q3_are_rows_3, q3_gl_WIDEST, c_are_planes, lcEnd_f, List.length_map, List.map_map, Function.comp_def, show P.length ≤ 16777216 by omega]
    rw [all_fl (blsOf_map (F := fun _ => true)), all_true]
    simp only [OkR_ok, OkS_nx, OkS_rt, OkS_bk, OkS_ct, OkS_go, OkS_seq, OkR_bd, bd_ok, go_ok, seq_nx, seq_rt, ofO_some, ofO_pure, run_bind, run_pure, evalSs, evalS, evalE, evalEs, evalT, evalTAnd, evalTOr, evalAnd, evalOr, evalI, evalO, Vm.evalAll, intO, bT_name, bT_tup, bTs_nil, bTs_cons, Option.bind_some, List.set_cons_zero, List.set_cons_succ, var_zero, var_succ, asB_bl, Vm.isNon, biG_tup, biG_fl, biG_kl, biG_int, biG_bl, biG_str, biG_two, biG_r0, biG_r1, biG_r2, cmpG_int, cmpG_bl, cmpG_str, cmpG_tup, cmpG_fl, cmpG_non, cw_eq, cw_ne, cw_lt, cw_le, cw_gt, cw_ge, cw_eqb, cw_neb, cw_eqs, cw_nes, bw_add, bw_sub, nw, sub_tup, sub_fl, sub_kl, sub_r0, sub_r1, sub_r2, len_tup, len_fl, len_kl, len_r0, len_r1, tuple_fl, tuple_r0, tuple_r1, list_fl, list_tup, list_kl, items_tup, items_fl, items_kl, ii_int, ib_int, is_int, it_int, il_int, itl_int, ii_tup, ib_tup, is_tup, it_tup, il_tup, itl_tup, ii_fl, ib_fl, is_fl, it_fl, il_fl, itl_fl, ii_str, ib_str, is_str, it_str, il_str, itl_str, ii_bl, ib_bl, is_bl, it_bl, il_bl, ii_non, ib_non, is_non, it_non, il_non, ↓reduceIte, Bool.not_true, Bool.not_false, Bool.false_eq_true, decide_true, decide_false, decide_eq_true_eq, Bool.true_eq_false, eq_self, not_true_eq_false, not_false_eq_true, List.length_cons, List.length_nil, Nat.reduceAdd, szl, tup_if, lst_if, and_self, wipeR, List.map_cons, List.map_nil, Nat.reduceLeDiff, Int.cast_ofNat_Int, Int.reduceNeg, Int.reduceEq, Int.reduceLE, Int.reduceLT, at0, at1, at2, at3, st_are_planes, un_are_planes, q3_Eq_Picture, q3_NotEq_Picture, q3_len_Picture, q3_are_wholes_3, q3_gl_MOST_PLANES, q3_are_rows_3, q3_gl_WIDEST, c_are_planes, all_tt, s3_are_planes]
    rw [lc_ok (F := fun w => eR [(hg : Int), (wd : Int)])]
    · simp only [OkR_ok, OkS_nx, OkS_rt, OkS_bk, OkS_ct, OkS_go, OkS_seq, OkR_bd, bd_ok, go_ok, seq_nx, seq_rt, ofO_some, ofO_pure, run_bind, run_pure, evalSs, evalS, evalE, evalEs, evalT, evalTAnd, evalTOr, evalAnd, evalOr, evalI, evalO, Vm.evalAll, intO, bT_name, bT_tup, bTs_nil, bTs_cons, Option.bind_some, List.set_cons_zero, List.set_cons_succ, var_zero, var_succ, asB_bl, Vm.isNon, biG_tup, biG_fl, biG_kl, biG_int, biG_bl, biG_str, biG_two, biG_r0, biG_r1, biG_r2, cmpG_int, cmpG_bl, cmpG_str, cmpG_tup, cmpG_fl, cmpG_non, cw_eq, cw_ne, cw_lt, cw_le, cw_gt, cw_ge, cw_eqb, cw_neb, cw_eqs, cw_nes, bw_add, bw_sub, nw, sub_tup, sub_fl, sub_kl, sub_r0, sub_r1, sub_r2, len_tup, len_fl, len_kl, len_r0, len_r1, tuple_fl, tuple_r0, tuple_r1, list_fl, list_tup, list_kl, items_tup, items_fl, items_kl, ii_int, ib_int, is_int, it_int, il_int, itl_int, ii_tup, ib_tup, is_tup, it_tup, il_tup, itl_tup, ii_fl, ib_fl, is_fl, it_fl, il_fl, itl_fl, ii_str, ib_str, is_str, it_str, il_str, itl_str, ii_bl, ib_bl, is_bl, it_bl, il_bl, ii_non, ib_non, is_non, it_non, il_non, ↓reduceIte, Bool.not_true, Bool.not_false, Bool.false_eq_true, decide_true, decide_false, decide_eq_true_eq, Bool.true_eq_false, eq_self, not_true_eq_false, not_false_eq_true, List.length_cons, List.length_nil, Nat.reduceAdd, szl, tup_if, lst_if, and_self, wipeR, List.map_cons, List.map_nil, Nat.reduceLeDiff, Int.cast_ofNat_Int, Int.reduceNeg, Int.reduceEq, Int.reduceLE, Int.reduceLT, at0, at1, at2, at3, st_are_planes, un_are_planes, q3_Eq_Picture, q3_NotEq_Picture, q3_len_Picture, q3_are_wholes_3, q3_gl_MOST_PLANES, q3_are_rows_3, q3_gl_WIDEST, c_are_planes, List.map_map, Function.comp_def]
      rw [show (P.map fun _ => eR [(hg : Int), (wd : Int)]) = (P.map fun _ => [(hg : Int), (wd : Int)]).map eR by rw [List.map_map]; rfl, set_len_tups (by intro z; rw [List.map_eq_nil_iff] at z; subst z; simp at n0) (by rw [List.length_map]; omega), insU_same (a := [(hg : Int), (wd : Int)]) (fun x hx => by obtain ⟨_, _, rfl⟩ := List.mem_map.mp hx; rfl) [] (.inr ⟨rfl, by intro z; rw [List.map_eq_nil_iff] at z; subst z; simp at n0⟩)]
      simp only [OkR_ok, OkS_nx, OkS_rt, OkS_bk, OkS_ct, OkS_go, OkS_seq, OkR_bd, bd_ok, go_ok, seq_nx, seq_rt, ofO_some, ofO_pure, run_bind, run_pure, evalSs, evalS, evalE, evalEs, evalT, evalTAnd, evalTOr, evalAnd, evalOr, evalI, evalO, Vm.evalAll, intO, bT_name, bT_tup, bTs_nil, bTs_cons, Option.bind_some, List.set_cons_zero, List.set_cons_succ, var_zero, var_succ, asB_bl, Vm.isNon, biG_tup, biG_fl, biG_kl, biG_int, biG_bl, biG_str, biG_two, biG_r0, biG_r1, biG_r2, cmpG_int, cmpG_bl, cmpG_str, cmpG_tup, cmpG_fl, cmpG_non, cw_eq, cw_ne, cw_lt, cw_le, cw_gt, cw_ge, cw_eqb, cw_neb, cw_eqs, cw_nes, bw_add, bw_sub, nw, sub_tup, sub_fl, sub_kl, sub_r0, sub_r1, sub_r2, len_tup, len_fl, len_kl, len_r0, len_r1, tuple_fl, tuple_r0, tuple_r1, list_fl, list_tup, list_kl, items_tup, items_fl, items_kl, ii_int, ib_int, is_int, it_int, il_int, itl_int, ii_tup, ib_tup, is_tup, it_tup, il_tup, itl_tup, ii_fl, ib_fl, is_fl, it_fl, il_fl, itl_fl, ii_str, ib_str, is_str, it_str, il_str, itl_str, ii_bl, ib_bl, is_bl, it_bl, il_bl, ii_non, ib_non, is_non, it_non, il_non, ↓reduceIte, Bool.not_true, Bool.not_false, Bool.false_eq_true, decide_true, decide_false, decide_eq_true_eq, Bool.true_eq_false, eq_self, not_true_eq_false, not_false_eq_true, List.length_cons, List.length_nil, Nat.reduceAdd, szl, tup_if, lst_if, and_self, wipeR, List.map_cons, List.map_nil, Nat.reduceLeDiff, Int.cast_ofNat_Int, Int.reduceNeg, Int.reduceEq, Int.reduceLE, Int.reduceLT, at0, at1, at2, at3, st_are_planes, un_are_planes, q3_Eq_Picture, q3_NotEq_Picture, q3_len_Picture, q3_are_wholes_3, q3_gl_MOST_PLANES, q3_are_rows_3, q3_gl_WIDEST, c_are_planes, s4_are_planes]
      rw [lc2_ok (fun w => match w with | .tup rs => rs | _ => []) (fun _ => .bl true)]
      · rw [OkR_ok, lcEnd_f (Nat.le_trans (flat_len (m := 48) fun w hw => by
          obtain ⟨pl, hp, rfl⟩ := List.mem_map.mp hw
          have := h.rows pl hp
          simp only [eP, List.length_map]; omega) (by rw [List.length_map]; omega))]
        simp only [OkR_ok, OkS_nx, OkS_rt, OkS_bk, OkS_ct, OkS_go, OkS_seq, OkR_bd, bd_ok, go_ok, seq_nx, seq_rt, ofO_some, ofO_pure, run_bind, run_pure, evalSs, evalS, evalE, evalEs, evalT, evalTAnd, evalTOr, evalAnd, evalOr, evalI, evalO, Vm.evalAll, intO, bT_name, bT_tup, bTs_nil, bTs_cons, Option.bind_some, List.set_cons_zero, List.set_cons_succ, var_zero, var_succ, asB_bl, Vm.isNon, biG_tup, biG_fl, biG_kl, biG_int, biG_bl, biG_str, biG_two, biG_r0, biG_r1, biG_r2, cmpG_int, cmpG_bl, cmpG_str, cmpG_tup, cmpG_fl, cmpG_non, cw_eq, cw_ne, cw_lt, cw_le, cw_gt, cw_ge, cw_eqb, cw_neb, cw_eqs, cw_nes, bw_add, bw_sub, nw, sub_tup, sub_fl, sub_kl, sub_r0, sub_r1, sub_r2, len_tup, len_fl, len_kl, len_r0, len_r1, tuple_fl, tuple_r0, tuple_r1, list_fl, list_tup, list_kl, items_tup, items_fl, items_kl, ii_int, ib_int, is_int, it_int, il_int, itl_int, ii_tup, ib_tup, is_tup, it_tup, il_tup, itl_tup, ii_fl, ib_fl, is_fl, it_fl, il_fl, itl_fl, ii_str, ib_str, is_str, it_str, il_str, itl_str, ii_bl, ib_bl, is_bl, it_bl, il_bl, ii_non, ib_non, is_non, it_non, il_non, ↓reduceIte, Bool.not_true, Bool.not_false, Bool.false_eq_true, decide_true, decide_false, decide_eq_true_eq, Bool.true_eq_false, eq_self, not_true_eq_false, not_false_eq_true, List.length_cons, List.length_nil, Nat.reduceAdd, szl, tup_if, lst_if, and_self, wipeR, List.map_cons, List.map_nil, Nat.reduceLeDiff, Int.cast_ofNat_Int, Int.reduceNeg, Int.reduceEq, Int.reduceLE, Int.reduceLT, at0, at1, at2, at3, st_are_planes, un_are_planes, q3_Eq_Picture, q3_NotEq_Picture, q3_len_Picture, q3_are_wholes_3, q3_gl_MOST_PLANES, q3_are_rows_3, q3_gl_WIDEST, c_are_planes]
        rw [all_fl (bls_tt fun w hw => by
          obtain ⟨_, _, h2⟩ := List.mem_flatMap.mp hw
          obtain ⟨_, _, h3⟩ := List.mem_map.mp h2
          exact h3.symm)]
        simp [OkR]
      · intro w hw
        obtain ⟨pl, hp, rfl⟩ := List.mem_map.mp hw
        simp only [OkR_ok, OkS_nx, OkS_rt, OkS_bk, OkS_ct, OkS_go, OkS_seq, OkR_bd, bd_ok, go_ok, seq_nx, seq_rt, ofO_some, ofO_pure, run_bind, run_pure, evalSs, evalS, evalE, evalEs, evalT, evalTAnd, evalTOr, evalAnd, evalOr, evalI, evalO, Vm.evalAll, intO, bT_name, bT_tup, bTs_nil, bTs_cons, Option.bind_some, List.set_cons_zero, List.set_cons_succ, var_zero, var_succ, asB_bl, Vm.isNon, biG_tup, biG_fl, biG_kl, biG_int, biG_bl, biG_str, biG_two, biG_r0, biG_r1, biG_r2, cmpG_int, cmpG_bl, cmpG_str, cmpG_tup, cmpG_fl, cmpG_non, cw_eq, cw_ne, cw_lt, cw_le, cw_gt, cw_ge, cw_eqb, cw_neb, cw_eqs, cw_nes, bw_add, bw_sub, nw, sub_tup, sub_fl, sub_kl, sub_r0, sub_r1, sub_r2, len_tup, len_fl, len_kl, len_r0, len_r1, tuple_fl, tuple_r0, tuple_r1, list_fl, list_tup, list_kl, items_tup, items_fl, items_kl, ii_int, ib_int, is_int, it_int, il_int, itl_int, ii_tup, ib_tup, is_tup, it_tup, il_tup, itl_tup, ii_fl, ib_fl, is_fl, it_fl, il_fl, itl_fl, ii_str, ib_str, is_str, it_str, il_str, itl_str, ii_bl, ib_bl, is_bl, it_bl, il_bl, ii_non, ib_non, is_non, it_non, il_non, ↓reduceIte, Bool.not_true, Bool.not_false, Bool.false_eq_true, decide_true, decide_false, decide_eq_true_eq, Bool.true_eq_false, eq_self, not_true_eq_false, not_false_eq_true, List.length_cons, List.length_nil, Nat.reduceAdd, szl, tup_if, lst_if, and_self, wipeR, List.map_cons, List.map_nil, Nat.reduceLeDiff, Int.cast_ofNat_Int, Int.reduceNeg, Int.reduceEq, Int.reduceLE, Int.reduceLT, at0, at1, at2, at3, st_are_planes, un_are_planes, q3_Eq_Picture, q3_NotEq_Picture, q3_len_Picture, q3_are_wholes_3, q3_gl_MOST_PLANES, q3_are_rows_3, q3_gl_WIDEST, c_are_planes, j1_are_planes, eP]
      · intro w hw u hu
        obtain ⟨pl, hp, rfl⟩ := List.mem_map.mp hw
        obtain ⟨row, hr, rfl⟩ := List.mem_map.mp (show u ∈ pl.map eR from hu)
        have e := h.cols pl hp row hr
        simp only [OkR_ok, OkS_nx, OkS_rt, OkS_bk, OkS_ct, OkS_go, OkS_seq, OkR_bd, bd_ok, go_ok, seq_nx, seq_rt, ofO_some, ofO_pure, run_bind, run_pure, evalSs, evalS, evalE, evalEs, evalT, evalTAnd, evalTOr, evalAnd, evalOr, evalI, evalO, Vm.evalAll, intO, bT_name, bT_tup, bTs_nil, bTs_cons, Option.bind_some, List.set_cons_zero, List.set_cons_succ, var_zero, var_succ, asB_bl, Vm.isNon, biG_tup, biG_fl, biG_kl, biG_int, biG_bl, biG_str, biG_two, biG_r0, biG_r1, biG_r2, cmpG_int, cmpG_bl, cmpG_str, cmpG_tup, cmpG_fl, cmpG_non, cw_eq, cw_ne, cw_lt, cw_le, cw_gt, cw_ge, cw_eqb, cw_neb, cw_eqs, cw_nes, bw_add, bw_sub, nw, sub_tup, sub_fl, sub_kl, sub_r0, sub_r1, sub_r2, len_tup, len_fl, len_kl, len_r0, len_r1, tuple_fl, tuple_r0, tuple_r1, list_fl, list_tup, list_kl, items_tup, items_fl, items_kl, ii_int, ib_int, is_int, it_int, il_int, itl_int, ii_tup, ib_tup, is_tup, it_tup, il_tup, itl_tup, ii_fl, ib_fl, is_fl, it_fl, il_fl, itl_fl, ii_str, ib_str, is_str, it_str, il_str, itl_str, ii_bl, ib_bl, is_bl, it_bl, il_bl, ii_non, ib_non, is_non, it_non, il_non, ↓reduceIte, Bool.not_true, Bool.not_false, Bool.false_eq_true, decide_true, decide_false, decide_eq_true_eq, Bool.true_eq_false, eq_self, not_true_eq_false, not_false_eq_true, List.length_cons, List.length_nil, Nat.reduceAdd, szl, tup_if, lst_if, and_self, wipeR, List.map_cons, List.map_nil, Nat.reduceLeDiff, Int.cast_ofNat_Int, Int.reduceNeg, Int.reduceEq, Int.reduceLE, Int.reduceLT, at0, at1, at2, at3, st_are_planes, un_are_planes, q3_Eq_Picture, q3_NotEq_Picture, q3_len_Picture, q3_are_wholes_3, q3_gl_MOST_PLANES, q3_are_rows_3, q3_gl_WIDEST, c_are_planes, e3_are_planes]
        rw [e_are_wholes row 0 dp st (by omega)]
        have z : (row.all fun i => decide (0 ≤ i ∧ i ≤ dp)) = true := by
          rw [List.all_eq_true]; exact fun i hi => decide_eq_true (h.nums pl hp row hr i hi)
        rw [z]
    · intro w hw
      obtain ⟨pl, hp, rfl⟩ := List.mem_map.mp hw
      have e := h.rows pl hp
      cases pl with
      | nil => simp only [List.length_nil] at e; omega
      | cons row pl' =>
        have e2 := h.cols _ hp row (List.mem_cons_self ..)
        simp only [List.length_cons] at e
        simp only [OkR_ok, OkS_nx, OkS_rt, OkS_bk, OkS_ct, OkS_go, OkS_seq, OkR_bd, bd_ok, go_ok, seq_nx, seq_rt, ofO_some, ofO_pure, run_bind, run_pure, evalSs, evalS, evalE, evalEs, evalT, evalTAnd, evalTOr, evalAnd, evalOr, evalI, evalO, Vm.evalAll, intO, bT_name, bT_tup, bTs_nil, bTs_cons, Option.bind_some, List.set_cons_zero, List.set_cons_succ, var_zero, var_succ, asB_bl, Vm.isNon, biG_tup, biG_fl, biG_kl, biG_int, biG_bl, biG_str, biG_two, biG_r0, biG_r1, biG_r2, cmpG_int, cmpG_bl, cmpG_str, cmpG_tup, cmpG_fl, cmpG_non, cw_eq, cw_ne, cw_lt, cw_le, cw_gt, cw_ge, cw_eqb, cw_neb, cw_eqs, cw_nes, bw_add, bw_sub, nw, sub_tup, sub_fl, sub_kl, sub_r0, sub_r1, sub_r2, len_tup, len_fl, len_kl, len_r0, len_r1, tuple_fl, tuple_r0, tuple_r1, list_fl, list_tup, list_kl, items_tup, items_fl, items_kl, ii_int, ib_int, is_int, it_int, il_int, itl_int, ii_tup, ib_tup, is_tup, it_tup, il_tup, itl_tup, ii_fl, ib_fl, is_fl, it_fl, il_fl, itl_fl, ii_str, ib_str, is_str, it_str, il_str, itl_str, ii_bl, ib_bl, is_bl, it_bl, il_bl, ii_non, ib_non, is_non, it_non, il_non, ↓reduceIte, Bool.not_true, Bool.not_false, Bool.false_eq_true, decide_true, decide_false, decide_eq_true_eq, Bool.true_eq_false, eq_self, not_true_eq_false, not_false_eq_true, List.length_cons, List.length_nil, Nat.reduceAdd, szl, tup_if, lst_if, and_self, wipeR, List.map_cons, List.map_nil, Nat.reduceLeDiff, Int.cast_ofNat_Int, Int.reduceNeg, Int.reduceEq, Int.reduceLE, Int.reduceLT, at0, at1, at2, at3, st_are_planes, un_are_planes, q3_Eq_Picture, q3_NotEq_Picture, q3_len_Picture, q3_are_wholes_3, q3_gl_MOST_PLANES, q3_are_rows_3, q3_gl_WIDEST, c_are_planes, e2_are_planes, eP, List.length_map, e, e2, eR]
  · intro w hw
    obtain ⟨pl, hp, rfl⟩ := List.mem_map.mp hw
    have e := h.rows pl hp
    simp only [OkR_ok, OkS_nx, OkS_rt, OkS_bk, OkS_ct, OkS_go, OkS_seq, OkR_bd, bd_ok, go_ok, seq_nx, seq_rt, ofO_some, ofO_pure, run_bind, run_pure, evalSs, evalS, evalE, evalEs, evalT, evalTAnd, evalTOr, evalAnd, evalOr, evalI, evalO, Vm.evalAll, intO, bT_name, bT_tup, bTs_nil, bTs_cons, Option.bind_some, List.set_cons_zero, List.set_cons_succ, var_zero, var_succ, asB_bl, Vm.isNon, biG_tup, biG_fl, biG_kl, biG_int, biG_bl, biG_str, biG_two, biG_r0, biG_r1, biG_r2, cmpG_int, cmpG_bl, cmpG_str, cmpG_tup, cmpG_fl, cmpG_non, cw_eq, cw_ne, cw_lt, cw_le, cw_gt, cw_ge, cw_eqb, cw_neb, cw_eqs, cw_nes, bw_add, bw_sub, nw, sub_tup, sub_fl, sub_kl, sub_r0, sub_r1, sub_r2, len_tup, len_fl, len_kl, len_r0, len_r1, tuple_fl, tuple_r0, tuple_r1, list_fl, list_tup, list_kl, items_tup, items_fl, items_kl, ii_int, ib_int, is_int, it_int, il_int, itl_int, ii_tup, ib_tup, is_tup, it_tup, il_tup, itl_tup, ii_fl, ib_fl, is_fl, it_fl, il_fl, itl_fl, ii_str, ib_str, is_str, it_str, il_str, itl_str, ii_bl, ib_bl, is_bl, it_bl, il_bl, ii_non, ib_non, is_non, it_non, il_non, ↓reduceIte, Bool.not_true, Bool.not_false, Bool.false_eq_true, decide_true, decide_false, decide_eq_true_eq, Bool.true_eq_false, eq_self, not_true_eq_false, not_false_eq_true, List.length_cons, List.length_nil, Nat.reduceAdd, szl, tup_if, lst_if, and_self, wipeR, List.map_cons, List.map_nil, Nat.reduceLeDiff, Int.cast_ofNat_Int, Int.reduceNeg, Int.reduceEq, Int.reduceLE, Int.reduceLT, at0, at1, at2, at3, st_are_planes, un_are_planes, q3_Eq_Picture, q3_NotEq_Picture, q3_len_Picture, q3_are_wholes_3, q3_gl_MOST_PLANES, q3_are_rows_3, q3_gl_WIDEST, c_are_planes, e1_are_planes]
    rw [e_are_rows pl 48 48 wd st (by omega) (by omega) (by omega) (h.cols pl hp) w0 (by omega)]

def pic (P : List (List (List Int))) (l u d : Int) : W := o_Picture (ePs P) (.int l) (.int u) (.int d)
theorem clo_R {n : Nat} {row : List Int} : (eR row).clo n := by
  simp only [eR, W.clo]; exact clos_map fun a _ => by simp [W.clo]
theorem clo_P {n : Nat} {pl : List (List Int)} : (eP pl).clo n := by
  simp only [eP, W.clo]; exact clos_map fun a _ => clo_R
theorem clo_Ps {n : Nat} {P : List (List (List Int))} : (ePs P).clo n := by
  simp only [ePs, W.clo]; exact clos_map fun a _ => clo_P
theorem clo_pic {n : Nat} {P : List (List (List Int))} {l u d : Int} : (pic P l u d).clo n := by
  simp only [pic, W.clo, clos]; exact ⟨clo_Ps, trivial, trivial, trivial, trivial⟩
theorem e_Picture_init {P : List (List (List Int))} {wd hg : Nat} {l u d : Int} (h : Pic P wd hg d) (st : Sto) (hs : Sto.clo st) (l0 : -1000 ≤ l) (l1 : l ≤ 1000) (u0 : -1000 ≤ u) (u1 : u ≤ 1000) (d0 : 1 ≤ d) (d1 : d ≤ 65535) :
    m_Picture_init [ePs P, .int l, .int u, .int d] st = .ok (pic P l u d) st := by
  rw [un_Picture_init]
  have e : runK g4 "Picture" 5 c_Picture_init [ePs P, .int l, .int u, .int d] st = .ok (.ref st.length) (st ++ [.ins "Picture" ["planes", "left", "up", "depth"] [ePs P, .int l, .int u, .int d]]) := by
    have e2 : runD g4 5 c_Picture_init [.ref st.length, ePs P, .int l, .int u, .int d] (st ++ [.ins "Picture" [] []]) = .ok .non (st ++ [.ins "Picture" ["planes", "left", "up", "depth"] [ePs P, .int l, .int u, .int d]]) := by
      refine OkR.eq ?_
      rw [OkR_runD, st_Picture_init]
      simp only [OkR_ok, OkS_nx, OkS_rt, OkS_bk, OkS_ct, OkS_go, OkS_seq, OkR_bd, bd_ok, go_ok, seq_nx, seq_rt, ofO_some, ofO_pure, run_bind, run_pure, evalSs, evalS, evalE, evalEs, evalT, evalTAnd, evalTOr, evalAnd, evalOr, evalI, evalO, Vm.evalAll, intO, bT_name, bT_tup, bTs_nil, bTs_cons, Option.bind_some, List.set_cons_zero, List.set_cons_succ, var_zero, var_succ, asB_bl, Vm.isNon, biG_tup, biG_fl, biG_kl, biG_int, biG_bl, biG_str, biG_two, biG_r0, biG_r1, biG_r2, cmpG_int, cmpG_bl, cmpG_str, cmpG_tup, cmpG_fl, cmpG_non, cw_eq, cw_ne, cw_lt, cw_le, cw_gt, cw_ge, cw_eqb, cw_neb, cw_eqs, cw_nes, bw_add, bw_sub, nw, sub_tup, sub_fl, sub_kl, sub_r0, sub_r1, sub_r2, len_tup, len_fl, len_kl, len_r0, len_r1, tuple_fl, tuple_r0, tuple_r1, list_fl, list_tup, list_kl, items_tup, items_fl, items_kl, ii_int, ib_int, is_int, it_int, il_int, itl_int, ii_tup, ib_tup, is_tup, it_tup, il_tup, itl_tup, ii_fl, ib_fl, is_fl, it_fl, il_fl, itl_fl, ii_str, ib_str, is_str, it_str, il_str, itl_str, ii_bl, ib_bl, is_bl, it_bl, il_bl, ii_non, ib_non, is_non, it_non, il_non, ↓reduceIte, Bool.not_true, Bool.not_false, Bool.false_eq_true, decide_true, decide_false, decide_eq_true_eq, Bool.true_eq_false, eq_self, not_true_eq_false, not_false_eq_true, List.length_cons, List.length_nil, Nat.reduceAdd, szl, tup_if, lst_if, and_self, wipeR, List.map_cons, List.map_nil, Nat.reduceLeDiff, Int.cast_ofNat_Int, Int.reduceNeg, Int.reduceEq, Int.reduceLE, Int.reduceLT, at0, at1, at2, at3, st_Picture_init, un_Picture_init, q4_gl_DEPTH, q4_is_from_3, q4_are_planes_2, q4_gl_FARTHEST, q4_gl_DEEPEST, q4_sa_Picture_0, q4_sa_Picture_1, q4_sa_Picture_2, q4_sa_Picture_3, c_Picture_init, s1_Picture_init, e_is_from, l0, l1, u0, u1, s2_Picture_init, d0, d1, e_are_planes h]
      simp only [OkR_ok, OkS_nx, OkS_rt, OkS_bk, OkS_ct, OkS_go, OkS_seq, OkR_bd, bd_ok, go_ok, seq_nx, seq_rt, ofO_some, ofO_pure, run_bind, run_pure, evalSs, evalS, evalE, evalEs, evalT, evalTAnd, evalTOr, evalAnd, evalOr, evalI, evalO, Vm.evalAll, intO, bT_name, bT_tup, bTs_nil, bTs_cons, Option.bind_some, List.set_cons_zero, List.set_cons_succ, var_zero, var_succ, asB_bl, Vm.isNon, biG_tup, biG_fl, biG_kl, biG_int, biG_bl, biG_str, biG_two, biG_r0, biG_r1, biG_r2, cmpG_int, cmpG_bl, cmpG_str, cmpG_tup, cmpG_fl, cmpG_non, cw_eq, cw_ne, cw_lt, cw_le, cw_gt, cw_ge, cw_eqb, cw_neb, cw_eqs, cw_nes, bw_add, bw_sub, nw, sub_tup, sub_fl, sub_kl, sub_r0, sub_r1, sub_r2, len_tup, len_fl, len_kl, len_r0, len_r1, tuple_fl, tuple_r0, tuple_r1, list_fl, list_tup, list_kl, items_tup, items_fl, items_kl, ii_int, ib_int, is_int, it_int, il_int, itl_int, ii_tup, ib_tup, is_tup, it_tup, il_tup, itl_tup, ii_fl, ib_fl, is_fl, it_fl, il_fl, itl_fl, ii_str, ib_str, is_str, it_str, il_str, itl_str, ii_bl, ib_bl, is_bl, it_bl, il_bl, ii_non, ib_non, is_non, it_non, il_non, ↓reduceIte, Bool.not_true, Bool.not_false, Bool.false_eq_true, decide_true, decide_false, decide_eq_true_eq, Bool.true_eq_false, eq_self, not_true_eq_false, not_false_eq_true, List.length_cons, List.length_nil, Nat.reduceAdd, szl, tup_if, lst_if, and_self, wipeR, List.map_cons, List.map_nil, Nat.reduceLeDiff, Int.cast_ofNat_Int, Int.reduceNeg, Int.reduceEq, Int.reduceLE, Int.reduceLT, at0, at1, at2, at3, st_Picture_init, un_Picture_init, q4_gl_DEPTH, q4_is_from_3, q4_are_planes_2, q4_gl_FARTHEST, q4_gl_DEEPEST, q4_sa_Picture_0, q4_sa_Picture_1, q4_sa_Picture_2, q4_sa_Picture_3, c_Picture_init, s3_Picture_init, s4_Picture_init, s5_Picture_init, s6_Picture_init]
    unfold runK
    rw [e2]
  rw [e]
  exact gc_new hs ⟨clo_Ps, trivial, trivial, trivial, trivial⟩

/-! ### what a picture tells -/
theorem ePs_at {P : List (List (List Int))} {i : Int} {pl : List (List Int)} {st : Sto} (h0 : 0 ≤ i) (h : P[i.toNat]? = some pl) : atW (P.map eP) i st = .ok (eP pl) st := at_ok (atI_z h0 (by rw [List.getElem?_map, h]; rfl))
theorem eP_at {P : List (List Int)} {i : Int} {pl : List Int} {st : Sto} (h0 : 0 ≤ i) (h : P[i.toNat]? = some pl) : atW (P.map eR) i st = .ok (eR pl) st := at_ok (atI_z h0 (by rw [List.getElem?_map, h]; rfl))
theorem eR_at {P : List Int} {i : Int} {pl : Int} {st : Sto} (h0 : 0 ≤ i) (h : P[i.toNat]? = some pl) : atW (P.map W.int) i st = .ok (.int pl) st := at_ok (atI_z h0 (by rw [List.getElem?_map, h]; rfl))
theorem Pic.cons {P : List (List (List Int))} {wd hg : Nat} {d : Int} (h : Pic P wd hg d) : ∃ row pl P', P = (row :: pl) :: P' ∧ row.length = wd ∧ pl.length + 1 = hg := by
  cases P with
  | nil => exact absurd h.n0 (by simp)
  | cons p P' =>
    have e := h.rows p (List.mem_cons_self ..)
    cases p with
    | nil => have := h.h0; simp only [List.length_nil] at e; omega
    | cons row pl => exact ⟨row, pl, P', rfl, h.cols _ (List.mem_cons_self ..) row (List.mem_cons_self ..), by simpa using e⟩
theorem e_Picture_window {P : List (List (List Int))} {wd hg : Nat} {l u d : Int} (h : Pic P wd hg d) (st : Sto) : m_Picture_window [pic P l u d] st = .ok (.tup [.int l, .int u, .int wd, .int hg]) st := by
  obtain ⟨row, pl, P', rfl, e1, e2⟩ := h.cons
  refine OkR.eq ?_
  rw [un_Picture_window, OkR_runD, st_Picture_window]
  simp only [OkR_ok, OkS_nx, OkS_rt, OkS_bk, OkS_ct, OkS_go, OkS_seq, OkR_bd, bd_ok, go_ok, seq_nx, seq_rt, ofO_some, ofO_pure, run_bind, run_pure, evalSs, evalS, evalE, evalEs, evalT, evalTAnd, evalTOr, evalAnd, evalOr, evalI, evalO, Vm.evalAll, intO, bT_name, bT_tup, bTs_nil, bTs_cons, Option.bind_some, List.set_cons_zero, List.set_cons_succ, var_zero, var_succ, asB_bl, Vm.isNon, biG_tup, biG_fl, biG_kl, biG_int, biG_bl, biG_str, biG_two, biG_r0, biG_r1, biG_r2, cmpG_int, cmpG_bl, cmpG_str, cmpG_tup, cmpG_fl, cmpG_non, cw_eq, cw_ne, cw_lt, cw_le, cw_gt, cw_ge, cw_eqb, cw_neb, cw_eqs, cw_nes, bw_add, bw_sub, nw, sub_tup, sub_fl, sub_kl, sub_r0, sub_r1, sub_r2, len_tup, len_fl, len_kl, len_r0, len_r1, tuple_fl, tuple_r0, tuple_r1, list_fl, list_tup, list_kl, items_tup, items_fl, items_kl, ii_int, ib_int, is_int, it_int, il_int, itl_int, ii_tup, ib_tup, is_tup, it_tup, il_tup, itl_tup, ii_fl, ib_fl, is_fl, it_fl, il_fl, itl_fl, ii_str, ib_str, is_str, it_str, il_str, itl_str, ii_bl, ib_bl, is_bl, it_bl, il_bl, ii_non, ib_non, is_non, it_non, il_non, ↓reduceIte, Bool.not_true, Bool.not_false, Bool.false_eq_true, decide_true, decide_false, decide_eq_true_eq, Bool.true_eq_false, eq_self, not_true_eq_false, not_false_eq_true, List.length_cons, List.length_nil, Nat.reduceAdd, szl, tup_if, lst_if, and_self, wipeR, List.map_cons, List.map_nil, Nat.reduceLeDiff, Int.cast_ofNat_Int, Int.reduceNeg, Int.reduceEq, Int.reduceLE, Int.reduceLT, at0, at1, at2, at3, st_Picture_window, un_Picture_window, q1_at_Picture_planes, q1_at_Picture_left, q1_at_Picture_up, q1_len_Picture, c_Picture_window, s1_Picture_window, s2_Picture_window, pic, ePs, eP, eR, List.length_map, e1, e2]
theorem e_Picture_len {P : List (List (List Int))} {wd hg : Nat} {l u d : Int} (h : Pic P wd hg d) (st : Sto) : m_Picture_len [pic P l u d] st = .ok (.int (hg * wd)) st := by
  have w1 := h.w1; have h1 := h.h1
  obtain ⟨row, pl, P', rfl, e1, e2⟩ := h.cons
  have hb : hg * wd ≤ 48 * 48 := Nat.mul_le_mul h1 w1
  have cm : CMul (hg : Int) wd := .inl ⟨by omega, by omega⟩
  have el : lenRngW (.int ((hg : Int) * wd)) st = .ok (.int ((hg : Int) * wd)) st := by
    rw [← Int.natCast_mul]; exact lenRng_ok (by omega)
  refine OkR.eq ?_
  rw [un_Picture_len, OkR_runD, st_Picture_len]
  simp only [OkR_ok, OkS_nx, OkS_rt, OkS_bk, OkS_ct, OkS_go, OkS_seq, OkR_bd, bd_ok, go_ok, seq_nx, seq_rt, ofO_some, ofO_pure, run_bind, run_pure, evalSs, evalS, evalE, evalEs, evalT, evalTAnd, evalTOr, evalAnd, evalOr, evalI, evalO, Vm.evalAll, intO, bT_name, bT_tup, bTs_nil, bTs_cons, Option.bind_some, List.set_cons_zero, List.set_cons_succ, var_zero, var_succ, asB_bl, Vm.isNon, biG_tup, biG_fl, biG_kl, biG_int, biG_bl, biG_str, biG_two, biG_r0, biG_r1, biG_r2, cmpG_int, cmpG_bl, cmpG_str, cmpG_tup, cmpG_fl, cmpG_non, cw_eq, cw_ne, cw_lt, cw_le, cw_gt, cw_ge, cw_eqb, cw_neb, cw_eqs, cw_nes, bw_add, bw_sub, nw, sub_tup, sub_fl, sub_kl, sub_r0, sub_r1, sub_r2, len_tup, len_fl, len_kl, len_r0, len_r1, tuple_fl, tuple_r0, tuple_r1, list_fl, list_tup, list_kl, items_tup, items_fl, items_kl, ii_int, ib_int, is_int, it_int, il_int, itl_int, ii_tup, ib_tup, is_tup, it_tup, il_tup, itl_tup, ii_fl, ib_fl, is_fl, it_fl, il_fl, itl_fl, ii_str, ib_str, is_str, it_str, il_str, itl_str, ii_bl, ib_bl, is_bl, it_bl, il_bl, ii_non, ib_non, is_non, it_non, il_non, ↓reduceIte, Bool.not_true, Bool.not_false, Bool.false_eq_true, decide_true, decide_false, decide_eq_true_eq, Bool.true_eq_false, eq_self, not_true_eq_false, not_false_eq_true, List.length_cons, List.length_nil, Nat.reduceAdd, szl, tup_if, lst_if, and_self, wipeR, List.map_cons, List.map_nil, Nat.reduceLeDiff, Int.cast_ofNat_Int, Int.reduceNeg, Int.reduceEq, Int.reduceLE, Int.reduceLT, at0, at1, at2, at3, st_Picture_len, un_Picture_len, q0_at_Picture_planes, c_Picture_len, s1_Picture_len, pic, ePs, eP, eR, List.length_map, e1, e2, bw_mul cm, el]
theorem pd_R (row : List Int) : pd (eR row) = some (.tuple (row.map .int)) := by
  have e : ∀ l : List Int, pdL (l.map W.int) = some (l.map PyData.int) := by
    intro l
    induction l with
    | nil => rfl
    | cons x l ih => simp only [List.map_cons, pdL, pd, ih]; rfl
  simp only [eR, pd, e]; rfl
theorem pd_P (pl : List (List Int)) : pd (eP pl) = some (.tuple (pl.map fun r => .tuple (r.map .int))) := by
  have e : ∀ l : List (List Int), pdL (l.map eR) = some (l.map fun r => PyData.tuple (r.map .int)) := by
    intro l
    induction l with
    | nil => rfl
    | cons x l ih => simp only [List.map_cons, pdL, pd_R, ih]; rfl
  simp only [eP, pd, e]; rfl
def dPs (P : List (List (List Int))) : PyData := .tuple (P.map fun pl => .tuple (pl.map fun r => .tuple (r.map .int)))
theorem pd_Ps (P : List (List (List Int))) : pd (ePs P) = some (dPs P) := by
  have e : ∀ l : List (List (List Int)), pdL (l.map eP) = some (l.map fun pl => PyData.tuple (pl.map fun r => .tuple (r.map .int))) := by
    intro l
    induction l with
    | nil => rfl
    | cons x l ih => simp only [List.map_cons, pdL, pd_P, ih]; rfl
  simp only [ePs, pd, e]; rfl
theorem canAll {α : Type} {f : α → PyData} : ∀ {l : List α}, (∀ a ∈ l, (f a).canLay0 = true) → PyData.canLayAll0 (l.map f) = true
  | [], _ => rfl
  | a :: l, h => by simp only [List.map_cons, PyData.canLayAll0, h a (List.mem_cons_self ..), canAll (l := l) fun b hb => h b (List.mem_cons_of_mem _ hb)]; rfl
theorem depAll {α : Type} {f : α → PyData} {n : Nat} : ∀ {l : List α}, (∀ a ∈ l, (f a).depth ≤ n) → PyData.depthAll (l.map f) ≤ n
  | [], _ => Nat.zero_le _
  | a :: l, h => by
    have h1 := h a (List.mem_cons_self ..)
    have h2 := depAll (l := l) fun b hb => h b (List.mem_cons_of_mem _ hb)
    simp only [List.map_cons, PyData.depthAll]; omega
theorem can_Ps (P : List (List (List Int))) : (dPs P).canLay0 = true := by
  simp only [dPs, PyData.canLay0]
  exact canAll fun pl _ => by
    simp only [PyData.canLay0]
    exact canAll fun r _ => by
      simp only [PyData.canLay0]
      exact canAll fun i _ => rfl
theorem dep_Ps (P : List (List (List Int))) : (dPs P).depth ≤ 3 := by
  simp only [dPs, PyData.depth]
  refine Nat.succ_le_succ (depAll fun pl _ => ?_)
  simp only [PyData.depth]
  refine Nat.succ_le_succ (depAll fun r _ => ?_)
  simp only [PyData.depth]
  exact Nat.succ_le_succ (depAll fun i _ => Nat.le_refl _)
theorem shaped_of {d : PyData} (h1 : d.canLay0 = true) (h2 : d.depth ≤ 64) : SeqAt.shaped d = true := by
  unfold SeqAt.shaped
  rw [h1, decide_eq_true h2]; rfl
/-- the four things of a picture -/
def eF (P : List (List (List Int))) (l u d : Int) : W := .tup [ePs P, .int l, .int u, .int d]
theorem eqF {P Q : List (List (List Int))} {l u d l' u' d' : Int} : eqW (eF P l u d) (eF Q l' u' d') = some (PyData.eqv (dPs P) (dPs Q) && (l == l' && (u == u' && (d == d' && true)))) := by
  have e : ∀ (P : List (List (List Int))) (l u d : Int), pd (eF P l u d) = some (.tuple [dPs P, .int l, .int u, .int d]) := fun P l u d => by simp only [eF, pd, pdL, pd_Ps]; rfl
  have s : ∀ (P : List (List (List Int))) (l u d : Int), SeqAt.shaped (.tuple [dPs P, .int l, .int u, .int d]) = true := fun P l u d => shaped_of (by simp only [PyData.canLay0, PyData.canLayAll0, can_Ps]; rfl) (by simp only [PyData.depth, PyData.depthAll]; have := dep_Ps P; omega)
  unfold eqW
  rw [show scalW (eF P l u d) (eF Q l' u' d') = none from rfl, e, e]
  dsimp only
  rw [if_pos ⟨s _ _ _ _, s _ _ _ _⟩]
  rfl
theorem e_Picture_eq {P Q : List (List (List Int))} {l u d l' u' d' : Int} (st : Sto) : m_Picture_eq [pic P l u d, pic Q l' u' d'] st = .ok (.bl (PyData.eqv (dPs P) (dPs Q) && (l == l' && (u == u' && (d == d' && true))))) st := by
  refine OkR.eq ?_
  rw [un_Picture_eq, OkR_runD, st_Picture_eq]
  simp only [OkR_ok, OkS_nx, OkS_rt, OkS_bk, OkS_ct, OkS_go, OkS_seq, OkR_bd, bd_ok, go_ok, seq_nx, seq_rt, ofO_some, ofO_pure, run_bind, run_pure, evalSs, evalS, evalE, evalEs, evalT, evalTAnd, evalTOr, evalAnd, evalOr, evalI, evalO, Vm.evalAll, intO, bT_name, bT_tup, bTs_nil, bTs_cons, Option.bind_some, List.set_cons_zero, List.set_cons_succ, var_zero, var_succ, asB_bl, Vm.isNon, biG_tup, biG_fl, biG_kl, biG_int, biG_bl, biG_str, biG_two, biG_r0, biG_r1, biG_r2, cmpG_int, cmpG_bl, cmpG_str, cmpG_tup, cmpG_fl, cmpG_non, cw_eq, cw_ne, cw_lt, cw_le, cw_gt, cw_ge, cw_eqb, cw_neb, cw_eqs, cw_nes, bw_add, bw_sub, nw, sub_tup, sub_fl, sub_kl, sub_r0, sub_r1, sub_r2, len_tup, len_fl, len_kl, len_r0, len_r1, tuple_fl, tuple_r0, tuple_r1, list_fl, list_tup, list_kl, items_tup, items_fl, items_kl, ii_int, ib_int, is_int, it_int, il_int, itl_int, ii_tup, ib_tup, is_tup, it_tup, il_tup, itl_tup, ii_fl, ib_fl, is_fl, it_fl, il_fl, itl_fl, ii_str, ib_str, is_str, it_str, il_str, itl_str, ii_bl, ib_bl, is_bl, it_bl, il_bl, ii_non, ib_non, is_non, it_non, il_non, ↓reduceIte, Bool.not_true, Bool.not_false, Bool.false_eq_true, decide_true, decide_false, decide_eq_true_eq, Bool.true_eq_false, eq_self, not_true_eq_false, not_false_eq_true, List.length_cons, List.length_nil, Nat.reduceAdd, szl, tup_if, lst_if, and_self, wipeR, List.map_cons, List.map_nil, Nat.reduceLeDiff, Int.cast_ofNat_Int, Int.reduceNeg, Int.reduceEq, Int.reduceLE, Int.reduceLT, at0, at1, at2, at3, st_Picture_eq, un_Picture_eq, q0_isi_Picture, q0_at_Picture_planes, q0_at_Picture_left, q0_at_Picture_up, q0_at_Picture_depth, c_Picture_eq, s1_Picture_eq, s2_Picture_eq, s3_Picture_eq, pic]
  rw [cw_eqt (show eqW (W.tup [ePs P, .int l, .int u, .int d]) (W.tup [ePs Q, .int l', .int u', .int d']) = _ from eqF)]
  simp only [OkR_ok, OkS_nx, OkS_rt, OkS_bk, OkS_ct, OkS_go, OkS_seq, OkR_bd, bd_ok, go_ok, seq_nx, seq_rt, ofO_some, ofO_pure, run_bind, run_pure, evalSs, evalS, evalE, evalEs, evalT, evalTAnd, evalTOr, evalAnd, evalOr, evalI, evalO, Vm.evalAll, intO, bT_name, bT_tup, bTs_nil, bTs_cons, Option.bind_some, List.set_cons_zero, List.set_cons_succ, var_zero, var_succ, asB_bl, Vm.isNon, biG_tup, biG_fl, biG_kl, biG_int, biG_bl, biG_str, biG_two, biG_r0, biG_r1, biG_r2, cmpG_int, cmpG_bl, cmpG_str, cmpG_tup, cmpG_fl, cmpG_non, cw_eq, cw_ne, cw_lt, cw_le, cw_gt, cw_ge, cw_eqb, cw_neb, cw_eqs, cw_nes, bw_add, bw_sub, nw, sub_tup, sub_fl, sub_kl, sub_r0, sub_r1, sub_r2, len_tup, len_fl, len_kl, len_r0, len_r1, tuple_fl, tuple_r0, tuple_r1, list_fl, list_tup, list_kl, items_tup, items_fl, items_kl, ii_int, ib_int, is_int, it_int, il_int, itl_int, ii_tup, ib_tup, is_tup, it_tup, il_tup, itl_tup, ii_fl, ib_fl, is_fl, it_fl, il_fl, itl_fl, ii_str, ib_str, is_str, it_str, il_str, itl_str, ii_bl, ib_bl, is_bl, it_bl, il_bl, ii_non, ib_non, is_non, it_non, il_non, ↓reduceIte, Bool.not_true, Bool.not_false, Bool.false_eq_true, decide_true, decide_false, decide_eq_true_eq, Bool.true_eq_false, eq_self, not_true_eq_false, not_false_eq_true, List.length_cons, List.length_nil, Nat.reduceAdd, szl, tup_if, lst_if, and_self, wipeR, List.map_cons, List.map_nil, Nat.reduceLeDiff, Int.cast_ofNat_Int, Int.reduceNeg, Int.reduceEq, Int.reduceLE, Int.reduceLT, at0, at1, at2, at3]
theorem eqv_Ps (P : List (List (List Int))) : PyData.eqv (dPs P) (dPs P) = true := PySem.SeqAt.eqv_refl _ (can_Ps P)

/-! ### the pen -/
def pen (cs : List Int) (at_ big : Int) : O := .lst [.fl (cs.map .int), .int at_, .int big]
/-- a pen that may be asked so many times -/
def PenO (k : Nat) (o : O) : Prop := ∃ cs at_ big, o = pen cs at_ big ∧ cs.length ≤ 63 ∧ 0 ≤ at_ ∧ at_ + k ≤ 1099511627776
theorem PenO.le {j k : Nat} {o : O} (h : PenO k o) (le : j ≤ k) : PenO j o := by
  obtain ⟨cs, a, b, e, h1, h2, h3⟩ := h
  exact ⟨cs, a, b, e, h1, h2, by omega⟩
theorem PenO.clo {k n : Nat} {o : O} (h : PenO k o) : O.clo n o := by
  obtain ⟨cs, a, b, rfl, _⟩ := h
  exact ⟨by simp only [W.clo]; exact clos_map fun i _ => trivial, trivial, trivial, trivial⟩
theorem PenO.clo1 {k : Nat} {o : O} (h : PenO k o) : Sto.clo [o] := fun p hp => by
  rw [List.mem_singleton] at hp
  rw [hp]; exact h.clo
theorem setI_2 {a b c w : W} {st : Sto} : setIW (.ref 0) (.int 2) w (.lst [a, b, c] :: st) = .ok () (.lst [a, b, w] :: st) := rfl
theorem setI_1 {a b c w : W} {st : Sto} : setIW (.ref 0) (.int 1) w (.lst [a, b, c] :: st) = .ok () (.lst [a, w, c] :: st) := rfl
theorem cp3 {n : Int} (h0 : 0 ≤ n) (h1 : n < 2147483647) : CPow n 3 := ⟨by decide, by decide, by omega⟩
theorem cp18 : CPow 10 18 := ⟨by decide, by decide, by decide⟩
theorem cp6 : CPow 10 6 := ⟨by decide, by decide, by decide⟩
theorem cmL {n m : Int} (h0 : -10000000000 < n) (h1 : n < 10000000000) : CMul n m := .inl ⟨by omega, by omega⟩
theorem cmR {n m : Int} (h0 : -10000000000 < m) (h1 : m < 10000000000) : CMul n m := .inr ⟨by omega, by omega⟩
theorem cmA {n m : Int} (h0 : 0 ≤ n) (h1 : n ≤ 1099511627776) : CMul n m := .inl ⟨by omega, by omega⟩
theorem cell_at {cs : List Int} {i : Int} (h0 : 0 ≤ i) (h1 : i < cs.length) (st : Sto) : ∃ c, atW (cs.map W.int) i st = .ok (.int c) st := by
  have hl : i.toNat < cs.length := by omega
  exact ⟨cs[i.toNat], at_ok (atI_z h0 (by rw [List.getElem?_map, List.getElem?_eq_getElem hl]; rfl))⟩
theorem e_draw {k : Nat} {po : O} {many : Int} (hp : PenO (k + 1) po) (m0 : 0 < many) (m1 : many < 1073741824) (rest : Sto) : ∃ d po', m__law_draw [.ref 0, .int many] (po :: rest) = .ok (.int d) (po' :: rest) ∧ 0 ≤ d ∧ d < many ∧ PenO k po' := by
  obtain ⟨cs, a, b, rfl, hl, a0, a1⟩ := hp
  suffices h : OkR (m__law_draw [.ref 0, .int many] (pen cs a b :: rest)) fun w st => ∃ d po', w = .int d ∧ st = po' :: rest ∧ 0 ≤ d ∧ d < many ∧ PenO k po' by
    obtain ⟨w, st, e, d, po', rfl, rfl, h⟩ := h.ex
    exact ⟨d, po', e, h⟩
  have md : ∀ x : Int, 0 ≤ x % many ∧ x % many < many := fun x => ⟨Int.emod_nonneg _ (by omega), Int.emod_lt_of_pos _ m0⟩
  rw [un__law_draw, OkR_runD, st__law_draw]
  by_cases hb : 0 < b
  · simp only [OkR_ok, OkS_nx, OkS_rt, OkS_bk, OkS_ct, OkS_go, OkS_seq, OkR_bd, bd_ok, go_ok, seq_nx, seq_rt, ofO_some, ofO_pure, run_bind, run_pure, evalSs, evalS, evalE, evalEs, evalT, evalTAnd, evalTOr, evalAnd, evalOr, evalI, evalO, Vm.evalAll, intO, bT_name, bT_tup, bTs_nil, bTs_cons, Option.bind_some, List.set_cons_zero, List.set_cons_succ, var_zero, var_succ, asB_bl, Vm.isNon, biG_tup, biG_fl, biG_kl, biG_int, biG_bl, biG_str, biG_two, biG_r0, biG_r1, biG_r2, cmpG_int, cmpG_bl, cmpG_str, cmpG_tup, cmpG_fl, cmpG_non, cw_eq, cw_ne, cw_lt, cw_le, cw_gt, cw_ge, cw_eqb, cw_neb, cw_eqs, cw_nes, bw_add, bw_sub, nw, sub_tup, sub_fl, sub_kl, sub_r0, sub_r1, sub_r2, len_tup, len_fl, len_kl, len_r0, len_r1, tuple_fl, tuple_r0, tuple_r1, list_fl, list_tup, list_kl, items_tup, items_fl, items_kl, ii_int, ib_int, is_int, it_int, il_int, itl_int, ii_tup, ib_tup, is_tup, it_tup, il_tup, itl_tup, ii_fl, ib_fl, is_fl, it_fl, il_fl, itl_fl, ii_str, ib_str, is_str, it_str, il_str, itl_str, ii_bl, ib_bl, is_bl, it_bl, il_bl, ii_non, ib_non, is_non, it_non, il_non, ↓reduceIte, Bool.not_true, Bool.not_false, Bool.false_eq_true, decide_true, decide_false, decide_eq_true_eq, Bool.true_eq_false, eq_self, not_true_eq_false, not_false_eq_true, List.length_cons, List.length_nil, Nat.reduceAdd, szl, tup_if, lst_if, and_self, wipeR, List.map_cons, List.map_nil, Nat.reduceLeDiff, Int.cast_ofNat_Int, Int.reduceNeg, Int.reduceEq, Int.reduceLE, Int.reduceLT, at0, at1, at2, at3, st__law_draw, un__law_draw, q1_len_Picture, c__law_draw, s1__law_draw, pen, hb, s11__law_draw, s12__law_draw, s13__law_draw, bw_mod m0, bw_div ⟨m0, m1⟩, setI_2]
    exact ⟨_, _, rfl, rfl, (md b).1, (md b).2, cs, a, _, rfl, hl, a0, by omega⟩
  · simp only [OkR_ok, OkS_nx, OkS_rt, OkS_bk, OkS_ct, OkS_go, OkS_seq, OkR_bd, bd_ok, go_ok, seq_nx, seq_rt, ofO_some, ofO_pure, run_bind, run_pure, evalSs, evalS, evalE, evalEs, evalT, evalTAnd, evalTOr, evalAnd, evalOr, evalI, evalO, Vm.evalAll, intO, bT_name, bT_tup, bTs_nil, bTs_cons, Option.bind_some, List.set_cons_zero, List.set_cons_succ, var_zero, var_succ, asB_bl, Vm.isNon, biG_tup, biG_fl, biG_kl, biG_int, biG_bl, biG_str, biG_two, biG_r0, biG_r1, biG_r2, cmpG_int, cmpG_bl, cmpG_str, cmpG_tup, cmpG_fl, cmpG_non, cw_eq, cw_ne, cw_lt, cw_le, cw_gt, cw_ge, cw_eqb, cw_neb, cw_eqs, cw_nes, bw_add, bw_sub, nw, sub_tup, sub_fl, sub_kl, sub_r0, sub_r1, sub_r2, len_tup, len_fl, len_kl, len_r0, len_r1, tuple_fl, tuple_r0, tuple_r1, list_fl, list_tup, list_kl, items_tup, items_fl, items_kl, ii_int, ib_int, is_int, it_int, il_int, itl_int, ii_tup, ib_tup, is_tup, it_tup, il_tup, itl_tup, ii_fl, ib_fl, is_fl, it_fl, il_fl, itl_fl, ii_str, ib_str, is_str, it_str, il_str, itl_str, ii_bl, ib_bl, is_bl, it_bl, il_bl, ii_non, ib_non, is_non, it_non, il_non, ↓reduceIte, Bool.not_true, Bool.not_false, Bool.false_eq_true, decide_true, decide_false, decide_eq_true_eq, Bool.true_eq_false, eq_self, not_true_eq_false, not_false_eq_true, List.length_cons, List.length_nil, Nat.reduceAdd, szl, tup_if, lst_if, and_self, wipeR, List.map_cons, List.map_nil, Nat.reduceLeDiff, Int.cast_ofNat_Int, Int.reduceNeg, Int.reduceEq, Int.reduceLE, Int.reduceLT, at0, at1, at2, at3, st__law_draw, un__law_draw, q1_len_Picture, c__law_draw, s1__law_draw, pen, hb, s2__law_draw, s3__law_draw, setI_1, s4__law_draw]
    have key : ∀ c : Int, OkS (evalSs g1 s6__law_draw [some (W.ref 0), some (W.int many), none, some (W.int a), some (W.int c), none] (O.lst [W.fl (List.map W.int cs), W.int (a + 1), W.int b] :: rest))
        { nx := fun x st => ∃ d po', W.non = W.int d ∧ st = po' :: rest ∧ 0 ≤ d ∧ d < many ∧ PenO k po', rt := fun w st => ∃ d po', w = W.int d ∧ st = po' :: rest ∧ 0 ≤ d ∧ d < many ∧ PenO k po' } := by
      intro c
      have pn : ∀ z : Int, PenO k (O.lst [W.fl (List.map W.int cs), W.int (a + 1), W.int z]) := fun z => ⟨cs, a + 1, z, rfl, hl, by omega, by omega⟩
      have p18 : (10 : Int) ^ (18 : Int).toNat = 1000000000000000000 := by decide
      have p6 : (10 : Int) ^ (6 : Int).toNat = 1000000 := by decide
      have last : ∀ n : Int, OkS (evalSs g1 s10__law_draw [some (W.ref 0), some (W.int many), none, some (W.int a), some (W.int c), some (W.int n)] (O.lst [W.fl (List.map W.int cs), W.int (a + 1), W.int b] :: rest))
          { nx := fun x st => ∃ d po', W.non = W.int d ∧ st = po' :: rest ∧ 0 ≤ d ∧ d < many ∧ PenO k po', rt := fun w st => ∃ d po', w = W.int d ∧ st = po' :: rest ∧ 0 ≤ d ∧ d < many ∧ PenO k po' } := by
        intro n
        simp only [OkR_ok, OkS_nx, OkS_rt, OkS_bk, OkS_ct, OkS_go, OkS_seq, OkR_bd, bd_ok, go_ok, seq_nx, seq_rt, ofO_some, ofO_pure, run_bind, run_pure, evalSs, evalS, evalE, evalEs, evalT, evalTAnd, evalTOr, evalAnd, evalOr, evalI, evalO, Vm.evalAll, intO, bT_name, bT_tup, bTs_nil, bTs_cons, Option.bind_some, List.set_cons_zero, List.set_cons_succ, var_zero, var_succ, asB_bl, Vm.isNon, biG_tup, biG_fl, biG_kl, biG_int, biG_bl, biG_str, biG_two, biG_r0, biG_r1, biG_r2, cmpG_int, cmpG_bl, cmpG_str, cmpG_tup, cmpG_fl, cmpG_non, cw_eq, cw_ne, cw_lt, cw_le, cw_gt, cw_ge, cw_eqb, cw_neb, cw_eqs, cw_nes, bw_add, bw_sub, nw, sub_tup, sub_fl, sub_kl, sub_r0, sub_r1, sub_r2, len_tup, len_fl, len_kl, len_r0, len_r1, tuple_fl, tuple_r0, tuple_r1, list_fl, list_tup, list_kl, items_tup, items_fl, items_kl, ii_int, ib_int, is_int, it_int, il_int, itl_int, ii_tup, ib_tup, is_tup, it_tup, il_tup, itl_tup, ii_fl, ib_fl, is_fl, it_fl, il_fl, itl_fl, ii_str, ib_str, is_str, it_str, il_str, itl_str, ii_bl, ib_bl, is_bl, it_bl, il_bl, ii_non, ib_non, is_non, it_non, il_non, ↓reduceIte, Bool.not_true, Bool.not_false, Bool.false_eq_true, decide_true, decide_false, decide_eq_true_eq, Bool.true_eq_false, eq_self, not_true_eq_false, not_false_eq_true, List.length_cons, List.length_nil, Nat.reduceAdd, szl, tup_if, lst_if, and_self, wipeR, List.map_cons, List.map_nil, Nat.reduceLeDiff, Int.cast_ofNat_Int, Int.reduceNeg, Int.reduceEq, Int.reduceLE, Int.reduceLT, at0, at1, at2, at3, st__law_draw, un__law_draw, q1_len_Picture, c__law_draw, s10__law_draw, bw_div (show (0 : Int) < 64 ∧ (64 : Int) < 1073741824 by decide), bw_mod m0]
        exact ⟨_, _, rfl, rfl, (md _).1, (md _).2, pn b⟩
      have tail : OkS (evalSs g1 s7__law_draw [some (W.ref 0), some (W.int many), none, some (W.int a), some (W.int c), none] (O.lst [W.fl (List.map W.int cs), W.int (a + 1), W.int b] :: rest))
          { nx := fun x st => ∃ d po', W.non = W.int d ∧ st = po' :: rest ∧ 0 ≤ d ∧ d < many ∧ PenO k po', rt := fun w st => ∃ d po', w = W.int d ∧ st = po' :: rest ∧ 0 ≤ d ∧ d < many ∧ PenO k po' } := by
        have c1 : CMul (c % 2147483629 + 11) (a * a + 5 * a + 3) := cmL (by omega) (by omega)
        have c2 : CMul a a := cmA a0 (by omega)
        have c3 : CMul 5 a := cmL (by decide) (by decide)
        simp only [OkR_ok, OkS_nx, OkS_rt, OkS_bk, OkS_ct, OkS_go, OkS_seq, OkR_bd, bd_ok, go_ok, seq_nx, seq_rt, ofO_some, ofO_pure, run_bind, run_pure, evalSs, evalS, evalE, evalEs, evalT, evalTAnd, evalTOr, evalAnd, evalOr, evalI, evalO, Vm.evalAll, intO, bT_name, bT_tup, bTs_nil, bTs_cons, Option.bind_some, List.set_cons_zero, List.set_cons_succ, var_zero, var_succ, asB_bl, Vm.isNon, biG_tup, biG_fl, biG_kl, biG_int, biG_bl, biG_str, biG_two, biG_r0, biG_r1, biG_r2, cmpG_int, cmpG_bl, cmpG_str, cmpG_tup, cmpG_fl, cmpG_non, cw_eq, cw_ne, cw_lt, cw_le, cw_gt, cw_ge, cw_eqb, cw_neb, cw_eqs, cw_nes, bw_add, bw_sub, nw, sub_tup, sub_fl, sub_kl, sub_r0, sub_r1, sub_r2, len_tup, len_fl, len_kl, len_r0, len_r1, tuple_fl, tuple_r0, tuple_r1, list_fl, list_tup, list_kl, items_tup, items_fl, items_kl, ii_int, ib_int, is_int, it_int, il_int, itl_int, ii_tup, ib_tup, is_tup, it_tup, il_tup, itl_tup, ii_fl, ib_fl, is_fl, it_fl, il_fl, itl_fl, ii_str, ib_str, is_str, it_str, il_str, itl_str, ii_bl, ib_bl, is_bl, it_bl, il_bl, ii_non, ib_non, is_non, it_non, il_non, ↓reduceIte, Bool.not_true, Bool.not_false, Bool.false_eq_true, decide_true, decide_false, decide_eq_true_eq, Bool.true_eq_false, eq_self, not_true_eq_false, not_false_eq_true, List.length_cons, List.length_nil, Nat.reduceAdd, szl, tup_if, lst_if, and_self, wipeR, List.map_cons, List.map_nil, Nat.reduceLeDiff, Int.cast_ofNat_Int, Int.reduceNeg, Int.reduceEq, Int.reduceLE, Int.reduceLT, at0, at1, at2, at3, st__law_draw, un__law_draw, q1_len_Picture, c__law_draw, s7__law_draw, bw_mod (show (0 : Int) < 2147483629 by decide), bw_mod (show (0 : Int) < 2147483647 by decide), bw_mul c1, bw_mul c2, bw_mul c3]
        generalize hn : (c % 2147483629 + 11) * (a * a + 5 * a + 3) % 2147483647 = n
        have n0 : 0 ≤ n := by rw [← hn]; omega
        have n1 : n < 2147483647 := by rw [← hn]; omega
        have c4 : CMul 69621 a := cmL (by decide) (by decide)
        have c5 : CMul ((n ^ (3 : Int).toNat + 69621 * a) % 2147483587) 40692 := cmR (by decide) (by decide)
        simp only [OkR_ok, OkS_nx, OkS_rt, OkS_bk, OkS_ct, OkS_go, OkS_seq, OkR_bd, bd_ok, go_ok, seq_nx, seq_rt, ofO_some, ofO_pure, run_bind, run_pure, evalSs, evalS, evalE, evalEs, evalT, evalTAnd, evalTOr, evalAnd, evalOr, evalI, evalO, Vm.evalAll, intO, bT_name, bT_tup, bTs_nil, bTs_cons, Option.bind_some, List.set_cons_zero, List.set_cons_succ, var_zero, var_succ, asB_bl, Vm.isNon, biG_tup, biG_fl, biG_kl, biG_int, biG_bl, biG_str, biG_two, biG_r0, biG_r1, biG_r2, cmpG_int, cmpG_bl, cmpG_str, cmpG_tup, cmpG_fl, cmpG_non, cw_eq, cw_ne, cw_lt, cw_le, cw_gt, cw_ge, cw_eqb, cw_neb, cw_eqs, cw_nes, bw_add, bw_sub, nw, sub_tup, sub_fl, sub_kl, sub_r0, sub_r1, sub_r2, len_tup, len_fl, len_kl, len_r0, len_r1, tuple_fl, tuple_r0, tuple_r1, list_fl, list_tup, list_kl, items_tup, items_fl, items_kl, ii_int, ib_int, is_int, it_int, il_int, itl_int, ii_tup, ib_tup, is_tup, it_tup, il_tup, itl_tup, ii_fl, ib_fl, is_fl, it_fl, il_fl, itl_fl, ii_str, ib_str, is_str, it_str, il_str, itl_str, ii_bl, ib_bl, is_bl, it_bl, il_bl, ii_non, ib_non, is_non, it_non, il_non, ↓reduceIte, Bool.not_true, Bool.not_false, Bool.false_eq_true, decide_true, decide_false, decide_eq_true_eq, Bool.true_eq_false, eq_self, not_true_eq_false, not_false_eq_true, List.length_cons, List.length_nil, Nat.reduceAdd, szl, tup_if, lst_if, and_self, wipeR, List.map_cons, List.map_nil, Nat.reduceLeDiff, Int.cast_ofNat_Int, Int.reduceNeg, Int.reduceEq, Int.reduceLE, Int.reduceLT, at0, at1, at2, at3, st__law_draw, un__law_draw, q1_len_Picture, c__law_draw, s8__law_draw, bw_pow (cp3 n0 n1), bw_mul c4, bw_mul c5, bw_mod (show (0 : Int) < 2147483587 by decide), bw_mod (show (0 : Int) < 2147483399 by decide)]
        generalize hn2 : (n ^ (3 : Int).toNat + 69621 * a) % 2147483587 * 40692 % 2147483399 = n2
        have n3 : 0 ≤ n2 := by rw [← hn2]; omega
        have n4 : n2 < 2147483399 := by rw [← hn2]; omega
        simp only [OkR_ok, OkS_nx, OkS_rt, OkS_bk, OkS_ct, OkS_go, OkS_seq, OkR_bd, bd_ok, go_ok, seq_nx, seq_rt, ofO_some, ofO_pure, run_bind, run_pure, evalSs, evalS, evalE, evalEs, evalT, evalTAnd, evalTOr, evalAnd, evalOr, evalI, evalO, Vm.evalAll, intO, bT_name, bT_tup, bTs_nil, bTs_cons, Option.bind_some, List.set_cons_zero, List.set_cons_succ, var_zero, var_succ, asB_bl, Vm.isNon, biG_tup, biG_fl, biG_kl, biG_int, biG_bl, biG_str, biG_two, biG_r0, biG_r1, biG_r2, cmpG_int, cmpG_bl, cmpG_str, cmpG_tup, cmpG_fl, cmpG_non, cw_eq, cw_ne, cw_lt, cw_le, cw_gt, cw_ge, cw_eqb, cw_neb, cw_eqs, cw_nes, bw_add, bw_sub, nw, sub_tup, sub_fl, sub_kl, sub_r0, sub_r1, sub_r2, len_tup, len_fl, len_kl, len_r0, len_r1, tuple_fl, tuple_r0, tuple_r1, list_fl, list_tup, list_kl, items_tup, items_fl, items_kl, ii_int, ib_int, is_int, it_int, il_int, itl_int, ii_tup, ib_tup, is_tup, it_tup, il_tup, itl_tup, ii_fl, ib_fl, is_fl, it_fl, il_fl, itl_fl, ii_str, ib_str, is_str, it_str, il_str, itl_str, ii_bl, ib_bl, is_bl, it_bl, il_bl, ii_non, ib_non, is_non, it_non, il_non, ↓reduceIte, Bool.not_true, Bool.not_false, Bool.false_eq_true, decide_true, decide_false, decide_eq_true_eq, Bool.true_eq_false, eq_self, not_true_eq_false, not_false_eq_true, List.length_cons, List.length_nil, Nat.reduceAdd, szl, tup_if, lst_if, and_self, wipeR, List.map_cons, List.map_nil, Nat.reduceLeDiff, Int.cast_ofNat_Int, Int.reduceNeg, Int.reduceEq, Int.reduceLE, Int.reduceLT, at0, at1, at2, at3, st__law_draw, un__law_draw, q1_len_Picture, c__law_draw, s9__law_draw, bw_pow cp6, p6]
        by_cases hm : 1000000 < many
        · have c6 : CMul n2 2147483629 := cmR (by decide) (by decide)
          have c7 : CMul (n2 % 1000003) 48271 := cmR (by decide) (by decide)
          simp only [OkR_ok, OkS_nx, OkS_rt, OkS_bk, OkS_ct, OkS_go, OkS_seq, OkR_bd, bd_ok, go_ok, seq_nx, seq_rt, ofO_some, ofO_pure, run_bind, run_pure, evalSs, evalS, evalE, evalEs, evalT, evalTAnd, evalTOr, evalAnd, evalOr, evalI, evalO, Vm.evalAll, intO, bT_name, bT_tup, bTs_nil, bTs_cons, Option.bind_some, List.set_cons_zero, List.set_cons_succ, var_zero, var_succ, asB_bl, Vm.isNon, biG_tup, biG_fl, biG_kl, biG_int, biG_bl, biG_str, biG_two, biG_r0, biG_r1, biG_r2, cmpG_int, cmpG_bl, cmpG_str, cmpG_tup, cmpG_fl, cmpG_non, cw_eq, cw_ne, cw_lt, cw_le, cw_gt, cw_ge, cw_eqb, cw_neb, cw_eqs, cw_nes, bw_add, bw_sub, nw, sub_tup, sub_fl, sub_kl, sub_r0, sub_r1, sub_r2, len_tup, len_fl, len_kl, len_r0, len_r1, tuple_fl, tuple_r0, tuple_r1, list_fl, list_tup, list_kl, items_tup, items_fl, items_kl, ii_int, ib_int, is_int, it_int, il_int, itl_int, ii_tup, ib_tup, is_tup, it_tup, il_tup, itl_tup, ii_fl, ib_fl, is_fl, it_fl, il_fl, itl_fl, ii_str, ib_str, is_str, it_str, il_str, itl_str, ii_bl, ib_bl, is_bl, it_bl, il_bl, ii_non, ib_non, is_non, it_non, il_non, ↓reduceIte, Bool.not_true, Bool.not_false, Bool.false_eq_true, decide_true, decide_false, decide_eq_true_eq, Bool.true_eq_false, eq_self, not_true_eq_false, not_false_eq_true, List.length_cons, List.length_nil, Nat.reduceAdd, szl, tup_if, lst_if, and_self, wipeR, List.map_cons, List.map_nil, Nat.reduceLeDiff, Int.cast_ofNat_Int, Int.reduceNeg, Int.reduceEq, Int.reduceLE, Int.reduceLT, at0, at1, at2, at3, st__law_draw, un__law_draw, q1_len_Picture, c__law_draw, hm, s17__law_draw, bw_mul c6, bw_mul c7, bw_mod (show (0 : Int) < 1000003 by decide), bw_mod (show (0 : Int) < 2147483587 by decide)]
          exact last _
        · simp only [OkR_ok, OkS_nx, OkS_rt, OkS_bk, OkS_ct, OkS_go, OkS_seq, OkR_bd, bd_ok, go_ok, seq_nx, seq_rt, ofO_some, ofO_pure, run_bind, run_pure, evalSs, evalS, evalE, evalEs, evalT, evalTAnd, evalTOr, evalAnd, evalOr, evalI, evalO, Vm.evalAll, intO, bT_name, bT_tup, bTs_nil, bTs_cons, Option.bind_some, List.set_cons_zero, List.set_cons_succ, var_zero, var_succ, asB_bl, Vm.isNon, biG_tup, biG_fl, biG_kl, biG_int, biG_bl, biG_str, biG_two, biG_r0, biG_r1, biG_r2, cmpG_int, cmpG_bl, cmpG_str, cmpG_tup, cmpG_fl, cmpG_non, cw_eq, cw_ne, cw_lt, cw_le, cw_gt, cw_ge, cw_eqb, cw_neb, cw_eqs, cw_nes, bw_add, bw_sub, nw, sub_tup, sub_fl, sub_kl, sub_r0, sub_r1, sub_r2, len_tup, len_fl, len_kl, len_r0, len_r1, tuple_fl, tuple_r0, tuple_r1, list_fl, list_tup, list_kl, items_tup, items_fl, items_kl, ii_int, ib_int, is_int, it_int, il_int, itl_int, ii_tup, ib_tup, is_tup, it_tup, il_tup, itl_tup, ii_fl, ib_fl, is_fl, it_fl, il_fl, itl_fl, ii_str, ib_str, is_str, it_str, il_str, itl_str, ii_bl, ib_bl, is_bl, it_bl, il_bl, ii_non, ib_non, is_non, it_non, il_non, ↓reduceIte, Bool.not_true, Bool.not_false, Bool.false_eq_true, decide_true, decide_false, decide_eq_true_eq, Bool.true_eq_false, eq_self, not_true_eq_false, not_false_eq_true, List.length_cons, List.length_nil, Nat.reduceAdd, szl, tup_if, lst_if, and_self, wipeR, List.map_cons, List.map_nil, Nat.reduceLeDiff, Int.cast_ofNat_Int, Int.reduceNeg, Int.reduceEq, Int.reduceLE, Int.reduceLT, at0, at1, at2, at3, st__law_draw, un__law_draw, q1_len_Picture, c__law_draw, hm]
          exact last _
      by_cases h1 : a < cs.length
      · by_cases h2 : 1000000000000000000 ≤ c
        · simp only [OkR_ok, OkS_nx, OkS_rt, OkS_bk, OkS_ct, OkS_go, OkS_seq, OkR_bd, bd_ok, go_ok, seq_nx, seq_rt, ofO_some, ofO_pure, run_bind, run_pure, evalSs, evalS, evalE, evalEs, evalT, evalTAnd, evalTOr, evalAnd, evalOr, evalI, evalO, Vm.evalAll, intO, bT_name, bT_tup, bTs_nil, bTs_cons, Option.bind_some, List.set_cons_zero, List.set_cons_succ, var_zero, var_succ, asB_bl, Vm.isNon, biG_tup, biG_fl, biG_kl, biG_int, biG_bl, biG_str, biG_two, biG_r0, biG_r1, biG_r2, cmpG_int, cmpG_bl, cmpG_str, cmpG_tup, cmpG_fl, cmpG_non, cw_eq, cw_ne, cw_lt, cw_le, cw_gt, cw_ge, cw_eqb, cw_neb, cw_eqs, cw_nes, bw_add, bw_sub, nw, sub_tup, sub_fl, sub_kl, sub_r0, sub_r1, sub_r2, len_tup, len_fl, len_kl, len_r0, len_r1, tuple_fl, tuple_r0, tuple_r1, list_fl, list_tup, list_kl, items_tup, items_fl, items_kl, ii_int, ib_int, is_int, it_int, il_int, itl_int, ii_tup, ib_tup, is_tup, it_tup, il_tup, itl_tup, ii_fl, ib_fl, is_fl, it_fl, il_fl, itl_fl, ii_str, ib_str, is_str, it_str, il_str, itl_str, ii_bl, ib_bl, is_bl, it_bl, il_bl, ii_non, ib_non, is_non, it_non, il_non, ↓reduceIte, Bool.not_true, Bool.not_false, Bool.false_eq_true, decide_true, decide_false, decide_eq_true_eq, Bool.true_eq_false, eq_self, not_true_eq_false, not_false_eq_true, List.length_cons, List.length_nil, Nat.reduceAdd, szl, tup_if, lst_if, and_self, wipeR, List.map_cons, List.map_nil, Nat.reduceLeDiff, Int.cast_ofNat_Int, Int.reduceNeg, Int.reduceEq, Int.reduceLE, Int.reduceLT, at0, at1, at2, at3, st__law_draw, un__law_draw, q1_len_Picture, c__law_draw, s6__law_draw, List.length_map, h1, h2, bw_pow cp18, p18, s15__law_draw, s16__law_draw, bw_div ⟨m0, m1⟩, bw_mod m0, setI_2]
          exact ⟨_, _, rfl, rfl, (md _).1, (md _).2, pn _⟩
        · simp only [OkR_ok, OkS_nx, OkS_rt, OkS_bk, OkS_ct, OkS_go, OkS_seq, OkR_bd, bd_ok, go_ok, seq_nx, seq_rt, ofO_some, ofO_pure, run_bind, run_pure, evalSs, evalS, evalE, evalEs, evalT, evalTAnd, evalTOr, evalAnd, evalOr, evalI, evalO, Vm.evalAll, intO, bT_name, bT_tup, bTs_nil, bTs_cons, Option.bind_some, List.set_cons_zero, List.set_cons_succ, var_zero, var_succ, asB_bl, Vm.isNon, biG_tup, biG_fl, biG_kl, biG_int, biG_bl, biG_str, biG_two, biG_r0, biG_r1, biG_r2, cmpG_int, cmpG_bl, cmpG_str, cmpG_tup, cmpG_fl, cmpG_non, cw_eq, cw_ne, cw_lt, cw_le, cw_gt, cw_ge, cw_eqb, cw_neb, cw_eqs, cw_nes, bw_add, bw_sub, nw, sub_tup, sub_fl, sub_kl, sub_r0, sub_r1, sub_r2, len_tup, len_fl, len_kl, len_r0, len_r1, tuple_fl, tuple_r0, tuple_r1, list_fl, list_tup, list_kl, items_tup, items_fl, items_kl, ii_int, ib_int, is_int, it_int, il_int, itl_int, ii_tup, ib_tup, is_tup, it_tup, il_tup, itl_tup, ii_fl, ib_fl, is_fl, it_fl, il_fl, itl_fl, ii_str, ib_str, is_str, it_str, il_str, itl_str, ii_bl, ib_bl, is_bl, it_bl, il_bl, ii_non, ib_non, is_non, it_non, il_non, ↓reduceIte, Bool.not_true, Bool.not_false, Bool.false_eq_true, decide_true, decide_false, decide_eq_true_eq, Bool.true_eq_false, eq_self, not_true_eq_false, not_false_eq_true, List.length_cons, List.length_nil, Nat.reduceAdd, szl, tup_if, lst_if, and_self, wipeR, List.map_cons, List.map_nil, Nat.reduceLeDiff, Int.cast_ofNat_Int, Int.reduceNeg, Int.reduceEq, Int.reduceLE, Int.reduceLT, at0, at1, at2, at3, st__law_draw, un__law_draw, q1_len_Picture, c__law_draw, s6__law_draw, List.length_map, h1, h2, bw_pow cp18, p18]
          exact tail
      · simp only [OkR_ok, OkS_nx, OkS_rt, OkS_bk, OkS_ct, OkS_go, OkS_seq, OkR_bd, bd_ok, go_ok, seq_nx, seq_rt, ofO_some, ofO_pure, run_bind, run_pure, evalSs, evalS, evalE, evalEs, evalT, evalTAnd, evalTOr, evalAnd, evalOr, evalI, evalO, Vm.evalAll, intO, bT_name, bT_tup, bTs_nil, bTs_cons, Option.bind_some, List.set_cons_zero, List.set_cons_succ, var_zero, var_succ, asB_bl, Vm.isNon, biG_tup, biG_fl, biG_kl, biG_int, biG_bl, biG_str, biG_two, biG_r0, biG_r1, biG_r2, cmpG_int, cmpG_bl, cmpG_str, cmpG_tup, cmpG_fl, cmpG_non, cw_eq, cw_ne, cw_lt, cw_le, cw_gt, cw_ge, cw_eqb, cw_neb, cw_eqs, cw_nes, bw_add, bw_sub, nw, sub_tup, sub_fl, sub_kl, sub_r0, sub_r1, sub_r2, len_tup, len_fl, len_kl, len_r0, len_r1, tuple_fl, tuple_r0, tuple_r1, list_fl, list_tup, list_kl, items_tup, items_fl, items_kl, ii_int, ib_int, is_int, it_int, il_int, itl_int, ii_tup, ib_tup, is_tup, it_tup, il_tup, itl_tup, ii_fl, ib_fl, is_fl, it_fl, il_fl, itl_fl, ii_str, ib_str, is_str, it_str, il_str, itl_str, ii_bl, ib_bl, is_bl, it_bl, il_bl, ii_non, ib_non, is_non, it_non, il_non, ↓reduceIte, Bool.not_true, Bool.not_false, Bool.false_eq_true, decide_true, decide_false, decide_eq_true_eq, Bool.true_eq_false, eq_self, not_true_eq_false, not_false_eq_true, List.length_cons, List.length_nil, Nat.reduceAdd, szl, tup_if, lst_if, and_self, wipeR, List.map_cons, List.map_nil, Nat.reduceLeDiff, Int.cast_ofNat_Int, Int.reduceNeg, Int.reduceEq, Int.reduceLE, Int.reduceLT, at0, at1, at2, at3, st__law_draw, un__law_draw, q1_len_Picture, c__law_draw, s6__law_draw, List.length_map, h1]
        exact tail
    by_cases h0 : 0 < (cs.length : Int)
    · obtain ⟨c, hc⟩ := cell_at (cs := cs) (i := a % cs.length) (Int.emod_nonneg _ (by omega)) (Int.emod_lt_of_pos _ h0) (O.lst [W.fl (List.map W.int cs), W.int (a + 1), W.int b] :: rest)
      simp only [OkR_ok, OkS_nx, OkS_rt, OkS_bk, OkS_ct, OkS_go, OkS_seq, OkR_bd, bd_ok, go_ok, seq_nx, seq_rt, ofO_some, ofO_pure, run_bind, run_pure, evalSs, evalS, evalE, evalEs, evalT, evalTAnd, evalTOr, evalAnd, evalOr, evalI, evalO, Vm.evalAll, intO, bT_name, bT_tup, bTs_nil, bTs_cons, Option.bind_some, List.set_cons_zero, List.set_cons_succ, var_zero, var_succ, asB_bl, Vm.isNon, biG_tup, biG_fl, biG_kl, biG_int, biG_bl, biG_str, biG_two, biG_r0, biG_r1, biG_r2, cmpG_int, cmpG_bl, cmpG_str, cmpG_tup, cmpG_fl, cmpG_non, cw_eq, cw_ne, cw_lt, cw_le, cw_gt, cw_ge, cw_eqb, cw_neb, cw_eqs, cw_nes, bw_add, bw_sub, nw, sub_tup, sub_fl, sub_kl, sub_r0, sub_r1, sub_r2, len_tup, len_fl, len_kl, len_r0, len_r1, tuple_fl, tuple_r0, tuple_r1, list_fl, list_tup, list_kl, items_tup, items_fl, items_kl, ii_int, ib_int, is_int, it_int, il_int, itl_int, ii_tup, ib_tup, is_tup, it_tup, il_tup, itl_tup, ii_fl, ib_fl, is_fl, it_fl, il_fl, itl_fl, ii_str, ib_str, is_str, it_str, il_str, itl_str, ii_bl, ib_bl, is_bl, it_bl, il_bl, ii_non, ib_non, is_non, it_non, il_non, ↓reduceIte, Bool.not_true, Bool.not_false, Bool.false_eq_true, decide_true, decide_false, decide_eq_true_eq, Bool.true_eq_false, eq_self, not_true_eq_false, not_false_eq_true, List.length_cons, List.length_nil, Nat.reduceAdd, szl, tup_if, lst_if, and_self, wipeR, List.map_cons, List.map_nil, Nat.reduceLeDiff, Int.cast_ofNat_Int, Int.reduceNeg, Int.reduceEq, Int.reduceLE, Int.reduceLT, at0, at1, at2, at3, st__law_draw, un__law_draw, q1_len_Picture, c__law_draw, s5__law_draw, List.length_map, h0, s14__law_draw, bw_mod h0, hc]
      exact key c
    · simp only [OkR_ok, OkS_nx, OkS_rt, OkS_bk, OkS_ct, OkS_go, OkS_seq, OkR_bd, bd_ok, go_ok, seq_nx, seq_rt, ofO_some, ofO_pure, run_bind, run_pure, evalSs, evalS, evalE, evalEs, evalT, evalTAnd, evalTOr, evalAnd, evalOr, evalI, evalO, Vm.evalAll, intO, bT_name, bT_tup, bTs_nil, bTs_cons, Option.bind_some, List.set_cons_zero, List.set_cons_succ, var_zero, var_succ, asB_bl, Vm.isNon, biG_tup, biG_fl, biG_kl, biG_int, biG_bl, biG_str, biG_two, biG_r0, biG_r1, biG_r2, cmpG_int, cmpG_bl, cmpG_str, cmpG_tup, cmpG_fl, cmpG_non, cw_eq, cw_ne, cw_lt, cw_le, cw_gt, cw_ge, cw_eqb, cw_neb, cw_eqs, cw_nes, bw_add, bw_sub, nw, sub_tup, sub_fl, sub_kl, sub_r0, sub_r1, sub_r2, len_tup, len_fl, len_kl, len_r0, len_r1, tuple_fl, tuple_r0, tuple_r1, list_fl, list_tup, list_kl, items_tup, items_fl, items_kl, ii_int, ib_int, is_int, it_int, il_int, itl_int, ii_tup, ib_tup, is_tup, it_tup, il_tup, itl_tup, ii_fl, ib_fl, is_fl, it_fl, il_fl, itl_fl, ii_str, ib_str, is_str, it_str, il_str, itl_str, ii_bl, ib_bl, is_bl, it_bl, il_bl, ii_non, ib_non, is_non, it_non, il_non, ↓reduceIte, Bool.not_true, Bool.not_false, Bool.false_eq_true, decide_true, decide_false, decide_eq_true_eq, Bool.true_eq_false, eq_self, not_true_eq_false, not_false_eq_true, List.length_cons, List.length_nil, Nat.reduceAdd, szl, tup_if, lst_if, and_self, wipeR, List.map_cons, List.map_nil, Nat.reduceLeDiff, Int.cast_ofNat_Int, Int.reduceNeg, Int.reduceEq, Int.reduceLE, Int.reduceLT, at0, at1, at2, at3, st__law_draw, un__law_draw, q1_len_Picture, c__law_draw, s5__law_draw, List.length_map, h0]
      exact key 7
theorem e_pen (ns : List Int) (few : ns.length ≤ 63) : ∃ po, m__law_pen [.kl (ns.map .int)] [] = .ok (.ref 0) [po] ∧ PenO 1000000000 po := by
  suffices h : OkR (m__law_pen [.kl (ns.map .int)] []) fun w st => w = .ref 0 ∧ ∃ po, st = [po] ∧ PenO 1000000000 po by
    obtain ⟨w, st, e, rfl, po, rfl, h⟩ := h.ex
    exact ⟨po, e, h⟩
  rw [un__law_pen, OkR_runD, st__law_pen]
  obtain ⟨cs, e, hl⟩ : ∃ cs : List Int, cutW (ns.map W.int) none (some 63) = cs.map W.int ∧ cs.length ≤ 63 := by
    unfold cutW
    refine ⟨(ns.drop _).take _, by rw [List.map_take, List.map_drop], ?_⟩
    rw [List.length_take, List.length_drop]; omega
  have e1 : sliW (.kl (ns.map W.int)) none (some 63) [] = .ok (.fl (cs.map W.int)) [] := by rw [← e]; rfl
  have e2 : ∀ o : O, newO o [] = .ok (.ref 0) [o] := fun _ => rfl
  simp only [OkR_ok, OkS_nx, OkS_rt, OkS_bk, OkS_ct, OkS_go, OkS_seq, OkR_bd, bd_ok, go_ok, seq_nx, seq_rt, ofO_some, ofO_pure, run_bind, run_pure, evalSs, evalS, evalE, evalEs, evalT, evalTAnd, evalTOr, evalAnd, evalOr, evalI, evalO, Vm.evalAll, intO, bT_name, bT_tup, bTs_nil, bTs_cons, Option.bind_some, List.set_cons_zero, List.set_cons_succ, var_zero, var_succ, asB_bl, Vm.isNon, biG_tup, biG_fl, biG_kl, biG_int, biG_bl, biG_str, biG_two, biG_r0, biG_r1, biG_r2, cmpG_int, cmpG_bl, cmpG_str, cmpG_tup, cmpG_fl, cmpG_non, cw_eq, cw_ne, cw_lt, cw_le, cw_gt, cw_ge, cw_eqb, cw_neb, cw_eqs, cw_nes, bw_add, bw_sub, nw, sub_tup, sub_fl, sub_kl, sub_r0, sub_r1, sub_r2, len_tup, len_fl, len_kl, len_r0, len_r1, tuple_fl, tuple_r0, tuple_r1, list_fl, list_tup, list_kl, items_tup, items_fl, items_kl, ii_int, ib_int, is_int, it_int, il_int, itl_int, ii_tup, ib_tup, is_tup, it_tup, il_tup, itl_tup, ii_fl, ib_fl, is_fl, it_fl, il_fl, itl_fl, ii_str, ib_str, is_str, it_str, il_str, itl_str, ii_bl, ib_bl, is_bl, it_bl, il_bl, ii_non, ib_non, is_non, it_non, il_non, ↓reduceIte, Bool.not_true, Bool.not_false, Bool.false_eq_true, decide_true, decide_false, decide_eq_true_eq, Bool.true_eq_false, eq_self, not_true_eq_false, not_false_eq_true, List.length_cons, List.length_nil, Nat.reduceAdd, szl, tup_if, lst_if, and_self, wipeR, List.map_cons, List.map_nil, Nat.reduceLeDiff, Int.cast_ofNat_Int, Int.reduceNeg, Int.reduceEq, Int.reduceLE, Int.reduceLT, at0, at1, at2, at3, st__law_pen, un__law_pen, c__law_pen, s1__law_pen, e1, e2]
  exact ⟨trivial, _, rfl, cs, 0, 0, rfl, hl, by decide, by decide⟩

end VmL
namespace VmL
open PySem L2 Vm
/-! ### alike -/
/-- data that `_law_same` walks: of so many levels at most -/
inductive Plain : Nat → W → Prop where
  | int {k : Nat} (i : Int) : Plain k (.int i)
  | bl {k : Nat} (b : Bool) : Plain k (.bl b)
  | str {k : Nat} (x : Str) : Plain k (.str x)
  | non {k : Nat} : Plain k .non
  | tup {k : Nat} {xs : List W} (h : ∀ x ∈ xs, Plain k x) (hl : xs.length ≤ 16777216) : Plain (k + 1) (.tup xs)
  | fl {k : Nat} {xs : List W} (h : ∀ x ∈ xs, Plain k x) (hl : xs.length ≤ 16777216) : Plain (k + 1) (.fl xs)
  | fd {k : Nat} {ks : List Key} {ws : List W} (h : eqA (.fd ks ws) (.fd ks ws) = some true) : Plain k (.fd ks ws)
theorem ii_fd {Γ : Gm} {ks : List Key} {ws : List W} {st : Sto} : isiM Γ [.ty "int"] (.fd ks ws) st = .ok (.bl false) st := rfl
theorem ib_fd {Γ : Gm} {ks : List Key} {ws : List W} {st : Sto} : isiM Γ [.ty "bool"] (.fd ks ws) st = .ok (.bl false) st := rfl
theorem is_fd {Γ : Gm} {ks : List Key} {ws : List W} {st : Sto} : isiM Γ [.ty "str"] (.fd ks ws) st = .ok (.bl false) st := rfl
theorem itl_fd {Γ : Gm} {ks : List Key} {ws : List W} {st : Sto} : isiM Γ [.ty "tuple", .ty "list"] (.fd ks ws) st = .ok (.bl false) st := rfl
theorem cmpG_fd {Γ : Gm} {op : CmpOp} {ks : List Key} {ws : List W} {y : W} {st : Sto} : cmpG Γ op (.fd ks ws) y st = cmpW op (.fd ks ws) y st := rfl
theorem zip_tup {xs ys : List W} {st : Sto} : zipW (.tup xs) (.tup ys) st = .ok (List.zipWith (fun x y => .tup [x, y]) xs ys) st := rfl
theorem zip_fl {xs ys : List W} {st : Sto} : zipW (.fl xs) (.fl ys) st = .ok (List.zipWith (fun x y => .tup [x, y]) xs ys) st := rfl
theorem zip_self {xs : List W} : List.zipWith (fun x y => W.tup [x, y]) xs xs = xs.map fun x => W.tup [x, x] := by
  induction xs with
  | nil => rfl
  | cons x xs ih => simp [ih]
theorem lcF_two {Γ : Gm} {i j : Nat} {e : C} {ρ : Rho} {x z y : W} {st : Sto} (h2 : evalE Γ e ((ρ.set i (some x)).set j (some z)) st = .ok y st) : lcF (.tup [.name i, .name j]) (fun _ => pure true) (fun ρ' => evalE Γ e ρ') ρ (.tup [x, z]) st = .ok (some y) st := by
  unfold lcF
  simp only [run_bind, bT_tup, bTs_cons, bT_name, bTs_nil, Option.bind_some, ofO_pure, run_pure, bd_ok, if_true, h2]
theorem e_same : ∀ {k : Nat} {w : W}, Plain k w → ∀ (i : Nat) (st : Sto), k < i → m__law_same i [w, w] st = .ok (.bl true) st := by
  intro k
  induction k with
  | zero =>
    intro w h i st hi
    obtain ⟨i, rfl⟩ : ∃ j, i = j + 1 := ⟨i - 1, by omega⟩
    refine OkR.eq ?_
    rw [un__law_same, OkR_runD, st__law_same]
    cases h with
    | int n => simp [OkR_ok, OkS_nx, OkS_rt, OkS_bk, OkS_ct, OkS_go, OkS_seq, OkR_bd, bd_ok, go_ok, seq_nx, seq_rt, ofO_some, ofO_pure, run_bind, run_pure, evalSs, evalS, evalE, evalEs, evalT, evalTAnd, evalTOr, evalAnd, evalOr, evalI, evalO, Vm.evalAll, intO, bT_name, bT_tup, bTs_nil, bTs_cons, Option.bind_some, List.set_cons_zero, List.set_cons_succ, var_zero, var_succ, asB_bl, Vm.isNon, biG_tup, biG_fl, biG_kl, biG_int, biG_bl, biG_str, biG_two, biG_r0, biG_r1, biG_r2, cmpG_int, cmpG_bl, cmpG_str, cmpG_tup, cmpG_fl, cmpG_non, cw_eq, cw_ne, cw_lt, cw_le, cw_gt, cw_ge, cw_eqb, cw_neb, cw_eqs, cw_nes, bw_add, bw_sub, nw, sub_tup, sub_fl, sub_kl, sub_r0, sub_r1, sub_r2, len_tup, len_fl, len_kl, len_r0, len_r1, tuple_fl, tuple_r0, tuple_r1, list_fl, list_tup, list_kl, items_tup, items_fl, items_kl, ii_int, ib_int, is_int, it_int, il_int, itl_int, ii_tup, ib_tup, is_tup, it_tup, il_tup, itl_tup, ii_fl, ib_fl, is_fl, it_fl, il_fl, itl_fl, ii_str, ib_str, is_str, it_str, il_str, itl_str, ii_bl, ib_bl, is_bl, it_bl, il_bl, ii_non, ib_non, is_non, it_non, il_non, ↓reduceIte, Bool.not_true, Bool.not_false, Bool.false_eq_true, decide_true, decide_false, decide_eq_true_eq, Bool.true_eq_false, eq_self, not_true_eq_false, not_false_eq_true, List.length_cons, List.length_nil, Nat.reduceAdd, szl, tup_if, lst_if, and_self, wipeR, List.map_cons, List.map_nil, Nat.reduceLeDiff, Int.cast_ofNat_Int, Int.reduceNeg, Int.reduceEq, Int.reduceLE, Int.reduceLT, at0, at1, at2, at3, st__law_same, un__law_same, qr__law_same_Eq_Picture, qr__law_same_NotEq_Picture, qr__law_same_len_Picture, qr__law_same__law_same_2, c__law_same, s1__law_same, s2__law_same, s3__law_same, s4__law_same, s5__law_same]
    | bl b => simp [OkR_ok, OkS_nx, OkS_rt, OkS_bk, OkS_ct, OkS_go, OkS_seq, OkR_bd, bd_ok, go_ok, seq_nx, seq_rt, ofO_some, ofO_pure, run_bind, run_pure, evalSs, evalS, evalE, evalEs, evalT, evalTAnd, evalTOr, evalAnd, evalOr, evalI, evalO, Vm.evalAll, intO, bT_name, bT_tup, bTs_nil, bTs_cons, Option.bind_some, List.set_cons_zero, List.set_cons_succ, var_zero, var_succ, asB_bl, Vm.isNon, biG_tup, biG_fl, biG_kl, biG_int, biG_bl, biG_str, biG_two, biG_r0, biG_r1, biG_r2, cmpG_int, cmpG_bl, cmpG_str, cmpG_tup, cmpG_fl, cmpG_non, cw_eq, cw_ne, cw_lt, cw_le, cw_gt, cw_ge, cw_eqb, cw_neb, cw_eqs, cw_nes, bw_add, bw_sub, nw, sub_tup, sub_fl, sub_kl, sub_r0, sub_r1, sub_r2, len_tup, len_fl, len_kl, len_r0, len_r1, tuple_fl, tuple_r0, tuple_r1, list_fl, list_tup, list_kl, items_tup, items_fl, items_kl, ii_int, ib_int, is_int, it_int, il_int, itl_int, ii_tup, ib_tup, is_tup, it_tup, il_tup, itl_tup, ii_fl, ib_fl, is_fl, it_fl, il_fl, itl_fl, ii_str, ib_str, is_str, it_str, il_str, itl_str, ii_bl, ib_bl, is_bl, it_bl, il_bl, ii_non, ib_non, is_non, it_non, il_non, ↓reduceIte, Bool.not_true, Bool.not_false, Bool.false_eq_true, decide_true, decide_false, decide_eq_true_eq, Bool.true_eq_false, eq_self, not_true_eq_false, not_false_eq_true, List.length_cons, List.length_nil, Nat.reduceAdd, szl, tup_if, lst_if, and_self, wipeR, List.map_cons, List.map_nil, Nat.reduceLeDiff, Int.cast_ofNat_Int, Int.reduceNeg, Int.reduceEq, Int.reduceLE, Int.reduceLT, at0, at1, at2, at3, st__law_same, un__law_same, qr__law_same_Eq_Picture, qr__law_same_NotEq_Picture, qr__law_same_len_Picture, qr__law_same__law_same_2, c__law_same, s1__law_same, s6__law_same, s2__law_same, s3__law_same, s4__law_same, s5__law_same]
    | str x => simp [OkR_ok, OkS_nx, OkS_rt, OkS_bk, OkS_ct, OkS_go, OkS_seq, OkR_bd, bd_ok, go_ok, seq_nx, seq_rt, ofO_some, ofO_pure, run_bind, run_pure, evalSs, evalS, evalE, evalEs, evalT, evalTAnd, evalTOr, evalAnd, evalOr, evalI, evalO, Vm.evalAll, intO, bT_name, bT_tup, bTs_nil, bTs_cons, Option.bind_some, List.set_cons_zero, List.set_cons_succ, var_zero, var_succ, asB_bl, Vm.isNon, biG_tup, biG_fl, biG_kl, biG_int, biG_bl, biG_str, biG_two, biG_r0, biG_r1, biG_r2, cmpG_int, cmpG_bl, cmpG_str, cmpG_tup, cmpG_fl, cmpG_non, cw_eq, cw_ne, cw_lt, cw_le, cw_gt, cw_ge, cw_eqb, cw_neb, cw_eqs, cw_nes, bw_add, bw_sub, nw, sub_tup, sub_fl, sub_kl, sub_r0, sub_r1, sub_r2, len_tup, len_fl, len_kl, len_r0, len_r1, tuple_fl, tuple_r0, tuple_r1, list_fl, list_tup, list_kl, items_tup, items_fl, items_kl, ii_int, ib_int, is_int, it_int, il_int, itl_int, ii_tup, ib_tup, is_tup, it_tup, il_tup, itl_tup, ii_fl, ib_fl, is_fl, it_fl, il_fl, itl_fl, ii_str, ib_str, is_str, it_str, il_str, itl_str, ii_bl, ib_bl, is_bl, it_bl, il_bl, ii_non, ib_non, is_non, it_non, il_non, ↓reduceIte, Bool.not_true, Bool.not_false, Bool.false_eq_true, decide_true, decide_false, decide_eq_true_eq, Bool.true_eq_false, eq_self, not_true_eq_false, not_false_eq_true, List.length_cons, List.length_nil, Nat.reduceAdd, szl, tup_if, lst_if, and_self, wipeR, List.map_cons, List.map_nil, Nat.reduceLeDiff, Int.cast_ofNat_Int, Int.reduceNeg, Int.reduceEq, Int.reduceLE, Int.reduceLT, at0, at1, at2, at3, st__law_same, un__law_same, qr__law_same_Eq_Picture, qr__law_same_NotEq_Picture, qr__law_same_len_Picture, qr__law_same__law_same_2, c__law_same, s1__law_same, s2__law_same, s3__law_same, s4__law_same, s5__law_same]
    | non => simp [OkR_ok, OkS_nx, OkS_rt, OkS_bk, OkS_ct, OkS_go, OkS_seq, OkR_bd, bd_ok, go_ok, seq_nx, seq_rt, ofO_some, ofO_pure, run_bind, run_pure, evalSs, evalS, evalE, evalEs, evalT, evalTAnd, evalTOr, evalAnd, evalOr, evalI, evalO, Vm.evalAll, intO, bT_name, bT_tup, bTs_nil, bTs_cons, Option.bind_some, List.set_cons_zero, List.set_cons_succ, var_zero, var_succ, asB_bl, Vm.isNon, biG_tup, biG_fl, biG_kl, biG_int, biG_bl, biG_str, biG_two, biG_r0, biG_r1, biG_r2, cmpG_int, cmpG_bl, cmpG_str, cmpG_tup, cmpG_fl, cmpG_non, cw_eq, cw_ne, cw_lt, cw_le, cw_gt, cw_ge, cw_eqb, cw_neb, cw_eqs, cw_nes, bw_add, bw_sub, nw, sub_tup, sub_fl, sub_kl, sub_r0, sub_r1, sub_r2, len_tup, len_fl, len_kl, len_r0, len_r1, tuple_fl, tuple_r0, tuple_r1, list_fl, list_tup, list_kl, items_tup, items_fl, items_kl, ii_int, ib_int, is_int, it_int, il_int, itl_int, ii_tup, ib_tup, is_tup, it_tup, il_tup, itl_tup, ii_fl, ib_fl, is_fl, it_fl, il_fl, itl_fl, ii_str, ib_str, is_str, it_str, il_str, itl_str, ii_bl, ib_bl, is_bl, it_bl, il_bl, ii_non, ib_non, is_non, it_non, il_non, ↓reduceIte, Bool.not_true, Bool.not_false, Bool.false_eq_true, decide_true, decide_false, decide_eq_true_eq, Bool.true_eq_false, eq_self, not_true_eq_false, not_false_eq_true, List.length_cons, List.length_nil, Nat.reduceAdd, szl, tup_if, lst_if, and_self, wipeR, List.map_cons, List.map_nil, Nat.reduceLeDiff, Int.cast_ofNat_Int, Int.reduceNeg, Int.reduceEq, Int.reduceLE, Int.reduceLT, at0, at1, at2, at3, st__law_same, un__law_same, qr__law_same_Eq_Picture, qr__law_same_NotEq_Picture, qr__law_same_len_Picture, qr__law_same__law_same_2, c__law_same, s1__law_same, s2__law_same, s3__law_same, s4__law_same, s5__law_same, s7__law_same]
    | fd h => simp [OkR_ok, OkS_nx, OkS_rt, OkS_bk, OkS_ct, OkS_go, OkS_seq, OkR_bd, bd_ok, go_ok, seq_nx, seq_rt, ofO_some, ofO_pure, run_bind, run_pure, evalSs, evalS, evalE, evalEs, evalT, evalTAnd, evalTOr, evalAnd, evalOr, evalI, evalO, Vm.evalAll, intO, bT_name, bT_tup, bTs_nil, bTs_cons, Option.bind_some, List.set_cons_zero, List.set_cons_succ, var_zero, var_succ, asB_bl, Vm.isNon, biG_tup, biG_fl, biG_kl, biG_int, biG_bl, biG_str, biG_two, biG_r0, biG_r1, biG_r2, cmpG_int, cmpG_bl, cmpG_str, cmpG_tup, cmpG_fl, cmpG_non, cw_eq, cw_ne, cw_lt, cw_le, cw_gt, cw_ge, cw_eqb, cw_neb, cw_eqs, cw_nes, bw_add, bw_sub, nw, sub_tup, sub_fl, sub_kl, sub_r0, sub_r1, sub_r2, len_tup, len_fl, len_kl, len_r0, len_r1, tuple_fl, tuple_r0, tuple_r1, list_fl, list_tup, list_kl, items_tup, items_fl, items_kl, ii_int, ib_int, is_int, it_int, il_int, itl_int, ii_tup, ib_tup, is_tup, it_tup, il_tup, itl_tup, ii_fl, ib_fl, is_fl, it_fl, il_fl, itl_fl, ii_str, ib_str, is_str, it_str, il_str, itl_str, ii_bl, ib_bl, is_bl, it_bl, il_bl, ii_non, ib_non, is_non, it_non, il_non, ↓reduceIte, Bool.not_true, Bool.not_false, Bool.false_eq_true, decide_true, decide_false, decide_eq_true_eq, Bool.true_eq_false, eq_self, not_true_eq_false, not_false_eq_true, List.length_cons, List.length_nil, Nat.reduceAdd, szl, tup_if, lst_if, and_self, wipeR, List.map_cons, List.map_nil, Nat.reduceLeDiff, Int.cast_ofNat_Int, Int.reduceNeg, Int.reduceEq, Int.reduceLE, Int.reduceLT, at0, at1, at2, at3, st__law_same, un__law_same, qr__law_same_Eq_Picture, qr__law_same_NotEq_Picture, qr__law_same_len_Picture, qr__law_same__law_same_2, c__law_same, s1__law_same, s2__law_same, s3__law_same, s4__law_same, s5__law_same, ii_fd, ib_fd, is_fd, itl_fd, cmpG_fd, cw_eqa h]
  | succ k ih =>
    intro w h i st hi
    obtain ⟨i, rfl⟩ : ∃ j, i = j + 1 := ⟨i - 1, by omega⟩
    refine OkR.eq ?_
    rw [un__law_same, OkR_runD, st__law_same]
    cases h with
    | int n => simp [OkR_ok, OkS_nx, OkS_rt, OkS_bk, OkS_ct, OkS_go, OkS_seq, OkR_bd, bd_ok, go_ok, seq_nx, seq_rt, ofO_some, ofO_pure, run_bind, run_pure, evalSs, evalS, evalE, evalEs, evalT, evalTAnd, evalTOr, evalAnd, evalOr, evalI, evalO, Vm.evalAll, intO, bT_name, bT_tup, bTs_nil, bTs_cons, Option.bind_some, List.set_cons_zero, List.set_cons_succ, var_zero, var_succ, asB_bl, Vm.isNon, biG_tup, biG_fl, biG_kl, biG_int, biG_bl, biG_str, biG_two, biG_r0, biG_r1, biG_r2, cmpG_int, cmpG_bl, cmpG_str, cmpG_tup, cmpG_fl, cmpG_non, cw_eq, cw_ne, cw_lt, cw_le, cw_gt, cw_ge, cw_eqb, cw_neb, cw_eqs, cw_nes, bw_add, bw_sub, nw, sub_tup, sub_fl, sub_kl, sub_r0, sub_r1, sub_r2, len_tup, len_fl, len_kl, len_r0, len_r1, tuple_fl, tuple_r0, tuple_r1, list_fl, list_tup, list_kl, items_tup, items_fl, items_kl, ii_int, ib_int, is_int, it_int, il_int, itl_int, ii_tup, ib_tup, is_tup, it_tup, il_tup, itl_tup, ii_fl, ib_fl, is_fl, it_fl, il_fl, itl_fl, ii_str, ib_str, is_str, it_str, il_str, itl_str, ii_bl, ib_bl, is_bl, it_bl, il_bl, ii_non, ib_non, is_non, it_non, il_non, ↓reduceIte, Bool.not_true, Bool.not_false, Bool.false_eq_true, decide_true, decide_false, decide_eq_true_eq, Bool.true_eq_false, eq_self, not_true_eq_false, not_false_eq_true, List.length_cons, List.length_nil, Nat.reduceAdd, szl, tup_if, lst_if, and_self, wipeR, List.map_cons, List.map_nil, Nat.reduceLeDiff, Int.cast_ofNat_Int, Int.reduceNeg, Int.reduceEq, Int.reduceLE, Int.reduceLT, at0, at1, at2, at3, st__law_same, un__law_same, qr__law_same_Eq_Picture, qr__law_same_NotEq_Picture, qr__law_same_len_Picture, qr__law_same__law_same_2, c__law_same, s1__law_same, s2__law_same, s3__law_same, s4__law_same, s5__law_same]
    | bl b => simp [OkR_ok, OkS_nx, OkS_rt, OkS_bk, OkS_ct, OkS_go, OkS_seq, OkR_bd, bd_ok, go_ok, seq_nx, seq_rt, ofO_some, ofO_pure, run_bind, run_pure, evalSs, evalS, evalE, evalEs, evalT, evalTAnd, evalTOr, evalAnd, evalOr, evalI, evalO, Vm.evalAll, intO, bT_name, bT_tup, bTs_nil, bTs_cons, Option.bind_some, List.set_cons_zero, List.set_cons_succ, var_zero, var_succ, asB_bl, Vm.isNon, biG_tup, biG_fl, biG_kl, biG_int, biG_bl, biG_str, biG_two, biG_r0, biG_r1, biG_r2, cmpG_int, cmpG_bl, cmpG_str, cmpG_tup, cmpG_fl, cmpG_non, cw_eq, cw_ne, cw_lt, cw_le, cw_gt, cw_ge, cw_eqb, cw_neb, cw_eqs, cw_nes, bw_add, bw_sub, nw, sub_tup, sub_fl, sub_kl, sub_r0, sub_r1, sub_r2, len_tup, len_fl, len_kl, len_r0, len_r1, tuple_fl, tuple_r0, tuple_r1, list_fl, list_tup, list_kl, items_tup, items_fl, items_kl, ii_int, ib_int, is_int, it_int, il_int, itl_int, ii_tup, ib_tup, is_tup, it_tup, il_tup, itl_tup, ii_fl, ib_fl, is_fl, it_fl, il_fl, itl_fl, ii_str, ib_str, is_str, it_str, il_str, itl_str, ii_bl, ib_bl, is_bl, it_bl, il_bl, ii_non, ib_non, is_non, it_non, il_non, ↓reduceIte, Bool.not_true, Bool.not_false, Bool.false_eq_true, decide_true, decide_false, decide_eq_true_eq, Bool.true_eq_false, eq_self, not_true_eq_false, not_false_eq_true, List.length_cons, List.length_nil, Nat.reduceAdd, szl, tup_if, lst_if, and_self, wipeR, List.map_cons, List.map_nil, Nat.reduceLeDiff, Int.cast_ofNat_Int, Int.reduceNeg, Int.reduceEq, Int.reduceLE, Int.reduceLT, at0, at1, at2, at3, st__law_same, un__law_same, qr__law_same_Eq_Picture, qr__law_same_NotEq_Picture, qr__law_same_len_Picture, qr__law_same__law_same_2, c__law_same, s1__law_same, s6__law_same, s2__law_same, s3__law_same, s4__law_same, s5__law_same]
    | str x => simp [OkR_ok, OkS_nx, OkS_rt, OkS_bk, OkS_ct, OkS_go, OkS_seq, OkR_bd, bd_ok, go_ok, seq_nx, seq_rt, ofO_some, ofO_pure, run_bind, run_pure, evalSs, evalS, evalE, evalEs, evalT, evalTAnd, evalTOr, evalAnd, evalOr, evalI, evalO, Vm.evalAll, intO, bT_name, bT_tup, bTs_nil, bTs_cons, Option.bind_some, List.set_cons_zero, List.set_cons_succ, var_zero, var_succ, asB_bl, Vm.isNon, biG_tup, biG_fl, biG_kl, biG_int, biG_bl, biG_str, biG_two, biG_r0, biG_r1, biG_r2, cmpG_int, cmpG_bl, cmpG_str, cmpG_tup, cmpG_fl, cmpG_non, cw_eq, cw_ne, cw_lt, cw_le, cw_gt, cw_ge, cw_eqb, cw_neb, cw_eqs, cw_nes, bw_add, bw_sub, nw, sub_tup, sub_fl, sub_kl, sub_r0, sub_r1, sub_r2, len_tup, len_fl, len_kl, len_r0, len_r1, tuple_fl, tuple_r0, tuple_r1, list_fl, list_tup, list_kl, items_tup, items_fl, items_kl, ii_int, ib_int, is_int, it_int, il_int, itl_int, ii_tup, ib_tup, is_tup, it_tup, il_tup, itl_tup, ii_fl, ib_fl, is_fl, it_fl, il_fl, itl_fl, ii_str, ib_str, is_str, it_str, il_str, itl_str, ii_bl, ib_bl, is_bl, it_bl, il_bl, ii_non, ib_non, is_non, it_non, il_non, ↓reduceIte, Bool.not_true, Bool.not_false, Bool.false_eq_true, decide_true, decide_false, decide_eq_true_eq, Bool.true_eq_false, eq_self, not_true_eq_false, not_false_eq_true, List.length_cons, List.length_nil, Nat.reduceAdd, szl, tup_if, lst_if, and_self, wipeR, List.map_cons, List.map_nil, Nat.reduceLeDiff, Int.cast_ofNat_Int, Int.reduceNeg, Int.reduceEq, Int.reduceLE, Int.reduceLT, at0, at1, at2, at3, st__law_same, un__law_same, qr__law_same_Eq_Picture, qr__law_same_NotEq_Picture, qr__law_same_len_Picture, qr__law_same__law_same_2, c__law_same, s1__law_same, s2__law_same, s3__law_same, s4__law_same, s5__law_same]
    | non => simp [OkR_ok, OkS_nx, OkS_rt, OkS_bk, OkS_ct, OkS_go, OkS_seq, OkR_bd, bd_ok, go_ok, seq_nx, seq_rt, ofO_some, ofO_pure, run_bind, run_pure, evalSs, evalS, evalE, evalEs, evalT, evalTAnd, evalTOr, evalAnd, evalOr, evalI, evalO, Vm.evalAll, intO, bT_name, bT_tup, bTs_nil, bTs_cons, Option.bind_some, List.set_cons_zero, List.set_cons_succ, var_zero, var_succ, asB_bl, Vm.isNon, biG_tup, biG_fl, biG_kl, biG_int, biG_bl, biG_str, biG_two, biG_r0, biG_r1, biG_r2, cmpG_int, cmpG_bl, cmpG_str, cmpG_tup, cmpG_fl, cmpG_non, cw_eq, cw_ne, cw_lt, cw_le, cw_gt, cw_ge, cw_eqb, cw_neb, cw_eqs, cw_nes, bw_add, bw_sub, nw, sub_tup, sub_fl, sub_kl, sub_r0, sub_r1, sub_r2, len_tup, len_fl, len_kl, len_r0, len_r1, tuple_fl, tuple_r0, tuple_r1, list_fl, list_tup, list_kl, items_tup, items_fl, items_kl, ii_int, ib_int, is_int, it_int, il_int, itl_int, ii_tup, ib_tup, is_tup, it_tup, il_tup, itl_tup, ii_fl, ib_fl, is_fl, it_fl, il_fl, itl_fl, ii_str, ib_str, is_str, it_str, il_str, itl_str, ii_bl, ib_bl, is_bl, it_bl, il_bl, ii_non, ib_non, is_non, it_non, il_non, ↓reduceIte, Bool.not_true, Bool.not_false, Bool.false_eq_true, decide_true, decide_false, decide_eq_true_eq, Bool.true_eq_false, eq_self, not_true_eq_false, not_false_eq_true, List.length_cons, List.length_nil, Nat.reduceAdd, szl, tup_if, lst_if, and_self, wipeR, List.map_cons, List.map_nil, Nat.reduceLeDiff, Int.cast_ofNat_Int, Int.reduceNeg, Int.reduceEq, Int.reduceLE, Int.reduceLT, at0, at1, at2, at3, st__law_same, un__law_same, qr__law_same_Eq_Picture, qr__law_same_NotEq_Picture, qr__law_same_len_Picture, qr__law_same__law_same_2, c__law_same, s1__law_same, s2__law_same, s3__law_same, s4__law_same, s5__law_same, s7__law_same]
    | fd h => simp [OkR_ok, OkS_nx, OkS_rt, OkS_bk, OkS_ct, OkS_go, OkS_seq, OkR_bd, bd_ok, go_ok, seq_nx, seq_rt, ofO_some, ofO_pure, run_bind, run_pure, evalSs, evalS, evalE, evalEs, evalT, evalTAnd, evalTOr, evalAnd, evalOr, evalI, evalO, Vm.evalAll, intO, bT_name, bT_tup, bTs_nil, bTs_cons, Option.bind_some, List.set_cons_zero, List.set_cons_succ, var_zero, var_succ, asB_bl, Vm.isNon, biG_tup, biG_fl, biG_kl, biG_int, biG_bl, biG_str, biG_two, biG_r0, biG_r1, biG_r2, cmpG_int, cmpG_bl, cmpG_str, cmpG_tup, cmpG_fl, cmpG_non, cw_eq, cw_ne, cw_lt, cw_le, cw_gt, cw_ge, cw_eqb, cw_neb, cw_eqs, cw_nes, bw_add, bw_sub, nw, sub_tup, sub_fl, sub_kl, sub_r0, sub_r1, sub_r2, len_tup, len_fl, len_kl, len_r0, len_r1, tuple_fl, tuple_r0, tuple_r1, list_fl, list_tup, list_kl, items_tup, items_fl, items_kl, ii_int, ib_int, is_int, it_int, il_int, itl_int, ii_tup, ib_tup, is_tup, it_tup, il_tup, itl_tup, ii_fl, ib_fl, is_fl, it_fl, il_fl, itl_fl, ii_str, ib_str, is_str, it_str, il_str, itl_str, ii_bl, ib_bl, is_bl, it_bl, il_bl, ii_non, ib_non, is_non, it_non, il_non, ↓reduceIte, Bool.not_true, Bool.not_false, Bool.false_eq_true, decide_true, decide_false, decide_eq_true_eq, Bool.true_eq_false, eq_self, not_true_eq_false, not_false_eq_true, List.length_cons, List.length_nil, Nat.reduceAdd, szl, tup_if, lst_if, and_self, wipeR, List.map_cons, List.map_nil, Nat.reduceLeDiff, Int.cast_ofNat_Int, Int.reduceNeg, Int.reduceEq, Int.reduceLE, Int.reduceLT, at0, at1, at2, at3, st__law_same, un__law_same, qr__law_same_Eq_Picture, qr__law_same_NotEq_Picture, qr__law_same_len_Picture, qr__law_same__law_same_2, c__law_same, s1__law_same, s2__law_same, s3__law_same, s4__law_same, s5__law_same, ii_fd, ib_fd, is_fd, itl_fd, cmpG_fd, cw_eqa h]
    | tup h hl =>
      rename_i xs
      have two := noEr_of (lcM_map (st := st) (F := fun w => some (W.bl true)) (f := lcF (.tup [.name 2, .name 3]) (fun _ => pure true) (fun ρ' => evalE (g1.addFn "_law_same" (m__law_same i) r__law_same) e1__law_same ρ') [some (W.tup xs), some (W.tup xs), none, none]) (items := xs.map fun x => W.tup [x, x]) fun w hw => by
        obtain ⟨x, hx, rfl⟩ := List.mem_map.mp hw
        refine lcF_two ?_
        simp only [OkR_ok, OkS_nx, OkS_rt, OkS_bk, OkS_ct, OkS_go, OkS_seq, OkR_bd, bd_ok, go_ok, seq_nx, seq_rt, ofO_some, ofO_pure, run_bind, run_pure, evalSs, evalS, evalE, evalEs, evalT, evalTAnd, evalTOr, evalAnd, evalOr, evalI, evalO, Vm.evalAll, intO, bT_name, bT_tup, bTs_nil, bTs_cons, Option.bind_some, List.set_cons_zero, List.set_cons_succ, var_zero, var_succ, asB_bl, Vm.isNon, biG_tup, biG_fl, biG_kl, biG_int, biG_bl, biG_str, biG_two, biG_r0, biG_r1, biG_r2, cmpG_int, cmpG_bl, cmpG_str, cmpG_tup, cmpG_fl, cmpG_non, cw_eq, cw_ne, cw_lt, cw_le, cw_gt, cw_ge, cw_eqb, cw_neb, cw_eqs, cw_nes, bw_add, bw_sub, nw, sub_tup, sub_fl, sub_kl, sub_r0, sub_r1, sub_r2, len_tup, len_fl, len_kl, len_r0, len_r1, tuple_fl, tuple_r0, tuple_r1, list_fl, list_tup, list_kl, items_tup, items_fl, items_kl, ii_int, ib_int, is_int, it_int, il_int, itl_int, ii_tup, ib_tup, is_tup, it_tup, il_tup, itl_tup, ii_fl, ib_fl, is_fl, it_fl, il_fl, itl_fl, ii_str, ib_str, is_str, it_str, il_str, itl_str, ii_bl, ib_bl, is_bl, it_bl, il_bl, ii_non, ib_non, is_non, it_non, il_non, ↓reduceIte, Bool.not_true, Bool.not_false, Bool.false_eq_true, decide_true, decide_false, decide_eq_true_eq, Bool.true_eq_false, eq_self, not_true_eq_false, not_false_eq_true, List.length_cons, List.length_nil, Nat.reduceAdd, szl, tup_if, lst_if, and_self, wipeR, List.map_cons, List.map_nil, Nat.reduceLeDiff, Int.cast_ofNat_Int, Int.reduceNeg, Int.reduceEq, Int.reduceLE, Int.reduceLT, at0, at1, at2, at3, st__law_same, un__law_same, qr__law_same_Eq_Picture, qr__law_same_NotEq_Picture, qr__law_same_len_Picture, qr__law_same__law_same_2, c__law_same, e1__law_same]
        exact ih (h x hx) i st (by omega))
      rw [fm_some, List.map_map] at two
      simp [OkR_ok, OkS_nx, OkS_rt, OkS_bk, OkS_ct, OkS_go, OkS_seq, OkR_bd, bd_ok, go_ok, seq_nx, seq_rt, ofO_some, ofO_pure, run_bind, run_pure, evalSs, evalS, evalE, evalEs, evalT, evalTAnd, evalTOr, evalAnd, evalOr, evalI, evalO, Vm.evalAll, intO, bT_name, bT_tup, bTs_nil, bTs_cons, Option.bind_some, List.set_cons_zero, List.set_cons_succ, var_zero, var_succ, asB_bl, Vm.isNon, biG_tup, biG_fl, biG_kl, biG_int, biG_bl, biG_str, biG_two, biG_r0, biG_r1, biG_r2, cmpG_int, cmpG_bl, cmpG_str, cmpG_tup, cmpG_fl, cmpG_non, cw_eq, cw_ne, cw_lt, cw_le, cw_gt, cw_ge, cw_eqb, cw_neb, cw_eqs, cw_nes, bw_add, bw_sub, nw, sub_tup, sub_fl, sub_kl, sub_r0, sub_r1, sub_r2, len_tup, len_fl, len_kl, len_r0, len_r1, tuple_fl, tuple_r0, tuple_r1, list_fl, list_tup, list_kl, items_tup, items_fl, items_kl, ii_int, ib_int, is_int, it_int, il_int, itl_int, ii_tup, ib_tup, is_tup, it_tup, il_tup, itl_tup, ii_fl, ib_fl, is_fl, it_fl, il_fl, itl_fl, ii_str, ib_str, is_str, it_str, il_str, itl_str, ii_bl, ib_bl, is_bl, it_bl, il_bl, ii_non, ib_non, is_non, it_non, il_non, ↓reduceIte, Bool.not_true, Bool.not_false, Bool.false_eq_true, decide_true, decide_false, decide_eq_true_eq, Bool.true_eq_false, eq_self, not_true_eq_false, not_false_eq_true, List.length_cons, List.length_nil, Nat.reduceAdd, szl, tup_if, lst_if, and_self, wipeR, List.map_cons, List.map_nil, Nat.reduceLeDiff, Int.cast_ofNat_Int, Int.reduceNeg, Int.reduceEq, Int.reduceLE, Int.reduceLT, at0, at1, at2, at3, st__law_same, un__law_same, qr__law_same_Eq_Picture, qr__law_same_NotEq_Picture, qr__law_same_len_Picture, qr__law_same__law_same_2, c__law_same, s1__law_same, s2__law_same, s3__law_same, s8__law_same]
      simp only [OkR_ok, OkS_nx, OkS_rt, OkS_bk, OkS_ct, OkS_go, OkS_seq, OkR_bd, bd_ok, go_ok, seq_nx, seq_rt, ofO_some, ofO_pure, run_bind, run_pure, evalSs, evalS, evalE, evalEs, evalT, evalTAnd, evalTOr, evalAnd, evalOr, evalI, evalO, Vm.evalAll, intO, bT_name, bT_tup, bTs_nil, bTs_cons, Option.bind_some, List.set_cons_zero, List.set_cons_succ, var_zero, var_succ, asB_bl, Vm.isNon, biG_tup, biG_fl, biG_kl, biG_int, biG_bl, biG_str, biG_two, biG_r0, biG_r1, biG_r2, cmpG_int, cmpG_bl, cmpG_str, cmpG_tup, cmpG_fl, cmpG_non, cw_eq, cw_ne, cw_lt, cw_le, cw_gt, cw_ge, cw_eqb, cw_neb, cw_eqs, cw_nes, bw_add, bw_sub, nw, sub_tup, sub_fl, sub_kl, sub_r0, sub_r1, sub_r2, len_tup, len_fl, len_kl, len_r0, len_r1, tuple_fl, tuple_r0, tuple_r1, list_fl, list_tup, list_kl, items_tup, items_fl, items_kl, ii_int, ib_int, is_int, it_int, il_int, itl_int, ii_tup, ib_tup, is_tup, it_tup, il_tup, itl_tup, ii_fl, ib_fl, is_fl, it_fl, il_fl, itl_fl, ii_str, ib_str, is_str, it_str, il_str, itl_str, ii_bl, ib_bl, is_bl, it_bl, il_bl, ii_non, ib_non, is_non, it_non, il_non, ↓reduceIte, Bool.not_true, Bool.not_false, Bool.false_eq_true, decide_true, decide_false, decide_eq_true_eq, Bool.true_eq_false, eq_self, not_true_eq_false, not_false_eq_true, List.length_cons, List.length_nil, Nat.reduceAdd, szl, tup_if, lst_if, and_self, wipeR, List.map_cons, List.map_nil, Nat.reduceLeDiff, Int.cast_ofNat_Int, Int.reduceNeg, Int.reduceEq, Int.reduceLE, Int.reduceLT, at0, at1, at2, at3, st__law_same, un__law_same, qr__law_same_Eq_Picture, qr__law_same_NotEq_Picture, qr__law_same_len_Picture, qr__law_same__law_same_2, c__law_same, s9__law_same, zip_tup, zip_self]
      rw [two]
      simp only [OkR_ok, OkS_nx, OkS_rt, OkS_bk, OkS_ct, OkS_go, OkS_seq, OkR_bd, bd_ok, go_ok, seq_nx, seq_rt, ofO_some, ofO_pure, run_bind, run_pure, evalSs, evalS, evalE, evalEs, evalT, evalTAnd, evalTOr, evalAnd, evalOr, evalI, evalO, Vm.evalAll, intO, bT_name, bT_tup, bTs_nil, bTs_cons, Option.bind_some, List.set_cons_zero, List.set_cons_succ, var_zero, var_succ, asB_bl, Vm.isNon, biG_tup, biG_fl, biG_kl, biG_int, biG_bl, biG_str, biG_two, biG_r0, biG_r1, biG_r2, cmpG_int, cmpG_bl, cmpG_str, cmpG_tup, cmpG_fl, cmpG_non, cw_eq, cw_ne, cw_lt, cw_le, cw_gt, cw_ge, cw_eqb, cw_neb, cw_eqs, cw_nes, bw_add, bw_sub, nw, sub_tup, sub_fl, sub_kl, sub_r0, sub_r1, sub_r2, len_tup, len_fl, len_kl, len_r0, len_r1, tuple_fl, tuple_r0, tuple_r1, list_fl, list_tup, list_kl, items_tup, items_fl, items_kl, ii_int, ib_int, is_int, it_int, il_int, itl_int, ii_tup, ib_tup, is_tup, it_tup, il_tup, itl_tup, ii_fl, ib_fl, is_fl, it_fl, il_fl, itl_fl, ii_str, ib_str, is_str, it_str, il_str, itl_str, ii_bl, ib_bl, is_bl, it_bl, il_bl, ii_non, ib_non, is_non, it_non, il_non, ↓reduceIte, Bool.not_true, Bool.not_false, Bool.false_eq_true, decide_true, decide_false, decide_eq_true_eq, Bool.true_eq_false, eq_self, not_true_eq_false, not_false_eq_true, List.length_cons, List.length_nil, Nat.reduceAdd, szl, tup_if, lst_if, and_self, wipeR, List.map_cons, List.map_nil, Nat.reduceLeDiff, Int.cast_ofNat_Int, Int.reduceNeg, Int.reduceEq, Int.reduceLE, Int.reduceLT, at0, at1, at2, at3, st__law_same, un__law_same, qr__law_same_Eq_Picture, qr__law_same_NotEq_Picture, qr__law_same_len_Picture, qr__law_same__law_same_2, c__law_same, lcEnd_f, List.length_map, hl, Function.comp_def]
      rw [all_fl (blsOf_map (F := fun _ => true)), all_true]
      simp only [OkR_ok, OkS_nx, OkS_rt, OkS_bk, OkS_ct, OkS_go, OkS_seq, OkR_bd, bd_ok, go_ok, seq_nx, seq_rt, ofO_some, ofO_pure, run_bind, run_pure, evalSs, evalS, evalE, evalEs, evalT, evalTAnd, evalTOr, evalAnd, evalOr, evalI, evalO, Vm.evalAll, intO, bT_name, bT_tup, bTs_nil, bTs_cons, Option.bind_some, List.set_cons_zero, List.set_cons_succ, var_zero, var_succ, asB_bl, Vm.isNon, biG_tup, biG_fl, biG_kl, biG_int, biG_bl, biG_str, biG_two, biG_r0, biG_r1, biG_r2, cmpG_int, cmpG_bl, cmpG_str, cmpG_tup, cmpG_fl, cmpG_non, cw_eq, cw_ne, cw_lt, cw_le, cw_gt, cw_ge, cw_eqb, cw_neb, cw_eqs, cw_nes, bw_add, bw_sub, nw, sub_tup, sub_fl, sub_kl, sub_r0, sub_r1, sub_r2, len_tup, len_fl, len_kl, len_r0, len_r1, tuple_fl, tuple_r0, tuple_r1, list_fl, list_tup, list_kl, items_tup, items_fl, items_kl, ii_int, ib_int, is_int, it_int, il_int, itl_int, ii_tup, ib_tup, is_tup, it_tup, il_tup, itl_tup, ii_fl, ib_fl, is_fl, it_fl, il_fl, itl_fl, ii_str, ib_str, is_str, it_str, il_str, itl_str, ii_bl, ib_bl, is_bl, it_bl, il_bl, ii_non, ib_non, is_non, it_non, il_non, ↓reduceIte, Bool.not_true, Bool.not_false, Bool.false_eq_true, decide_true, decide_false, decide_eq_true_eq, Bool.true_eq_false, eq_self, not_true_eq_false, not_false_eq_true, List.length_cons, List.length_nil, Nat.reduceAdd, szl, tup_if, lst_if, and_self, wipeR, List.map_cons, List.map_nil, Nat.reduceLeDiff, Int.cast_ofNat_Int, Int.reduceNeg, Int.reduceEq, Int.reduceLE, Int.reduceLT, at0, at1, at2, at3, all_tt]
    | fl h hl =>
      rename_i xs
      have two := noEr_of (lcM_map (st := st) (F := fun w => some (W.bl true)) (f := lcF (.tup [.name 2, .name 3]) (fun _ => pure true) (fun ρ' => evalE (g1.addFn "_law_same" (m__law_same i) r__law_same) e1__law_same ρ') [some (W.fl xs), some (W.fl xs), none, none]) (items := xs.map fun x => W.tup [x, x]) fun w hw => by
        obtain ⟨x, hx, rfl⟩ := List.mem_map.mp hw
        refine lcF_two ?_
        simp only [OkR_ok, OkS_nx, OkS_rt, OkS_bk, OkS_ct, OkS_go, OkS_seq, OkR_bd, bd_ok, go_ok, seq_nx, seq_rt, ofO_some, ofO_pure, run_bind, run_pure, evalSs, evalS, evalE, evalEs, evalT, evalTAnd, evalTOr, evalAnd, evalOr, evalI, evalO, Vm.evalAll, intO, bT_name, bT_tup, bTs_nil, bTs_cons, Option.bind_some, List.set_cons_zero, List.set_cons_succ, var_zero, var_succ, asB_bl, Vm.isNon, biG_tup, biG_fl, biG_kl, biG_int, biG_bl, biG_str, biG_two, biG_r0, biG_r1, biG_r2, cmpG_int, cmpG_bl, cmpG_str, cmpG_tup, cmpG_fl, cmpG_non, cw_eq, cw_ne, cw_lt, cw_le, cw_gt, cw_ge, cw_eqb, cw_neb, cw_eqs, cw_nes, bw_add, bw_sub, nw, sub_tup, sub_fl, sub_kl, sub_r0, sub_r1, sub_r2, len_tup, len_fl, len_kl, len_r0, len_r1, tuple_fl, tuple_r0, tuple_r1, list_fl, list_tup, list_kl, items_tup, items_fl, items_kl, ii_int, ib_int, is_int, it_int, il_int, itl_int, ii_tup, ib_tup, is_tup, it_tup, il_tup, itl_tup, ii_fl, ib_fl, is_fl, it_fl, il_fl, itl_fl, ii_str, ib_str, is_str, it_str, il_str, itl_str, ii_bl, ib_bl, is_bl, it_bl, il_bl, ii_non, ib_non, is_non, it_non, il_non, ↓reduceIte, Bool.not_true, Bool.not_false, Bool.false_eq_true, decide_true, decide_false, decide_eq_true_eq, Bool.true_eq_false, eq_self, not_true_eq_false, not_false_eq_true, List.length_cons, List.length_nil, Nat.reduceAdd, szl, tup_if, lst_if, and_self, wipeR, List.map_cons, List.map_nil, Nat.reduceLeDiff, Int.cast_ofNat_Int, Int.reduceNeg, Int.reduceEq, Int.reduceLE, Int.reduceLT, at0, at1, at2, at3, st__law_same, un__law_same, qr__law_same_Eq_Picture, qr__law_same_NotEq_Picture, qr__law_same_len_Picture, qr__law_same__law_same_2, c__law_same, e1__law_same]
        exact ih (h x hx) i st (by omega))
      rw [fm_some, List.map_map] at two
      simp [OkR_ok, OkS_nx, OkS_rt, OkS_bk, OkS_ct, OkS_go, OkS_seq, OkR_bd, bd_ok, go_ok, seq_nx, seq_rt, ofO_some, ofO_pure, run_bind, run_pure, evalSs, evalS, evalE, evalEs, evalT, evalTAnd, evalTOr, evalAnd, evalOr, evalI, evalO, Vm.evalAll, intO, bT_name, bT_tup, bTs_nil, bTs_cons, Option.bind_some, List.set_cons_zero, List.set_cons_succ, var_zero, var_succ, asB_bl, Vm.isNon, biG_tup, biG_fl, biG_kl, biG_int, biG_bl, biG_str, biG_two, biG_r0, biG_r1, biG_r2, cmpG_int, cmpG_bl, cmpG_str, cmpG_tup, cmpG_fl, cmpG_non, cw_eq, cw_ne, cw_lt, cw_le, cw_gt, cw_ge, cw_eqb, cw_neb, cw_eqs, cw_nes, bw_add, bw_sub, nw, sub_tup, sub_fl, sub_kl, sub_r0, sub_r1, sub_r2, len_tup, len_fl, len_kl, len_r0, len_r1, tuple_fl, tuple_r0, tuple_r1, list_fl, list_tup, list_kl, items_tup, items_fl, items_kl, ii_int, ib_int, is_int, it_int, il_int, itl_int, ii_tup, ib_tup, is_tup, it_tup, il_tup, itl_tup, ii_fl, ib_fl, is_fl, it_fl, il_fl, itl_fl, ii_str, ib_str, is_str, it_str, il_str, itl_str, ii_bl, ib_bl, is_bl, it_bl, il_bl, ii_non, ib_non, is_non, it_non, il_non, ↓reduceIte, Bool.not_true, Bool.not_false, Bool.false_eq_true, decide_true, decide_false, decide_eq_true_eq, Bool.true_eq_false, eq_self, not_true_eq_false, not_false_eq_true, List.length_cons, List.length_nil, Nat.reduceAdd, szl, tup_if, lst_if, and_self, wipeR, List.map_cons, List.map_nil, Nat.reduceLeDiff, Int.cast_ofNat_Int, Int.reduceNeg, Int.reduceEq, Int.reduceLE, Int.reduceLT, at0, at1, at2, at3, st__law_same, un__law_same, qr__law_same_Eq_Picture, qr__law_same_NotEq_Picture, qr__law_same_len_Picture, qr__law_same__law_same_2, c__law_same, s1__law_same, s2__law_same, s3__law_same, s8__law_same]
      simp only [OkR_ok, OkS_nx, OkS_rt, OkS_bk, OkS_ct, OkS_go, OkS_seq, OkR_bd, bd_ok, go_ok, seq_nx, seq_rt, ofO_some, ofO_pure, run_bind, run_pure, evalSs, evalS, evalE, evalEs, evalT, evalTAnd, evalTOr, evalAnd, evalOr, evalI, evalO, Vm.evalAll, intO, bT_name, bT_tup, bTs_nil, bTs_cons, Option.bind_some, List.set_cons_zero, List.set_cons_succ, var_zero, var_succ, asB_bl, Vm.isNon, biG_tup, biG_fl, biG_kl, biG_int, biG_bl, biG_str, biG_two, biG_r0, biG_r1, biG_r2, cmpG_int, cmpG_bl, cmpG_str, cmpG_tup, cmpG_fl, cmpG_non, cw_eq, cw_ne, cw_lt, cw_le, cw_gt, cw_ge, cw_eqb, cw_neb, cw_eqs, cw_nes, bw_add, bw_sub, nw, sub_tup, sub_fl, sub_kl, sub_r0, sub_r1, sub_r2, len_tup, len_fl, len_kl, len_r0, len_r1, tuple_fl, tuple_r0, tuple_r1, list_fl, list_tup, list_kl, items_tup, items_fl, items_kl, ii_int, ib_int, is_int, it_int, il_int, itl_int, ii_tup, ib_tup, is_tup, it_tup, il_tup, itl_tup, ii_fl, ib_fl, is_fl, it_fl, il_fl, itl_fl, ii_str, ib_str, is_str, it_str, il_str, itl_str, ii_bl, ib_bl, is_bl, it_bl, il_bl, ii_non, ib_non, is_non, it_non, il_non, ↓reduceIte, Bool.not_true, Bool.not_false, Bool.false_eq_true, decide_true, decide_false, decide_eq_true_eq, Bool.true_eq_false, eq_self, not_true_eq_false, not_false_eq_true, List.length_cons, List.length_nil, Nat.reduceAdd, szl, tup_if, lst_if, and_self, wipeR, List.map_cons, List.map_nil, Nat.reduceLeDiff, Int.cast_ofNat_Int, Int.reduceNeg, Int.reduceEq, Int.reduceLE, Int.reduceLT, at0, at1, at2, at3, st__law_same, un__law_same, qr__law_same_Eq_Picture, qr__law_same_NotEq_Picture, qr__law_same_len_Picture, qr__law_same__law_same_2, c__law_same, s9__law_same, zip_fl, zip_self]
      rw [two]
      simp only [OkR_ok, OkS_nx, OkS_rt, OkS_bk, OkS_ct, OkS_go, OkS_seq, OkR_bd, bd_ok, go_ok, seq_nx, seq_rt, ofO_some, ofO_pure, run_bind, run_pure, evalSs, evalS, evalE, evalEs, evalT, evalTAnd, evalTOr, evalAnd, evalOr, evalI, evalO, Vm.evalAll, intO, bT_name, bT_tup, bTs_nil, bTs_cons, Option.bind_some, List.set_cons_zero, List.set_cons_succ, var_zero, var_succ, asB_bl, Vm.isNon, biG_tup, biG_fl, biG_kl, biG_int, biG_bl, biG_str, biG_two, biG_r0, biG_r1, biG_r2, cmpG_int, cmpG_bl, cmpG_str, cmpG_tup, cmpG_fl, cmpG_non, cw_eq, cw_ne, cw_lt, cw_le, cw_gt, cw_ge, cw_eqb, cw_neb, cw_eqs, cw_nes, bw_add, bw_sub, nw, sub_tup, sub_fl, sub_kl, sub_r0, sub_r1, sub_r2, len_tup, len_fl, len_kl, len_r0, len_r1, tuple_fl, tuple_r0, tuple_r1, list_fl, list_tup, list_kl, items_tup, items_fl, items_kl, ii_int, ib_int, is_int, it_int, il_int, itl_int, ii_tup, ib_tup, is_tup, it_tup, il_tup, itl_tup, ii_fl, ib_fl, is_fl, it_fl, il_fl, itl_fl, ii_str, ib_str, is_str, it_str, il_str, itl_str, ii_bl, ib_bl, is_bl, it_bl, il_bl, ii_non, ib_non, is_non, it_non, il_non, ↓reduceIte, Bool.not_true, Bool.not_false, Bool.false_eq_true, decide_true, decide_false, decide_eq_true_eq, Bool.true_eq_false, eq_self, not_true_eq_false, not_false_eq_true, List.length_cons, List.length_nil, Nat.reduceAdd, szl, tup_if, lst_if, and_self, wipeR, List.map_cons, List.map_nil, Nat.reduceLeDiff, Int.cast_ofNat_Int, Int.reduceNeg, Int.reduceEq, Int.reduceLE, Int.reduceLT, at0, at1, at2, at3, st__law_same, un__law_same, qr__law_same_Eq_Picture, qr__law_same_NotEq_Picture, qr__law_same_len_Picture, qr__law_same__law_same_2, c__law_same, lcEnd_f, List.length_map, hl, Function.comp_def]
      rw [all_fl (blsOf_map (F := fun _ => true)), all_true]
      simp only [OkR_ok, OkS_nx, OkS_rt, OkS_bk, OkS_ct, OkS_go, OkS_seq, OkR_bd, bd_ok, go_ok, seq_nx, seq_rt, ofO_some, ofO_pure, run_bind, run_pure, evalSs, evalS, evalE, evalEs, evalT, evalTAnd, evalTOr, evalAnd, evalOr, evalI, evalO, Vm.evalAll, intO, bT_name, bT_tup, bTs_nil, bTs_cons, Option.bind_some, List.set_cons_zero, List.set_cons_succ, var_zero, var_succ, asB_bl, Vm.isNon, biG_tup, biG_fl, biG_kl, biG_int, biG_bl, biG_str, biG_two, biG_r0, biG_r1, biG_r2, cmpG_int, cmpG_bl, cmpG_str, cmpG_tup, cmpG_fl, cmpG_non, cw_eq, cw_ne, cw_lt, cw_le, cw_gt, cw_ge, cw_eqb, cw_neb, cw_eqs, cw_nes, bw_add, bw_sub, nw, sub_tup, sub_fl, sub_kl, sub_r0, sub_r1, sub_r2, len_tup, len_fl, len_kl, len_r0, len_r1, tuple_fl, tuple_r0, tuple_r1, list_fl, list_tup, list_kl, items_tup, items_fl, items_kl, ii_int, ib_int, is_int, it_int, il_int, itl_int, ii_tup, ib_tup, is_tup, it_tup, il_tup, itl_tup, ii_fl, ib_fl, is_fl, it_fl, il_fl, itl_fl, ii_str, ib_str, is_str, it_str, il_str, itl_str, ii_bl, ib_bl, is_bl, it_bl, il_bl, ii_non, ib_non, is_non, it_non, il_non, ↓reduceIte, Bool.not_true, Bool.not_false, Bool.false_eq_true, decide_true, decide_false, decide_eq_true_eq, Bool.true_eq_false, eq_self, not_true_eq_false, not_false_eq_true, List.length_cons, List.length_nil, Nat.reduceAdd, szl, tup_if, lst_if, and_self, wipeR, List.map_cons, List.map_nil, Nat.reduceLeDiff, Int.cast_ofNat_Int, Int.reduceNeg, Int.reduceEq, Int.reduceLE, Int.reduceLT, at0, at1, at2, at3, all_tt]
theorem plain_R {row : List Int} (h : row.length ≤ 48) : Plain 1 (eR row) := .tup (fun x hx => by obtain ⟨i, _, rfl⟩ := List.mem_map.mp hx; exact .int i) (by rw [List.length_map]; omega)
theorem plain_P {pl : List (List Int)} (h : pl.length ≤ 48) (h2 : ∀ r ∈ pl, r.length ≤ 48) : Plain 2 (eP pl) := .tup (fun x hx => by obtain ⟨i, hi, rfl⟩ := List.mem_map.mp hx; exact plain_R (h2 i hi)) (by rw [List.length_map]; omega)
theorem plain_Ps {P : List (List (List Int))} {wd hg : Nat} {d : Int} (h : Pic P wd hg d) : Plain 3 (ePs P) := .tup (fun x hx => by
  obtain ⟨pl, hp, rfl⟩ := List.mem_map.mp hx
  exact plain_P (by rw [h.rows pl hp]; exact h.h1) (fun r hr => by rw [h.cols pl hp r hr]; exact h.w1)) (by rw [List.length_map]; have := h.n1; omega)

end VmL
namespace VmL
open PySem L2 Vm
theorem e_source (a0 a1 : W) (st : Sto) : m_source [a0, a1] st = .ok (.tup [.str "source", a0, a1]) st := by
  refine OkR.eq ?_
  rw [un_source, OkR_runD, st_source]
  simp only [OkR_ok, OkS_nx, OkS_rt, OkS_bk, OkS_ct, OkS_go, OkS_seq, OkR_bd, bd_ok, go_ok, seq_nx, seq_rt, ofO_some, ofO_pure, run_bind, run_pure, evalSs, evalS, evalE, evalEs, evalT, evalTAnd, evalTOr, evalAnd, evalOr, evalI, evalO, Vm.evalAll, intO, bT_name, bT_tup, bTs_nil, bTs_cons, Option.bind_some, List.set_cons_zero, List.set_cons_succ, var_zero, var_succ, asB_bl, Vm.isNon, biG_tup, biG_fl, biG_kl, biG_int, biG_bl, biG_str, biG_two, biG_r0, biG_r1, biG_r2, cmpG_int, cmpG_bl, cmpG_str, cmpG_tup, cmpG_fl, cmpG_non, cw_eq, cw_ne, cw_lt, cw_le, cw_gt, cw_ge, cw_eqb, cw_neb, cw_eqs, cw_nes, bw_add, bw_sub, nw, sub_tup, sub_fl, sub_kl, sub_r0, sub_r1, sub_r2, len_tup, len_fl, len_kl, len_r0, len_r1, tuple_fl, tuple_r0, tuple_r1, list_fl, list_tup, list_kl, items_tup, items_fl, items_kl, ii_int, ib_int, is_int, it_int, il_int, itl_int, ii_tup, ib_tup, is_tup, it_tup, il_tup, itl_tup, ii_fl, ib_fl, is_fl, it_fl, il_fl, itl_fl, ii_str, ib_str, is_str, it_str, il_str, itl_str, ii_bl, ib_bl, is_bl, it_bl, il_bl, ii_non, ib_non, is_non, it_non, il_non, ↓reduceIte, Bool.not_true, Bool.not_false, Bool.false_eq_true, decide_true, decide_false, decide_eq_true_eq, Bool.true_eq_false, eq_self, not_true_eq_false, not_false_eq_true, List.length_cons, List.length_nil, Nat.reduceAdd, szl, tup_if, lst_if, and_self, wipeR, List.map_cons, List.map_nil, Nat.reduceLeDiff, Int.cast_ofNat_Int, Int.reduceNeg, Int.reduceEq, Int.reduceLE, Int.reduceLT, at0, at1, at2, at3, st_source, un_source, q0_gl_NEAR, c_source, s1_source]
theorem e_framed (a0 a1 a2 : W) (st : Sto) : m_framed [a0, a1, a2] st = .ok (.tup [.str "framed", a0, a1, a2]) st := by
  refine OkR.eq ?_
  rw [un_framed, OkR_runD, st_framed]
  simp only [OkR_ok, OkS_nx, OkS_rt, OkS_bk, OkS_ct, OkS_go, OkS_seq, OkR_bd, bd_ok, go_ok, seq_nx, seq_rt, ofO_some, ofO_pure, run_bind, run_pure, evalSs, evalS, evalE, evalEs, evalT, evalTAnd, evalTOr, evalAnd, evalOr, evalI, evalO, Vm.evalAll, intO, bT_name, bT_tup, bTs_nil, bTs_cons, Option.bind_some, List.set_cons_zero, List.set_cons_succ, var_zero, var_succ, asB_bl, Vm.isNon, biG_tup, biG_fl, biG_kl, biG_int, biG_bl, biG_str, biG_two, biG_r0, biG_r1, biG_r2, cmpG_int, cmpG_bl, cmpG_str, cmpG_tup, cmpG_fl, cmpG_non, cw_eq, cw_ne, cw_lt, cw_le, cw_gt, cw_ge, cw_eqb, cw_neb, cw_eqs, cw_nes, bw_add, bw_sub, nw, sub_tup, sub_fl, sub_kl, sub_r0, sub_r1, sub_r2, len_tup, len_fl, len_kl, len_r0, len_r1, tuple_fl, tuple_r0, tuple_r1, list_fl, list_tup, list_kl, items_tup, items_fl, items_kl, ii_int, ib_int, is_int, it_int, il_int, itl_int, ii_tup, ib_tup, is_tup, it_tup, il_tup, itl_tup, ii_fl, ib_fl, is_fl, it_fl, il_fl, itl_fl, ii_str, ib_str, is_str, it_str, il_str, itl_str, ii_bl, ib_bl, is_bl, it_bl, il_bl, ii_non, ib_non, is_non, it_non, il_non, ↓reduceIte, Bool.not_true, Bool.not_false, Bool.false_eq_true, decide_true, decide_false, decide_eq_true_eq, Bool.true_eq_false, eq_self, not_true_eq_false, not_false_eq_true, List.length_cons, List.length_nil, Nat.reduceAdd, szl, tup_if, lst_if, and_self, wipeR, List.map_cons, List.map_nil, Nat.reduceLeDiff, Int.cast_ofNat_Int, Int.reduceNeg, Int.reduceEq, Int.reduceLE, Int.reduceLT, at0, at1, at2, at3, st_framed, un_framed, q0_gl_NEAR, c_framed, s1_framed]
theorem e_moved (a0 a1 a2 : W) (st : Sto) : m_moved [a0, a1, a2] st = .ok (.tup [.str "moved", a0, a1, a2]) st := by
  refine OkR.eq ?_
  rw [un_moved, OkR_runD, st_moved]
  simp only [OkR_ok, OkS_nx, OkS_rt, OkS_bk, OkS_ct, OkS_go, OkS_seq, OkR_bd, bd_ok, go_ok, seq_nx, seq_rt, ofO_some, ofO_pure, run_bind, run_pure, evalSs, evalS, evalE, evalEs, evalT, evalTAnd, evalTOr, evalAnd, evalOr, evalI, evalO, Vm.evalAll, intO, bT_name, bT_tup, bTs_nil, bTs_cons, Option.bind_some, List.set_cons_zero, List.set_cons_succ, var_zero, var_succ, asB_bl, Vm.isNon, biG_tup, biG_fl, biG_kl, biG_int, biG_bl, biG_str, biG_two, biG_r0, biG_r1, biG_r2, cmpG_int, cmpG_bl, cmpG_str, cmpG_tup, cmpG_fl, cmpG_non, cw_eq, cw_ne, cw_lt, cw_le, cw_gt, cw_ge, cw_eqb, cw_neb, cw_eqs, cw_nes, bw_add, bw_sub, nw, sub_tup, sub_fl, sub_kl, sub_r0, sub_r1, sub_r2, len_tup, len_fl, len_kl, len_r0, len_r1, tuple_fl, tuple_r0, tuple_r1, list_fl, list_tup, list_kl, items_tup, items_fl, items_kl, ii_int, ib_int, is_int, it_int, il_int, itl_int, ii_tup, ib_tup, is_tup, it_tup, il_tup, itl_tup, ii_fl, ib_fl, is_fl, it_fl, il_fl, itl_fl, ii_str, ib_str, is_str, it_str, il_str, itl_str, ii_bl, ib_bl, is_bl, it_bl, il_bl, ii_non, ib_non, is_non, it_non, il_non, ↓reduceIte, Bool.not_true, Bool.not_false, Bool.false_eq_true, decide_true, decide_false, decide_eq_true_eq, Bool.true_eq_false, eq_self, not_true_eq_false, not_false_eq_true, List.length_cons, List.length_nil, Nat.reduceAdd, szl, tup_if, lst_if, and_self, wipeR, List.map_cons, List.map_nil, Nat.reduceLeDiff, Int.cast_ofNat_Int, Int.reduceNeg, Int.reduceEq, Int.reduceLE, Int.reduceLT, at0, at1, at2, at3, st_moved, un_moved, c_moved, s1_moved]
theorem e_flipped (a0 a1 : W) (st : Sto) : m_flipped [a0, a1] st = .ok (.tup [.str "flipped", a0, a1]) st := by
  refine OkR.eq ?_
  rw [un_flipped, OkR_runD, st_flipped]
  simp only [OkR_ok, OkS_nx, OkS_rt, OkS_bk, OkS_ct, OkS_go, OkS_seq, OkR_bd, bd_ok, go_ok, seq_nx, seq_rt, ofO_some, ofO_pure, run_bind, run_pure, evalSs, evalS, evalE, evalEs, evalT, evalTAnd, evalTOr, evalAnd, evalOr, evalI, evalO, Vm.evalAll, intO, bT_name, bT_tup, bTs_nil, bTs_cons, Option.bind_some, List.set_cons_zero, List.set_cons_succ, var_zero, var_succ, asB_bl, Vm.isNon, biG_tup, biG_fl, biG_kl, biG_int, biG_bl, biG_str, biG_two, biG_r0, biG_r1, biG_r2, cmpG_int, cmpG_bl, cmpG_str, cmpG_tup, cmpG_fl, cmpG_non, cw_eq, cw_ne, cw_lt, cw_le, cw_gt, cw_ge, cw_eqb, cw_neb, cw_eqs, cw_nes, bw_add, bw_sub, nw, sub_tup, sub_fl, sub_kl, sub_r0, sub_r1, sub_r2, len_tup, len_fl, len_kl, len_r0, len_r1, tuple_fl, tuple_r0, tuple_r1, list_fl, list_tup, list_kl, items_tup, items_fl, items_kl, ii_int, ib_int, is_int, it_int, il_int, itl_int, ii_tup, ib_tup, is_tup, it_tup, il_tup, itl_tup, ii_fl, ib_fl, is_fl, it_fl, il_fl, itl_fl, ii_str, ib_str, is_str, it_str, il_str, itl_str, ii_bl, ib_bl, is_bl, it_bl, il_bl, ii_non, ib_non, is_non, it_non, il_non, ↓reduceIte, Bool.not_true, Bool.not_false, Bool.false_eq_true, decide_true, decide_false, decide_eq_true_eq, Bool.true_eq_false, eq_self, not_true_eq_false, not_false_eq_true, List.length_cons, List.length_nil, Nat.reduceAdd, szl, tup_if, lst_if, and_self, wipeR, List.map_cons, List.map_nil, Nat.reduceLeDiff, Int.cast_ofNat_Int, Int.reduceNeg, Int.reduceEq, Int.reduceLE, Int.reduceLT, at0, at1, at2, at3, st_flipped, un_flipped, c_flipped, s1_flipped]
theorem e_turned (a0 : W) (st : Sto) : m_turned [a0] st = .ok (.tup [.str "turned", a0]) st := by
  refine OkR.eq ?_
  rw [un_turned, OkR_runD, st_turned]
  simp only [OkR_ok, OkS_nx, OkS_rt, OkS_bk, OkS_ct, OkS_go, OkS_seq, OkR_bd, bd_ok, go_ok, seq_nx, seq_rt, ofO_some, ofO_pure, run_bind, run_pure, evalSs, evalS, evalE, evalEs, evalT, evalTAnd, evalTOr, evalAnd, evalOr, evalI, evalO, Vm.evalAll, intO, bT_name, bT_tup, bTs_nil, bTs_cons, Option.bind_some, List.set_cons_zero, List.set_cons_succ, var_zero, var_succ, asB_bl, Vm.isNon, biG_tup, biG_fl, biG_kl, biG_int, biG_bl, biG_str, biG_two, biG_r0, biG_r1, biG_r2, cmpG_int, cmpG_bl, cmpG_str, cmpG_tup, cmpG_fl, cmpG_non, cw_eq, cw_ne, cw_lt, cw_le, cw_gt, cw_ge, cw_eqb, cw_neb, cw_eqs, cw_nes, bw_add, bw_sub, nw, sub_tup, sub_fl, sub_kl, sub_r0, sub_r1, sub_r2, len_tup, len_fl, len_kl, len_r0, len_r1, tuple_fl, tuple_r0, tuple_r1, list_fl, list_tup, list_kl, items_tup, items_fl, items_kl, ii_int, ib_int, is_int, it_int, il_int, itl_int, ii_tup, ib_tup, is_tup, it_tup, il_tup, itl_tup, ii_fl, ib_fl, is_fl, it_fl, il_fl, itl_fl, ii_str, ib_str, is_str, it_str, il_str, itl_str, ii_bl, ib_bl, is_bl, it_bl, il_bl, ii_non, ib_non, is_non, it_non, il_non, ↓reduceIte, Bool.not_true, Bool.not_false, Bool.false_eq_true, decide_true, decide_false, decide_eq_true_eq, Bool.true_eq_false, eq_self, not_true_eq_false, not_false_eq_true, List.length_cons, List.length_nil, Nat.reduceAdd, szl, tup_if, lst_if, and_self, wipeR, List.map_cons, List.map_nil, Nat.reduceLeDiff, Int.cast_ofNat_Int, Int.reduceNeg, Int.reduceEq, Int.reduceLE, Int.reduceLT, at0, at1, at2, at3, st_turned, un_turned, c_turned, s1_turned]
theorem e_curved (a0 a1 a2 : W) (st : Sto) : m_curved [a0, a1, a2] st = .ok (.tup [.str "curved", a0, a1, a2]) st := by
  refine OkR.eq ?_
  rw [un_curved, OkR_runD, st_curved]
  simp only [OkR_ok, OkS_nx, OkS_rt, OkS_bk, OkS_ct, OkS_go, OkS_seq, OkR_bd, bd_ok, go_ok, seq_nx, seq_rt, ofO_some, ofO_pure, run_bind, run_pure, evalSs, evalS, evalE, evalEs, evalT, evalTAnd, evalTOr, evalAnd, evalOr, evalI, evalO, Vm.evalAll, intO, bT_name, bT_tup, bTs_nil, bTs_cons, Option.bind_some, List.set_cons_zero, List.set_cons_succ, var_zero, var_succ, asB_bl, Vm.isNon, biG_tup, biG_fl, biG_kl, biG_int, biG_bl, biG_str, biG_two, biG_r0, biG_r1, biG_r2, cmpG_int, cmpG_bl, cmpG_str, cmpG_tup, cmpG_fl, cmpG_non, cw_eq, cw_ne, cw_lt, cw_le, cw_gt, cw_ge, cw_eqb, cw_neb, cw_eqs, cw_nes, bw_add, bw_sub, nw, sub_tup, sub_fl, sub_kl, sub_r0, sub_r1, sub_r2, len_tup, len_fl, len_kl, len_r0, len_r1, tuple_fl, tuple_r0, tuple_r1, list_fl, list_tup, list_kl, items_tup, items_fl, items_kl, ii_int, ib_int, is_int, it_int, il_int, itl_int, ii_tup, ib_tup, is_tup, it_tup, il_tup, itl_tup, ii_fl, ib_fl, is_fl, it_fl, il_fl, itl_fl, ii_str, ib_str, is_str, it_str, il_str, itl_str, ii_bl, ib_bl, is_bl, it_bl, il_bl, ii_non, ib_non, is_non, it_non, il_non, ↓reduceIte, Bool.not_true, Bool.not_false, Bool.false_eq_true, decide_true, decide_false, decide_eq_true_eq, Bool.true_eq_false, eq_self, not_true_eq_false, not_false_eq_true, List.length_cons, List.length_nil, Nat.reduceAdd, szl, tup_if, lst_if, and_self, wipeR, List.map_cons, List.map_nil, Nat.reduceLeDiff, Int.cast_ofNat_Int, Int.reduceNeg, Int.reduceEq, Int.reduceLE, Int.reduceLT, at0, at1, at2, at3, st_curved, un_curved, c_curved, s1_curved]
theorem e_lifted (a0 a1 : W) (st : Sto) : m_lifted [a0, a1] st = .ok (.tup [.str "lifted", a0, a1]) st := by
  refine OkR.eq ?_
  rw [un_lifted, OkR_runD, st_lifted]
  simp only [OkR_ok, OkS_nx, OkS_rt, OkS_bk, OkS_ct, OkS_go, OkS_seq, OkR_bd, bd_ok, go_ok, seq_nx, seq_rt, ofO_some, ofO_pure, run_bind, run_pure, evalSs, evalS, evalE, evalEs, evalT, evalTAnd, evalTOr, evalAnd, evalOr, evalI, evalO, Vm.evalAll, intO, bT_name, bT_tup, bTs_nil, bTs_cons, Option.bind_some, List.set_cons_zero, List.set_cons_succ, var_zero, var_succ, asB_bl, Vm.isNon, biG_tup, biG_fl, biG_kl, biG_int, biG_bl, biG_str, biG_two, biG_r0, biG_r1, biG_r2, cmpG_int, cmpG_bl, cmpG_str, cmpG_tup, cmpG_fl, cmpG_non, cw_eq, cw_ne, cw_lt, cw_le, cw_gt, cw_ge, cw_eqb, cw_neb, cw_eqs, cw_nes, bw_add, bw_sub, nw, sub_tup, sub_fl, sub_kl, sub_r0, sub_r1, sub_r2, len_tup, len_fl, len_kl, len_r0, len_r1, tuple_fl, tuple_r0, tuple_r1, list_fl, list_tup, list_kl, items_tup, items_fl, items_kl, ii_int, ib_int, is_int, it_int, il_int, itl_int, ii_tup, ib_tup, is_tup, it_tup, il_tup, itl_tup, ii_fl, ib_fl, is_fl, it_fl, il_fl, itl_fl, ii_str, ib_str, is_str, it_str, il_str, itl_str, ii_bl, ib_bl, is_bl, it_bl, il_bl, ii_non, ib_non, is_non, it_non, il_non, ↓reduceIte, Bool.not_true, Bool.not_false, Bool.false_eq_true, decide_true, decide_false, decide_eq_true_eq, Bool.true_eq_false, eq_self, not_true_eq_false, not_false_eq_true, List.length_cons, List.length_nil, Nat.reduceAdd, szl, tup_if, lst_if, and_self, wipeR, List.map_cons, List.map_nil, Nat.reduceLeDiff, Int.cast_ofNat_Int, Int.reduceNeg, Int.reduceEq, Int.reduceLE, Int.reduceLT, at0, at1, at2, at3, st_lifted, un_lifted, c_lifted, s1_lifted]
theorem e_unlifted (a0 a1 : W) (st : Sto) : m_unlifted [a0, a1] st = .ok (.tup [.str "unlifted", a0, a1]) st := by
  refine OkR.eq ?_
  rw [un_unlifted, OkR_runD, st_unlifted]
  simp only [OkR_ok, OkS_nx, OkS_rt, OkS_bk, OkS_ct, OkS_go, OkS_seq, OkR_bd, bd_ok, go_ok, seq_nx, seq_rt, ofO_some, ofO_pure, run_bind, run_pure, evalSs, evalS, evalE, evalEs, evalT, evalTAnd, evalTOr, evalAnd, evalOr, evalI, evalO, Vm.evalAll, intO, bT_name, bT_tup, bTs_nil, bTs_cons, Option.bind_some, List.set_cons_zero, List.set_cons_succ, var_zero, var_succ, asB_bl, Vm.isNon, biG_tup, biG_fl, biG_kl, biG_int, biG_bl, biG_str, biG_two, biG_r0, biG_r1, biG_r2, cmpG_int, cmpG_bl, cmpG_str, cmpG_tup, cmpG_fl, cmpG_non, cw_eq, cw_ne, cw_lt, cw_le, cw_gt, cw_ge, cw_eqb, cw_neb, cw_eqs, cw_nes, bw_add, bw_sub, nw, sub_tup, sub_fl, sub_kl, sub_r0, sub_r1, sub_r2, len_tup, len_fl, len_kl, len_r0, len_r1, tuple_fl, tuple_r0, tuple_r1, list_fl, list_tup, list_kl, items_tup, items_fl, items_kl, ii_int, ib_int, is_int, it_int, il_int, itl_int, ii_tup, ib_tup, is_tup, it_tup, il_tup, itl_tup, ii_fl, ib_fl, is_fl, it_fl, il_fl, itl_fl, ii_str, ib_str, is_str, it_str, il_str, itl_str, ii_bl, ib_bl, is_bl, it_bl, il_bl, ii_non, ib_non, is_non, it_non, il_non, ↓reduceIte, Bool.not_true, Bool.not_false, Bool.false_eq_true, decide_true, decide_false, decide_eq_true_eq, Bool.true_eq_false, eq_self, not_true_eq_false, not_false_eq_true, List.length_cons, List.length_nil, Nat.reduceAdd, szl, tup_if, lst_if, and_self, wipeR, List.map_cons, List.map_nil, Nat.reduceLeDiff, Int.cast_ofNat_Int, Int.reduceNeg, Int.reduceEq, Int.reduceLE, Int.reduceLT, at0, at1, at2, at3, st_unlifted, un_unlifted, c_unlifted, s1_unlifted]
theorem e_mixed (a0 a1 a2 a3 : W) (st : Sto) : m_mixed [a0, a1, a2, a3] st = .ok (.tup [.str "mixed", a0, a1, a2, a3]) st := by
  refine OkR.eq ?_
  rw [un_mixed, OkR_runD, st_mixed]
  simp only [OkR_ok, OkS_nx, OkS_rt, OkS_bk, OkS_ct, OkS_go, OkS_seq, OkR_bd, bd_ok, go_ok, seq_nx, seq_rt, ofO_some, ofO_pure, run_bind, run_pure, evalSs, evalS, evalE, evalEs, evalT, evalTAnd, evalTOr, evalAnd, evalOr, evalI, evalO, Vm.evalAll, intO, bT_name, bT_tup, bTs_nil, bTs_cons, Option.bind_some, List.set_cons_zero, List.set_cons_succ, var_zero, var_succ, asB_bl, Vm.isNon, biG_tup, biG_fl, biG_kl, biG_int, biG_bl, biG_str, biG_two, biG_r0, biG_r1, biG_r2, cmpG_int, cmpG_bl, cmpG_str, cmpG_tup, cmpG_fl, cmpG_non, cw_eq, cw_ne, cw_lt, cw_le, cw_gt, cw_ge, cw_eqb, cw_neb, cw_eqs, cw_nes, bw_add, bw_sub, nw, sub_tup, sub_fl, sub_kl, sub_r0, sub_r1, sub_r2, len_tup, len_fl, len_kl, len_r0, len_r1, tuple_fl, tuple_r0, tuple_r1, list_fl, list_tup, list_kl, items_tup, items_fl, items_kl, ii_int, ib_int, is_int, it_int, il_int, itl_int, ii_tup, ib_tup, is_tup, it_tup, il_tup, itl_tup, ii_fl, ib_fl, is_fl, it_fl, il_fl, itl_fl, ii_str, ib_str, is_str, it_str, il_str, itl_str, ii_bl, ib_bl, is_bl, it_bl, il_bl, ii_non, ib_non, is_non, it_non, il_non, ↓reduceIte, Bool.not_true, Bool.not_false, Bool.false_eq_true, decide_true, decide_false, decide_eq_true_eq, Bool.true_eq_false, eq_self, not_true_eq_false, not_false_eq_true, List.length_cons, List.length_nil, Nat.reduceAdd, szl, tup_if, lst_if, and_self, wipeR, List.map_cons, List.map_nil, Nat.reduceLeDiff, Int.cast_ofNat_Int, Int.reduceNeg, Int.reduceEq, Int.reduceLE, Int.reduceLT, at0, at1, at2, at3, st_mixed, un_mixed, c_mixed, s1_mixed]
theorem e_filtered (a0 a1 a2 a3 : W) (st : Sto) : m_filtered [a0, a1, a2, a3] st = .ok (.tup [.str "filtered", a0, a1, a2, a3]) st := by
  refine OkR.eq ?_
  rw [un_filtered, OkR_runD, st_filtered]
  simp only [OkR_ok, OkS_nx, OkS_rt, OkS_bk, OkS_ct, OkS_go, OkS_seq, OkR_bd, bd_ok, go_ok, seq_nx, seq_rt, ofO_some, ofO_pure, run_bind, run_pure, evalSs, evalS, evalE, evalEs, evalT, evalTAnd, evalTOr, evalAnd, evalOr, evalI, evalO, Vm.evalAll, intO, bT_name, bT_tup, bTs_nil, bTs_cons, Option.bind_some, List.set_cons_zero, List.set_cons_succ, var_zero, var_succ, asB_bl, Vm.isNon, biG_tup, biG_fl, biG_kl, biG_int, biG_bl, biG_str, biG_two, biG_r0, biG_r1, biG_r2, cmpG_int, cmpG_bl, cmpG_str, cmpG_tup, cmpG_fl, cmpG_non, cw_eq, cw_ne, cw_lt, cw_le, cw_gt, cw_ge, cw_eqb, cw_neb, cw_eqs, cw_nes, bw_add, bw_sub, nw, sub_tup, sub_fl, sub_kl, sub_r0, sub_r1, sub_r2, len_tup, len_fl, len_kl, len_r0, len_r1, tuple_fl, tuple_r0, tuple_r1, list_fl, list_tup, list_kl, items_tup, items_fl, items_kl, ii_int, ib_int, is_int, it_int, il_int, itl_int, ii_tup, ib_tup, is_tup, it_tup, il_tup, itl_tup, ii_fl, ib_fl, is_fl, it_fl, il_fl, itl_fl, ii_str, ib_str, is_str, it_str, il_str, itl_str, ii_bl, ib_bl, is_bl, it_bl, il_bl, ii_non, ib_non, is_non, it_non, il_non, ↓reduceIte, Bool.not_true, Bool.not_false, Bool.false_eq_true, decide_true, decide_false, decide_eq_true_eq, Bool.true_eq_false, eq_self, not_true_eq_false, not_false_eq_true, List.length_cons, List.length_nil, Nat.reduceAdd, szl, tup_if, lst_if, and_self, wipeR, List.map_cons, List.map_nil, Nat.reduceLeDiff, Int.cast_ofNat_Int, Int.reduceNeg, Int.reduceEq, Int.reduceLE, Int.reduceLT, at0, at1, at2, at3, st_filtered, un_filtered, c_filtered, s1_filtered]
theorem e_ranked (a0 a1 a2 : W) (st : Sto) : m_ranked [a0, a1, a2] st = .ok (.tup [.str "ranked", a0, a1, a2]) st := by
  refine OkR.eq ?_
  rw [un_ranked, OkR_runD, st_ranked]
  simp only [OkR_ok, OkS_nx, OkS_rt, OkS_bk, OkS_ct, OkS_go, OkS_seq, OkR_bd, bd_ok, go_ok, seq_nx, seq_rt, ofO_some, ofO_pure, run_bind, run_pure, evalSs, evalS, evalE, evalEs, evalT, evalTAnd, evalTOr, evalAnd, evalOr, evalI, evalO, Vm.evalAll, intO, bT_name, bT_tup, bTs_nil, bTs_cons, Option.bind_some, List.set_cons_zero, List.set_cons_succ, var_zero, var_succ, asB_bl, Vm.isNon, biG_tup, biG_fl, biG_kl, biG_int, biG_bl, biG_str, biG_two, biG_r0, biG_r1, biG_r2, cmpG_int, cmpG_bl, cmpG_str, cmpG_tup, cmpG_fl, cmpG_non, cw_eq, cw_ne, cw_lt, cw_le, cw_gt, cw_ge, cw_eqb, cw_neb, cw_eqs, cw_nes, bw_add, bw_sub, nw, sub_tup, sub_fl, sub_kl, sub_r0, sub_r1, sub_r2, len_tup, len_fl, len_kl, len_r0, len_r1, tuple_fl, tuple_r0, tuple_r1, list_fl, list_tup, list_kl, items_tup, items_fl, items_kl, ii_int, ib_int, is_int, it_int, il_int, itl_int, ii_tup, ib_tup, is_tup, it_tup, il_tup, itl_tup, ii_fl, ib_fl, is_fl, it_fl, il_fl, itl_fl, ii_str, ib_str, is_str, it_str, il_str, itl_str, ii_bl, ib_bl, is_bl, it_bl, il_bl, ii_non, ib_non, is_non, it_non, il_non, ↓reduceIte, Bool.not_true, Bool.not_false, Bool.false_eq_true, decide_true, decide_false, decide_eq_true_eq, Bool.true_eq_false, eq_self, not_true_eq_false, not_false_eq_true, List.length_cons, List.length_nil, Nat.reduceAdd, szl, tup_if, lst_if, and_self, wipeR, List.map_cons, List.map_nil, Nat.reduceLeDiff, Int.cast_ofNat_Int, Int.reduceNeg, Int.reduceEq, Int.reduceLE, Int.reduceLT, at0, at1, at2, at3, st_ranked, un_ranked, c_ranked, s1_ranked]
theorem e_reduced (a0 a1 a2 : W) (st : Sto) : m_reduced [a0, a1, a2] st = .ok (.tup [.str "reduced", a0, a1, a2]) st := by
  refine OkR.eq ?_
  rw [un_reduced, OkR_runD, st_reduced]
  simp only [OkR_ok, OkS_nx, OkS_rt, OkS_bk, OkS_ct, OkS_go, OkS_seq, OkR_bd, bd_ok, go_ok, seq_nx, seq_rt, ofO_some, ofO_pure, run_bind, run_pure, evalSs, evalS, evalE, evalEs, evalT, evalTAnd, evalTOr, evalAnd, evalOr, evalI, evalO, Vm.evalAll, intO, bT_name, bT_tup, bTs_nil, bTs_cons, Option.bind_some, List.set_cons_zero, List.set_cons_succ, var_zero, var_succ, asB_bl, Vm.isNon, biG_tup, biG_fl, biG_kl, biG_int, biG_bl, biG_str, biG_two, biG_r0, biG_r1, biG_r2, cmpG_int, cmpG_bl, cmpG_str, cmpG_tup, cmpG_fl, cmpG_non, cw_eq, cw_ne, cw_lt, cw_le, cw_gt, cw_ge, cw_eqb, cw_neb, cw_eqs, cw_nes, bw_add, bw_sub, nw, sub_tup, sub_fl, sub_kl, sub_r0, sub_r1, sub_r2, len_tup, len_fl, len_kl, len_r0, len_r1, tuple_fl, tuple_r0, tuple_r1, list_fl, list_tup, list_kl, items_tup, items_fl, items_kl, ii_int, ib_int, is_int, it_int, il_int, itl_int, ii_tup, ib_tup, is_tup, it_tup, il_tup, itl_tup, ii_fl, ib_fl, is_fl, it_fl, il_fl, itl_fl, ii_str, ib_str, is_str, it_str, il_str, itl_str, ii_bl, ib_bl, is_bl, it_bl, il_bl, ii_non, ib_non, is_non, it_non, il_non, ↓reduceIte, Bool.not_true, Bool.not_false, Bool.false_eq_true, decide_true, decide_false, decide_eq_true_eq, Bool.true_eq_false, eq_self, not_true_eq_false, not_false_eq_true, List.length_cons, List.length_nil, Nat.reduceAdd, szl, tup_if, lst_if, and_self, wipeR, List.map_cons, List.map_nil, Nat.reduceLeDiff, Int.cast_ofNat_Int, Int.reduceNeg, Int.reduceEq, Int.reduceLE, Int.reduceLT, at0, at1, at2, at3, st_reduced, un_reduced, c_reduced, s1_reduced]
theorem e_enlarged (a0 a1 a2 : W) (st : Sto) : m_enlarged [a0, a1, a2] st = .ok (.tup [.str "enlarged", a0, a1, a2]) st := by
  refine OkR.eq ?_
  rw [un_enlarged, OkR_runD, st_enlarged]
  simp only [OkR_ok, OkS_nx, OkS_rt, OkS_bk, OkS_ct, OkS_go, OkS_seq, OkR_bd, bd_ok, go_ok, seq_nx, seq_rt, ofO_some, ofO_pure, run_bind, run_pure, evalSs, evalS, evalE, evalEs, evalT, evalTAnd, evalTOr, evalAnd, evalOr, evalI, evalO, Vm.evalAll, intO, bT_name, bT_tup, bTs_nil, bTs_cons, Option.bind_some, List.set_cons_zero, List.set_cons_succ, var_zero, var_succ, asB_bl, Vm.isNon, biG_tup, biG_fl, biG_kl, biG_int, biG_bl, biG_str, biG_two, biG_r0, biG_r1, biG_r2, cmpG_int, cmpG_bl, cmpG_str, cmpG_tup, cmpG_fl, cmpG_non, cw_eq, cw_ne, cw_lt, cw_le, cw_gt, cw_ge, cw_eqb, cw_neb, cw_eqs, cw_nes, bw_add, bw_sub, nw, sub_tup, sub_fl, sub_kl, sub_r0, sub_r1, sub_r2, len_tup, len_fl, len_kl, len_r0, len_r1, tuple_fl, tuple_r0, tuple_r1, list_fl, list_tup, list_kl, items_tup, items_fl, items_kl, ii_int, ib_int, is_int, it_int, il_int, itl_int, ii_tup, ib_tup, is_tup, it_tup, il_tup, itl_tup, ii_fl, ib_fl, is_fl, it_fl, il_fl, itl_fl, ii_str, ib_str, is_str, it_str, il_str, itl_str, ii_bl, ib_bl, is_bl, it_bl, il_bl, ii_non, ib_non, is_non, it_non, il_non, ↓reduceIte, Bool.not_true, Bool.not_false, Bool.false_eq_true, decide_true, decide_false, decide_eq_true_eq, Bool.true_eq_false, eq_self, not_true_eq_false, not_false_eq_true, List.length_cons, List.length_nil, Nat.reduceAdd, szl, tup_if, lst_if, and_self, wipeR, List.map_cons, List.map_nil, Nat.reduceLeDiff, Int.cast_ofNat_Int, Int.reduceNeg, Int.reduceEq, Int.reduceLE, Int.reduceLT, at0, at1, at2, at3, st_enlarged, un_enlarged, c_enlarged, s1_enlarged]
theorem e_near_band (a0 a1 : W) (st : Sto) : m_near_band [a0, a1] st = .ok (.tup [.str "near_band", a0, a1]) st := by
  refine OkR.eq ?_
  rw [un_near_band, OkR_runD, st_near_band]
  simp only [OkR_ok, OkS_nx, OkS_rt, OkS_bk, OkS_ct, OkS_go, OkS_seq, OkR_bd, bd_ok, go_ok, seq_nx, seq_rt, ofO_some, ofO_pure, run_bind, run_pure, evalSs, evalS, evalE, evalEs, evalT, evalTAnd, evalTOr, evalAnd, evalOr, evalI, evalO, Vm.evalAll, intO, bT_name, bT_tup, bTs_nil, bTs_cons, Option.bind_some, List.set_cons_zero, List.set_cons_succ, var_zero, var_succ, asB_bl, Vm.isNon, biG_tup, biG_fl, biG_kl, biG_int, biG_bl, biG_str, biG_two, biG_r0, biG_r1, biG_r2, cmpG_int, cmpG_bl, cmpG_str, cmpG_tup, cmpG_fl, cmpG_non, cw_eq, cw_ne, cw_lt, cw_le, cw_gt, cw_ge, cw_eqb, cw_neb, cw_eqs, cw_nes, bw_add, bw_sub, nw, sub_tup, sub_fl, sub_kl, sub_r0, sub_r1, sub_r2, len_tup, len_fl, len_kl, len_r0, len_r1, tuple_fl, tuple_r0, tuple_r1, list_fl, list_tup, list_kl, items_tup, items_fl, items_kl, ii_int, ib_int, is_int, it_int, il_int, itl_int, ii_tup, ib_tup, is_tup, it_tup, il_tup, itl_tup, ii_fl, ib_fl, is_fl, it_fl, il_fl, itl_fl, ii_str, ib_str, is_str, it_str, il_str, itl_str, ii_bl, ib_bl, is_bl, it_bl, il_bl, ii_non, ib_non, is_non, it_non, il_non, ↓reduceIte, Bool.not_true, Bool.not_false, Bool.false_eq_true, decide_true, decide_false, decide_eq_true_eq, Bool.true_eq_false, eq_self, not_true_eq_false, not_false_eq_true, List.length_cons, List.length_nil, Nat.reduceAdd, szl, tup_if, lst_if, and_self, wipeR, List.map_cons, List.map_nil, Nat.reduceLeDiff, Int.cast_ofNat_Int, Int.reduceNeg, Int.reduceEq, Int.reduceLE, Int.reduceLT, at0, at1, at2, at3, st_near_band, un_near_band, c_near_band, s1_near_band]
theorem e_far_band (a0 a1 : W) (st : Sto) : m_far_band [a0, a1] st = .ok (.tup [.str "far_band", a0, a1]) st := by
  refine OkR.eq ?_
  rw [un_far_band, OkR_runD, st_far_band]
  simp only [OkR_ok, OkS_nx, OkS_rt, OkS_bk, OkS_ct, OkS_go, OkS_seq, OkR_bd, bd_ok, go_ok, seq_nx, seq_rt, ofO_some, ofO_pure, run_bind, run_pure, evalSs, evalS, evalE, evalEs, evalT, evalTAnd, evalTOr, evalAnd, evalOr, evalI, evalO, Vm.evalAll, intO, bT_name, bT_tup, bTs_nil, bTs_cons, Option.bind_some, List.set_cons_zero, List.set_cons_succ, var_zero, var_succ, asB_bl, Vm.isNon, biG_tup, biG_fl, biG_kl, biG_int, biG_bl, biG_str, biG_two, biG_r0, biG_r1, biG_r2, cmpG_int, cmpG_bl, cmpG_str, cmpG_tup, cmpG_fl, cmpG_non, cw_eq, cw_ne, cw_lt, cw_le, cw_gt, cw_ge, cw_eqb, cw_neb, cw_eqs, cw_nes, bw_add, bw_sub, nw, sub_tup, sub_fl, sub_kl, sub_r0, sub_r1, sub_r2, len_tup, len_fl, len_kl, len_r0, len_r1, tuple_fl, tuple_r0, tuple_r1, list_fl, list_tup, list_kl, items_tup, items_fl, items_kl, ii_int, ib_int, is_int, it_int, il_int, itl_int, ii_tup, ib_tup, is_tup, it_tup, il_tup, itl_tup, ii_fl, ib_fl, is_fl, it_fl, il_fl, itl_fl, ii_str, ib_str, is_str, it_str, il_str, itl_str, ii_bl, ib_bl, is_bl, it_bl, il_bl, ii_non, ib_non, is_non, it_non, il_non, ↓reduceIte, Bool.not_true, Bool.not_false, Bool.false_eq_true, decide_true, decide_false, decide_eq_true_eq, Bool.true_eq_false, eq_self, not_true_eq_false, not_false_eq_true, List.length_cons, List.length_nil, Nat.reduceAdd, szl, tup_if, lst_if, and_self, wipeR, List.map_cons, List.map_nil, Nat.reduceLeDiff, Int.cast_ofNat_Int, Int.reduceNeg, Int.reduceEq, Int.reduceLE, Int.reduceLT, at0, at1, at2, at3, st_far_band, un_far_band, c_far_band, s1_far_band]
theorem e_paired (a0 a1 a2 : W) (st : Sto) : m_paired [a0, a1, a2] st = .ok (.tup [.str "paired", a0, a1, a2]) st := by
  refine OkR.eq ?_
  rw [un_paired, OkR_runD, st_paired]
  simp only [OkR_ok, OkS_nx, OkS_rt, OkS_bk, OkS_ct, OkS_go, OkS_seq, OkR_bd, bd_ok, go_ok, seq_nx, seq_rt, ofO_some, ofO_pure, run_bind, run_pure, evalSs, evalS, evalE, evalEs, evalT, evalTAnd, evalTOr, evalAnd, evalOr, evalI, evalO, Vm.evalAll, intO, bT_name, bT_tup, bTs_nil, bTs_cons, Option.bind_some, List.set_cons_zero, List.set_cons_succ, var_zero, var_succ, asB_bl, Vm.isNon, biG_tup, biG_fl, biG_kl, biG_int, biG_bl, biG_str, biG_two, biG_r0, biG_r1, biG_r2, cmpG_int, cmpG_bl, cmpG_str, cmpG_tup, cmpG_fl, cmpG_non, cw_eq, cw_ne, cw_lt, cw_le, cw_gt, cw_ge, cw_eqb, cw_neb, cw_eqs, cw_nes, bw_add, bw_sub, nw, sub_tup, sub_fl, sub_kl, sub_r0, sub_r1, sub_r2, len_tup, len_fl, len_kl, len_r0, len_r1, tuple_fl, tuple_r0, tuple_r1, list_fl, list_tup, list_kl, items_tup, items_fl, items_kl, ii_int, ib_int, is_int, it_int, il_int, itl_int, ii_tup, ib_tup, is_tup, it_tup, il_tup, itl_tup, ii_fl, ib_fl, is_fl, it_fl, il_fl, itl_fl, ii_str, ib_str, is_str, it_str, il_str, itl_str, ii_bl, ib_bl, is_bl, it_bl, il_bl, ii_non, ib_non, is_non, it_non, il_non, ↓reduceIte, Bool.not_true, Bool.not_false, Bool.false_eq_true, decide_true, decide_false, decide_eq_true_eq, Bool.true_eq_false, eq_self, not_true_eq_false, not_false_eq_true, List.length_cons, List.length_nil, Nat.reduceAdd, szl, tup_if, lst_if, and_self, wipeR, List.map_cons, List.map_nil, Nat.reduceLeDiff, Int.cast_ofNat_Int, Int.reduceNeg, Int.reduceEq, Int.reduceLE, Int.reduceLT, at0, at1, at2, at3, st_paired, un_paired, c_paired, s1_paired]
theorem e_summed (a0 a1 : W) (st : Sto) : m_summed [a0, a1] st = .ok (.tup [.str "summed", a0, a1]) st := by
  refine OkR.eq ?_
  rw [un_summed, OkR_runD, st_summed]
  simp only [OkR_ok, OkS_nx, OkS_rt, OkS_bk, OkS_ct, OkS_go, OkS_seq, OkR_bd, bd_ok, go_ok, seq_nx, seq_rt, ofO_some, ofO_pure, run_bind, run_pure, evalSs, evalS, evalE, evalEs, evalT, evalTAnd, evalTOr, evalAnd, evalOr, evalI, evalO, Vm.evalAll, intO, bT_name, bT_tup, bTs_nil, bTs_cons, Option.bind_some, List.set_cons_zero, List.set_cons_succ, var_zero, var_succ, asB_bl, Vm.isNon, biG_tup, biG_fl, biG_kl, biG_int, biG_bl, biG_str, biG_two, biG_r0, biG_r1, biG_r2, cmpG_int, cmpG_bl, cmpG_str, cmpG_tup, cmpG_fl, cmpG_non, cw_eq, cw_ne, cw_lt, cw_le, cw_gt, cw_ge, cw_eqb, cw_neb, cw_eqs, cw_nes, bw_add, bw_sub, nw, sub_tup, sub_fl, sub_kl, sub_r0, sub_r1, sub_r2, len_tup, len_fl, len_kl, len_r0, len_r1, tuple_fl, tuple_r0, tuple_r1, list_fl, list_tup, list_kl, items_tup, items_fl, items_kl, ii_int, ib_int, is_int, it_int, il_int, itl_int, ii_tup, ib_tup, is_tup, it_tup, il_tup, itl_tup, ii_fl, ib_fl, is_fl, it_fl, il_fl, itl_fl, ii_str, ib_str, is_str, it_str, il_str, itl_str, ii_bl, ib_bl, is_bl, it_bl, il_bl, ii_non, ib_non, is_non, it_non, il_non, ↓reduceIte, Bool.not_true, Bool.not_false, Bool.false_eq_true, decide_true, decide_false, decide_eq_true_eq, Bool.true_eq_false, eq_self, not_true_eq_false, not_false_eq_true, List.length_cons, List.length_nil, Nat.reduceAdd, szl, tup_if, lst_if, and_self, wipeR, List.map_cons, List.map_nil, Nat.reduceLeDiff, Int.cast_ofNat_Int, Int.reduceNeg, Int.reduceEq, Int.reduceLE, Int.reduceLT, at0, at1, at2, at3, st_summed, un_summed, c_summed, s1_summed]
theorem e_unsummed (a0 : W) (st : Sto) : m_unsummed [a0] st = .ok (.tup [.str "unsummed", a0]) st := by
  refine OkR.eq ?_
  rw [un_unsummed, OkR_runD, st_unsummed]
  simp only [OkR_ok, OkS_nx, OkS_rt, OkS_bk, OkS_ct, OkS_go, OkS_seq, OkR_bd, bd_ok, go_ok, seq_nx, seq_rt, ofO_some, ofO_pure, run_bind, run_pure, evalSs, evalS, evalE, evalEs, evalT, evalTAnd, evalTOr, evalAnd, evalOr, evalI, evalO, Vm.evalAll, intO, bT_name, bT_tup, bTs_nil, bTs_cons, Option.bind_some, List.set_cons_zero, List.set_cons_succ, var_zero, var_succ, asB_bl, Vm.isNon, biG_tup, biG_fl, biG_kl, biG_int, biG_bl, biG_str, biG_two, biG_r0, biG_r1, biG_r2, cmpG_int, cmpG_bl, cmpG_str, cmpG_tup, cmpG_fl, cmpG_non, cw_eq, cw_ne, cw_lt, cw_le, cw_gt, cw_ge, cw_eqb, cw_neb, cw_eqs, cw_nes, bw_add, bw_sub, nw, sub_tup, sub_fl, sub_kl, sub_r0, sub_r1, sub_r2, len_tup, len_fl, len_kl, len_r0, len_r1, tuple_fl, tuple_r0, tuple_r1, list_fl, list_tup, list_kl, items_tup, items_fl, items_kl, ii_int, ib_int, is_int, it_int, il_int, itl_int, ii_tup, ib_tup, is_tup, it_tup, il_tup, itl_tup, ii_fl, ib_fl, is_fl, it_fl, il_fl, itl_fl, ii_str, ib_str, is_str, it_str, il_str, itl_str, ii_bl, ib_bl, is_bl, it_bl, il_bl, ii_non, ib_non, is_non, it_non, il_non, ↓reduceIte, Bool.not_true, Bool.not_false, Bool.false_eq_true, decide_true, decide_false, decide_eq_true_eq, Bool.true_eq_false, eq_self, not_true_eq_false, not_false_eq_true, List.length_cons, List.length_nil, Nat.reduceAdd, szl, tup_if, lst_if, and_self, wipeR, List.map_cons, List.map_nil, Nat.reduceLeDiff, Int.cast_ofNat_Int, Int.reduceNeg, Int.reduceEq, Int.reduceLE, Int.reduceLT, at0, at1, at2, at3, st_unsummed, un_unsummed, c_unsummed, s1_unsummed]
theorem e_levelled (a0 a1 : W) (st : Sto) : m_levelled [a0, a1] st = .ok (.tup [.str "levelled", a0, a1]) st := by
  refine OkR.eq ?_
  rw [un_levelled, OkR_runD, st_levelled]
  simp only [OkR_ok, OkS_nx, OkS_rt, OkS_bk, OkS_ct, OkS_go, OkS_seq, OkR_bd, bd_ok, go_ok, seq_nx, seq_rt, ofO_some, ofO_pure, run_bind, run_pure, evalSs, evalS, evalE, evalEs, evalT, evalTAnd, evalTOr, evalAnd, evalOr, evalI, evalO, Vm.evalAll, intO, bT_name, bT_tup, bTs_nil, bTs_cons, Option.bind_some, List.set_cons_zero, List.set_cons_succ, var_zero, var_succ, asB_bl, Vm.isNon, biG_tup, biG_fl, biG_kl, biG_int, biG_bl, biG_str, biG_two, biG_r0, biG_r1, biG_r2, cmpG_int, cmpG_bl, cmpG_str, cmpG_tup, cmpG_fl, cmpG_non, cw_eq, cw_ne, cw_lt, cw_le, cw_gt, cw_ge, cw_eqb, cw_neb, cw_eqs, cw_nes, bw_add, bw_sub, nw, sub_tup, sub_fl, sub_kl, sub_r0, sub_r1, sub_r2, len_tup, len_fl, len_kl, len_r0, len_r1, tuple_fl, tuple_r0, tuple_r1, list_fl, list_tup, list_kl, items_tup, items_fl, items_kl, ii_int, ib_int, is_int, it_int, il_int, itl_int, ii_tup, ib_tup, is_tup, it_tup, il_tup, itl_tup, ii_fl, ib_fl, is_fl, it_fl, il_fl, itl_fl, ii_str, ib_str, is_str, it_str, il_str, itl_str, ii_bl, ib_bl, is_bl, it_bl, il_bl, ii_non, ib_non, is_non, it_non, il_non, ↓reduceIte, Bool.not_true, Bool.not_false, Bool.false_eq_true, decide_true, decide_false, decide_eq_true_eq, Bool.true_eq_false, eq_self, not_true_eq_false, not_false_eq_true, List.length_cons, List.length_nil, Nat.reduceAdd, szl, tup_if, lst_if, and_self, wipeR, List.map_cons, List.map_nil, Nat.reduceLeDiff, Int.cast_ofNat_Int, Int.reduceNeg, Int.reduceEq, Int.reduceLE, Int.reduceLT, at0, at1, at2, at3, st_levelled, un_levelled, c_levelled, s1_levelled]
theorem e_met (a0 a1 a2 : W) (st : Sto) : m_met [a0, a1, a2] st = .ok (.tup [.str "met", a0, a1, a2]) st := by
  refine OkR.eq ?_
  rw [un_met, OkR_runD, st_met]
  simp only [OkR_ok, OkS_nx, OkS_rt, OkS_bk, OkS_ct, OkS_go, OkS_seq, OkR_bd, bd_ok, go_ok, seq_nx, seq_rt, ofO_some, ofO_pure, run_bind, run_pure, evalSs, evalS, evalE, evalEs, evalT, evalTAnd, evalTOr, evalAnd, evalOr, evalI, evalO, Vm.evalAll, intO, bT_name, bT_tup, bTs_nil, bTs_cons, Option.bind_some, List.set_cons_zero, List.set_cons_succ, var_zero, var_succ, asB_bl, Vm.isNon, biG_tup, biG_fl, biG_kl, biG_int, biG_bl, biG_str, biG_two, biG_r0, biG_r1, biG_r2, cmpG_int, cmpG_bl, cmpG_str, cmpG_tup, cmpG_fl, cmpG_non, cw_eq, cw_ne, cw_lt, cw_le, cw_gt, cw_ge, cw_eqb, cw_neb, cw_eqs, cw_nes, bw_add, bw_sub, nw, sub_tup, sub_fl, sub_kl, sub_r0, sub_r1, sub_r2, len_tup, len_fl, len_kl, len_r0, len_r1, tuple_fl, tuple_r0, tuple_r1, list_fl, list_tup, list_kl, items_tup, items_fl, items_kl, ii_int, ib_int, is_int, it_int, il_int, itl_int, ii_tup, ib_tup, is_tup, it_tup, il_tup, itl_tup, ii_fl, ib_fl, is_fl, it_fl, il_fl, itl_fl, ii_str, ib_str, is_str, it_str, il_str, itl_str, ii_bl, ib_bl, is_bl, it_bl, il_bl, ii_non, ib_non, is_non, it_non, il_non, ↓reduceIte, Bool.not_true, Bool.not_false, Bool.false_eq_true, decide_true, decide_false, decide_eq_true_eq, Bool.true_eq_false, eq_self, not_true_eq_false, not_false_eq_true, List.length_cons, List.length_nil, Nat.reduceAdd, szl, tup_if, lst_if, and_self, wipeR, List.map_cons, List.map_nil, Nat.reduceLeDiff, Int.cast_ofNat_Int, Int.reduceNeg, Int.reduceEq, Int.reduceLE, Int.reduceLT, at0, at1, at2, at3, st_met, un_met, c_met, s1_met]
theorem e_chosen (a0 a1 a2 : W) (st : Sto) : m_chosen [a0, a1, a2] st = .ok (.tup [.str "chosen", a0, a1, a2]) st := by
  refine OkR.eq ?_
  rw [un_chosen, OkR_runD, st_chosen]
  simp only [OkR_ok, OkS_nx, OkS_rt, OkS_bk, OkS_ct, OkS_go, OkS_seq, OkR_bd, bd_ok, go_ok, seq_nx, seq_rt, ofO_some, ofO_pure, run_bind, run_pure, evalSs, evalS, evalE, evalEs, evalT, evalTAnd, evalTOr, evalAnd, evalOr, evalI, evalO, Vm.evalAll, intO, bT_name, bT_tup, bTs_nil, bTs_cons, Option.bind_some, List.set_cons_zero, List.set_cons_succ, var_zero, var_succ, asB_bl, Vm.isNon, biG_tup, biG_fl, biG_kl, biG_int, biG_bl, biG_str, biG_two, biG_r0, biG_r1, biG_r2, cmpG_int, cmpG_bl, cmpG_str, cmpG_tup, cmpG_fl, cmpG_non, cw_eq, cw_ne, cw_lt, cw_le, cw_gt, cw_ge, cw_eqb, cw_neb, cw_eqs, cw_nes, bw_add, bw_sub, nw, sub_tup, sub_fl, sub_kl, sub_r0, sub_r1, sub_r2, len_tup, len_fl, len_kl, len_r0, len_r1, tuple_fl, tuple_r0, tuple_r1, list_fl, list_tup, list_kl, items_tup, items_fl, items_kl, ii_int, ib_int, is_int, it_int, il_int, itl_int, ii_tup, ib_tup, is_tup, it_tup, il_tup, itl_tup, ii_fl, ib_fl, is_fl, it_fl, il_fl, itl_fl, ii_str, ib_str, is_str, it_str, il_str, itl_str, ii_bl, ib_bl, is_bl, it_bl, il_bl, ii_non, ib_non, is_non, it_non, il_non, ↓reduceIte, Bool.not_true, Bool.not_false, Bool.false_eq_true, decide_true, decide_false, decide_eq_true_eq, Bool.true_eq_false, eq_self, not_true_eq_false, not_false_eq_true, List.length_cons, List.length_nil, Nat.reduceAdd, szl, tup_if, lst_if, and_self, wipeR, List.map_cons, List.map_nil, Nat.reduceLeDiff, Int.cast_ofNat_Int, Int.reduceNeg, Int.reduceEq, Int.reduceLE, Int.reduceLT, at0, at1, at2, at3, st_chosen, un_chosen, c_chosen, s1_chosen]
theorem e_own (a0 a1 : W) (st : Sto) : m_own [a0, a1] st = .ok (.tup [.str "own", a0, a1]) st := by
  refine OkR.eq ?_
  rw [un_own, OkR_runD, st_own]
  simp only [OkR_ok, OkS_nx, OkS_rt, OkS_bk, OkS_ct, OkS_go, OkS_seq, OkR_bd, bd_ok, go_ok, seq_nx, seq_rt, ofO_some, ofO_pure, run_bind, run_pure, evalSs, evalS, evalE, evalEs, evalT, evalTAnd, evalTOr, evalAnd, evalOr, evalI, evalO, Vm.evalAll, intO, bT_name, bT_tup, bTs_nil, bTs_cons, Option.bind_some, List.set_cons_zero, List.set_cons_succ, var_zero, var_succ, asB_bl, Vm.isNon, biG_tup, biG_fl, biG_kl, biG_int, biG_bl, biG_str, biG_two, biG_r0, biG_r1, biG_r2, cmpG_int, cmpG_bl, cmpG_str, cmpG_tup, cmpG_fl, cmpG_non, cw_eq, cw_ne, cw_lt, cw_le, cw_gt, cw_ge, cw_eqb, cw_neb, cw_eqs, cw_nes, bw_add, bw_sub, nw, sub_tup, sub_fl, sub_kl, sub_r0, sub_r1, sub_r2, len_tup, len_fl, len_kl, len_r0, len_r1, tuple_fl, tuple_r0, tuple_r1, list_fl, list_tup, list_kl, items_tup, items_fl, items_kl, ii_int, ib_int, is_int, it_int, il_int, itl_int, ii_tup, ib_tup, is_tup, it_tup, il_tup, itl_tup, ii_fl, ib_fl, is_fl, it_fl, il_fl, itl_fl, ii_str, ib_str, is_str, it_str, il_str, itl_str, ii_bl, ib_bl, is_bl, it_bl, il_bl, ii_non, ib_non, is_non, it_non, il_non, ↓reduceIte, Bool.not_true, Bool.not_false, Bool.false_eq_true, decide_true, decide_false, decide_eq_true_eq, Bool.true_eq_false, eq_self, not_true_eq_false, not_false_eq_true, List.length_cons, List.length_nil, Nat.reduceAdd, szl, tup_if, lst_if, and_self, wipeR, List.map_cons, List.map_nil, Nat.reduceLeDiff, Int.cast_ofNat_Int, Int.reduceNeg, Int.reduceEq, Int.reduceLE, Int.reduceLT, at0, at1, at2, at3, st_own, un_own, c_own, s1_own]

theorem cat_ff {xs ys : List W} {st : Sto} (h : xs.length + ys.length ≤ 1000) : catW false (.fl xs) (.fl ys) st = .ok (.fl (xs ++ ys)) st := by
  have h1 : xs.length + ys.length ≤ sizeLine := Nat.le_trans h (by decide)
  have h2 : (xs ++ ys).length ≤ 16777216 := by rw [List.length_append]; omega
  simp only [catW, itemsU, run_bind, run_pure, bd_ok]
  rw [if_pos h1, lcEnd_f h2]
/-- the things that are handed in -/
def Th : List W := [.non, .bl true, .int 0, .int (-7), .int 100000000000000000000, .str "", .str "name", .str "near", .tup [], .tup [.tup [.int 1, .int 2], .tup [.int 3, .int 4]], .fl [], .fl [.int 1], .fd [] [], .fd [.inr "a"] [.int 1], .tup [.int 0, .int 0, .int 4, .int 4]]
theorem th_plain {w : W} (h : w ∈ Th) : Plain 2 w := by
  have two : ∀ a b : Int, Plain 1 (.tup [.int a, .int b]) := fun a b => .tup (by simp; exact ⟨.int _, .int _⟩) (by simp)
  simp only [Th, List.mem_cons, List.not_mem_nil, or_false] at h
  rcases h with rfl | rfl | rfl | rfl | rfl | rfl | rfl | rfl | rfl | rfl | rfl | rfl | rfl | rfl | rfl
  · exact .non
  · exact .bl _
  · exact .int _
  · exact .int _
  · exact .int _
  · exact .str _
  · exact .str _
  · exact .str _
  · exact .tup (by simp) (by decide)
  · exact .tup (by simp; exact ⟨two _ _, two _ _⟩) (by decide)
  · exact .fl (by simp) (by decide)
  · exact .fl (by simp; exact .int _) (by decide)
  · exact .fd (by decide)
  · exact .fd (by decide)
  · exact .tup (by simp; exact ⟨.int _, .int _⟩) (by simp)
end VmL
namespace VmL
open PySem L2 Vm

theorem cp20 : CPow 10 20 := ⟨by decide, by decide, by decide⟩
theorem e_thing {k : Nat} {po : O} (hp : PenO (k + 1) po) (rest : Sto) : ∃ w po', m__law_thing [.ref 0] (po :: rest) = .ok w (po' :: rest) ∧ w ∈ Th ∧ PenO k po' := by
  obtain ⟨d, po', q, d0, d1, h'⟩ := e_draw (k := k) (many := 15) hp (by decide) (by decide) rest
  obtain ⟨w, hw⟩ : ∃ w, Th[d.toNat]? = some w := ⟨Th[d.toNat]'(by show d.toNat < 15; omega), List.getElem?_eq_getElem _⟩
  have ha : ∀ st, atW Th d st = .ok w st := fun st => at_ok (atI_z d0 hw)
  refine ⟨w, po', OkR.eq ?_, List.mem_of_getElem? hw, h'⟩
  rw [un__law_thing, OkR_runD, st__law_thing]
  have p20 : (10 : Int) ^ (20 : Int).toNat = 100000000000000000000 := by decide
  simp only [OkR_ok, OkS_nx, OkS_rt, OkS_bk, OkS_ct, OkS_go, OkS_seq, OkR_bd, bd_ok, go_ok, seq_nx, seq_rt, ofO_some, ofO_pure, run_bind, run_pure, evalSs, evalS, evalE, evalEs, evalT, evalTAnd, evalTOr, evalAnd, evalOr, evalI, evalO, Vm.evalAll, intO, bT_name, bT_tup, bTs_nil, bTs_cons, Option.bind_some, List.set_cons_zero, List.set_cons_succ, var_zero, var_succ, asB_bl, Vm.isNon, biG_tup, biG_fl, biG_kl, biG_int, biG_bl, biG_str, biG_two, biG_r0, biG_r1, biG_r2, cmpG_int, cmpG_bl, cmpG_str, cmpG_tup, cmpG_fl, cmpG_non, cw_eq, cw_ne, cw_lt, cw_le, cw_gt, cw_ge, cw_eqb, cw_neb, cw_eqs, cw_nes, bw_add, bw_sub, nw, sub_tup, sub_fl, sub_kl, sub_r0, sub_r1, sub_r2, len_tup, len_fl, len_kl, len_r0, len_r1, tuple_fl, tuple_r0, tuple_r1, list_fl, list_tup, list_kl, items_tup, items_fl, items_kl, ii_int, ib_int, is_int, it_int, il_int, itl_int, ii_tup, ib_tup, is_tup, it_tup, il_tup, itl_tup, ii_fl, ib_fl, is_fl, it_fl, il_fl, itl_fl, ii_str, ib_str, is_str, it_str, il_str, itl_str, ii_bl, ib_bl, is_bl, it_bl, il_bl, ii_non, ib_non, is_non, it_non, il_non, ↓reduceIte, Bool.not_true, Bool.not_false, Bool.false_eq_true, decide_true, decide_false, decide_eq_true_eq, Bool.true_eq_false, eq_self, not_true_eq_false, not_false_eq_true, List.length_cons, List.length_nil, Nat.reduceAdd, szl, tup_if, lst_if, and_self, wipeR, List.map_cons, List.map_nil, Nat.reduceLeDiff, Int.cast_ofNat_Int, Int.reduceNeg, Int.reduceEq, Int.reduceLE, Int.reduceLT, at0, at1, at2, at3, st__law_thing, un__law_thing, q2__law_draw_2, c__law_thing, s1__law_thing, bw_pow cp20, p20]
  simp only [OkR_ok, OkS_nx, OkS_rt, OkS_bk, OkS_ct, OkS_go, OkS_seq, OkR_bd, bd_ok, go_ok, seq_nx, seq_rt, ofO_some, ofO_pure, run_bind, run_pure, evalSs, evalS, evalE, evalEs, evalT, evalTAnd, evalTOr, evalAnd, evalOr, evalI, evalO, Vm.evalAll, intO, bT_name, bT_tup, bTs_nil, bTs_cons, Option.bind_some, List.set_cons_zero, List.set_cons_succ, var_zero, var_succ, asB_bl, Vm.isNon, biG_tup, biG_fl, biG_kl, biG_int, biG_bl, biG_str, biG_two, biG_r0, biG_r1, biG_r2, cmpG_int, cmpG_bl, cmpG_str, cmpG_tup, cmpG_fl, cmpG_non, cw_eq, cw_ne, cw_lt, cw_le, cw_gt, cw_ge, cw_eqb, cw_neb, cw_eqs, cw_nes, bw_add, bw_sub, nw, sub_tup, sub_fl, sub_kl, sub_r0, sub_r1, sub_r2, len_tup, len_fl, len_kl, len_r0, len_r1, tuple_fl, tuple_r0, tuple_r1, list_fl, list_tup, list_kl, items_tup, items_fl, items_kl, ii_int, ib_int, is_int, it_int, il_int, itl_int, ii_tup, ib_tup, is_tup, it_tup, il_tup, itl_tup, ii_fl, ib_fl, is_fl, it_fl, il_fl, itl_fl, ii_str, ib_str, is_str, it_str, il_str, itl_str, ii_bl, ib_bl, is_bl, it_bl, il_bl, ii_non, ib_non, is_non, it_non, il_non, ↓reduceIte, Bool.not_true, Bool.not_false, Bool.false_eq_true, decide_true, decide_false, decide_eq_true_eq, Bool.true_eq_false, eq_self, not_true_eq_false, not_false_eq_true, List.length_cons, List.length_nil, Nat.reduceAdd, szl, tup_if, lst_if, and_self, wipeR, List.map_cons, List.map_nil, Nat.reduceLeDiff, Int.cast_ofNat_Int, Int.reduceNeg, Int.reduceEq, Int.reduceLE, Int.reduceLT, at0, at1, at2, at3, st__law_thing, un__law_thing, q2__law_draw_2, c__law_thing, s2__law_thing, q]
  show OkR (atW Th d (po' :: rest)) _
  rw [ha]
  exact ⟨rfl, rfl⟩
theorem e_first {a b c d : W} (pa : Plain 2 a) (pb : Plain 2 b) (pc : Plain 2 c) (pd : Plain 2 d) (st : Sto) : m__law_first_right [a, b, c, d] st = .ok (.bl true) st := by
  refine OkR.eq ?_
  rw [un__law_first_right, OkR_runD, st__law_first_right]
  simp only [OkR_ok, OkS_nx, OkS_rt, OkS_bk, OkS_ct, OkS_go, OkS_seq, OkR_bd, bd_ok, go_ok, seq_nx, seq_rt, ofO_some, ofO_pure, run_bind, run_pure, evalSs, evalS, evalE, evalEs, evalT, evalTAnd, evalTOr, evalAnd, evalOr, evalI, evalO, Vm.evalAll, intO, bT_name, bT_tup, bTs_nil, bTs_cons, Option.bind_some, List.set_cons_zero, List.set_cons_succ, var_zero, var_succ, asB_bl, Vm.isNon, biG_tup, biG_fl, biG_kl, biG_int, biG_bl, biG_str, biG_two, biG_r0, biG_r1, biG_r2, cmpG_int, cmpG_bl, cmpG_str, cmpG_tup, cmpG_fl, cmpG_non, cw_eq, cw_ne, cw_lt, cw_le, cw_gt, cw_ge, cw_eqb, cw_neb, cw_eqs, cw_nes, bw_add, bw_sub, nw, sub_tup, sub_fl, sub_kl, sub_r0, sub_r1, sub_r2, len_tup, len_fl, len_kl, len_r0, len_r1, tuple_fl, tuple_r0, tuple_r1, list_fl, list_tup, list_kl, items_tup, items_fl, items_kl, ii_int, ib_int, is_int, it_int, il_int, itl_int, ii_tup, ib_tup, is_tup, it_tup, il_tup, itl_tup, ii_fl, ib_fl, is_fl, it_fl, il_fl, itl_fl, ii_str, ib_str, is_str, it_str, il_str, itl_str, ii_bl, ib_bl, is_bl, it_bl, il_bl, ii_non, ib_non, is_non, it_non, il_non, ↓reduceIte, Bool.not_true, Bool.not_false, Bool.false_eq_true, decide_true, decide_false, decide_eq_true_eq, Bool.true_eq_false, eq_self, not_true_eq_false, not_false_eq_true, List.length_cons, List.length_nil, Nat.reduceAdd, szl, tup_if, lst_if, and_self, wipeR, List.map_cons, List.map_nil, Nat.reduceLeDiff, Int.cast_ofNat_Int, Int.reduceNeg, Int.reduceEq, Int.reduceLE, Int.reduceLT, at0, at1, at2, at3, st__law_first_right, un__law_first_right, q2__law_same_2, q2_source_1, q2_source_1_border, q2_framed_2, q2_framed_2_border, q2_moved_1, q2_moved_1_right, q2_moved_1_down, q2_moved_1_down_right, q2_flipped_1, q2_flipped_1_across, q2_turned_1, q2_curved_2, q2_curved_2_depth, q2_lifted_2, q2_unlifted_2, q2_mixed_2, q2_mixed_2_by, q2_mixed_2_plus, q2_mixed_2_plus_by, q2_filtered_2, q2_filtered_2_by_plus, c__law_first_right, s1__law_first_right, e_source, e_framed, e_moved, e_flipped, e_turned, e_curved, e_lifted, e_unlifted, e_mixed, e_filtered, e_ranked, e_reduced, e_enlarged, e_near_band, e_far_band, e_paired, e_summed, e_unsummed, e_levelled, e_met, e_chosen, e_own]
  simp only [OkR_ok, OkS_nx, OkS_rt, OkS_bk, OkS_ct, OkS_go, OkS_seq, OkR_bd, bd_ok, go_ok, seq_nx, seq_rt, ofO_some, ofO_pure, run_bind, run_pure, evalSs, evalS, evalE, evalEs, evalT, evalTAnd, evalTOr, evalAnd, evalOr, evalI, evalO, Vm.evalAll, intO, bT_name, bT_tup, bTs_nil, bTs_cons, Option.bind_some, List.set_cons_zero, List.set_cons_succ, var_zero, var_succ, asB_bl, Vm.isNon, biG_tup, biG_fl, biG_kl, biG_int, biG_bl, biG_str, biG_two, biG_r0, biG_r1, biG_r2, cmpG_int, cmpG_bl, cmpG_str, cmpG_tup, cmpG_fl, cmpG_non, cw_eq, cw_ne, cw_lt, cw_le, cw_gt, cw_ge, cw_eqb, cw_neb, cw_eqs, cw_nes, bw_add, bw_sub, nw, sub_tup, sub_fl, sub_kl, sub_r0, sub_r1, sub_r2, len_tup, len_fl, len_kl, len_r0, len_r1, tuple_fl, tuple_r0, tuple_r1, list_fl, list_tup, list_kl, items_tup, items_fl, items_kl, ii_int, ib_int, is_int, it_int, il_int, itl_int, ii_tup, ib_tup, is_tup, it_tup, il_tup, itl_tup, ii_fl, ib_fl, is_fl, it_fl, il_fl, itl_fl, ii_str, ib_str, is_str, it_str, il_str, itl_str, ii_bl, ib_bl, is_bl, it_bl, il_bl, ii_non, ib_non, is_non, it_non, il_non, ↓reduceIte, Bool.not_true, Bool.not_false, Bool.false_eq_true, decide_true, decide_false, decide_eq_true_eq, Bool.true_eq_false, eq_self, not_true_eq_false, not_false_eq_true, List.length_cons, List.length_nil, Nat.reduceAdd, szl, tup_if, lst_if, and_self, wipeR, List.map_cons, List.map_nil, Nat.reduceLeDiff, Int.cast_ofNat_Int, Int.reduceNeg, Int.reduceEq, Int.reduceLE, Int.reduceLT, at0, at1, at2, at3, st__law_first_right, un__law_first_right, q2__law_same_2, q2_source_1, q2_source_1_border, q2_framed_2, q2_framed_2_border, q2_moved_1, q2_moved_1_right, q2_moved_1_down, q2_moved_1_down_right, q2_flipped_1, q2_flipped_1_across, q2_turned_1, q2_curved_2, q2_curved_2_depth, q2_lifted_2, q2_unlifted_2, q2_mixed_2, q2_mixed_2_by, q2_mixed_2_plus, q2_mixed_2_plus_by, q2_filtered_2, q2_filtered_2_by_plus, c__law_first_right, s2__law_first_right]
  simp (disch := simp) only [OkR_ok, OkS_nx, OkS_rt, OkS_bk, OkS_ct, OkS_go, OkS_seq, OkR_bd, bd_ok, go_ok, seq_nx, seq_rt, ofO_some, ofO_pure, run_bind, run_pure, evalSs, evalS, evalE, evalEs, evalT, evalTAnd, evalTOr, evalAnd, evalOr, evalI, evalO, Vm.evalAll, intO, bT_name, bT_tup, bTs_nil, bTs_cons, Option.bind_some, List.set_cons_zero, List.set_cons_succ, var_zero, var_succ, asB_bl, Vm.isNon, biG_tup, biG_fl, biG_kl, biG_int, biG_bl, biG_str, biG_two, biG_r0, biG_r1, biG_r2, cmpG_int, cmpG_bl, cmpG_str, cmpG_tup, cmpG_fl, cmpG_non, cw_eq, cw_ne, cw_lt, cw_le, cw_gt, cw_ge, cw_eqb, cw_neb, cw_eqs, cw_nes, bw_add, bw_sub, nw, sub_tup, sub_fl, sub_kl, sub_r0, sub_r1, sub_r2, len_tup, len_fl, len_kl, len_r0, len_r1, tuple_fl, tuple_r0, tuple_r1, list_fl, list_tup, list_kl, items_tup, items_fl, items_kl, ii_int, ib_int, is_int, it_int, il_int, itl_int, ii_tup, ib_tup, is_tup, it_tup, il_tup, itl_tup, ii_fl, ib_fl, is_fl, it_fl, il_fl, itl_fl, ii_str, ib_str, is_str, it_str, il_str, itl_str, ii_bl, ib_bl, is_bl, it_bl, il_bl, ii_non, ib_non, is_non, it_non, il_non, ↓reduceIte, Bool.not_true, Bool.not_false, Bool.false_eq_true, decide_true, decide_false, decide_eq_true_eq, Bool.true_eq_false, eq_self, not_true_eq_false, not_false_eq_true, List.length_cons, List.length_nil, Nat.reduceAdd, szl, tup_if, lst_if, and_self, wipeR, List.map_cons, List.map_nil, Nat.reduceLeDiff, Int.cast_ofNat_Int, Int.reduceNeg, Int.reduceEq, Int.reduceLE, Int.reduceLT, at0, at1, at2, at3, st__law_first_right, un__law_first_right, q2__law_same_2, q2_source_1, q2_source_1_border, q2_framed_2, q2_framed_2_border, q2_moved_1, q2_moved_1_right, q2_moved_1_down, q2_moved_1_down_right, q2_flipped_1, q2_flipped_1_across, q2_turned_1, q2_curved_2, q2_curved_2_depth, q2_lifted_2, q2_unlifted_2, q2_mixed_2, q2_mixed_2_by, q2_mixed_2_plus, q2_mixed_2_plus_by, q2_filtered_2, q2_filtered_2_by_plus, c__law_first_right, s3__law_first_right, cat_ff, List.cons_append, List.nil_append]
  simp (disch := simp) only [OkR_ok, OkS_nx, OkS_rt, OkS_bk, OkS_ct, OkS_go, OkS_seq, OkR_bd, bd_ok, go_ok, seq_nx, seq_rt, ofO_some, ofO_pure, run_bind, run_pure, evalSs, evalS, evalE, evalEs, evalT, evalTAnd, evalTOr, evalAnd, evalOr, evalI, evalO, Vm.evalAll, intO, bT_name, bT_tup, bTs_nil, bTs_cons, Option.bind_some, List.set_cons_zero, List.set_cons_succ, var_zero, var_succ, asB_bl, Vm.isNon, biG_tup, biG_fl, biG_kl, biG_int, biG_bl, biG_str, biG_two, biG_r0, biG_r1, biG_r2, cmpG_int, cmpG_bl, cmpG_str, cmpG_tup, cmpG_fl, cmpG_non, cw_eq, cw_ne, cw_lt, cw_le, cw_gt, cw_ge, cw_eqb, cw_neb, cw_eqs, cw_nes, bw_add, bw_sub, nw, sub_tup, sub_fl, sub_kl, sub_r0, sub_r1, sub_r2, len_tup, len_fl, len_kl, len_r0, len_r1, tuple_fl, tuple_r0, tuple_r1, list_fl, list_tup, list_kl, items_tup, items_fl, items_kl, ii_int, ib_int, is_int, it_int, il_int, itl_int, ii_tup, ib_tup, is_tup, it_tup, il_tup, itl_tup, ii_fl, ib_fl, is_fl, it_fl, il_fl, itl_fl, ii_str, ib_str, is_str, it_str, il_str, itl_str, ii_bl, ib_bl, is_bl, it_bl, il_bl, ii_non, ib_non, is_non, it_non, il_non, ↓reduceIte, Bool.not_true, Bool.not_false, Bool.false_eq_true, decide_true, decide_false, decide_eq_true_eq, Bool.true_eq_false, eq_self, not_true_eq_false, not_false_eq_true, List.length_cons, List.length_nil, Nat.reduceAdd, szl, tup_if, lst_if, and_self, wipeR, List.map_cons, List.map_nil, Nat.reduceLeDiff, Int.cast_ofNat_Int, Int.reduceNeg, Int.reduceEq, Int.reduceLE, Int.reduceLT, at0, at1, at2, at3, st__law_first_right, un__law_first_right, q2__law_same_2, q2_source_1, q2_source_1_border, q2_framed_2, q2_framed_2_border, q2_moved_1, q2_moved_1_right, q2_moved_1_down, q2_moved_1_down_right, q2_flipped_1, q2_flipped_1_across, q2_turned_1, q2_curved_2, q2_curved_2_depth, q2_lifted_2, q2_unlifted_2, q2_mixed_2, q2_mixed_2_by, q2_mixed_2_plus, q2_mixed_2_plus_by, q2_filtered_2, q2_filtered_2_by_plus, c__law_first_right, s4__law_first_right, e_source, e_framed, e_moved, e_flipped, e_turned, e_curved, e_lifted, e_unlifted, e_mixed, e_filtered, e_ranked, e_reduced, e_enlarged, e_near_band, e_far_band, e_paired, e_summed, e_unsummed, e_levelled, e_met, e_chosen, e_own, cat_ff, List.cons_append, List.nil_append]
  simp (disch := simp) only [OkR_ok, OkS_nx, OkS_rt, OkS_bk, OkS_ct, OkS_go, OkS_seq, OkR_bd, bd_ok, go_ok, seq_nx, seq_rt, ofO_some, ofO_pure, run_bind, run_pure, evalSs, evalS, evalE, evalEs, evalT, evalTAnd, evalTOr, evalAnd, evalOr, evalI, evalO, Vm.evalAll, intO, bT_name, bT_tup, bTs_nil, bTs_cons, Option.bind_some, List.set_cons_zero, List.set_cons_succ, var_zero, var_succ, asB_bl, Vm.isNon, biG_tup, biG_fl, biG_kl, biG_int, biG_bl, biG_str, biG_two, biG_r0, biG_r1, biG_r2, cmpG_int, cmpG_bl, cmpG_str, cmpG_tup, cmpG_fl, cmpG_non, cw_eq, cw_ne, cw_lt, cw_le, cw_gt, cw_ge, cw_eqb, cw_neb, cw_eqs, cw_nes, bw_add, bw_sub, nw, sub_tup, sub_fl, sub_kl, sub_r0, sub_r1, sub_r2, len_tup, len_fl, len_kl, len_r0, len_r1, tuple_fl, tuple_r0, tuple_r1, list_fl, list_tup, list_kl, items_tup, items_fl, items_kl, ii_int, ib_int, is_int, it_int, il_int, itl_int, ii_tup, ib_tup, is_tup, it_tup, il_tup, itl_tup, ii_fl, ib_fl, is_fl, it_fl, il_fl, itl_fl, ii_str, ib_str, is_str, it_str, il_str, itl_str, ii_bl, ib_bl, is_bl, it_bl, il_bl, ii_non, ib_non, is_non, it_non, il_non, ↓reduceIte, Bool.not_true, Bool.not_false, Bool.false_eq_true, decide_true, decide_false, decide_eq_true_eq, Bool.true_eq_false, eq_self, not_true_eq_false, not_false_eq_true, List.length_cons, List.length_nil, Nat.reduceAdd, szl, tup_if, lst_if, and_self, wipeR, List.map_cons, List.map_nil, Nat.reduceLeDiff, Int.cast_ofNat_Int, Int.reduceNeg, Int.reduceEq, Int.reduceLE, Int.reduceLT, at0, at1, at2, at3, st__law_first_right, un__law_first_right, q2__law_same_2, q2_source_1, q2_source_1_border, q2_framed_2, q2_framed_2_border, q2_moved_1, q2_moved_1_right, q2_moved_1_down, q2_moved_1_down_right, q2_flipped_1, q2_flipped_1_across, q2_turned_1, q2_curved_2, q2_curved_2_depth, q2_lifted_2, q2_unlifted_2, q2_mixed_2, q2_mixed_2_by, q2_mixed_2_plus, q2_mixed_2_plus_by, q2_filtered_2, q2_filtered_2_by_plus, c__law_first_right, s5__law_first_right, cat_ff, List.cons_append, List.nil_append]
  simp (disch := simp) only [OkR_ok, OkS_nx, OkS_rt, OkS_bk, OkS_ct, OkS_go, OkS_seq, OkR_bd, bd_ok, go_ok, seq_nx, seq_rt, ofO_some, ofO_pure, run_bind, run_pure, evalSs, evalS, evalE, evalEs, evalT, evalTAnd, evalTOr, evalAnd, evalOr, evalI, evalO, Vm.evalAll, intO, bT_name, bT_tup, bTs_nil, bTs_cons, Option.bind_some, List.set_cons_zero, List.set_cons_succ, var_zero, var_succ, asB_bl, Vm.isNon, biG_tup, biG_fl, biG_kl, biG_int, biG_bl, biG_str, biG_two, biG_r0, biG_r1, biG_r2, cmpG_int, cmpG_bl, cmpG_str, cmpG_tup, cmpG_fl, cmpG_non, cw_eq, cw_ne, cw_lt, cw_le, cw_gt, cw_ge, cw_eqb, cw_neb, cw_eqs, cw_nes, bw_add, bw_sub, nw, sub_tup, sub_fl, sub_kl, sub_r0, sub_r1, sub_r2, len_tup, len_fl, len_kl, len_r0, len_r1, tuple_fl, tuple_r0, tuple_r1, list_fl, list_tup, list_kl, items_tup, items_fl, items_kl, ii_int, ib_int, is_int, it_int, il_int, itl_int, ii_tup, ib_tup, is_tup, it_tup, il_tup, itl_tup, ii_fl, ib_fl, is_fl, it_fl, il_fl, itl_fl, ii_str, ib_str, is_str, it_str, il_str, itl_str, ii_bl, ib_bl, is_bl, it_bl, il_bl, ii_non, ib_non, is_non, it_non, il_non, ↓reduceIte, Bool.not_true, Bool.not_false, Bool.false_eq_true, decide_true, decide_false, decide_eq_true_eq, Bool.true_eq_false, eq_self, not_true_eq_false, not_false_eq_true, List.length_cons, List.length_nil, Nat.reduceAdd, szl, tup_if, lst_if, and_self, wipeR, List.map_cons, List.map_nil, Nat.reduceLeDiff, Int.cast_ofNat_Int, Int.reduceNeg, Int.reduceEq, Int.reduceLE, Int.reduceLT, at0, at1, at2, at3, st__law_first_right, un__law_first_right, q2__law_same_2, q2_source_1, q2_source_1_border, q2_framed_2, q2_framed_2_border, q2_moved_1, q2_moved_1_right, q2_moved_1_down, q2_moved_1_down_right, q2_flipped_1, q2_flipped_1_across, q2_turned_1, q2_curved_2, q2_curved_2_depth, q2_lifted_2, q2_unlifted_2, q2_mixed_2, q2_mixed_2_by, q2_mixed_2_plus, q2_mixed_2_plus_by, q2_filtered_2, q2_filtered_2_by_plus, c__law_first_right, s6__law_first_right, e_source, e_framed, e_moved, e_flipped, e_turned, e_curved, e_lifted, e_unlifted, e_mixed, e_filtered, e_ranked, e_reduced, e_enlarged, e_near_band, e_far_band, e_paired, e_summed, e_unsummed, e_levelled, e_met, e_chosen, e_own, cat_ff, List.cons_append, List.nil_append]
  simp (disch := simp) only [OkR_ok, OkS_nx, OkS_rt, OkS_bk, OkS_ct, OkS_go, OkS_seq, OkR_bd, bd_ok, go_ok, seq_nx, seq_rt, ofO_some, ofO_pure, run_bind, run_pure, evalSs, evalS, evalE, evalEs, evalT, evalTAnd, evalTOr, evalAnd, evalOr, evalI, evalO, Vm.evalAll, intO, bT_name, bT_tup, bTs_nil, bTs_cons, Option.bind_some, List.set_cons_zero, List.set_cons_succ, var_zero, var_succ, asB_bl, Vm.isNon, biG_tup, biG_fl, biG_kl, biG_int, biG_bl, biG_str, biG_two, biG_r0, biG_r1, biG_r2, cmpG_int, cmpG_bl, cmpG_str, cmpG_tup, cmpG_fl, cmpG_non, cw_eq, cw_ne, cw_lt, cw_le, cw_gt, cw_ge, cw_eqb, cw_neb, cw_eqs, cw_nes, bw_add, bw_sub, nw, sub_tup, sub_fl, sub_kl, sub_r0, sub_r1, sub_r2, len_tup, len_fl, len_kl, len_r0, len_r1, tuple_fl, tuple_r0, tuple_r1, list_fl, list_tup, list_kl, items_tup, items_fl, items_kl, ii_int, ib_int, is_int, it_int, il_int, itl_int, ii_tup, ib_tup, is_tup, it_tup, il_tup, itl_tup, ii_fl, ib_fl, is_fl, it_fl, il_fl, itl_fl, ii_str, ib_str, is_str, it_str, il_str, itl_str, ii_bl, ib_bl, is_bl, it_bl, il_bl, ii_non, ib_non, is_non, it_non, il_non, ↓reduceIte, Bool.not_true, Bool.not_false, Bool.false_eq_true, decide_true, decide_false, decide_eq_true_eq, Bool.true_eq_false, eq_self, not_true_eq_false, not_false_eq_true, List.length_cons, List.length_nil, Nat.reduceAdd, szl, tup_if, lst_if, and_self, wipeR, List.map_cons, List.map_nil, Nat.reduceLeDiff, Int.cast_ofNat_Int, Int.reduceNeg, Int.reduceEq, Int.reduceLE, Int.reduceLT, at0, at1, at2, at3, st__law_first_right, un__law_first_right, q2__law_same_2, q2_source_1, q2_source_1_border, q2_framed_2, q2_framed_2_border, q2_moved_1, q2_moved_1_right, q2_moved_1_down, q2_moved_1_down_right, q2_flipped_1, q2_flipped_1_across, q2_turned_1, q2_curved_2, q2_curved_2_depth, q2_lifted_2, q2_unlifted_2, q2_mixed_2, q2_mixed_2_by, q2_mixed_2_plus, q2_mixed_2_plus_by, q2_filtered_2, q2_filtered_2_by_plus, c__law_first_right, s7__law_first_right, e_source, e_framed, e_moved, e_flipped, e_turned, e_curved, e_lifted, e_unlifted, e_mixed, e_filtered, e_ranked, e_reduced, e_enlarged, e_near_band, e_far_band, e_paired, e_summed, e_unsummed, e_levelled, e_met, e_chosen, e_own, cat_ff, List.cons_append, List.nil_append]
  simp (disch := simp) only [OkR_ok, OkS_nx, OkS_rt, OkS_bk, OkS_ct, OkS_go, OkS_seq, OkR_bd, bd_ok, go_ok, seq_nx, seq_rt, ofO_some, ofO_pure, run_bind, run_pure, evalSs, evalS, evalE, evalEs, evalT, evalTAnd, evalTOr, evalAnd, evalOr, evalI, evalO, Vm.evalAll, intO, bT_name, bT_tup, bTs_nil, bTs_cons, Option.bind_some, List.set_cons_zero, List.set_cons_succ, var_zero, var_succ, asB_bl, Vm.isNon, biG_tup, biG_fl, biG_kl, biG_int, biG_bl, biG_str, biG_two, biG_r0, biG_r1, biG_r2, cmpG_int, cmpG_bl, cmpG_str, cmpG_tup, cmpG_fl, cmpG_non, cw_eq, cw_ne, cw_lt, cw_le, cw_gt, cw_ge, cw_eqb, cw_neb, cw_eqs, cw_nes, bw_add, bw_sub, nw, sub_tup, sub_fl, sub_kl, sub_r0, sub_r1, sub_r2, len_tup, len_fl, len_kl, len_r0, len_r1, tuple_fl, tuple_r0, tuple_r1, list_fl, list_tup, list_kl, items_tup, items_fl, items_kl, ii_int, ib_int, is_int, it_int, il_int, itl_int, ii_tup, ib_tup, is_tup, it_tup, il_tup, itl_tup, ii_fl, ib_fl, is_fl, it_fl, il_fl, itl_fl, ii_str, ib_str, is_str, it_str, il_str, itl_str, ii_bl, ib_bl, is_bl, it_bl, il_bl, ii_non, ib_non, is_non, it_non, il_non, ↓reduceIte, Bool.not_true, Bool.not_false, Bool.false_eq_true, decide_true, decide_false, decide_eq_true_eq, Bool.true_eq_false, eq_self, not_true_eq_false, not_false_eq_true, List.length_cons, List.length_nil, Nat.reduceAdd, szl, tup_if, lst_if, and_self, wipeR, List.map_cons, List.map_nil, Nat.reduceLeDiff, Int.cast_ofNat_Int, Int.reduceNeg, Int.reduceEq, Int.reduceLE, Int.reduceLT, at0, at1, at2, at3, st__law_first_right, un__law_first_right, q2__law_same_2, q2_source_1, q2_source_1_border, q2_framed_2, q2_framed_2_border, q2_moved_1, q2_moved_1_right, q2_moved_1_down, q2_moved_1_down_right, q2_flipped_1, q2_flipped_1_across, q2_turned_1, q2_curved_2, q2_curved_2_depth, q2_lifted_2, q2_unlifted_2, q2_mixed_2, q2_mixed_2_by, q2_mixed_2_plus, q2_mixed_2_plus_by, q2_filtered_2, q2_filtered_2_by_plus, c__law_first_right, s8__law_first_right, e_source, e_framed, e_moved, e_flipped, e_turned, e_curved, e_lifted, e_unlifted, e_mixed, e_filtered, e_ranked, e_reduced, e_enlarged, e_near_band, e_far_band, e_paired, e_summed, e_unsummed, e_levelled, e_met, e_chosen, e_own, cat_ff, List.cons_append, List.nil_append]
  simp (disch := simp) only [OkR_ok, OkS_nx, OkS_rt, OkS_bk, OkS_ct, OkS_go, OkS_seq, OkR_bd, bd_ok, go_ok, seq_nx, seq_rt, ofO_some, ofO_pure, run_bind, run_pure, evalSs, evalS, evalE, evalEs, evalT, evalTAnd, evalTOr, evalAnd, evalOr, evalI, evalO, Vm.evalAll, intO, bT_name, bT_tup, bTs_nil, bTs_cons, Option.bind_some, List.set_cons_zero, List.set_cons_succ, var_zero, var_succ, asB_bl, Vm.isNon, biG_tup, biG_fl, biG_kl, biG_int, biG_bl, biG_str, biG_two, biG_r0, biG_r1, biG_r2, cmpG_int, cmpG_bl, cmpG_str, cmpG_tup, cmpG_fl, cmpG_non, cw_eq, cw_ne, cw_lt, cw_le, cw_gt, cw_ge, cw_eqb, cw_neb, cw_eqs, cw_nes, bw_add, bw_sub, nw, sub_tup, sub_fl, sub_kl, sub_r0, sub_r1, sub_r2, len_tup, len_fl, len_kl, len_r0, len_r1, tuple_fl, tuple_r0, tuple_r1, list_fl, list_tup, list_kl, items_tup, items_fl, items_kl, ii_int, ib_int, is_int, it_int, il_int, itl_int, ii_tup, ib_tup, is_tup, it_tup, il_tup, itl_tup, ii_fl, ib_fl, is_fl, it_fl, il_fl, itl_fl, ii_str, ib_str, is_str, it_str, il_str, itl_str, ii_bl, ib_bl, is_bl, it_bl, il_bl, ii_non, ib_non, is_non, it_non, il_non, ↓reduceIte, Bool.not_true, Bool.not_false, Bool.false_eq_true, decide_true, decide_false, decide_eq_true_eq, Bool.true_eq_false, eq_self, not_true_eq_false, not_false_eq_true, List.length_cons, List.length_nil, Nat.reduceAdd, szl, tup_if, lst_if, and_self, wipeR, List.map_cons, List.map_nil, Nat.reduceLeDiff, Int.cast_ofNat_Int, Int.reduceNeg, Int.reduceEq, Int.reduceLE, Int.reduceLT, at0, at1, at2, at3, st__law_first_right, un__law_first_right, q2__law_same_2, q2_source_1, q2_source_1_border, q2_framed_2, q2_framed_2_border, q2_moved_1, q2_moved_1_right, q2_moved_1_down, q2_moved_1_down_right, q2_flipped_1, q2_flipped_1_across, q2_turned_1, q2_curved_2, q2_curved_2_depth, q2_lifted_2, q2_unlifted_2, q2_mixed_2, q2_mixed_2_by, q2_mixed_2_plus, q2_mixed_2_plus_by, q2_filtered_2, q2_filtered_2_by_plus, c__law_first_right, s9__law_first_right, e_source, e_framed, e_moved, e_flipped, e_turned, e_curved, e_lifted, e_unlifted, e_mixed, e_filtered, e_ranked, e_reduced, e_enlarged, e_near_band, e_far_band, e_paired, e_summed, e_unsummed, e_levelled, e_met, e_chosen, e_own, cat_ff, List.cons_append, List.nil_append]
  simp (disch := simp) only [OkR_ok, OkS_nx, OkS_rt, OkS_bk, OkS_ct, OkS_go, OkS_seq, OkR_bd, bd_ok, go_ok, seq_nx, seq_rt, ofO_some, ofO_pure, run_bind, run_pure, evalSs, evalS, evalE, evalEs, evalT, evalTAnd, evalTOr, evalAnd, evalOr, evalI, evalO, Vm.evalAll, intO, bT_name, bT_tup, bTs_nil, bTs_cons, Option.bind_some, List.set_cons_zero, List.set_cons_succ, var_zero, var_succ, asB_bl, Vm.isNon, biG_tup, biG_fl, biG_kl, biG_int, biG_bl, biG_str, biG_two, biG_r0, biG_r1, biG_r2, cmpG_int, cmpG_bl, cmpG_str, cmpG_tup, cmpG_fl, cmpG_non, cw_eq, cw_ne, cw_lt, cw_le, cw_gt, cw_ge, cw_eqb, cw_neb, cw_eqs, cw_nes, bw_add, bw_sub, nw, sub_tup, sub_fl, sub_kl, sub_r0, sub_r1, sub_r2, len_tup, len_fl, len_kl, len_r0, len_r1, tuple_fl, tuple_r0, tuple_r1, list_fl, list_tup, list_kl, items_tup, items_fl, items_kl, ii_int, ib_int, is_int, it_int, il_int, itl_int, ii_tup, ib_tup, is_tup, it_tup, il_tup, itl_tup, ii_fl, ib_fl, is_fl, it_fl, il_fl, itl_fl, ii_str, ib_str, is_str, it_str, il_str, itl_str, ii_bl, ib_bl, is_bl, it_bl, il_bl, ii_non, ib_non, is_non, it_non, il_non, ↓reduceIte, Bool.not_true, Bool.not_false, Bool.false_eq_true, decide_true, decide_false, decide_eq_true_eq, Bool.true_eq_false, eq_self, not_true_eq_false, not_false_eq_true, List.length_cons, List.length_nil, Nat.reduceAdd, szl, tup_if, lst_if, and_self, wipeR, List.map_cons, List.map_nil, Nat.reduceLeDiff, Int.cast_ofNat_Int, Int.reduceNeg, Int.reduceEq, Int.reduceLE, Int.reduceLT, at0, at1, at2, at3, st__law_first_right, un__law_first_right, q2__law_same_2, q2_source_1, q2_source_1_border, q2_framed_2, q2_framed_2_border, q2_moved_1, q2_moved_1_right, q2_moved_1_down, q2_moved_1_down_right, q2_flipped_1, q2_flipped_1_across, q2_turned_1, q2_curved_2, q2_curved_2_depth, q2_lifted_2, q2_unlifted_2, q2_mixed_2, q2_mixed_2_by, q2_mixed_2_plus, q2_mixed_2_plus_by, q2_filtered_2, q2_filtered_2_by_plus, c__law_first_right, s10__law_first_right, e_source, e_framed, e_moved, e_flipped, e_turned, e_curved, e_lifted, e_unlifted, e_mixed, e_filtered, e_ranked, e_reduced, e_enlarged, e_near_band, e_far_band, e_paired, e_summed, e_unsummed, e_levelled, e_met, e_chosen, e_own, cat_ff, List.cons_append, List.nil_append]
  have pl : ∀ (f : Str) (xs : List W), (∀ x ∈ xs, Plain 2 x) → xs.length ≤ 10 → Plain 3 (.tup (.str f :: xs)) := fun f xs h hl => .tup (by
    intro x hx
    rcases List.mem_cons.mp hx with rfl | hx
    · exact .str _
    · exact h x hx) (by simp; omega)
  simp only [OkR_ok, OkS_nx, OkS_rt, OkS_bk, OkS_ct, OkS_go, OkS_seq, OkR_bd, bd_ok, go_ok, seq_nx, seq_rt, ofO_some, ofO_pure, run_bind, run_pure, evalSs, evalS, evalE, evalEs, evalT, evalTAnd, evalTOr, evalAnd, evalOr, evalI, evalO, Vm.evalAll, intO, bT_name, bT_tup, bTs_nil, bTs_cons, Option.bind_some, List.set_cons_zero, List.set_cons_succ, var_zero, var_succ, asB_bl, Vm.isNon, biG_tup, biG_fl, biG_kl, biG_int, biG_bl, biG_str, biG_two, biG_r0, biG_r1, biG_r2, cmpG_int, cmpG_bl, cmpG_str, cmpG_tup, cmpG_fl, cmpG_non, cw_eq, cw_ne, cw_lt, cw_le, cw_gt, cw_ge, cw_eqb, cw_neb, cw_eqs, cw_nes, bw_add, bw_sub, nw, sub_tup, sub_fl, sub_kl, sub_r0, sub_r1, sub_r2, len_tup, len_fl, len_kl, len_r0, len_r1, tuple_fl, tuple_r0, tuple_r1, list_fl, list_tup, list_kl, items_tup, items_fl, items_kl, ii_int, ib_int, is_int, it_int, il_int, itl_int, ii_tup, ib_tup, is_tup, it_tup, il_tup, itl_tup, ii_fl, ib_fl, is_fl, it_fl, il_fl, itl_fl, ii_str, ib_str, is_str, it_str, il_str, itl_str, ii_bl, ib_bl, is_bl, it_bl, il_bl, ii_non, ib_non, is_non, it_non, il_non, ↓reduceIte, Bool.not_true, Bool.not_false, Bool.false_eq_true, decide_true, decide_false, decide_eq_true_eq, Bool.true_eq_false, eq_self, not_true_eq_false, not_false_eq_true, List.length_cons, List.length_nil, Nat.reduceAdd, szl, tup_if, lst_if, and_self, wipeR, List.map_cons, List.map_nil, Nat.reduceLeDiff, Int.cast_ofNat_Int, Int.reduceNeg, Int.reduceEq, Int.reduceLE, Int.reduceLT, at0, at1, at2, at3, st__law_first_right, un__law_first_right, q2__law_same_2, q2_source_1, q2_source_1_border, q2_framed_2, q2_framed_2_border, q2_moved_1, q2_moved_1_right, q2_moved_1_down, q2_moved_1_down_right, q2_flipped_1, q2_flipped_1_across, q2_turned_1, q2_curved_2, q2_curved_2_depth, q2_lifted_2, q2_unlifted_2, q2_mixed_2, q2_mixed_2_by, q2_mixed_2_plus, q2_mixed_2_plus_by, q2_filtered_2, q2_filtered_2_by_plus, c__law_first_right, s11__law_first_right]
  rw [e_same (k := 4) (Plain.fl (k := 3) ?_ (by simp)) _ _ (by decide)]
  · exact ⟨rfl, rfl⟩
  · simp only [List.mem_cons, List.not_mem_nil, or_false]
    rintro x (rfl | rfl | rfl | rfl | rfl | rfl | rfl | rfl | rfl | rfl | rfl | rfl | rfl | rfl | rfl | rfl | rfl | rfl | rfl | rfl | rfl) <;> exact pl _ _ (by simp [pa, pb, pc, pd, Plain.int, Plain.str, Plain.bl, Plain.non]) (by simp)
end VmL
namespace VmL
open PySem L2 Vm

theorem iU_fl {xs : List W} {st : Sto} : itemsU (.fl xs) st = .ok xs st := rfl
theorem iU_at {pre post : Sto} {xs : List W} : itemsU (.ref pre.length) (pre ++ .lst xs :: post) = .ok xs (pre ++ .lst xs :: post) := by
  have e : (pre ++ O.lst xs :: post)[pre.length]? = some (.lst xs) := by simp
  simp only [itemsU, run_bind, getO, e, bd_ok]; rfl
theorem cat_rf {pre post : Sto} {xs ys : List W} (h : xs.length + ys.length ≤ 1000) : catW false (.ref pre.length) (.fl ys) (pre ++ .lst xs :: post) = .ok (.fl (xs ++ ys)) (pre ++ .lst xs :: post) := by
  have h1 : xs.length + ys.length ≤ sizeLine := Nat.le_trans h (by decide)
  have h2 : (xs ++ ys).length ≤ 16777216 := by rw [List.length_append]; omega
  simp only [catW, run_bind, iU_at, iU_fl, bd_ok]
  rw [if_pos h1, lcEnd_f h2]
theorem cat_ft {xs ys : List W} {st : Sto} (h : xs.length + ys.length ≤ 1000) : catW true (.fl xs) (.fl ys) st = .ok (.ref st.length) (st ++ [.lst (xs ++ ys)]) := by
  have h1 : xs.length + ys.length ≤ sizeLine := Nat.le_trans h (by decide)
  have h2 : (xs ++ ys).length ≤ 16777216 := by rw [List.length_append]; omega
  simp only [catW, run_bind, iU_fl, bd_ok]
  rw [if_pos h1, lcEnd_t h2]
theorem e_second {a b c d : W} (pa : Plain 2 a) (pb : Plain 2 b) (pc : Plain 2 c) (pd : Plain 2 d) (st : Sto) (hs : Sto.clo st) : m__law_second_right [a, b, c, d] st = .ok (.bl true) st := by
  refine OkR.eq ?_
  rw [un__law_second_right]
  refine OkR_gc ?_
  rw [OkR_runD, st__law_second_right]
  simp (disch := simp) only [OkR_ok, OkS_nx, OkS_rt, OkS_bk, OkS_ct, OkS_go, OkS_seq, OkR_bd, bd_ok, go_ok, seq_nx, seq_rt, ofO_some, ofO_pure, run_bind, run_pure, evalSs, evalS, evalE, evalEs, evalT, evalTAnd, evalTOr, evalAnd, evalOr, evalI, evalO, Vm.evalAll, intO, bT_name, bT_tup, bTs_nil, bTs_cons, Option.bind_some, List.set_cons_zero, List.set_cons_succ, var_zero, var_succ, asB_bl, Vm.isNon, biG_tup, biG_fl, biG_kl, biG_int, biG_bl, biG_str, biG_two, biG_r0, biG_r1, biG_r2, cmpG_int, cmpG_bl, cmpG_str, cmpG_tup, cmpG_fl, cmpG_non, cw_eq, cw_ne, cw_lt, cw_le, cw_gt, cw_ge, cw_eqb, cw_neb, cw_eqs, cw_nes, bw_add, bw_sub, nw, sub_tup, sub_fl, sub_kl, sub_r0, sub_r1, sub_r2, len_tup, len_fl, len_kl, len_r0, len_r1, tuple_fl, tuple_r0, tuple_r1, list_fl, list_tup, list_kl, items_tup, items_fl, items_kl, ii_int, ib_int, is_int, it_int, il_int, itl_int, ii_tup, ib_tup, is_tup, it_tup, il_tup, itl_tup, ii_fl, ib_fl, is_fl, it_fl, il_fl, itl_fl, ii_str, ib_str, is_str, it_str, il_str, itl_str, ii_bl, ib_bl, is_bl, it_bl, il_bl, ii_non, ib_non, is_non, it_non, il_non, ↓reduceIte, Bool.not_true, Bool.not_false, Bool.false_eq_true, decide_true, decide_false, decide_eq_true_eq, Bool.true_eq_false, eq_self, not_true_eq_false, not_false_eq_true, List.length_cons, List.length_nil, Nat.reduceAdd, szl, tup_if, lst_if, and_self, wipeR, List.map_cons, List.map_nil, Nat.reduceLeDiff, Int.cast_ofNat_Int, Int.reduceNeg, Int.reduceEq, Int.reduceLE, Int.reduceLT, at0, at1, at2, at3, st__law_second_right, un__law_second_right, q2__law_same_2, q2_filtered_2_plus, q2_ranked_2, q2_ranked_2_rank, q2_reduced_1, q2_reduced_1_high, q2_reduced_1_high_wide, q2_enlarged_1, q2_enlarged_1_wide, q2_enlarged_1_high_wide, q2_near_band_1, q2_near_band_1_across, q2_far_band_1, q2_far_band_1_across, q2_paired_2, q2_paired_2_across, q2_summed_2, q2_unsummed_1, q2_levelled_2, q2_met_2, q2_met_2_how, q2_chosen_3, c__law_second_right, s1__law_second_right, e_source, e_framed, e_moved, e_flipped, e_turned, e_curved, e_lifted, e_unlifted, e_mixed, e_filtered, e_ranked, e_reduced, e_enlarged, e_near_band, e_far_band, e_paired, e_summed, e_unsummed, e_levelled, e_met, e_chosen, e_own, List.cons_append, List.nil_append]
  simp (disch := simp) only [OkR_ok, OkS_nx, OkS_rt, OkS_bk, OkS_ct, OkS_go, OkS_seq, OkR_bd, bd_ok, go_ok, seq_nx, seq_rt, ofO_some, ofO_pure, run_bind, run_pure, evalSs, evalS, evalE, evalEs, evalT, evalTAnd, evalTOr, evalAnd, evalOr, evalI, evalO, Vm.evalAll, intO, bT_name, bT_tup, bTs_nil, bTs_cons, Option.bind_some, List.set_cons_zero, List.set_cons_succ, var_zero, var_succ, asB_bl, Vm.isNon, biG_tup, biG_fl, biG_kl, biG_int, biG_bl, biG_str, biG_two, biG_r0, biG_r1, biG_r2, cmpG_int, cmpG_bl, cmpG_str, cmpG_tup, cmpG_fl, cmpG_non, cw_eq, cw_ne, cw_lt, cw_le, cw_gt, cw_ge, cw_eqb, cw_neb, cw_eqs, cw_nes, bw_add, bw_sub, nw, sub_tup, sub_fl, sub_kl, sub_r0, sub_r1, sub_r2, len_tup, len_fl, len_kl, len_r0, len_r1, tuple_fl, tuple_r0, tuple_r1, list_fl, list_tup, list_kl, items_tup, items_fl, items_kl, ii_int, ib_int, is_int, it_int, il_int, itl_int, ii_tup, ib_tup, is_tup, it_tup, il_tup, itl_tup, ii_fl, ib_fl, is_fl, it_fl, il_fl, itl_fl, ii_str, ib_str, is_str, it_str, il_str, itl_str, ii_bl, ib_bl, is_bl, it_bl, il_bl, ii_non, ib_non, is_non, it_non, il_non, ↓reduceIte, Bool.not_true, Bool.not_false, Bool.false_eq_true, decide_true, decide_false, decide_eq_true_eq, Bool.true_eq_false, eq_self, not_true_eq_false, not_false_eq_true, List.length_cons, List.length_nil, Nat.reduceAdd, szl, tup_if, lst_if, and_self, wipeR, List.map_cons, List.map_nil, Nat.reduceLeDiff, Int.cast_ofNat_Int, Int.reduceNeg, Int.reduceEq, Int.reduceLE, Int.reduceLT, at0, at1, at2, at3, st__law_second_right, un__law_second_right, q2__law_same_2, q2_filtered_2_plus, q2_ranked_2, q2_ranked_2_rank, q2_reduced_1, q2_reduced_1_high, q2_reduced_1_high_wide, q2_enlarged_1, q2_enlarged_1_wide, q2_enlarged_1_high_wide, q2_near_band_1, q2_near_band_1_across, q2_far_band_1, q2_far_band_1_across, q2_paired_2, q2_paired_2_across, q2_summed_2, q2_unsummed_1, q2_levelled_2, q2_met_2, q2_met_2_how, q2_chosen_3, c__law_second_right, s2__law_second_right, lst_new, List.cons_append, List.nil_append]
  simp (disch := simp) only [OkR_ok, OkS_nx, OkS_rt, OkS_bk, OkS_ct, OkS_go, OkS_seq, OkR_bd, bd_ok, go_ok, seq_nx, seq_rt, ofO_some, ofO_pure, run_bind, run_pure, evalSs, evalS, evalE, evalEs, evalT, evalTAnd, evalTOr, evalAnd, evalOr, evalI, evalO, Vm.evalAll, intO, bT_name, bT_tup, bTs_nil, bTs_cons, Option.bind_some, List.set_cons_zero, List.set_cons_succ, var_zero, var_succ, asB_bl, Vm.isNon, biG_tup, biG_fl, biG_kl, biG_int, biG_bl, biG_str, biG_two, biG_r0, biG_r1, biG_r2, cmpG_int, cmpG_bl, cmpG_str, cmpG_tup, cmpG_fl, cmpG_non, cw_eq, cw_ne, cw_lt, cw_le, cw_gt, cw_ge, cw_eqb, cw_neb, cw_eqs, cw_nes, bw_add, bw_sub, nw, sub_tup, sub_fl, sub_kl, sub_r0, sub_r1, sub_r2, len_tup, len_fl, len_kl, len_r0, len_r1, tuple_fl, tuple_r0, tuple_r1, list_fl, list_tup, list_kl, items_tup, items_fl, items_kl, ii_int, ib_int, is_int, it_int, il_int, itl_int, ii_tup, ib_tup, is_tup, it_tup, il_tup, itl_tup, ii_fl, ib_fl, is_fl, it_fl, il_fl, itl_fl, ii_str, ib_str, is_str, it_str, il_str, itl_str, ii_bl, ib_bl, is_bl, it_bl, il_bl, ii_non, ib_non, is_non, it_non, il_non, ↓reduceIte, Bool.not_true, Bool.not_false, Bool.false_eq_true, decide_true, decide_false, decide_eq_true_eq, Bool.true_eq_false, eq_self, not_true_eq_false, not_false_eq_true, List.length_cons, List.length_nil, Nat.reduceAdd, szl, tup_if, lst_if, and_self, wipeR, List.map_cons, List.map_nil, Nat.reduceLeDiff, Int.cast_ofNat_Int, Int.reduceNeg, Int.reduceEq, Int.reduceLE, Int.reduceLT, at0, at1, at2, at3, st__law_second_right, un__law_second_right, q2__law_same_2, q2_filtered_2_plus, q2_ranked_2, q2_ranked_2_rank, q2_reduced_1, q2_reduced_1_high, q2_reduced_1_high_wide, q2_enlarged_1, q2_enlarged_1_wide, q2_enlarged_1_high_wide, q2_near_band_1, q2_near_band_1_across, q2_far_band_1, q2_far_band_1_across, q2_paired_2, q2_paired_2_across, q2_summed_2, q2_unsummed_1, q2_levelled_2, q2_met_2, q2_met_2_how, q2_chosen_3, c__law_second_right, s3__law_second_right, tyM_at, app_at, List.cons_append, List.nil_append]
  simp (disch := simp) only [OkR_ok, OkS_nx, OkS_rt, OkS_bk, OkS_ct, OkS_go, OkS_seq, OkR_bd, bd_ok, go_ok, seq_nx, seq_rt, ofO_some, ofO_pure, run_bind, run_pure, evalSs, evalS, evalE, evalEs, evalT, evalTAnd, evalTOr, evalAnd, evalOr, evalI, evalO, Vm.evalAll, intO, bT_name, bT_tup, bTs_nil, bTs_cons, Option.bind_some, List.set_cons_zero, List.set_cons_succ, var_zero, var_succ, asB_bl, Vm.isNon, biG_tup, biG_fl, biG_kl, biG_int, biG_bl, biG_str, biG_two, biG_r0, biG_r1, biG_r2, cmpG_int, cmpG_bl, cmpG_str, cmpG_tup, cmpG_fl, cmpG_non, cw_eq, cw_ne, cw_lt, cw_le, cw_gt, cw_ge, cw_eqb, cw_neb, cw_eqs, cw_nes, bw_add, bw_sub, nw, sub_tup, sub_fl, sub_kl, sub_r0, sub_r1, sub_r2, len_tup, len_fl, len_kl, len_r0, len_r1, tuple_fl, tuple_r0, tuple_r1, list_fl, list_tup, list_kl, items_tup, items_fl, items_kl, ii_int, ib_int, is_int, it_int, il_int, itl_int, ii_tup, ib_tup, is_tup, it_tup, il_tup, itl_tup, ii_fl, ib_fl, is_fl, it_fl, il_fl, itl_fl, ii_str, ib_str, is_str, it_str, il_str, itl_str, ii_bl, ib_bl, is_bl, it_bl, il_bl, ii_non, ib_non, is_non, it_non, il_non, ↓reduceIte, Bool.not_true, Bool.not_false, Bool.false_eq_true, decide_true, decide_false, decide_eq_true_eq, Bool.true_eq_false, eq_self, not_true_eq_false, not_false_eq_true, List.length_cons, List.length_nil, Nat.reduceAdd, szl, tup_if, lst_if, and_self, wipeR, List.map_cons, List.map_nil, Nat.reduceLeDiff, Int.cast_ofNat_Int, Int.reduceNeg, Int.reduceEq, Int.reduceLE, Int.reduceLT, at0, at1, at2, at3, st__law_second_right, un__law_second_right, q2__law_same_2, q2_filtered_2_plus, q2_ranked_2, q2_ranked_2_rank, q2_reduced_1, q2_reduced_1_high, q2_reduced_1_high_wide, q2_enlarged_1, q2_enlarged_1_wide, q2_enlarged_1_high_wide, q2_near_band_1, q2_near_band_1_across, q2_far_band_1, q2_far_band_1_across, q2_paired_2, q2_paired_2_across, q2_summed_2, q2_unsummed_1, q2_levelled_2, q2_met_2, q2_met_2_how, q2_chosen_3, c__law_second_right, s4__law_second_right, e_source, e_framed, e_moved, e_flipped, e_turned, e_curved, e_lifted, e_unlifted, e_mixed, e_filtered, e_ranked, e_reduced, e_enlarged, e_near_band, e_far_band, e_paired, e_summed, e_unsummed, e_levelled, e_met, e_chosen, e_own, cat_ff, List.cons_append, List.nil_append]
  simp (disch := simp) only [OkR_ok, OkS_nx, OkS_rt, OkS_bk, OkS_ct, OkS_go, OkS_seq, OkR_bd, bd_ok, go_ok, seq_nx, seq_rt, ofO_some, ofO_pure, run_bind, run_pure, evalSs, evalS, evalE, evalEs, evalT, evalTAnd, evalTOr, evalAnd, evalOr, evalI, evalO, Vm.evalAll, intO, bT_name, bT_tup, bTs_nil, bTs_cons, Option.bind_some, List.set_cons_zero, List.set_cons_succ, var_zero, var_succ, asB_bl, Vm.isNon, biG_tup, biG_fl, biG_kl, biG_int, biG_bl, biG_str, biG_two, biG_r0, biG_r1, biG_r2, cmpG_int, cmpG_bl, cmpG_str, cmpG_tup, cmpG_fl, cmpG_non, cw_eq, cw_ne, cw_lt, cw_le, cw_gt, cw_ge, cw_eqb, cw_neb, cw_eqs, cw_nes, bw_add, bw_sub, nw, sub_tup, sub_fl, sub_kl, sub_r0, sub_r1, sub_r2, len_tup, len_fl, len_kl, len_r0, len_r1, tuple_fl, tuple_r0, tuple_r1, list_fl, list_tup, list_kl, items_tup, items_fl, items_kl, ii_int, ib_int, is_int, it_int, il_int, itl_int, ii_tup, ib_tup, is_tup, it_tup, il_tup, itl_tup, ii_fl, ib_fl, is_fl, it_fl, il_fl, itl_fl, ii_str, ib_str, is_str, it_str, il_str, itl_str, ii_bl, ib_bl, is_bl, it_bl, il_bl, ii_non, ib_non, is_non, it_non, il_non, ↓reduceIte, Bool.not_true, Bool.not_false, Bool.false_eq_true, decide_true, decide_false, decide_eq_true_eq, Bool.true_eq_false, eq_self, not_true_eq_false, not_false_eq_true, List.length_cons, List.length_nil, Nat.reduceAdd, szl, tup_if, lst_if, and_self, wipeR, List.map_cons, List.map_nil, Nat.reduceLeDiff, Int.cast_ofNat_Int, Int.reduceNeg, Int.reduceEq, Int.reduceLE, Int.reduceLT, at0, at1, at2, at3, st__law_second_right, un__law_second_right, q2__law_same_2, q2_filtered_2_plus, q2_ranked_2, q2_ranked_2_rank, q2_reduced_1, q2_reduced_1_high, q2_reduced_1_high_wide, q2_enlarged_1, q2_enlarged_1_wide, q2_enlarged_1_high_wide, q2_near_band_1, q2_near_band_1_across, q2_far_band_1, q2_far_band_1_across, q2_paired_2, q2_paired_2_across, q2_summed_2, q2_unsummed_1, q2_levelled_2, q2_met_2, q2_met_2_how, q2_chosen_3, c__law_second_right, s5__law_second_right, cat_rf, List.cons_append, List.nil_append]
  simp (disch := simp) only [OkR_ok, OkS_nx, OkS_rt, OkS_bk, OkS_ct, OkS_go, OkS_seq, OkR_bd, bd_ok, go_ok, seq_nx, seq_rt, ofO_some, ofO_pure, run_bind, run_pure, evalSs, evalS, evalE, evalEs, evalT, evalTAnd, evalTOr, evalAnd, evalOr, evalI, evalO, Vm.evalAll, intO, bT_name, bT_tup, bTs_nil, bTs_cons, Option.bind_some, List.set_cons_zero, List.set_cons_succ, var_zero, var_succ, asB_bl, Vm.isNon, biG_tup, biG_fl, biG_kl, biG_int, biG_bl, biG_str, biG_two, biG_r0, biG_r1, biG_r2, cmpG_int, cmpG_bl, cmpG_str, cmpG_tup, cmpG_fl, cmpG_non, cw_eq, cw_ne, cw_lt, cw_le, cw_gt, cw_ge, cw_eqb, cw_neb, cw_eqs, cw_nes, bw_add, bw_sub, nw, sub_tup, sub_fl, sub_kl, sub_r0, sub_r1, sub_r2, len_tup, len_fl, len_kl, len_r0, len_r1, tuple_fl, tuple_r0, tuple_r1, list_fl, list_tup, list_kl, items_tup, items_fl, items_kl, ii_int, ib_int, is_int, it_int, il_int, itl_int, ii_tup, ib_tup, is_tup, it_tup, il_tup, itl_tup, ii_fl, ib_fl, is_fl, it_fl, il_fl, itl_fl, ii_str, ib_str, is_str, it_str, il_str, itl_str, ii_bl, ib_bl, is_bl, it_bl, il_bl, ii_non, ib_non, is_non, it_non, il_non, ↓reduceIte, Bool.not_true, Bool.not_false, Bool.false_eq_true, decide_true, decide_false, decide_eq_true_eq, Bool.true_eq_false, eq_self, not_true_eq_false, not_false_eq_true, List.length_cons, List.length_nil, Nat.reduceAdd, szl, tup_if, lst_if, and_self, wipeR, List.map_cons, List.map_nil, Nat.reduceLeDiff, Int.cast_ofNat_Int, Int.reduceNeg, Int.reduceEq, Int.reduceLE, Int.reduceLT, at0, at1, at2, at3, st__law_second_right, un__law_second_right, q2__law_same_2, q2_filtered_2_plus, q2_ranked_2, q2_ranked_2_rank, q2_reduced_1, q2_reduced_1_high, q2_reduced_1_high_wide, q2_enlarged_1, q2_enlarged_1_wide, q2_enlarged_1_high_wide, q2_near_band_1, q2_near_band_1_across, q2_far_band_1, q2_far_band_1_across, q2_paired_2, q2_paired_2_across, q2_summed_2, q2_unsummed_1, q2_levelled_2, q2_met_2, q2_met_2_how, q2_chosen_3, c__law_second_right, s6__law_second_right, e_source, e_framed, e_moved, e_flipped, e_turned, e_curved, e_lifted, e_unlifted, e_mixed, e_filtered, e_ranked, e_reduced, e_enlarged, e_near_band, e_far_band, e_paired, e_summed, e_unsummed, e_levelled, e_met, e_chosen, e_own, cat_ff, List.cons_append, List.nil_append]
  simp (disch := simp) only [OkR_ok, OkS_nx, OkS_rt, OkS_bk, OkS_ct, OkS_go, OkS_seq, OkR_bd, bd_ok, go_ok, seq_nx, seq_rt, ofO_some, ofO_pure, run_bind, run_pure, evalSs, evalS, evalE, evalEs, evalT, evalTAnd, evalTOr, evalAnd, evalOr, evalI, evalO, Vm.evalAll, intO, bT_name, bT_tup, bTs_nil, bTs_cons, Option.bind_some, List.set_cons_zero, List.set_cons_succ, var_zero, var_succ, asB_bl, Vm.isNon, biG_tup, biG_fl, biG_kl, biG_int, biG_bl, biG_str, biG_two, biG_r0, biG_r1, biG_r2, cmpG_int, cmpG_bl, cmpG_str, cmpG_tup, cmpG_fl, cmpG_non, cw_eq, cw_ne, cw_lt, cw_le, cw_gt, cw_ge, cw_eqb, cw_neb, cw_eqs, cw_nes, bw_add, bw_sub, nw, sub_tup, sub_fl, sub_kl, sub_r0, sub_r1, sub_r2, len_tup, len_fl, len_kl, len_r0, len_r1, tuple_fl, tuple_r0, tuple_r1, list_fl, list_tup, list_kl, items_tup, items_fl, items_kl, ii_int, ib_int, is_int, it_int, il_int, itl_int, ii_tup, ib_tup, is_tup, it_tup, il_tup, itl_tup, ii_fl, ib_fl, is_fl, it_fl, il_fl, itl_fl, ii_str, ib_str, is_str, it_str, il_str, itl_str, ii_bl, ib_bl, is_bl, it_bl, il_bl, ii_non, ib_non, is_non, it_non, il_non, ↓reduceIte, Bool.not_true, Bool.not_false, Bool.false_eq_true, decide_true, decide_false, decide_eq_true_eq, Bool.true_eq_false, eq_self, not_true_eq_false, not_false_eq_true, List.length_cons, List.length_nil, Nat.reduceAdd, szl, tup_if, lst_if, and_self, wipeR, List.map_cons, List.map_nil, Nat.reduceLeDiff, Int.cast_ofNat_Int, Int.reduceNeg, Int.reduceEq, Int.reduceLE, Int.reduceLT, at0, at1, at2, at3, st__law_second_right, un__law_second_right, q2__law_same_2, q2_filtered_2_plus, q2_ranked_2, q2_ranked_2_rank, q2_reduced_1, q2_reduced_1_high, q2_reduced_1_high_wide, q2_enlarged_1, q2_enlarged_1_wide, q2_enlarged_1_high_wide, q2_near_band_1, q2_near_band_1_across, q2_far_band_1, q2_far_band_1_across, q2_paired_2, q2_paired_2_across, q2_summed_2, q2_unsummed_1, q2_levelled_2, q2_met_2, q2_met_2_how, q2_chosen_3, c__law_second_right, s7__law_second_right, cat_ft, List.cons_append, List.nil_append]
  generalize hst : (st ++ [O.lst _]) = st1
  simp (disch := simp) only [OkR_ok, OkS_nx, OkS_rt, OkS_bk, OkS_ct, OkS_go, OkS_seq, OkR_bd, bd_ok, go_ok, seq_nx, seq_rt, ofO_some, ofO_pure, run_bind, run_pure, evalSs, evalS, evalE, evalEs, evalT, evalTAnd, evalTOr, evalAnd, evalOr, evalI, evalO, Vm.evalAll, intO, bT_name, bT_tup, bTs_nil, bTs_cons, Option.bind_some, List.set_cons_zero, List.set_cons_succ, var_zero, var_succ, asB_bl, Vm.isNon, biG_tup, biG_fl, biG_kl, biG_int, biG_bl, biG_str, biG_two, biG_r0, biG_r1, biG_r2, cmpG_int, cmpG_bl, cmpG_str, cmpG_tup, cmpG_fl, cmpG_non, cw_eq, cw_ne, cw_lt, cw_le, cw_gt, cw_ge, cw_eqb, cw_neb, cw_eqs, cw_nes, bw_add, bw_sub, nw, sub_tup, sub_fl, sub_kl, sub_r0, sub_r1, sub_r2, len_tup, len_fl, len_kl, len_r0, len_r1, tuple_fl, tuple_r0, tuple_r1, list_fl, list_tup, list_kl, items_tup, items_fl, items_kl, ii_int, ib_int, is_int, it_int, il_int, itl_int, ii_tup, ib_tup, is_tup, it_tup, il_tup, itl_tup, ii_fl, ib_fl, is_fl, it_fl, il_fl, itl_fl, ii_str, ib_str, is_str, it_str, il_str, itl_str, ii_bl, ib_bl, is_bl, it_bl, il_bl, ii_non, ib_non, is_non, it_non, il_non, ↓reduceIte, Bool.not_true, Bool.not_false, Bool.false_eq_true, decide_true, decide_false, decide_eq_true_eq, Bool.true_eq_false, eq_self, not_true_eq_false, not_false_eq_true, List.length_cons, List.length_nil, Nat.reduceAdd, szl, tup_if, lst_if, and_self, wipeR, List.map_cons, List.map_nil, Nat.reduceLeDiff, Int.cast_ofNat_Int, Int.reduceNeg, Int.reduceEq, Int.reduceLE, Int.reduceLT, at0, at1, at2, at3, st__law_second_right, un__law_second_right, q2__law_same_2, q2_filtered_2_plus, q2_ranked_2, q2_ranked_2_rank, q2_reduced_1, q2_reduced_1_high, q2_reduced_1_high_wide, q2_enlarged_1, q2_enlarged_1_wide, q2_enlarged_1_high_wide, q2_near_band_1, q2_near_band_1_across, q2_far_band_1, q2_far_band_1_across, q2_paired_2, q2_paired_2_across, q2_summed_2, q2_unsummed_1, q2_levelled_2, q2_met_2, q2_met_2_how, q2_chosen_3, c__law_second_right, s8__law_second_right, tyM_at, app_at, List.cons_append, List.nil_append]
  simp (disch := simp) only [OkR_ok, OkS_nx, OkS_rt, OkS_bk, OkS_ct, OkS_go, OkS_seq, OkR_bd, bd_ok, go_ok, seq_nx, seq_rt, ofO_some, ofO_pure, run_bind, run_pure, evalSs, evalS, evalE, evalEs, evalT, evalTAnd, evalTOr, evalAnd, evalOr, evalI, evalO, Vm.evalAll, intO, bT_name, bT_tup, bTs_nil, bTs_cons, Option.bind_some, List.set_cons_zero, List.set_cons_succ, var_zero, var_succ, asB_bl, Vm.isNon, biG_tup, biG_fl, biG_kl, biG_int, biG_bl, biG_str, biG_two, biG_r0, biG_r1, biG_r2, cmpG_int, cmpG_bl, cmpG_str, cmpG_tup, cmpG_fl, cmpG_non, cw_eq, cw_ne, cw_lt, cw_le, cw_gt, cw_ge, cw_eqb, cw_neb, cw_eqs, cw_nes, bw_add, bw_sub, nw, sub_tup, sub_fl, sub_kl, sub_r0, sub_r1, sub_r2, len_tup, len_fl, len_kl, len_r0, len_r1, tuple_fl, tuple_r0, tuple_r1, list_fl, list_tup, list_kl, items_tup, items_fl, items_kl, ii_int, ib_int, is_int, it_int, il_int, itl_int, ii_tup, ib_tup, is_tup, it_tup, il_tup, itl_tup, ii_fl, ib_fl, is_fl, it_fl, il_fl, itl_fl, ii_str, ib_str, is_str, it_str, il_str, itl_str, ii_bl, ib_bl, is_bl, it_bl, il_bl, ii_non, ib_non, is_non, it_non, il_non, ↓reduceIte, Bool.not_true, Bool.not_false, Bool.false_eq_true, decide_true, decide_false, decide_eq_true_eq, Bool.true_eq_false, eq_self, not_true_eq_false, not_false_eq_true, List.length_cons, List.length_nil, Nat.reduceAdd, szl, tup_if, lst_if, and_self, wipeR, List.map_cons, List.map_nil, Nat.reduceLeDiff, Int.cast_ofNat_Int, Int.reduceNeg, Int.reduceEq, Int.reduceLE, Int.reduceLT, at0, at1, at2, at3, st__law_second_right, un__law_second_right, q2__law_same_2, q2_filtered_2_plus, q2_ranked_2, q2_ranked_2_rank, q2_reduced_1, q2_reduced_1_high, q2_reduced_1_high_wide, q2_enlarged_1, q2_enlarged_1_wide, q2_enlarged_1_high_wide, q2_near_band_1, q2_near_band_1_across, q2_far_band_1, q2_far_band_1_across, q2_paired_2, q2_paired_2_across, q2_summed_2, q2_unsummed_1, q2_levelled_2, q2_met_2, q2_met_2_how, q2_chosen_3, c__law_second_right, s9__law_second_right, e_source, e_framed, e_moved, e_flipped, e_turned, e_curved, e_lifted, e_unlifted, e_mixed, e_filtered, e_ranked, e_reduced, e_enlarged, e_near_band, e_far_band, e_paired, e_summed, e_unsummed, e_levelled, e_met, e_chosen, e_own, cat_ff, List.cons_append, List.nil_append]
  simp (disch := simp) only [OkR_ok, OkS_nx, OkS_rt, OkS_bk, OkS_ct, OkS_go, OkS_seq, OkR_bd, bd_ok, go_ok, seq_nx, seq_rt, ofO_some, ofO_pure, run_bind, run_pure, evalSs, evalS, evalE, evalEs, evalT, evalTAnd, evalTOr, evalAnd, evalOr, evalI, evalO, Vm.evalAll, intO, bT_name, bT_tup, bTs_nil, bTs_cons, Option.bind_some, List.set_cons_zero, List.set_cons_succ, var_zero, var_succ, asB_bl, Vm.isNon, biG_tup, biG_fl, biG_kl, biG_int, biG_bl, biG_str, biG_two, biG_r0, biG_r1, biG_r2, cmpG_int, cmpG_bl, cmpG_str, cmpG_tup, cmpG_fl, cmpG_non, cw_eq, cw_ne, cw_lt, cw_le, cw_gt, cw_ge, cw_eqb, cw_neb, cw_eqs, cw_nes, bw_add, bw_sub, nw, sub_tup, sub_fl, sub_kl, sub_r0, sub_r1, sub_r2, len_tup, len_fl, len_kl, len_r0, len_r1, tuple_fl, tuple_r0, tuple_r1, list_fl, list_tup, list_kl, items_tup, items_fl, items_kl, ii_int, ib_int, is_int, it_int, il_int, itl_int, ii_tup, ib_tup, is_tup, it_tup, il_tup, itl_tup, ii_fl, ib_fl, is_fl, it_fl, il_fl, itl_fl, ii_str, ib_str, is_str, it_str, il_str, itl_str, ii_bl, ib_bl, is_bl, it_bl, il_bl, ii_non, ib_non, is_non, it_non, il_non, ↓reduceIte, Bool.not_true, Bool.not_false, Bool.false_eq_true, decide_true, decide_false, decide_eq_true_eq, Bool.true_eq_false, eq_self, not_true_eq_false, not_false_eq_true, List.length_cons, List.length_nil, Nat.reduceAdd, szl, tup_if, lst_if, and_self, wipeR, List.map_cons, List.map_nil, Nat.reduceLeDiff, Int.cast_ofNat_Int, Int.reduceNeg, Int.reduceEq, Int.reduceLE, Int.reduceLT, at0, at1, at2, at3, st__law_second_right, un__law_second_right, q2__law_same_2, q2_filtered_2_plus, q2_ranked_2, q2_ranked_2_rank, q2_reduced_1, q2_reduced_1_high, q2_reduced_1_high_wide, q2_enlarged_1, q2_enlarged_1_wide, q2_enlarged_1_high_wide, q2_near_band_1, q2_near_band_1_across, q2_far_band_1, q2_far_band_1_across, q2_paired_2, q2_paired_2_across, q2_summed_2, q2_unsummed_1, q2_levelled_2, q2_met_2, q2_met_2_how, q2_chosen_3, c__law_second_right, s10__law_second_right, cat_rf, List.cons_append, List.nil_append]
  simp (disch := simp) only [OkR_ok, OkS_nx, OkS_rt, OkS_bk, OkS_ct, OkS_go, OkS_seq, OkR_bd, bd_ok, go_ok, seq_nx, seq_rt, ofO_some, ofO_pure, run_bind, run_pure, evalSs, evalS, evalE, evalEs, evalT, evalTAnd, evalTOr, evalAnd, evalOr, evalI, evalO, Vm.evalAll, intO, bT_name, bT_tup, bTs_nil, bTs_cons, Option.bind_some, List.set_cons_zero, List.set_cons_succ, var_zero, var_succ, asB_bl, Vm.isNon, biG_tup, biG_fl, biG_kl, biG_int, biG_bl, biG_str, biG_two, biG_r0, biG_r1, biG_r2, cmpG_int, cmpG_bl, cmpG_str, cmpG_tup, cmpG_fl, cmpG_non, cw_eq, cw_ne, cw_lt, cw_le, cw_gt, cw_ge, cw_eqb, cw_neb, cw_eqs, cw_nes, bw_add, bw_sub, nw, sub_tup, sub_fl, sub_kl, sub_r0, sub_r1, sub_r2, len_tup, len_fl, len_kl, len_r0, len_r1, tuple_fl, tuple_r0, tuple_r1, list_fl, list_tup, list_kl, items_tup, items_fl, items_kl, ii_int, ib_int, is_int, it_int, il_int, itl_int, ii_tup, ib_tup, is_tup, it_tup, il_tup, itl_tup, ii_fl, ib_fl, is_fl, it_fl, il_fl, itl_fl, ii_str, ib_str, is_str, it_str, il_str, itl_str, ii_bl, ib_bl, is_bl, it_bl, il_bl, ii_non, ib_non, is_non, it_non, il_non, ↓reduceIte, Bool.not_true, Bool.not_false, Bool.false_eq_true, decide_true, decide_false, decide_eq_true_eq, Bool.true_eq_false, eq_self, not_true_eq_false, not_false_eq_true, List.length_cons, List.length_nil, Nat.reduceAdd, szl, tup_if, lst_if, and_self, wipeR, List.map_cons, List.map_nil, Nat.reduceLeDiff, Int.cast_ofNat_Int, Int.reduceNeg, Int.reduceEq, Int.reduceLE, Int.reduceLT, at0, at1, at2, at3, st__law_second_right, un__law_second_right, q2__law_same_2, q2_filtered_2_plus, q2_ranked_2, q2_ranked_2_rank, q2_reduced_1, q2_reduced_1_high, q2_reduced_1_high_wide, q2_enlarged_1, q2_enlarged_1_wide, q2_enlarged_1_high_wide, q2_near_band_1, q2_near_band_1_across, q2_far_band_1, q2_far_band_1_across, q2_paired_2, q2_paired_2_across, q2_summed_2, q2_unsummed_1, q2_levelled_2, q2_met_2, q2_met_2_how, q2_chosen_3, c__law_second_right, s11__law_second_right, cat_ff, List.cons_append, List.nil_append]
  have pl : ∀ (f : Str) (xs : List W), (∀ x ∈ xs, Plain 2 x) → xs.length ≤ 10 → Plain 3 (.tup (.str f :: xs)) := fun f xs h hl => .tup (by
    intro x hx
    rcases List.mem_cons.mp hx with rfl | hx
    · exact .str _
    · exact h x hx) (by simp; omega)
  simp (disch := simp) only [OkR_ok, OkS_nx, OkS_rt, OkS_bk, OkS_ct, OkS_go, OkS_seq, OkR_bd, bd_ok, go_ok, seq_nx, seq_rt, ofO_some, ofO_pure, run_bind, run_pure, evalSs, evalS, evalE, evalEs, evalT, evalTAnd, evalTOr, evalAnd, evalOr, evalI, evalO, Vm.evalAll, intO, bT_name, bT_tup, bTs_nil, bTs_cons, Option.bind_some, List.set_cons_zero, List.set_cons_succ, var_zero, var_succ, asB_bl, Vm.isNon, biG_tup, biG_fl, biG_kl, biG_int, biG_bl, biG_str, biG_two, biG_r0, biG_r1, biG_r2, cmpG_int, cmpG_bl, cmpG_str, cmpG_tup, cmpG_fl, cmpG_non, cw_eq, cw_ne, cw_lt, cw_le, cw_gt, cw_ge, cw_eqb, cw_neb, cw_eqs, cw_nes, bw_add, bw_sub, nw, sub_tup, sub_fl, sub_kl, sub_r0, sub_r1, sub_r2, len_tup, len_fl, len_kl, len_r0, len_r1, tuple_fl, tuple_r0, tuple_r1, list_fl, list_tup, list_kl, items_tup, items_fl, items_kl, ii_int, ib_int, is_int, it_int, il_int, itl_int, ii_tup, ib_tup, is_tup, it_tup, il_tup, itl_tup, ii_fl, ib_fl, is_fl, it_fl, il_fl, itl_fl, ii_str, ib_str, is_str, it_str, il_str, itl_str, ii_bl, ib_bl, is_bl, it_bl, il_bl, ii_non, ib_non, is_non, it_non, il_non, ↓reduceIte, Bool.not_true, Bool.not_false, Bool.false_eq_true, decide_true, decide_false, decide_eq_true_eq, Bool.true_eq_false, eq_self, not_true_eq_false, not_false_eq_true, List.length_cons, List.length_nil, Nat.reduceAdd, szl, tup_if, lst_if, and_self, wipeR, List.map_cons, List.map_nil, Nat.reduceLeDiff, Int.cast_ofNat_Int, Int.reduceNeg, Int.reduceEq, Int.reduceLE, Int.reduceLT, at0, at1, at2, at3, st__law_second_right, un__law_second_right, q2__law_same_2, q2_filtered_2_plus, q2_ranked_2, q2_ranked_2_rank, q2_reduced_1, q2_reduced_1_high, q2_reduced_1_high_wide, q2_enlarged_1, q2_enlarged_1_wide, q2_enlarged_1_high_wide, q2_near_band_1, q2_near_band_1_across, q2_far_band_1, q2_far_band_1_across, q2_paired_2, q2_paired_2_across, q2_summed_2, q2_unsummed_1, q2_levelled_2, q2_met_2, q2_met_2_how, q2_chosen_3, c__law_second_right, s12__law_second_right, e_chosen, cat_ff, List.cons_append, List.nil_append]
  rw [e_same (k := 4) (Plain.fl (k := 3) ?_ (by simp)) _ _ (by decide)]
  · exact ⟨st, _, by rw [← hst, List.append_assoc], rfl, hs, trivial, rfl, rfl⟩
  · simp only [List.mem_cons, List.not_mem_nil, or_false]
    rintro x (rfl | rfl | rfl | rfl | rfl | rfl | rfl | rfl | rfl | rfl | rfl | rfl | rfl | rfl | rfl | rfl | rfl | rfl | rfl | rfl | rfl) <;> exact pl _ _ (by simp [pa, pb, pc, pd, Plain.int, Plain.str, Plain.bl, Plain.non]) (by simp)
end VmL
namespace VmL
open PySem L2 Vm
theorem th_show {w : W} (h : w ∈ Th) : ∃ d, pdD w = some d ∧ d.showable = true ∧ d.depth ≤ 2 ∧ d.shown.length ≤ 40 := by
  simp only [Th, List.mem_cons, List.not_mem_nil, or_false] at h
  rcases h with rfl | rfl | rfl | rfl | rfl | rfl | rfl | rfl | rfl | rfl | rfl | rfl | rfl | rfl | rfl <;> exact ⟨_, rfl, by decide +kernel, by decide +kernel, by decide +kernel⟩
theorem th_repr {a b c d : W} (ha : a ∈ Th) (hb : b ∈ Th) (hc : c ∈ Th) (hd : d ∈ Th) : ∃ t, ∀ st, biW .repr [.fl [a, b, c, d]] st = .ok (.str t) st := by
  obtain ⟨a', a1, a2, a3, a4⟩ := th_show ha
  obtain ⟨b', b1, b2, b3, b4⟩ := th_show hb
  obtain ⟨c', c1, c2, c3, c4⟩ := th_show hc
  obtain ⟨d', d1, d2, d3, d4⟩ := th_show hd
  have e : pdDL [a, b, c, d] = some [a', b', c', d'] := by simp only [pdDL, a1, b1, c1, d1, Option.bind_some, Option.map_some]
  have s1 : (PyData.list [a', b', c', d']).showable = true := by simp only [PyData.showable, PyData.showableAll, a2, b2, c2, d2, Bool.and_self]
  have s2 : (PyData.list [a', b', c', d']).depth ≤ 60 := by simp only [PyData.depth, PyData.depthAll]; omega
  have s3 : (PyData.list [a', b', c', d']).shown.length ≤ sizeLine := by
    simp only [PyData.shown, PyData.shownAll]
    have z := listText_len_le [a'.shown, b'.shown, c'.shown, d'.shown]
    simp only [List.map_cons, List.map_nil, List.sum_cons, List.sum_nil, List.length_cons, List.length_nil] at z
    exact Nat.le_trans z (Nat.le_trans (show _ ≤ 400 by omega) (by decide))
  refine ⟨(PyData.list [a', b', c', d']).shown, fun st => ?_⟩
  have z : shW (.fl [a, b, c, d]) = some (PyData.list [a', b', c', d']).shown := by
    simp only [shW, shF, e, Option.bind_some]
    rw [if_pos ⟨s1, s2, s3⟩]
  simp only [biW, one1, z]; rfl
theorem lcFs {Γ : Gm} {i : Nat} {e : C} {ρ : Rho} {w y : W} {st st' : Sto} (h2 : evalE Γ e (ρ.set i (some w)) st = .ok y st') : lcF (.name i) (fun _ => pure true) (fun ρ' => evalE Γ e ρ') ρ w st = .ok (some y) st' := by
  unfold lcF
  simp only [run_bind, bT_name, ofO_pure, run_pure, bd_ok, if_true, h2]
theorem lcM4 {f : W → M (Option W)} {x0 x1 x2 x3 y0 y1 y2 y3 : W} {s0 s1 s2 s3 s4 : Sto} (h0 : f x0 s0 = .ok (some y0) s1) (h1 : f x1 s1 = .ok (some y1) s2) (h2 : f x2 s2 = .ok (some y2) s3) (h3 : f x3 s3 = .ok (some y3) s4) : lcM f [x0, x1, x2, x3] s0 = .ok [y0, y1, y2, y3] s4 := by
  simp only [lcM, run_bind, h0, h1, h2, h3, bd_ok, run_pure]; rfl
theorem e_things {k : Nat} {po : O} (hp : PenO (k + 4) po) (a0 a2 a3 a4 a5 a6 a7 a8 : Option W) : ∃ x0 x1 x2 x3 po', (lcM (lcF (.name 8) (fun _ => pure true) (fun ρ' => evalE g5 e1_law ρ') [a0, some (W.ref 0), a2, a3, a4, a5, a6, a7, a8]) [.int 0, .int 1, .int 2, .int 3]) [po] = .ok [x0, x1, x2, x3] [po'] ∧ x0 ∈ Th ∧ x1 ∈ Th ∧ x2 ∈ Th ∧ x3 ∈ Th ∧ PenO k po' := by
  obtain ⟨x0, p0, q0, m0, h0⟩ := e_thing (k := k + 3) hp []
  obtain ⟨x1, p1, q1, m1, h1⟩ := e_thing (k := k + 2) h0 []
  obtain ⟨x2, p2, q2, m2, h2⟩ := e_thing (k := k + 1) h1 []
  obtain ⟨x3, p3, q3, m3, h3⟩ := e_thing (k := k) h2 []
  refine ⟨x0, x1, x2, x3, p3, lcM4 (s1 := [p0]) (s2 := [p1]) (s3 := [p2]) (lcFs ?_) (lcFs ?_) (lcFs ?_) (lcFs ?_), m0, m1, m2, m3, h3⟩
  · simp only [OkR_ok, OkS_nx, OkS_rt, OkS_bk, OkS_ct, OkS_go, OkS_seq, OkR_bd, bd_ok, go_ok, seq_nx, seq_rt, ofO_some, ofO_pure, run_bind, run_pure, evalSs, evalS, evalE, evalEs, evalT, evalTAnd, evalTOr, evalAnd, evalOr, evalI, evalO, Vm.evalAll, intO, bT_name, bT_tup, bTs_nil, bTs_cons, Option.bind_some, List.set_cons_zero, List.set_cons_succ, var_zero, var_succ, asB_bl, Vm.isNon, biG_tup, biG_fl, biG_kl, biG_int, biG_bl, biG_str, biG_two, biG_r0, biG_r1, biG_r2, cmpG_int, cmpG_bl, cmpG_str, cmpG_tup, cmpG_fl, cmpG_non, cw_eq, cw_ne, cw_lt, cw_le, cw_gt, cw_ge, cw_eqb, cw_neb, cw_eqs, cw_nes, bw_add, bw_sub, nw, sub_tup, sub_fl, sub_kl, sub_r0, sub_r1, sub_r2, len_tup, len_fl, len_kl, len_r0, len_r1, tuple_fl, tuple_r0, tuple_r1, list_fl, list_tup, list_kl, items_tup, items_fl, items_kl, ii_int, ib_int, is_int, it_int, il_int, itl_int, ii_tup, ib_tup, is_tup, it_tup, il_tup, itl_tup, ii_fl, ib_fl, is_fl, it_fl, il_fl, itl_fl, ii_str, ib_str, is_str, it_str, il_str, itl_str, ii_bl, ib_bl, is_bl, it_bl, il_bl, ii_non, ib_non, is_non, it_non, il_non, ↓reduceIte, Bool.not_true, Bool.not_false, Bool.false_eq_true, decide_true, decide_false, decide_eq_true_eq, Bool.true_eq_false, eq_self, not_true_eq_false, not_false_eq_true, List.length_cons, List.length_nil, Nat.reduceAdd, szl, tup_if, lst_if, and_self, wipeR, List.map_cons, List.map_nil, Nat.reduceLeDiff, Int.cast_ofNat_Int, Int.reduceNeg, Int.reduceEq, Int.reduceLE, Int.reduceLT, at0, at1, at2, at3, st_law, un_law, q5__law_pen_1, q5_mk_Picture_1, q5_Eq_Picture, q5_NotEq_Picture, q5_repr_Picture, q5_source_1, q5_own_2, q5__law_thing_1, q5__law_first_right_4, q5_len_Picture, q5__law_second_right_4, c_law, e1_law, q0]
  · simp only [OkR_ok, OkS_nx, OkS_rt, OkS_bk, OkS_ct, OkS_go, OkS_seq, OkR_bd, bd_ok, go_ok, seq_nx, seq_rt, ofO_some, ofO_pure, run_bind, run_pure, evalSs, evalS, evalE, evalEs, evalT, evalTAnd, evalTOr, evalAnd, evalOr, evalI, evalO, Vm.evalAll, intO, bT_name, bT_tup, bTs_nil, bTs_cons, Option.bind_some, List.set_cons_zero, List.set_cons_succ, var_zero, var_succ, asB_bl, Vm.isNon, biG_tup, biG_fl, biG_kl, biG_int, biG_bl, biG_str, biG_two, biG_r0, biG_r1, biG_r2, cmpG_int, cmpG_bl, cmpG_str, cmpG_tup, cmpG_fl, cmpG_non, cw_eq, cw_ne, cw_lt, cw_le, cw_gt, cw_ge, cw_eqb, cw_neb, cw_eqs, cw_nes, bw_add, bw_sub, nw, sub_tup, sub_fl, sub_kl, sub_r0, sub_r1, sub_r2, len_tup, len_fl, len_kl, len_r0, len_r1, tuple_fl, tuple_r0, tuple_r1, list_fl, list_tup, list_kl, items_tup, items_fl, items_kl, ii_int, ib_int, is_int, it_int, il_int, itl_int, ii_tup, ib_tup, is_tup, it_tup, il_tup, itl_tup, ii_fl, ib_fl, is_fl, it_fl, il_fl, itl_fl, ii_str, ib_str, is_str, it_str, il_str, itl_str, ii_bl, ib_bl, is_bl, it_bl, il_bl, ii_non, ib_non, is_non, it_non, il_non, ↓reduceIte, Bool.not_true, Bool.not_false, Bool.false_eq_true, decide_true, decide_false, decide_eq_true_eq, Bool.true_eq_false, eq_self, not_true_eq_false, not_false_eq_true, List.length_cons, List.length_nil, Nat.reduceAdd, szl, tup_if, lst_if, and_self, wipeR, List.map_cons, List.map_nil, Nat.reduceLeDiff, Int.cast_ofNat_Int, Int.reduceNeg, Int.reduceEq, Int.reduceLE, Int.reduceLT, at0, at1, at2, at3, st_law, un_law, q5__law_pen_1, q5_mk_Picture_1, q5_Eq_Picture, q5_NotEq_Picture, q5_repr_Picture, q5_source_1, q5_own_2, q5__law_thing_1, q5__law_first_right_4, q5_len_Picture, q5__law_second_right_4, c_law, e1_law, q1]
  · simp only [OkR_ok, OkS_nx, OkS_rt, OkS_bk, OkS_ct, OkS_go, OkS_seq, OkR_bd, bd_ok, go_ok, seq_nx, seq_rt, ofO_some, ofO_pure, run_bind, run_pure, evalSs, evalS, evalE, evalEs, evalT, evalTAnd, evalTOr, evalAnd, evalOr, evalI, evalO, Vm.evalAll, intO, bT_name, bT_tup, bTs_nil, bTs_cons, Option.bind_some, List.set_cons_zero, List.set_cons_succ, var_zero, var_succ, asB_bl, Vm.isNon, biG_tup, biG_fl, biG_kl, biG_int, biG_bl, biG_str, biG_two, biG_r0, biG_r1, biG_r2, cmpG_int, cmpG_bl, cmpG_str, cmpG_tup, cmpG_fl, cmpG_non, cw_eq, cw_ne, cw_lt, cw_le, cw_gt, cw_ge, cw_eqb, cw_neb, cw_eqs, cw_nes, bw_add, bw_sub, nw, sub_tup, sub_fl, sub_kl, sub_r0, sub_r1, sub_r2, len_tup, len_fl, len_kl, len_r0, len_r1, tuple_fl, tuple_r0, tuple_r1, list_fl, list_tup, list_kl, items_tup, items_fl, items_kl, ii_int, ib_int, is_int, it_int, il_int, itl_int, ii_tup, ib_tup, is_tup, it_tup, il_tup, itl_tup, ii_fl, ib_fl, is_fl, it_fl, il_fl, itl_fl, ii_str, ib_str, is_str, it_str, il_str, itl_str, ii_bl, ib_bl, is_bl, it_bl, il_bl, ii_non, ib_non, is_non, it_non, il_non, ↓reduceIte, Bool.not_true, Bool.not_false, Bool.false_eq_true, decide_true, decide_false, decide_eq_true_eq, Bool.true_eq_false, eq_self, not_true_eq_false, not_false_eq_true, List.length_cons, List.length_nil, Nat.reduceAdd, szl, tup_if, lst_if, and_self, wipeR, List.map_cons, List.map_nil, Nat.reduceLeDiff, Int.cast_ofNat_Int, Int.reduceNeg, Int.reduceEq, Int.reduceLE, Int.reduceLT, at0, at1, at2, at3, st_law, un_law, q5__law_pen_1, q5_mk_Picture_1, q5_Eq_Picture, q5_NotEq_Picture, q5_repr_Picture, q5_source_1, q5_own_2, q5__law_thing_1, q5__law_first_right_4, q5_len_Picture, q5__law_second_right_4, c_law, e1_law, q2]
  · simp only [OkR_ok, OkS_nx, OkS_rt, OkS_bk, OkS_ct, OkS_go, OkS_seq, OkR_bd, bd_ok, go_ok, seq_nx, seq_rt, ofO_some, ofO_pure, run_bind, run_pure, evalSs, evalS, evalE, evalEs, evalT, evalTAnd, evalTOr, evalAnd, evalOr, evalI, evalO, Vm.evalAll, intO, bT_name, bT_tup, bTs_nil, bTs_cons, Option.bind_some, List.set_cons_zero, List.set_cons_succ, var_zero, var_succ, asB_bl, Vm.isNon, biG_tup, biG_fl, biG_kl, biG_int, biG_bl, biG_str, biG_two, biG_r0, biG_r1, biG_r2, cmpG_int, cmpG_bl, cmpG_str, cmpG_tup, cmpG_fl, cmpG_non, cw_eq, cw_ne, cw_lt, cw_le, cw_gt, cw_ge, cw_eqb, cw_neb, cw_eqs, cw_nes, bw_add, bw_sub, nw, sub_tup, sub_fl, sub_kl, sub_r0, sub_r1, sub_r2, len_tup, len_fl, len_kl, len_r0, len_r1, tuple_fl, tuple_r0, tuple_r1, list_fl, list_tup, list_kl, items_tup, items_fl, items_kl, ii_int, ib_int, is_int, it_int, il_int, itl_int, ii_tup, ib_tup, is_tup, it_tup, il_tup, itl_tup, ii_fl, ib_fl, is_fl, it_fl, il_fl, itl_fl, ii_str, ib_str, is_str, it_str, il_str, itl_str, ii_bl, ib_bl, is_bl, it_bl, il_bl, ii_non, ib_non, is_non, it_non, il_non, ↓reduceIte, Bool.not_true, Bool.not_false, Bool.false_eq_true, decide_true, decide_false, decide_eq_true_eq, Bool.true_eq_false, eq_self, not_true_eq_false, not_false_eq_true, List.length_cons, List.length_nil, Nat.reduceAdd, szl, tup_if, lst_if, and_self, wipeR, List.map_cons, List.map_nil, Nat.reduceLeDiff, Int.cast_ofNat_Int, Int.reduceNeg, Int.reduceEq, Int.reduceLE, Int.reduceLT, at0, at1, at2, at3, st_law, un_law, q5__law_pen_1, q5_mk_Picture_1, q5_Eq_Picture, q5_NotEq_Picture, q5_repr_Picture, q5_source_1, q5_own_2, q5__law_thing_1, q5__law_first_right_4, q5_len_Picture, q5__law_second_right_4, c_law, e1_law, q3]
theorem gl_thing : (g5).glob "_law_thing" = some (.glob "_law_thing") := by kernel_rfl
theorem own_eq (st : Sto) : cmpW .Eq (.tup [.str "own", .str "a", .glob "_law_thing"]) (.tup [.str "own", .str "a", .glob "_law_thing"]) st = .ok (.bl true) st := cw_eqa (by decide +kernel)
theorem pic5 : Pic [[[5]]] 1 1 255 := ⟨by decide, by decide, by decide, by decide, by decide, by decide, by simp, by simp, by simp⟩
theorem ne5 (st : Sto) : cmpG g5 .NotEq (pic [[[5]]] 0 0 255) (pic [[[5]]] 0 0 255) st = .ok (.bl false) st := by
  have e := e_Picture_eq (P := [[[5]]]) (Q := [[[5]]]) (l := 0) (u := 0) (d := 255) (l' := 0) (u' := 0) (d' := 255) st
  rw [eqv_Ps] at e
  simp only [pic] at e
  simp only [pic, q5_NotEq_Picture, e]
  rfl
theorem law_ok (ns : List Int) (few : ns.length ≤ 63) : ∃ st, m_law [.kl (ns.map .int)] [] = .ok (.bl true) st := by
  suffices hh : OkR (m_law [.kl (ns.map .int)] []) fun w st => w = .bl true by
    obtain ⟨w, st, e, rfl⟩ := hh.ex
    exact ⟨st, e⟩
  obtain ⟨po, ep, hp⟩ := e_pen ns few
  rw [un_law, OkR_runD, st_law]
  simp only [OkR_ok, OkS_nx, OkS_rt, OkS_bk, OkS_ct, OkS_go, OkS_seq, OkR_bd, bd_ok, go_ok, seq_nx, seq_rt, ofO_some, ofO_pure, run_bind, run_pure, evalSs, evalS, evalE, evalEs, evalT, evalTAnd, evalTOr, evalAnd, evalOr, evalI, evalO, Vm.evalAll, intO, bT_name, bT_tup, bTs_nil, bTs_cons, Option.bind_some, List.set_cons_zero, List.set_cons_succ, var_zero, var_succ, asB_bl, Vm.isNon, biG_tup, biG_fl, biG_kl, biG_int, biG_bl, biG_str, biG_two, biG_r0, biG_r1, biG_r2, cmpG_int, cmpG_bl, cmpG_str, cmpG_tup, cmpG_fl, cmpG_non, cw_eq, cw_ne, cw_lt, cw_le, cw_gt, cw_ge, cw_eqb, cw_neb, cw_eqs, cw_nes, bw_add, bw_sub, nw, sub_tup, sub_fl, sub_kl, sub_r0, sub_r1, sub_r2, len_tup, len_fl, len_kl, len_r0, len_r1, tuple_fl, tuple_r0, tuple_r1, list_fl, list_tup, list_kl, items_tup, items_fl, items_kl, ii_int, ib_int, is_int, it_int, il_int, itl_int, ii_tup, ib_tup, is_tup, it_tup, il_tup, itl_tup, ii_fl, ib_fl, is_fl, it_fl, il_fl, itl_fl, ii_str, ib_str, is_str, it_str, il_str, itl_str, ii_bl, ib_bl, is_bl, it_bl, il_bl, ii_non, ib_non, is_non, it_non, il_non, ↓reduceIte, Bool.not_true, Bool.not_false, Bool.false_eq_true, decide_true, decide_false, decide_eq_true_eq, Bool.true_eq_false, eq_self, not_true_eq_false, not_false_eq_true, List.length_cons, List.length_nil, Nat.reduceAdd, szl, tup_if, lst_if, and_self, wipeR, List.map_cons, List.map_nil, Nat.reduceLeDiff, Int.cast_ofNat_Int, Int.reduceNeg, Int.reduceEq, Int.reduceLE, Int.reduceLT, at0, at1, at2, at3, st_law, un_law, q5__law_pen_1, q5_mk_Picture_1, q5_Eq_Picture, q5_NotEq_Picture, q5_repr_Picture, q5_source_1, q5_own_2, q5__law_thing_1, q5__law_first_right_4, q5_len_Picture, q5__law_second_right_4, c_law, s1_law, ep, s2_law]
  rw [rng1_ok (by decide) (by decide), OkR_ok]
  refine OkS_rng (n := 2) (fun i ρ st => ∃ (o2 o3 o4 : Option W) (po' : O), ρ = [some (W.kl (ns.map .int)), some (W.ref 0), o2, o3, o4, none, none, none, none] ∧ st = [po'] ∧ PenO (4 * (2 - i)) po') ?_ ?_ ?_
  · exact ⟨_, _, _, po, rfl, rfl, hp.le (by decide)⟩
  · rintro i ρ st hi ⟨o2, o3, o4, po', rfl, rfl, hpo⟩
    obtain ⟨K, hK⟩ : ∃ K, K = 4 * (2 - (i + 1)) := ⟨_, rfl⟩
    have hpo : PenO (K + 4) po' := hpo.le (by omega)
    rw [← hK]
    obtain ⟨x0, x1, x2, x3, p1, q, m0, m1, m2, m3, h1⟩ := e_things hpo (some (W.kl (ns.map .int))) (some (W.int i)) o3 o4 none none none none
    obtain ⟨t, ht⟩ := th_repr m0 m1 m2 m3
    have f1 := fun st => e_first (th_plain m0) (th_plain m1) (th_plain m2) (th_plain m3) st
    have f2 := e_second (th_plain m0) (th_plain m1) (th_plain m2) (th_plain m3) [p1] h1.clo1
    simp only [OkR_ok, OkS_nx, OkS_rt, OkS_bk, OkS_ct, OkS_go, OkS_seq, OkR_bd, bd_ok, go_ok, seq_nx, seq_rt, ofO_some, ofO_pure, run_bind, run_pure, evalSs, evalS, evalE, evalEs, evalT, evalTAnd, evalTOr, evalAnd, evalOr, evalI, evalO, Vm.evalAll, intO, bT_name, bT_tup, bTs_nil, bTs_cons, Option.bind_some, List.set_cons_zero, List.set_cons_succ, var_zero, var_succ, asB_bl, Vm.isNon, biG_tup, biG_fl, biG_kl, biG_int, biG_bl, biG_str, biG_two, biG_r0, biG_r1, biG_r2, cmpG_int, cmpG_bl, cmpG_str, cmpG_tup, cmpG_fl, cmpG_non, cw_eq, cw_ne, cw_lt, cw_le, cw_gt, cw_ge, cw_eqb, cw_neb, cw_eqs, cw_nes, bw_add, bw_sub, nw, sub_tup, sub_fl, sub_kl, sub_r0, sub_r1, sub_r2, len_tup, len_fl, len_kl, len_r0, len_r1, tuple_fl, tuple_r0, tuple_r1, list_fl, list_tup, list_kl, items_tup, items_fl, items_kl, ii_int, ib_int, is_int, it_int, il_int, itl_int, ii_tup, ib_tup, is_tup, it_tup, il_tup, itl_tup, ii_fl, ib_fl, is_fl, it_fl, il_fl, itl_fl, ii_str, ib_str, is_str, it_str, il_str, itl_str, ii_bl, ib_bl, is_bl, it_bl, il_bl, ii_non, ib_non, is_non, it_non, il_non, ↓reduceIte, Bool.not_true, Bool.not_false, Bool.false_eq_true, decide_true, decide_false, decide_eq_true_eq, Bool.true_eq_false, eq_self, not_true_eq_false, not_false_eq_true, List.length_cons, List.length_nil, Nat.reduceAdd, szl, tup_if, lst_if, and_self, wipeR, List.map_cons, List.map_nil, Nat.reduceLeDiff, Int.cast_ofNat_Int, Int.reduceNeg, Int.reduceEq, Int.reduceLE, Int.reduceLT, at0, at1, at2, at3, st_law, un_law, q5__law_pen_1, q5_mk_Picture_1, q5_Eq_Picture, q5_NotEq_Picture, q5_repr_Picture, q5_source_1, q5_own_2, q5__law_thing_1, q5__law_first_right_4, q5_len_Picture, q5__law_second_right_4, c_law, s7_law]
    rw [rng1_ok (by decide) (by decide)]
    simp only [OkR_ok, OkS_nx, OkS_rt, OkS_bk, OkS_ct, OkS_go, OkS_seq, OkR_bd, bd_ok, go_ok, seq_nx, seq_rt, ofO_some, ofO_pure, run_bind, run_pure, evalSs, evalS, evalE, evalEs, evalT, evalTAnd, evalTOr, evalAnd, evalOr, evalI, evalO, Vm.evalAll, intO, bT_name, bT_tup, bTs_nil, bTs_cons, Option.bind_some, List.set_cons_zero, List.set_cons_succ, var_zero, var_succ, asB_bl, Vm.isNon, biG_tup, biG_fl, biG_kl, biG_int, biG_bl, biG_str, biG_two, biG_r0, biG_r1, biG_r2, cmpG_int, cmpG_bl, cmpG_str, cmpG_tup, cmpG_fl, cmpG_non, cw_eq, cw_ne, cw_lt, cw_le, cw_gt, cw_ge, cw_eqb, cw_neb, cw_eqs, cw_nes, bw_add, bw_sub, nw, sub_tup, sub_fl, sub_kl, sub_r0, sub_r1, sub_r2, len_tup, len_fl, len_kl, len_r0, len_r1, tuple_fl, tuple_r0, tuple_r1, list_fl, list_tup, list_kl, items_tup, items_fl, items_kl, ii_int, ib_int, is_int, it_int, il_int, itl_int, ii_tup, ib_tup, is_tup, it_tup, il_tup, itl_tup, ii_fl, ib_fl, is_fl, it_fl, il_fl, itl_fl, ii_str, ib_str, is_str, it_str, il_str, itl_str, ii_bl, ib_bl, is_bl, it_bl, il_bl, ii_non, ib_non, is_non, it_non, il_non, ↓reduceIte, Bool.not_true, Bool.not_false, Bool.false_eq_true, decide_true, decide_false, decide_eq_true_eq, Bool.true_eq_false, eq_self, not_true_eq_false, not_false_eq_true, List.length_cons, List.length_nil, Nat.reduceAdd, szl, tup_if, lst_if, and_self, wipeR, List.map_cons, List.map_nil, Nat.reduceLeDiff, Int.cast_ofNat_Int, Int.reduceNeg, Int.reduceEq, Int.reduceLE, Int.reduceLT, at0, at1, at2, at3, st_law, un_law, q5__law_pen_1, q5_mk_Picture_1, q5_Eq_Picture, q5_NotEq_Picture, q5_repr_Picture, q5_source_1, q5_own_2, q5__law_thing_1, q5__law_first_right_4, q5_len_Picture, q5__law_second_right_4, c_law, show (List.range (Int.toNat 4)).map (fun k : Nat => W.int k) = [W.int 0, W.int 1, W.int 2, W.int 3] from rfl]
    rw [noEr_of q]
    simp (disch := simp) only [OkR_ok, OkS_nx, OkS_rt, OkS_bk, OkS_ct, OkS_go, OkS_seq, OkR_bd, bd_ok, go_ok, seq_nx, seq_rt, ofO_some, ofO_pure, run_bind, run_pure, evalSs, evalS, evalE, evalEs, evalT, evalTAnd, evalTOr, evalAnd, evalOr, evalI, evalO, Vm.evalAll, intO, bT_name, bT_tup, bTs_nil, bTs_cons, Option.bind_some, List.set_cons_zero, List.set_cons_succ, var_zero, var_succ, asB_bl, Vm.isNon, biG_tup, biG_fl, biG_kl, biG_int, biG_bl, biG_str, biG_two, biG_r0, biG_r1, biG_r2, cmpG_int, cmpG_bl, cmpG_str, cmpG_tup, cmpG_fl, cmpG_non, cw_eq, cw_ne, cw_lt, cw_le, cw_gt, cw_ge, cw_eqb, cw_neb, cw_eqs, cw_nes, bw_add, bw_sub, nw, sub_tup, sub_fl, sub_kl, sub_r0, sub_r1, sub_r2, len_tup, len_fl, len_kl, len_r0, len_r1, tuple_fl, tuple_r0, tuple_r1, list_fl, list_tup, list_kl, items_tup, items_fl, items_kl, ii_int, ib_int, is_int, it_int, il_int, itl_int, ii_tup, ib_tup, is_tup, it_tup, il_tup, itl_tup, ii_fl, ib_fl, is_fl, it_fl, il_fl, itl_fl, ii_str, ib_str, is_str, it_str, il_str, itl_str, ii_bl, ib_bl, is_bl, it_bl, il_bl, ii_non, ib_non, is_non, it_non, il_non, ↓reduceIte, Bool.not_true, Bool.not_false, Bool.false_eq_true, decide_true, decide_false, decide_eq_true_eq, Bool.true_eq_false, eq_self, not_true_eq_false, not_false_eq_true, List.length_cons, List.length_nil, Nat.reduceAdd, szl, tup_if, lst_if, and_self, wipeR, List.map_cons, List.map_nil, Nat.reduceLeDiff, Int.cast_ofNat_Int, Int.reduceNeg, Int.reduceEq, Int.reduceLE, Int.reduceLT, at0, at1, at2, at3, st_law, un_law, q5__law_pen_1, q5_mk_Picture_1, q5_Eq_Picture, q5_NotEq_Picture, q5_repr_Picture, q5_source_1, q5_own_2, q5__law_thing_1, q5__law_first_right_4, q5_len_Picture, q5__law_second_right_4, c_law, lcEnd_f, s8_law, ht, s9_law, f1, s10_law, f2, cw_nes]
    simp
    exact h1
  · rintro ρ st ⟨o2, o3, o4, po', rfl, rfl, hpo⟩
    have i1 := e_Picture_init (l := 0) (u := 0) (d := 255) pic5 [po'] hpo.clo1 (by decide) (by decide) (by decide) (by decide) (by decide) (by decide)
    have i2 : ePs [[[5]]] = .tup [.tup [.tup [.int 5]]] := rfl
    rw [i2] at i1
    simp only [OkR_ok, OkS_nx, OkS_rt, OkS_bk, OkS_ct, OkS_go, OkS_seq, OkR_bd, bd_ok, go_ok, seq_nx, seq_rt, ofO_some, ofO_pure, run_bind, run_pure, evalSs, evalS, evalE, evalEs, evalT, evalTAnd, evalTOr, evalAnd, evalOr, evalI, evalO, Vm.evalAll, intO, bT_name, bT_tup, bTs_nil, bTs_cons, Option.bind_some, List.set_cons_zero, List.set_cons_succ, var_zero, var_succ, asB_bl, Vm.isNon, biG_tup, biG_fl, biG_kl, biG_int, biG_bl, biG_str, biG_two, biG_r0, biG_r1, biG_r2, cmpG_int, cmpG_bl, cmpG_str, cmpG_tup, cmpG_fl, cmpG_non, cw_eq, cw_ne, cw_lt, cw_le, cw_gt, cw_ge, cw_eqb, cw_neb, cw_eqs, cw_nes, bw_add, bw_sub, nw, sub_tup, sub_fl, sub_kl, sub_r0, sub_r1, sub_r2, len_tup, len_fl, len_kl, len_r0, len_r1, tuple_fl, tuple_r0, tuple_r1, list_fl, list_tup, list_kl, items_tup, items_fl, items_kl, ii_int, ib_int, is_int, it_int, il_int, itl_int, ii_tup, ib_tup, is_tup, it_tup, il_tup, itl_tup, ii_fl, ib_fl, is_fl, it_fl, il_fl, itl_fl, ii_str, ib_str, is_str, it_str, il_str, itl_str, ii_bl, ib_bl, is_bl, it_bl, il_bl, ii_non, ib_non, is_non, it_non, il_non, ↓reduceIte, Bool.not_true, Bool.not_false, Bool.false_eq_true, decide_true, decide_false, decide_eq_true_eq, Bool.true_eq_false, eq_self, not_true_eq_false, not_false_eq_true, List.length_cons, List.length_nil, Nat.reduceAdd, szl, tup_if, lst_if, and_self, wipeR, List.map_cons, List.map_nil, Nat.reduceLeDiff, Int.cast_ofNat_Int, Int.reduceNeg, Int.reduceEq, Int.reduceLE, Int.reduceLT, at0, at1, at2, at3, st_law, un_law, q5__law_pen_1, q5_mk_Picture_1, q5_Eq_Picture, q5_NotEq_Picture, q5_repr_Picture, q5_source_1, q5_own_2, q5__law_thing_1, q5__law_first_right_4, q5_len_Picture, q5__law_second_right_4, c_law, s3_law, i1, s4_law, e_source, e_own, gl_thing, s5_law, ne5, own_eq, s6_law, cw_nes]
end VmL
namespace VmL
open PySem L2 Vm
theorem keeps {P : Program} {w : World} {K : PySem.W.Frag} {h : Heap} {mg : Str → Option Value} (c : He.SaysD md.fa fn K) (H : Hd md K h mg) :
    ∃ fd : FuncData, (∀ (s : Shared) (v : Value), BindsTo s fd ⟨[v], []⟩ [(("_law_script" : PySem.Str), v)]) ∧ ∀ base : Heap, FnG P w K mg base 36 (He.ga K "law") fd p_law (spOf K 1 m_law) := by
  obtain ⟨fd, F⟩ := c.def_ 41 (d := d_law) rfl
  refine ⟨fd, fun s v => ?_, fun base => mD_ok false (by omega) F sc_law (ok5 c H) k_law⟩
  exact FunD.bindsA (ps := p_law) F (fun _ _ _ _ _ _ us hl => match us, hl with | [_], _ => rfl) s [v] rfl
end VmL
open PySem PySem.W PySem.Calls PyProof.Rows
theorem PySem.Challenge.cw_pixelstages_k10_makers_holds : PySem.Challenge.rw_pixelstages_k10_makers.Holds := by
  w_on; o_law
  refine HandSHeadRun.head_any (r := OpenLaw.row PySem.Challenge.rw_pixelstages_k10_makers) (q := view (OpenLaw.row PySem.Challenge.rw_pixelstages_k10_makers).prog [49]) (H := VmL.hk) (ob := VmL.ob) (M := 4000) (loose := VmL.loose) (d := HandSHeadRun.topDef (OpenLaw.row PySem.Challenge.rw_pixelstages_k10_makers).prog 49) (kwd := []) VmL.ob_eq
    (by kernel_rfl) (fun s => by kernel_rfl) VmL.run (by kernel_rfl) (by kernel_rfl) (by kernel_rfl) (by rfl) (by first | assumption | decide +kernel) (by decide +kernel) ⟨rfl, rfl, rfl, rfl, rfl, by decide +kernel⟩ ?hw ?hc
  case hw => w_witness2
  case hc =>
    refine Vm.walk_G (l := PySem.Challenge.rw_pixelstages_k10_makers) (n := 63) (k := 36) (x := ("_law_script" : PySem.Str)) rfl (by decide) (by kernel_rfl) ⟨rfl, by decide, by decide⟩ ?F
    intro w mg fa h Y G known
    obtain ⟨K, KX, c⟩ := Y
    have hmg : mg ("law" : PySem.Str) = some (.ref fa) := by
      have e : (HandSHeadRun.topDef (OpenLaw.row PySem.Challenge.rw_pixelstages_k10_makers).prog 49).name = ("law" : PySem.Str) := by kernel_rfl
      rw [← e]
      exact known
    have H : Vm.Hd VmL.md K h mg := ⟨KX, G, fun f hf => c.t.d.facts hf, c.more⟩
    obtain ⟨fd, bnd, ok⟩ := VmL.keeps (P := (PySem.Challenge.rw_pixelstages_k10_makers).prog) (w := w) c.t.d H
    have e := hmg.symm.trans (H.def_ (x := "law") (List.mem_of_getElem? (i := 34) rfl))
    cases e
    exact ⟨K, fd, Vm.spOf K 1 VmL.m_law, KX, bnd, fun H' a ns few only sq => Vm.pre_ok (VmL.law_ok ns few) only sq, fun base _ _ => ok base⟩
