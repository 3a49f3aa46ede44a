import PyProof.Rows.All
import HandS.ForMost
import HandS.TupAny
import HandS.IsInst
import HandS.Wide
import HandS.EndBits
import HandS.Zip
import HandS.Conv
import HandS.Exc
import HandS.Deep
import HandS.ExcOwn
import HandS.TryOnly
import HandS.WordsExc
import HandS.SetFor
import HandS.RaiseMore
import KE.KTupSum
import HandS.TupMul
import HandS.SortInts
import HandS.SortKw
import HandS.Style
import HandS.Zip0
import HandS.Iter
import HandS.Strs
import HandS.DictComp
import KE.SortData
import KE.SortKeyHeap
import HandS.Defaults
import HandS.ExcIs
import HandS.Small
import KE.KExcIs
import PySem.Challenge.RW_onemore_k14_an_ask_left_out
set_option Elab.async false
set_option linter.all false
set_option maxRecDepth 100000
/-! Dm: a second layer over the hand layer: what a def computes, as a plain function of data. -/
namespace Dm
noncomputable section
open PySem PySem.Spec PyProof.Rows L2

abbrev D := PyData

mutual
/-- no list, no dict within: nobody can change it -/
def noL : D → Bool
  | .none => true
  | .bool _ => true
  | .int _ => true
  | .str _ => true
  | .list _ => false
  | .tuple xs => noLs xs
  | .dict _ => false
def noLs : List D → Bool
  | [] => true
  | x :: r => noL x && noLs r
end

/-- a number within bounds; so said that nobody computes it -/
theorem inB_ex (a b : Int) : ∃ f : Int → Bool, ∀ i, f i = (decide (a ≤ i) && decide (i < b)) := ⟨_, fun _ => rfl⟩
def inB (a b : Int) : Int → Bool := Classical.choose (inB_ex a b)
theorem inB_eq {a b i : Int} : inB a b i = (decide (a ≤ i) && decide (i < b)) := Classical.choose_spec (inB_ex a b) i
theorem inB_t {a b i : Int} (h : a ≤ i) (h2 : i < b) : inB a b i = true := by rw [inB_eq, decide_eq_true h, decide_eq_true h2]; rfl
/-- what happens: nothing known, a value, an exception -/
structure Exn where
  cls : Str
  arg : Option Int := none
inductive Re (α : Type) where
  | bad
  | ok (a : α)
  | ex (c : Exn)
def Re.bind {α β : Type} (r : Re α) (k : α → Re β) : Re β := match r with
  | .bad => .bad
  | .ok a => k a
  | .ex c => .ex c
def wp {α : Type} (r : Re α) (Q : α → Prop) (E : Exn → Prop) : Prop := match r with
  | .bad => False
  | .ok a => Q a
  | .ex c => E c
theorem wp_bind {α β : Type} {r : Re α} {k : α → Re β} {Q : β → Prop} {E : Exn → Prop} : wp (r.bind k) Q E ↔ wp r (fun a => wp (k a) Q E) E := by
  cases r <;> exact Iff.rfl
theorem wp_mono {α : Type} {r : Re α} {Q Q' : α → Prop} {E E' : Exn → Prop} (h : wp r Q E) (hq : ∀ a, r = .ok a → Q a → Q' a) (he : ∀ c, E c → E' c) : wp r Q' E' := by
  cases r with
  | bad => exact h
  | ok a => exact hq a rfl h
  | ex c => exact he c h
@[simp] theorem bind_ok {α β : Type} (a : α) (k : α → Re β) : (Re.ok a).bind k = k a := Eq.trans rfl rfl
@[simp] theorem bind_ex {α β : Type} (c : Exn) (k : α → Re β) : (Re.ex c : Re α).bind k = .ex c := Eq.trans rfl rfl
@[simp] theorem bind_bad {α β : Type} (k : α → Re β) : (Re.bad : Re α).bind k = .bad := Eq.trans rfl rfl

/-! ### representation -/
def Imm : HO → Prop
  | .tup _ => True
  | .frz _ _ => True
  | .ext _ => True
  | .xd _ => True
  | _ => False
/-- a list that nobody changes: the script, a list of the written part -/
def SqF (K : PySem.W.Frag) (H : Hp) (a : Addr) (xs : List V) : Prop :=
  (∃ o, H a = some (.frz o (.lst xs))) ∨
    ∃ (o : Obj) (its : Array Value) (n : Nat), K.lookup a = some o ∧ o.cls = .type "list" ∧ o.dict = none ∧ o.data = .seq its n ∧ its.size ≤ sizeLine ∧ Vals xs its.toList
theorem SqF.sq {K : PySem.W.Frag} {H : Hp} {a : Addr} {xs : List V} (h : SqF K H a xs) : SqL K H a xs := by
  rcases h with ⟨o, h⟩ | h
  · exact .inl (.inr ⟨o, h⟩)
  · exact .inr h
/-- a tuple, by its object: it has no dict of its own -/
def SqX (K : PySem.W.Frag) (H : Hp) (a : Addr) (xs : List V) : Prop :=
  (∃ o, H a = some (.frz o (.tup xs)) ∧ o.dict = none) ∨
    ∃ (o : Obj) (its : Array Value) (n : Nat), K.lookup a = some o ∧ o.cls = .type "tuple" ∧ o.dict = none ∧ o.data = .seq its n ∧ its.size ≤ sizeLine ∧ Vals xs its.toList
theorem SqX.sq {K : PySem.W.Frag} {H : Hp} {a : Addr} {xs : List V} (h : SqX K H a xs) : SqT K H a xs := by
  rcases h with ⟨o, h, _⟩ | ⟨o, its, n, h1, h2, _, h3⟩
  · exact .inl (.inr ⟨o, h⟩)
  · exact .inr ⟨o, its, n, h1, h2, h3⟩
theorem SqX.keep {K : PySem.W.Frag} {H H' : Hp} {a : Addr} {xs : List V} (h : SqX K H a xs) (k : ∀ b o, H b = some o → Imm o → H' b = some o) : SqX K H' a xs := by
  rcases h with ⟨o, h, d⟩ | h
  · exact .inl ⟨o, k _ _ h trivial, d⟩
  · exact .inr h
mutual
/-- the value v stands for the data d; its lists stand where P allows -/
inductive Rp (K : PySem.W.Frag) (H : Hp) (P : Addr → Prop) : V → D → Prop
  | non : Rp K H P .non .none
  | bl (b : Bool) : Rp K H P (.bl b) (.bool b)
  | int (i : Int) : Rp K H P (.int i) (.int i)
  | str (x : Str) : Rp K H P (.str x) (.str x)
  | lst {a : Addr} {xs : List V} {ds : List D} : H a = some (.lst xs) → P a → RpA K H P xs ds → Rp K H P (.ref a) (.list ds)
  | tup {a : Addr} {xs : List V} {ds : List D} : SqX K H a xs → RpA K H P xs ds → Rp K H P (.ref a) (.tuple ds)
inductive RpA (K : PySem.W.Frag) (H : Hp) (P : Addr → Prop) : List V → List D → Prop
  | nil : RpA K H P [] []
  | cons {v : V} {vs : List V} {d : D} {ds : List D} : Rp K H P v d → RpA K H P vs ds → RpA K H P (v :: vs) (d :: ds)
end

section
variable {K : PySem.W.Frag} {H H' : Hp} {P P' : Addr → Prop}
mutual
/-- carried to another heap: the lists that P allows stand, what never changes stands -/
theorem Rp.move (hl : ∀ a xs, P a → H a = some (.lst xs) → H' a = some (.lst xs) ∧ P' a) (hi : ∀ a o, H a = some o → Imm o → H' a = some o) :
    ∀ {d : D} {v : V}, Rp K H P v d → Rp K H' P' v d
  | _, _, .non => .non
  | _, _, .bl b => .bl b
  | _, _, .int i => .int i
  | _, _, .str x => .str x
  | _, _, .lst h p r => .lst (hl _ _ p h).1 (hl _ _ p h).2 (RpA.move hl hi r)
  | _, _, .tup h r => .tup (h.keep hi) (RpA.move hl hi r)
theorem RpA.move (hl : ∀ a xs, P a → H a = some (.lst xs) → H' a = some (.lst xs) ∧ P' a) (hi : ∀ a o, H a = some o → Imm o → H' a = some o) :
    ∀ {ds : List D} {vs : List V}, RpA K H P vs ds → RpA K H' P' vs ds
  | _, _, .nil => .nil
  | _, _, .cons h t => .cons (Rp.move hl hi h) (RpA.move hl hi t)
end
theorem Rp.imp (h : ∀ a, P a → P' a) {d : D} {v : V} (r : Rp K H P v d) : Rp K H P' v d := r.move (fun a _ p e => ⟨e, h a p⟩) fun _ _ e _ => e
theorem RpA.imp (h : ∀ a, P a → P' a) {d : List D} {v : List V} (r : RpA K H P v d) : RpA K H P' v d := r.move (fun a _ p e => ⟨e, h a p⟩) fun _ _ e _ => e
theorem Rp.same (h : Same H H') {d : D} {v : V} (r : Rp K H P v d) : Rp K H' P v d := r.move (fun a _ p e => ⟨h _ _ e, p⟩) fun _ _ e _ => h _ _ e
theorem RpA.same (h : Same H H') {d : List D} {v : List V} (r : RpA K H P v d) : RpA K H' P v d := r.move (fun a _ p e => ⟨h _ _ e, p⟩) fun _ _ e _ => h _ _ e
mutual
theorem Rp.free : ∀ {d : D} {v : V}, noL d = true → Rp K H P v d → Rp K H P' v d
  | _, _, _, .non => .non
  | _, _, _, .bl b => .bl b
  | _, _, _, .int i => .int i
  | _, _, _, .str x => .str x
  | _, _, e, .lst _ _ _ => by simp [noL] at e
  | _, _, e, .tup h r => .tup h (RpA.free (by simpa [noL] using e) r)
theorem RpA.free : ∀ {ds : List D} {vs : List V}, noLs ds = true → RpA K H P vs ds → RpA K H P' vs ds
  | _, _, _, .nil => .nil
  | d :: ds, _, e, .cons h t => by
    have e' : noL d = true ∧ noLs ds = true := by simpa [noLs] using e
    exact .cons (Rp.free e'.1 h) (RpA.free e'.2 t)
end
mutual
theorem Rp.dp : ∀ {d : D} {v : V}, Rp K H P v d → Dp K H v d
  | _, _, .non => .non
  | _, _, .bl b => .bl b
  | _, _, .int i => .int i
  | _, _, .str x => .str x
  | _, _, .lst h _ r => .lst (.of h) (RpA.dp r)
  | _, _, .tup h r => .tup h.sq (RpA.dp r)
theorem RpA.dp : ∀ {ds : List D} {vs : List V}, RpA K H P vs ds → DpAll K H vs ds
  | _, _, .nil => .nil
  | _, _, .cons h t => .cons (Rp.dp h) (RpA.dp t)
end
theorem RpA.len : ∀ {ds : List D} {vs : List V}, RpA K H P vs ds → vs.length = ds.length
  | _, _, .nil => rfl
  | _, _, .cons _ t => by rw [List.length_cons, List.length_cons, RpA.len t]
theorem RpA.get : ∀ {ds : List D} {vs : List V} {i : Nat} {d : D}, RpA K H P vs ds → ds[i]? = some d → ∃ v, vs[i]? = some v ∧ Rp K H P v d
  | _, _, _, _, .nil, e => by simp at e
  | _, _, 0, _, .cons h _, e => by simp at e; subst e; exact ⟨_, rfl, h⟩
  | _, _, i + 1, d, .cons _ t, e => by
    obtain ⟨v, a, b⟩ := RpA.get (i := i) (d := d) t (by simpa using e)
    exact ⟨v, by simpa using a, b⟩
theorem RpA.getV : ∀ {ds : List D} {vs : List V} {i : Nat} {v : V}, RpA K H P vs ds → vs[i]? = some v → ∃ d, ds[i]? = some d ∧ Rp K H P v d
  | _, _, _, _, .nil, e => by simp at e
  | _, _, 0, _, .cons h _, e => by simp at e; subst e; exact ⟨_, rfl, h⟩
  | _, _, i + 1, d, .cons _ t, e => by
    obtain ⟨v, a, b⟩ := RpA.getV (i := i) (v := d) t (by simpa using e)
    exact ⟨v, by simpa using a, b⟩
theorem RpA.app : ∀ {ds es : List D} {vs ws : List V}, RpA K H P vs ds → RpA K H P ws es → RpA K H P (vs ++ ws) (ds ++ es)
  | _, _, _, _, .nil, s => s
  | _, _, _, _, .cons h t, s => .cons h (RpA.app t s)
theorem RpA.take : ∀ {ds : List D} {vs : List V} (n : Nat), RpA K H P vs ds → RpA K H P (vs.take n) (ds.take n)
  | _, _, 0, _ => .nil
  | _, _, _ + 1, .nil => .nil
  | _, _, n + 1, .cons h t => .cons h (RpA.take n t)
theorem RpA.drop : ∀ {ds : List D} {vs : List V} (n : Nat), RpA K H P vs ds → RpA K H P (vs.drop n) (ds.drop n)
  | _, _, 0, r => r
  | _, _, _ + 1, .nil => .nil
  | _, _, n + 1, .cons _ t => RpA.drop n t
theorem RpA.set : ∀ {ds : List D} {vs : List V} (i : Nat) {d : D} {v : V}, RpA K H P vs ds → Rp K H P v d → RpA K H P (vs.set i v) (ds.set i d)
  | _, _, _, _, _, .nil, _ => .nil
  | _, _, 0, _, _, .cons _ t, r => .cons r t
  | _, _, i + 1, _, _, .cons h t, r => .cons h (RpA.set i t r)
theorem RpA.erase : ∀ {ds : List D} {vs : List V} (i : Nat), RpA K H P vs ds → RpA K H P (vs.eraseIdx i) (ds.eraseIdx i)
  | _, _, _, .nil => .nil
  | _, _, 0, .cons _ t => t
  | _, _, i + 1, .cons h t => .cons h (RpA.erase i t)
theorem RpA.rev {ds : List D} {vs : List V} (r : RpA K H P vs ds) : RpA K H P vs.reverse ds.reverse := by
  induction ds generalizing vs with
  | nil => cases r; exact .nil
  | cons d ds ih =>
    cases r with
    | cons h t => rw [List.reverse_cons, List.reverse_cons]; exact (ih t).app (.cons h .nil)
end

/-! ### levels: which lists an expression may hand out -/
inductive Lv where
  /-- lists of the def's own that all may hold; effects are allowed -/
  | va
  /-- .. and those that were handed in -/
  | bo
  /-- any; no effects -/
  | an
  /-- as va, as bo; no effects -/
  | vp
  | bp
  /-- the def's own ones, kept ones too (at a return); no effects -/
  | rt (np : Nat)
  /-- those made by the expression itself; no effects -/
  | fr
  deriving DecidableEq
def Lv.okb : Lv → Nat → Bool
  | .va, c => c == 0
  | .bo, c => decide (c ≤ 1)
  | .an, _ => true
  | .vp, c => c == 0
  | .bp, c => decide (c ≤ 1)
  | .rt np, c => c == 0 || decide (np + 3 ≤ c)
  | .fr, c => c == 0
def Lv.pure : Lv → Bool
  | .va => false
  | .bo => false
  | _ => true
theorem Lv.ok0 (L : Lv) : L.okb 0 = true := by cases L <;> simp [Lv.okb]

/-! ### slots -/
/-- a def: how many parameters, where those stand that it may change -/
structure Fp where
  n : Nat
  pa : Nat → Addr
/-- what an object's attribute holds: flat data, or a list of the object's own with flat items -/
inductive Fd where
  | va (d : D)
  | ow (ds : List D)
/-- a class of the program's own: its name, its attributes in the order in which they are made -/
structure Kl where
  nm : Str
  ks : List Str
  deriving DecidableEq
inductive Sl where
  | no
  | va (d : D)
  | bo (d : D)
  | ow (ds : List D)
  | un (d : D)
  /-- the script: ints -/
  | sc (ns : List Int)
  /-- an object of the class kl, its attributes -/
  | ob (kl : Kl) (xs : List Fd)
  /-- a dict of one's own: ints to plain things -/
  | dc (kvs : List (Int × D))
  /-- an exception that was caught -/
  | ex (c : Exn)
  /-- a tuple of two lists of one's own, apart -/
  | tw (ds es : List D)
abbrev Slots := List Sl
abbrev Col := Addr → Nat
def Cof (C : Col) (L : Lv) : Addr → Prop := fun a => L.okb (C a) = true
inductive FdR (K : PySem.W.Frag) (H : Hp) (C : Col) (c : Nat) : V → Fd → Prop
  | va {v : V} {d : D} : noL d = true → Rp K H (fun _ => False) v d → FdR K H C c v (.va d)
  | ow {b : Addr} {vs : List V} {ds : List D} : H b = some (.lst vs) → C b = c → noLs ds = true → RpA K H (fun _ => False) vs ds → FdR K H C c (.ref b) (.ow ds)
structure ObR (K : PySem.W.Frag) (H : Hp) (C : Col) (c : Nat) (ks : List Str) (us : List (Str × V)) (xs : List Fd) : Prop where
  le : xs.length ≤ ks.length
  keys : us.map (·.1) = ks.take xs.length
  get : ∀ (k : Nat) x, xs[k]? = some x → ∃ f v, us[k]? = some (f, v) ∧ FdR K H C c v x
  dis : ∀ (k l : Nat) ds es b f g, k ≠ l → xs[k]? = some (.ow ds) → xs[l]? = some (.ow es) → us[k]? = some (f, V.ref b) → us[l]? = some (g, V.ref b) → False
theorem FdR.move {K : PySem.W.Frag} {H H' : Hp} {C C' : Col} {c c' : Nat} {v : V} {x : Fd} (hl : ∀ b xs, C b = c → H b = some (.lst xs) → H' b = some (.lst xs) ∧ C' b = c') (hi : ∀ a o, H a = some o → Imm o → H' a = some o) (r : FdR K H C c v x) : FdR K H' C' c' v x := by
  cases r with
  | va n r => exact .va n (r.move (fun _ _ p => p.elim) hi)
  | ow h e n r => exact .ow (hl _ _ e h).1 (hl _ _ e h).2 n (r.move (fun _ _ p => p.elim) hi)
theorem ObR.move {K : PySem.W.Frag} {H H' : Hp} {C C' : Col} {c c' : Nat} {ks : List Str} {us : List (Str × V)} {fs : List Fd} (hl : ∀ b xs, C b = c → H b = some (.lst xs) → H' b = some (.lst xs) ∧ C' b = c') (hi : ∀ a o, H a = some o → Imm o → H' a = some o) (r : ObR K H C c ks us fs) : ObR K H' C' c' ks us fs :=
  ⟨r.le, r.keys, fun k x e => let ⟨f, v, l, q⟩ := r.get k x e; ⟨f, v, l, q.move hl hi⟩, r.dis⟩
/-- a dict's pairs -/
inductive KvR (K : PySem.W.Frag) (H : Hp) : List (Key × V) → List (Int × D) → Prop
  | nil : KvR K H [] []
  | cons {i : Int} {v : V} {d : D} {r : List (Key × V)} {s : List (Int × D)} : noL d = true → Rp K H (fun _ => False) v d → KvR K H r s → KvR K H ((.inl i, v) :: r) ((i, d) :: s)
theorem KvR.move {K : PySem.W.Frag} {H H' : Hp} (hi : ∀ a o, H a = some o → Imm o → H' a = some o) : ∀ {us : List (Key × V)} {ds : List (Int × D)}, KvR K H us ds → KvR K H' us ds
  | _, _, .nil => .nil
  | _, _, .cons n r t => .cons n (r.move (fun _ _ p => p.elim) hi) (t.move hi)
/-- an exception's object, of the class at C -/
def exA (C : Addr) (d : Option Addr) (a : Addr) : HO := .ext fun h => ∃ (oe : Obj) (vs : Array Value), h.get? a = some oe ∧ Zc (.ref C) d oe ∧ oe.data = .fields vs
/-- what it was made of -/
def exArg (H : Hp) (d : Option Addr) : Option Int → Prop
  | none => d = none
  | some n => ∃ dd, d = some dd ∧ H dd = some (.xd [("many", .int n)])
theorem exArg.move {H H' : Hp} (hi : ∀ a o, H a = some o → Imm o → H' a = some o) {d : Option Addr} : ∀ {x : Option Int}, exArg H d x → exArg H' d x
  | none, h => h
  | some _, ⟨dd, e, h⟩ => ⟨dd, e, hi _ _ h trivial⟩
inductive SlotR (K : PySem.W.Frag) (np : Fp) (H : Hp) (C : Col) (i : Nat) : Option (Option V) → Sl → Prop
  | no {o : Option (Option V)} : SlotR K np H C i o .no
  | va {v : V} {d : D} : Rp K H (fun a => C a = 0) v d → SlotR K np H C i (some (some v)) (.va d)
  | bo {v : V} {d : D} : Rp K H (fun a => C a ≤ 1) v d → SlotR K np H C i (some (some v)) (.bo d)
  | ow {a : Addr} {vs : List V} {ds : List D} : H a = some (.lst vs) → C a = i + 3 → RpA K H (fun a => C a = 0) vs ds → (i < np.n → a = np.pa i) → SlotR K np H C i (some (some (.ref a))) (.ow ds)
  | un {v : V} {d : D} : Rp K H (fun a => C a = i + 3) v d → SlotR K np H C i (some (some v)) (.un d)
  | sc {a : Addr} {ns : List Int} : SqF K H a (ns.map V.int) → SlotR K np H C i (some (some (.ref a))) (.sc ns)
  | ob {a Cc dx : Addr} {us : List (Str × V)} {kl : Kl} {fs : List Fd} : H a = some (.ins Cc dx us) → C a = i + 3 → PySem.W.nsIn K mainGlobals kl.nm = some (some (.ref Cc)) → ObR K H C (i + 3) kl.ks us fs → (i < np.n → a = np.pa i) →
      SlotR K np H C i (some (some (.ref a))) (.ob kl fs)
  | dc {a : Addr} {us : List (Key × V)} {ds : List (Int × D)} : H a = some (.dK us) → C a = i + 3 → KvR K H us ds → (i < np.n → a = np.pa i) → SlotR K np H C i (some (some (.ref a))) (.dc ds)
  | ex {a Cc : Addr} {d : Option Addr} {c : Exn} : H a = some (exA Cc d a) → PySem.W.nsIn K mainGlobals c.cls = some (some (.ref Cc)) → exArg H d c.arg → SlotR K np H C i (some (some (.ref a))) (.ex c)
  | tw {t a b : Addr} {us vs : List V} {ds es : List D} : SqX K H t [.ref a, .ref b] → H a = some (.lst us) → H b = some (.lst vs) → a ≠ b → C a = i + 3 → C b = i + 3 → noLs ds = true → noLs es = true → RpA K H (fun _ => False) us ds → RpA K H (fun _ => False) vs es →
      SlotR K np H C i (some (some (.ref t))) (.tw ds es)
structure Rel (K : PySem.W.Frag) (np : Fp) (H : Hp) (C : Col) (σ : L2.St) (ρ : Slots) : Prop where
  len : σ.length = ρ.length
  get : ∀ i s, ρ[i]? = some s → SlotR K np H C i σ[i]? s

/-- what an evaluation may change -/
structure Stp (np : Fp) (H : Hp) (C : Col) (H' : Hp) (C' : Col) : Prop where
  keep : ∀ b x, H b = some x → C b ≤ 2 ∨ Imm x → H' b = some x
  there : ∀ b, H b ≠ none → H' b ≠ none
  colo : ∀ b, H b ≠ none → C b ≤ np.n + 2 → C' b = C b
  colh : ∀ b, H b ≠ none → np.n + 3 ≤ C b → C' b = 0 ∨ np.n + 3 ≤ C' b
structure PStp (H : Hp) (C : Col) (H' : Hp) (C' : Col) : Prop where
  same : Same H H'
  col : ∀ b, H b ≠ none → C' b = C b
section
variable {np : Fp} {H H' H'' : Hp} {C C' C'' : Col}
theorem Stp.refl : Stp np H C H C := ⟨fun _ _ h _ => h, fun _ h => h, fun _ _ _ => rfl, fun _ _ h => .inr h⟩
theorem PStp.refl : PStp H C H C := ⟨Same.refl _, fun _ _ => rfl⟩
theorem Stp.trans (a : Stp np H C H' C') (b : Stp np H' C' H'' C'') : Stp np H C H'' C'' where
  keep := fun c x h k => by
    have h1 := a.keep c x h k
    refine b.keep c x h1 ?_
    rcases k with k | k
    · by_cases hn : C c ≤ np.n + 2
      · rw [a.colo c (by rw [h]; simp) hn]; exact .inl k
      · omega
    · exact .inr k
  there := fun c h => b.there c (a.there c h)
  colo := fun c h k => by
    have e := a.colo c h k
    rw [b.colo c (a.there c h) (by omega), e]
  colh := fun c h k => by
    rcases a.colh c h k with e | e
    · left; rw [b.colo c (a.there c h) (by omega), e]
    · exact b.colh c (a.there c h) e
theorem PStp.trans (a : PStp H C H' C') (b : PStp H' C' H'' C'') : PStp H C H'' C'' :=
  ⟨a.same.trans b.same, fun c h => by
    rw [b.col c ?_, a.col c h]
    intro z
    cases q : H c with
    | none => exact h q
    | some x => rw [a.same c x q] at z; cases z⟩
theorem PStp.stp (a : PStp H C H' C') : Stp np H C H' C' :=
  ⟨fun b x h _ => a.same b x h, fun b h z => (by
    cases q : H b with
    | none => exact h q
    | some x => rw [a.same b x q] at z; cases z), fun b h _ => a.col b h, fun b h k => (by rw [a.col b h]; exact .inr k)⟩
end
end
end Dm

namespace Dm
noncomputable section
open PySem PySem.Spec PyProof.Rows L2

/-- behind an evaluation at level L -/
structure Aft (np : Fp) (L : Lv) (ρ : Slots) (H : Hp) (C : Col) (ρ' : Slots) (H' : Hp) (C' : Col) : Prop where
  stp : Stp np H C H' C'
  pu : L.pure = true → ρ' = ρ ∧ PStp H C H' C'
section
variable {np : Fp} {L : Lv} {ρ ρ1 ρ2 : Slots} {H H1 H2 : Hp} {C C1 C2 : Col} {K : PySem.W.Frag} {σ : L2.St}
theorem Aft.refl : Aft np L ρ H C ρ H C := ⟨.refl, fun _ => ⟨rfl, .refl⟩⟩
theorem Aft.trans (a : Aft np L ρ H C ρ1 H1 C1) (b : Aft np L ρ1 H1 C1 ρ2 H2 C2) : Aft np L ρ H C ρ2 H2 C2 :=
  ⟨a.stp.trans b.stp, fun h => ⟨(b.pu h).1.trans (a.pu h).1, (a.pu h).2.trans (b.pu h).2⟩⟩
theorem Aft.of (a : PStp H C H1 C1) : Aft np L ρ H C ρ H1 C1 := ⟨a.stp, fun _ => ⟨rfl, a⟩⟩
theorem okb_le1 {L : Lv} (h : L.pure = false) {c : Nat} (hc : L.okb c = true) : c ≤ 1 := by
  cases L <;> simp [Lv.pure, Lv.okb] at h hc <;> omega
theorem Aft.moves (a : Aft np L ρ H C ρ1 H1 C1) : (∀ b xs, Cof C L b → H b = some (.lst xs) → H1 b = some (.lst xs) ∧ Cof C1 L b) ∧ ∀ b o, H b = some o → Imm o → H1 b = some o := by
  refine ⟨fun b xs p h => ?_, fun b o h i => a.stp.keep b o h (.inr i)⟩
  have hn : H b ≠ none := by rw [h]; simp
  cases e : L.pure with
  | true => exact ⟨(a.pu e).2.same b _ h, by unfold Cof; rw [(a.pu e).2.col b hn]; exact p⟩
  | false =>
    have l1 := okb_le1 e p
    exact ⟨a.stp.keep b _ h (.inl (by omega)), by unfold Cof; rw [a.stp.colo b hn (by omega)]; exact p⟩
theorem Aft.rp (a : Aft np L ρ H C ρ1 H1 C1) {v : V} {d : D} (r : Rp K H (Cof C L) v d) : Rp K H1 (Cof C1 L) v d := r.move a.moves.1 a.moves.2
theorem Aft.rpA (a : Aft np L ρ H C ρ1 H1 C1) {v : List V} {d : List D} (r : RpA K H (Cof C L) v d) : RpA K H1 (Cof C1 L) v d := r.move a.moves.1 a.moves.2
theorem PStp.rp {P : Nat → Prop} (a : PStp H C H1 C1) {v : V} {d : D} (r : Rp K H (fun b => P (C b)) v d) : Rp K H1 (fun b => P (C1 b)) v d :=
  r.move (fun b xs p h => ⟨a.same b _ h, by rw [a.col b (by rw [h]; simp)]; exact p⟩) fun b o h _ => a.same b o h
theorem PStp.rpA {P : Nat → Prop} (a : PStp H C H1 C1) {v : List V} {d : List D} (r : RpA K H (fun b => P (C b)) v d) : RpA K H1 (fun b => P (C1 b)) v d :=
  r.move (fun b xs p h => ⟨a.same b _ h, by rw [a.col b (by rw [h]; simp)]; exact p⟩) fun b o h _ => a.same b o h
theorem SlotR.pstp {i : Nat} {o : Option (Option V)} {s : Sl} (a : PStp H C H1 C1) (r : SlotR K np H C i o s) : SlotR K np H1 C1 i o s := by
  cases r with
  | no => exact .no
  | va r => exact .va (a.rp (P := fun c => c = 0) r)
  | bo r => exact .bo (a.rp (P := fun c => c ≤ 1) r)
  | ow h c r pn => exact .ow (a.same _ _ h) (by rw [a.col _ (by rw [h]; simp)]; exact c) (a.rpA (P := fun c => c = 0) r) pn
  | un r => exact .un (a.rp (P := fun c => c = i + 3) r)
  | sc h => exact .sc (h.elim (fun ⟨o, h⟩ => .inl ⟨o, a.same _ _ h⟩) .inr)
  | ob h c n r pn => exact .ob (a.same _ _ h) (by rw [a.col _ (by rw [h]; simp)]; exact c) n (r.move (fun b xs e h => ⟨a.same _ _ h, by rw [a.col b (by rw [h]; simp)]; exact e⟩) fun b o h _ => a.same b o h) pn
  | dc h c r pn => exact .dc (a.same _ _ h) (by rw [a.col _ (by rw [h]; simp)]; exact c) (r.move fun b o h _ => a.same b o h) pn
  | ex h n r => exact .ex (a.same _ _ h) n (r.move fun b o h _ => a.same b o h)
  | tw t ha hb n ca cb x y r q => exact .tw (t.keep fun b o h _ => a.same b o h) (a.same _ _ ha) (a.same _ _ hb) n (by rw [a.col _ (by rw [ha]; simp)]; exact ca) (by rw [a.col _ (by rw [hb]; simp)]; exact cb) x y (r.same a.same) (q.same a.same)
theorem Rel.pstp (R : Rel K np H C σ ρ) (a : PStp H C H1 C1) : Rel K np H1 C1 σ ρ := ⟨R.len, fun i s h => (R.get i s h).pstp a⟩
end

/-- an expression of data: the level, the slots; the data and the slots behind -/
abbrev ES := Lv → Slots → Re (D × Slots)
abbrev AS := Lv → Slots → Re (List D × Slots)
abbrev BS := Lv → Slots → Re (Bool × Slots)
/-- what is wanted of an exception -/
abbrev XW := Exn → Hp → Prop
section
variable (K : PySem.W.Frag) (np : Fp) (EW : XW)
def tE (f : ES) : TE := fun σ H Q => ∃ L C ρ, Rel K np H C σ ρ ∧
  wp (f L ρ) (fun p => ∀ v H' C', Aft np L ρ H C p.2 H' C' → Rel K np H' C' σ p.2 → Rp K H' (Cof C' L) v p.1 → Q v H') (fun c => ∀ H' C', Stp np H C H' C' → EW c H')
def tA (f : AS) : TA := fun σ H Q => ∃ L C ρ, Rel K np H C σ ρ ∧
  wp (f L ρ) (fun p => ∀ v H' C', Aft np L ρ H C p.2 H' C' → Rel K np H' C' σ p.2 → RpA K H' (Cof C' L) v p.1 → Q v H') (fun c => ∀ H' C', Stp np H C H' C' → EW c H')
def tT (f : BS) : TT := fun σ H Q => ∃ L C ρ, Rel K np H C σ ρ ∧
  wp (f L ρ) (fun p => ∀ H' C', Aft np L ρ H C p.2 H' C' → Rel K np H' C' σ p.2 → Q p.1 H') (fun c => ∀ H' C', Stp np H C H' C' → EW c H')
end
abbrev DE (X : Cx) (np : Fp) (EW : XW) (e : Expr) (f : ES) : Prop := PE X e (tE X.K np EW f)
abbrev DA (X : Cx) (np : Fp) (EW : XW) (e : List Expr) (f : AS) : Prop := PA X e (tA X.K np EW f)
abbrev DT (X : Cx) (np : Fp) (EW : XW) (e : Expr) (f : BS) : Prop := PT X e (tT X.K np EW f)
abbrev DW (X : Cx) (np : Fp) (EW : XW) (e : Expr) (f : BS) : Prop := PW X e (tT X.K np EW f)
theorem PE.weak {X : Cx} {e : Expr} {t t' : TE} (h : PE X e t) (w : ∀ σ H Q, t' σ H Q → t σ H Q) : PE X e t' := ⟨fun pins s σ H Q I q => h.run pins s σ H Q I (w σ H Q q)⟩
theorem PA.weak {X : Cx} {e : List Expr} {t t' : TA} (h : PA X e t) (w : ∀ σ H Q, t' σ H Q → t σ H Q) : PA X e t' := ⟨fun pos pins s σ H Q I q => h.run pos pins s σ H Q I (w σ H Q q)⟩
theorem PT.weak {X : Cx} {e : Expr} {t t' : TT} (h : PT X e t) (w : ∀ σ H Q, t' σ H Q → t σ H Q) : PT X e t' := ⟨fun pins s σ H Q I q => h.run pins s σ H Q I (w σ H Q q)⟩
theorem PW.weak {X : Cx} {e : Expr} {t t' : TT} (h : PW X e t) (w : ∀ σ H Q, t' σ H Q → t σ H Q) : PW X e t' := ⟨fun wh pins s σ H Q I q => h.run wh pins s σ H Q I (w σ H Q q)⟩

def ofO {α : Type} : Option α → Re α
  | none => .bad
  | some a => .ok a
@[simp] theorem ofO_some {α : Type} (a : α) : ofO (some a) = .ok a := Eq.trans rfl rfl
@[simp] theorem ofO_none {α : Type} : ofO (none : Option α) = .bad := Eq.trans rfl rfl
theorem wp_ofO {α : Type} {o : Option α} {Q : α → Prop} {E : Exn → Prop} (h : wp (ofO o) Q E) : ∃ a, o = some a ∧ Q a := by
  cases o with
  | none => exact h.elim
  | some a => exact ⟨a, rfl, h⟩
section
variable {X : Cx} {np : Fp} {EW : XW} {a b c e : Expr} {fa fb fc : ES} {pos : Pos}
/-! ### chaining -/
section
variable {K : PySem.W.Frag} {L : Lv} {C : Col} {ρ : Slots} {σ : L2.St} {H : Hp}
/-- the expression is at hand, what follows is known -/
theorem tE_of {f : ES} {Q : V → Hp → Prop} (R : Rel K np H C σ ρ) {α : Type} {k : D × Slots → Re α} {Qr : α → Prop}
    (h : wp ((f L ρ).bind k) Qr (fun c => ∀ H' C', Stp np H C H' C' → EW c H'))
    (hq : ∀ p v H' C', Aft np L ρ H C p.2 H' C' → Rel K np H' C' σ p.2 → Rp K H' (Cof C' L) v p.1 → wp (k p) Qr (fun c => ∀ H'' C'', Stp np H' C' H'' C'' → EW c H'') → Q v H') : tE K np EW f σ H Q := by
  refine ⟨L, C, ρ, R, wp_mono (wp_bind.mp h) (fun p _ hp v H' C' A R' r => hq p v H' C' A R' r (wp_mono hp (fun _ _ z => z) fun c z H'' C'' S => z H'' C'' (A.stp.trans S))) fun c z => z⟩
theorem tA_of {f : AS} {Q : List V → Hp → Prop} (R : Rel K np H C σ ρ) {α : Type} {k : List D × Slots → Re α} {Qr : α → Prop}
    (h : wp ((f L ρ).bind k) Qr (fun c => ∀ H' C', Stp np H C H' C' → EW c H'))
    (hq : ∀ p v H' C', Aft np L ρ H C p.2 H' C' → Rel K np H' C' σ p.2 → RpA K H' (Cof C' L) v p.1 → wp (k p) Qr (fun c => ∀ H'' C'', Stp np H' C' H'' C'' → EW c H'') → Q v H') : tA K np EW f σ H Q := by
  refine ⟨L, C, ρ, R, wp_mono (wp_bind.mp h) (fun p _ hp v H' C' A R' r => hq p v H' C' A R' r (wp_mono hp (fun _ _ z => z) fun c z H'' C'' S => z H'' C'' (A.stp.trans S))) fun c z => z⟩
theorem tT_of {f : BS} {Q : Bool → Hp → Prop} (R : Rel K np H C σ ρ) {α : Type} {k : Bool × Slots → Re α} {Qr : α → Prop}
    (h : wp ((f L ρ).bind k) Qr (fun c => ∀ H' C', Stp np H C H' C' → EW c H'))
    (hq : ∀ p H' C', Aft np L ρ H C p.2 H' C' → Rel K np H' C' σ p.2 → wp (k p) Qr (fun c => ∀ H'' C'', Stp np H' C' H'' C'' → EW c H'') → Q p.1 H') : tT K np EW f σ H Q := by
  refine ⟨L, C, ρ, R, wp_mono (wp_bind.mp h) (fun p _ hp H' C' A R' => hq p H' C' A R' (wp_mono hp (fun _ _ z => z) fun c z H'' C'' S => z H'' C'' (A.stp.trans S))) fun c z => z⟩
end

/-! ### names, constants -/
def csE (d : D) : ES := fun _ ρ => .ok (d, ρ)
theorem de_int {i : Int} {j pos} : DE X np EW (.Constant (.int i) j pos) (csE (.int i)) := PE.weak pe_int fun σ H Q ⟨L, C, ρ, R, h⟩ => h (.int i) H C .refl R (.int i)
theorem de_bl {b : Bool} {j pos} : DE X np EW (.Constant (.bool b) j pos) (csE (.bool b)) := PE.weak pe_bl fun σ H Q ⟨L, C, ρ, R, h⟩ => h (.bl b) H C .refl R (.bl b)
theorem de_non {j pos} : DE X np EW (.Constant .none j pos) (csE .none) := PE.weak pe_non fun σ H Q ⟨L, C, ρ, R, h⟩ => h .non H C .refl R .non
theorem de_str {x : Str} {j pos} : DE X np EW (.Constant (.str x) j pos) (csE (.str x)) := PE.weak pe_str fun σ H Q ⟨L, C, ρ, R, h⟩ => h (.str x) H C .refl R (.str x)
/-- a name of the module that holds an int, a text, .. -/
theorem de_glob {x : Str} {u : Value} {v : V} {d : D} (hg : Gl X x) (hm : X.mg x = some u) (r : RelV v u) (q : ∀ H P, Rp X.K H P v d) (hd : (x == ("__debug__" : Str)) = false := by decide) : DE X np EW (.Name x pos) (csE d) :=
  PE.weak (pe_glob hg hm r hd) fun σ H Q ⟨L, C, ρ, R, h⟩ => h v H C .refl R (q _ _)

def slD (L : Lv) (i : Nat) : Sl → Re D
  | .no => .bad
  | .va d => .ok d
  | .bo d => if L.okb 1 || noL d then .ok d else .bad
  | .ow ds => if L.okb (i + 3) then .ok (.list ds) else .bad
  | .un d => if L.okb (i + 3) || noL d then .ok d else .bad
  | .sc _ => .bad
  | .ob _ _ => .bad
  | .dc _ => .bad
  | .ex _ => .bad
  | .tw _ _ => .bad
def nmE (i : Nat) : ES := fun L ρ => match ρ[i]? with
  | some s => (slD L i s).bind fun d => .ok (d, ρ)
  | none => .bad
theorem okb_mono1 {L : Lv} (h : L.okb 1 = true) {c : Nat} (hc : c ≤ 1) : L.okb c = true := by
  have : c = 0 ∨ c = 1 := by omega
  rcases this with rfl | rfl
  · exact L.ok0
  · exact h
theorem nm_ok {np : Fp} {K : PySem.W.Frag} {H : Hp} {C : Col} {σ : L2.St} {ρ : Slots} {L : Lv} {i : Nat} {Q : D × Slots → Prop} {E : Exn → Prop} (R : Rel K np H C σ ρ) (h : wp (nmE i L ρ) Q E) :
    ∃ v d, σ[i]? = some (some v) ∧ Rp K H (Cof C L) v d ∧ Q (d, ρ) := by
  unfold nmE at h
  cases e : ρ[i]? with
  | none => rw [e] at h; exact h.elim
  | some s =>
    rw [e] at h
    have r := R.get i s e
    generalize σ[i]? = o at r
    cases r with
    | no => exact h.elim
    | va r => exact ⟨_, _, rfl, r.imp fun b hb => by unfold Cof; rw [hb]; exact L.ok0, h⟩
    | bo r =>
      rename_i v d
      have h' : wp ((if L.okb 1 || noL d then Re.ok d else .bad).bind fun d => .ok (d, ρ)) Q E := h
      by_cases c1 : L.okb 1 = true
      · rw [c1, Bool.true_or, if_pos rfl] at h'
        exact ⟨_, _, rfl, r.imp fun b hb => okb_mono1 c1 hb, h'⟩
      · by_cases c2 : noL d = true
        · rw [c2, Bool.or_true, if_pos rfl] at h'
          exact ⟨_, _, rfl, r.free c2, h'⟩
        · rw [Bool.eq_false_iff.mpr c1, Bool.eq_false_iff.mpr c2] at h'
          exact h'.elim
    | ow ha hc r pn =>
      rename_i a vs ds
      have h' : wp ((if L.okb (i + 3) then Re.ok (.list ds) else .bad).bind fun d => .ok (d, ρ)) Q E := h
      by_cases c1 : L.okb (i + 3) = true
      · rw [if_pos c1] at h'
        exact ⟨_, _, rfl, .lst ha (by unfold Cof; rw [hc]; exact c1) (r.imp fun b hb => by unfold Cof; rw [hb]; exact L.ok0), h'⟩
      · rw [if_neg c1] at h'; exact h'.elim
    | sc _ => exact h.elim
    | ob _ _ _ _ _ => exact h.elim
    | dc _ _ _ _ => exact h.elim
    | ex _ _ _ => exact h.elim
    | tw _ _ _ _ _ _ _ _ _ _ => exact h.elim
    | un r =>
      rename_i v d
      have h' : wp ((if L.okb (i + 3) || noL d then Re.ok d else .bad).bind fun d => .ok (d, ρ)) Q E := h
      by_cases c1 : L.okb (i + 3) = true
      · rw [c1, Bool.true_or, if_pos rfl] at h'
        exact ⟨_, _, rfl, r.imp fun b hb => by unfold Cof; rw [hb]; exact c1, h'⟩
      · by_cases c2 : noL d = true
        · rw [c2, Bool.or_true, if_pos rfl] at h'
          exact ⟨_, _, rfl, r.free c2, h'⟩
        · rw [Bool.eq_false_iff.mpr c1, Bool.eq_false_iff.mpr c2] at h'
          exact h'.elim
theorem de_nm (i : Nat) {x : Str} {pos : Pos} (hN : X.N[i]? = some x := by rfl) (hv : Vis X.env.scope x := by first | exact Or.inl rfl | exact Or.inr (Or.inl rfl) | exact Or.inr (Or.inr rfl)) (hd : (x == ("__debug__" : Str)) = false := by decide)
    (hcd : (x == ("__classdict__" : Str)) = false := by decide) : DE X np EW (.Name x pos) (nmE i) :=
  PE.weak (pe_var hN hv hd hcd) fun σ H Q ⟨L, C, ρ, R, h⟩ => by
    obtain ⟨v, d, e, r, q⟩ := nm_ok R h
    exact ⟨v, e, q v H C .refl R r⟩

/-! ### another level within -/
def atE (k : Lv) (f : ES) : ES := fun L ρ => if k.pure || !L.pure then (f k ρ).bind fun p => if noL p.1 then .ok p else .bad else .bad
theorem Aft.lev {K : PySem.W.Frag} {L k : Lv} {ρ ρ1 : Slots} {H H1 : Hp} {C C1 : Col} (hk : (k.pure || !L.pure) = true) (a : Aft np k ρ H C ρ1 H1 C1) : Aft np L ρ H C ρ1 H1 C1 :=
  ⟨a.stp, fun h => by
    rw [h] at hk
    exact a.pu (by simpa using hk)⟩
theorem de_at (k : Lv) {f : ES} (h : DE X np EW e f) : DE X np EW e (atE k f) :=
  PE.weak h fun σ H Q ⟨L, C, ρ, R, q⟩ => by
    unfold atE at q
    by_cases hk : (k.pure || !L.pure) = true
    · rw [if_pos hk] at q
      refine ⟨k, C, ρ, R, wp_mono (wp_bind.mp q) (fun p _ hp v H' C' A R' r => ?_) fun c z => z⟩
      by_cases hn : noL p.1 = true
      · rw [if_pos hn] at hp
        exact hp v H' C' (A.lev (K := X.K) hk) R' (r.free hn)
      · rw [if_neg hn] at hp; exact hp.elim
    · rw [if_neg hk] at q; exact q.elim
def atT (k : Lv) (f : BS) : BS := fun L ρ => if k.pure || !L.pure then f k ρ else .bad
theorem dt_at (k : Lv) {f : BS} (h : DT X np EW e f) : DT X np EW e (atT k f) :=
  PT.weak h fun σ H Q ⟨L, C, ρ, R, q⟩ => by
    unfold atT at q
    by_cases hk : (k.pure || !L.pure) = true
    · rw [if_pos hk] at q
      exact ⟨k, C, ρ, R, wp_mono q (fun p _ hp H' C' A R' => hp H' C' (A.lev (K := X.K) hk) R') fun c z => z⟩
    · rw [if_neg hk] at q; exact q.elim

/-! ### operators -/
def OpS (K : PySem.W.Frag) (r : R2) (g : D → D → Option D) : Prop := ∀ (H : Hp) (C : Col) (L : Lv) (x y : V) (dx dy d : D) (Q : VK), Rp K H (Cof C L) x dx → Rp K H (Cof C L) y dy → g dx dy = some d →
  (∀ v H' C', PStp H C H' C' → Rp K H' (Cof C' L) v d → Q v H') → r x y H Q
def opE (g : D → D → Option D) (fa fb : ES) : ES := fun L ρ => (fa L ρ).bind fun p => (fb L p.2).bind fun q => (ofO (g p.1 q.1)).bind fun d => .ok (d, q.2)
theorem op_fin {K : PySem.W.Frag} {r : R2} {g : D → D → Option D} (hg : OpS K r g) {σ : L2.St} {H : Hp} {Q : VK} {L : Lv} {C : Col} {ρ : Slots} (R : Rel K np H C σ ρ)
    (h : wp (opE g fa fb L ρ) (fun p => ∀ v H' C', Aft np L ρ H C p.2 H' C' → Rel K np H' C' σ p.2 → Rp K H' (Cof C' L) v p.1 → Q v H') (fun c => ∀ H' C', Stp np H C H' C' → EW c H')) :
    tE K np EW fa σ H fun x H1 => tE K np EW fb σ H1 fun y H2 => r x y H2 Q := by
  refine tE_of R h fun p x H1 C1 A1 R1 r1 h1 => ?_
  refine tE_of R1 h1 fun q y H2 C2 A2 R2 r2 h2 => ?_
  obtain ⟨d, e, h3⟩ := wp_ofO (wp_bind.mp h2)
  exact hg H2 C2 L x y p.1 q.1 d Q (A2.rp r1) r2 e fun v H' C' S r' => h3 v H' C' ((A1.trans A2).trans (.of S)) (R2.pstp S) r'
theorem de_op {op : Operator} {r : R2} {g : D → D → Option D} (ho : OpR X (binaryOp op) r) (hg : OpS X.K r g) (ha : DE X np EW a fa) (hb : DE X np EW b fb) : DE X np EW (.BinOp a op b pos) (opE g fa fb) :=
  PE.weak (pe_op ho ha hb) fun σ H Q ⟨L, C, ρ, R, h⟩ => op_fin hg R h
theorem de_cmp {op : CmpOp} {r : R2} {g : D → D → Option D} (ho : OpR X (compareOp op) r) (hg : OpS X.K r g) (ha : DE X np EW a fa) (hb : DE X np EW b fb) (hm : behindInMarks op b = false := by first | exact nomark _ | rfl) :
    DE X np EW (.Compare a [op] [b] pos) (opE g fa fb) :=
  PE.weak (pe_cmpR ho ha hb hm) fun σ H Q ⟨L, C, ρ, R, h⟩ => op_fin hg R h
/-- the data is a truth -/
def isB : D → Re Bool
  | .bool b => .ok b
  | _ => .bad
def asT (f : ES) : BS := fun L ρ => (f L ρ).bind fun p => (isB p.1).bind fun b => .ok (b, p.2)
theorem dt_cmp {op : CmpOp} {r : R2} {g : D → D → Option D} (ho : OpR X (compareOp op) r) (hg : OpS X.K r g) (ha : DE X np EW a fa) (hb : DE X np EW b fb) (hm : behindInMarks op b = false := by first | exact nomark _ | rfl) :
    DT X np EW (.Compare a [op] [b] pos) (asT (opE g fa fb)) :=
  PT.weak (pt_cmpR ho ha hb hm) fun σ H Q ⟨L, C, ρ, R, h⟩ => by
    refine op_fin (Q := fun x H' => ∃ k, x = V.bl k ∧ Q k H') (L := L) hg R ?_
    refine wp_mono (wp_bind.mp h) (fun p _ hp v H' C' A R' r' => ?_) fun c z => z
    obtain ⟨d, ρ'⟩ := p
    cases d with
    | bool b => cases r'; exact ⟨b, rfl, hp H' C' A R'⟩
    | _ => exact hp.elim
/-- any expression of a truth, as a test -/
theorem dt_val {f : ES} (h : DE X np EW e f) (he : ∀ whole, isTrue e X.env whole = (do let v ← whole; standAt e.pos; holding [v] (truthy v)) := by intro _; rfl) : DT X np EW e (asT f) :=
  PT.weak (pt_val h he) fun σ H Q ⟨L, C, ρ, R, h⟩ => by
    refine ⟨L, C, ρ, R, wp_mono (wp_bind.mp h) (fun p _ hp v H' C' A R' r' => ?_) fun c z => z⟩
    obtain ⟨d, ρ'⟩ := p
    cases d with
    | bool b => cases r'; exact ⟨b, rfl, hp H' C' A R'⟩
    | _ => exact hp.elim

/-! ### and, or, not, if -/
def ntT (f : BS) : BS := fun L ρ => (f L ρ).bind fun p => .ok (!p.1, p.2)
def anT (f g : BS) : BS := fun L ρ => (f L ρ).bind fun p => if p.1 then g L p.2 else .ok (false, p.2)
def orT (f g : BS) : BS := fun L ρ => (f L ρ).bind fun p => if p.1 then .ok (true, p.2) else g L p.2
variable {ga gb gc : BS} {rest : List Expr}
theorem dt_not (h : DT X np EW a ga) : DT X np EW (.UnaryOp .Not a pos) (ntT ga) :=
  PT.weak (pt_not h) fun σ H Q ⟨L, C, ρ, R, h⟩ => tT_of R h fun p H' C' A R' hp => hp H' C' A R'
theorem dw_and1 (h : DT X np EW a ga) : DW X np EW (.BoolOp .And [a] pos) ga := pw_and1 h
theorem dw_or1 (h : DT X np EW a ga) : DW X np EW (.BoolOp .Or [a] pos) ga := pw_or1 h
theorem dw_and (h : DT X np EW a ga) (hb : DW X np EW (.BoolOp .And (b :: rest) pos) gb) : DW X np EW (.BoolOp .And (a :: b :: rest) pos) (anT ga gb) :=
  PW.weak (pw_and h hb) fun σ H Q ⟨L, C, ρ, R, h⟩ => tT_of R h fun p H' C' A R' hp => by
    cases e : p.1 with
    | true =>
      rw [e] at hp
      exact iteT ⟨L, C', p.2, R', wp_mono hp (fun q _ hq H'' C'' A' R'' => hq H'' C'' (A.trans A') R'') fun c z => z⟩
    | false =>
      rw [e] at hp
      exact iteF (hp H' C' A R')
theorem dw_or (h : DT X np EW a ga) (hb : DW X np EW (.BoolOp .Or (b :: rest) pos) gb) : DW X np EW (.BoolOp .Or (a :: b :: rest) pos) (orT ga gb) :=
  PW.weak (pw_or h hb) fun σ H Q ⟨L, C, ρ, R, h⟩ => tT_of R h fun p H' C' A R' hp => by
    cases e : p.1 with
    | false =>
      rw [e] at hp
      exact iteF ⟨L, C', p.2, R', wp_mono hp (fun q _ hq H'' C'' A' R'' => hq H'' C'' (A.trans A') R'') fun c z => z⟩
    | true =>
      rw [e] at hp
      exact iteT (hp H' C' A R')
theorem DW.t {f : BS} (h : DW X np EW e f) : DT X np EW e f := h.pt
def ifE (g : BS) (fa fb : ES) : ES := fun L ρ => (g L ρ).bind fun p => if p.1 then fa L p.2 else fb L p.2
theorem de_if (h : DT X np EW c gc) (ha : DE X np EW a fa) (hb : DE X np EW b fb) : DE X np EW (.IfExp c a b pos) (ifE gc fa fb) :=
  PE.weak (pe_ifExp h ha hb) fun σ H Q ⟨L, C, ρ, R, h⟩ => tT_of R h fun p H' C' A R' hp => by
    cases e : p.1 with
    | false =>
      rw [e] at hp
      exact iteF ⟨L, C', p.2, R', wp_mono hp (fun q _ hq v H'' C'' A' R'' r => hq v H'' C'' (A.trans A') R'' r) fun c z => z⟩
    | true =>
      rw [e] at hp
      exact iteT ⟨L, C', p.2, R', wp_mono hp (fun q _ hq v H'' C'' A' R'' r => hq v H'' C'' (A.trans A') R'' r) fun c z => z⟩
/-- as values: truths -/
def anE (fa fb : ES) : ES := fun L ρ => (fa L ρ).bind fun p => (isB p.1).bind fun b => if b then fb L p.2 else .ok (.bool false, p.2)
def orE (fa fb : ES) : ES := fun L ρ => (fa L ρ).bind fun p => (isB p.1).bind fun b => if b then .ok (.bool true, p.2) else fb L p.2
def ntE (fa : ES) : ES := fun L ρ => (fa L ρ).bind fun p => (isB p.1).bind fun b => .ok (.bool (!b), p.2)
theorem de_one {op} {f : ES} (h : DE X np EW a f) : DE X np EW (.BoolOp op [a] pos) f := pe_one h
theorem de_and (h : DE X np EW a fa) (hb : DE X np EW (.BoolOp .And (b :: rest) pos) fb) : DE X np EW (.BoolOp .And (a :: b :: rest) pos) (anE fa fb) :=
  PE.weak (pe_and h hb) fun σ H Q ⟨L, C, ρ, R, h⟩ => tE_of R h fun p v H' C' A R' r hp => by
    obtain ⟨d, ρ'⟩ := p
    cases d with
    | bool k =>
      cases r
      refine ⟨k, rfl, ?_⟩
      cases k with
      | true => exact iteT ⟨L, C', ρ', R', wp_mono hp (fun q _ hq v H'' C'' A' R'' r => hq v H'' C'' (A.trans A') R'' r) fun c z => z⟩
      | false => exact iteF (hp (.bl false) H' C' A R' (.bl false))
    | _ => exact hp.elim
theorem de_or (h : DE X np EW a fa) (hb : DE X np EW (.BoolOp .Or (b :: rest) pos) fb) : DE X np EW (.BoolOp .Or (a :: b :: rest) pos) (orE fa fb) :=
  PE.weak (pe_or h hb) fun σ H Q ⟨L, C, ρ, R, h⟩ => tE_of R h fun p v H' C' A R' r hp => by
    obtain ⟨d, ρ'⟩ := p
    cases d with
    | bool k =>
      cases r
      refine ⟨k, rfl, ?_⟩
      cases k with
      | false => exact iteF ⟨L, C', ρ', R', wp_mono hp (fun q _ hq v H'' C'' A' R'' r => hq v H'' C'' (A.trans A') R'' r) fun c z => z⟩
      | true => exact iteT (hp (.bl true) H' C' A R' (.bl true))
    | _ => exact hp.elim
theorem de_not (h : DE X np EW a fa) : DE X np EW (.UnaryOp .Not a pos) (ntE fa) :=
  PE.weak (pe_not h) fun σ H Q ⟨L, C, ρ, R, h⟩ => tE_of R h fun p v H' C' A R' r hp => by
    obtain ⟨d, ρ'⟩ := p
    cases d with
    | bool k => cases r; exact ⟨k, rfl, hp (.bl (!k)) H' C' A R' (.bl (!k))⟩
    | _ => exact hp.elim

/-! ### arguments, displays -/
def nilA : AS := fun _ ρ => .ok ([], ρ)
def consA (f : ES) (g : AS) : AS := fun L ρ => (f L ρ).bind fun p => (g L p.2).bind fun q => .ok (p.1 :: q.1, q.2)
theorem da_nil : DA X np EW [] nilA := PA.weak pa_nil fun σ H Q ⟨L, C, ρ, R, h⟩ => h [] H C .refl R .nil
theorem da_cons {es : List Expr} {fs : AS} (ha : DE X np EW a fa) (hr : DA X np EW es fs) (hs : starEach (a :: es) X.env = (false, eval a X.env) :: starEach es X.env := by rfl) : DA X np EW (a :: es) (consA fa fs) :=
  PA.weak (pa_cons ha hr hs) fun σ H Q ⟨L, C, ρ, R, h⟩ => tE_of R h fun p v H1 C1 A1 R1 r1 h1 =>
    tA_of R1 h1 fun q vs H2 C2 A2 R2 r2 h2 => h2 (v :: vs) H2 C2 (A1.trans A2) R2 (.cons (A2.rp r1) r2)
/-- a new object at p -/
theorem same_new {H : Hp} {p : Addr} {o : HO} (h : H p = none) : Same H (upd H p o) := fun b x e => by
  rw [upd_ne (ne_of_none e h)]; exact e
def setC (C : Col) (p : Addr) (n : Nat) : Col := fun b => if b = p then n else C b
theorem setC_same {C : Col} {p : Addr} {n : Nat} : setC C p n p = n := if_pos rfl
theorem setC_ne {C : Col} {p b : Addr} {n : Nat} (h : b ≠ p) : setC C p n b = C b := if_neg h
theorem pstp_new {H : Hp} {C : Col} {p : Addr} {o : HO} {n : Nat} (h : H p = none) : PStp H C (upd H p o) (setC C p n) :=
  ⟨same_new h, fun b hb => by
    have : b ≠ p := fun e => hb (e ▸ h)
    exact setC_ne this⟩
theorem pstp_id {H : Hp} {C : Col} {p : Addr} {o : HO} (h : H p = none) : PStp H C (upd H p o) C := ⟨same_new h, fun _ _ => rfl⟩
section
variable {X : Cx} {pins : List (Addr × Obj)} {σ : L2.St} {H : Hp} {s : Shared} {xs : List V} {its : List Value} {Q : VK} {es : List Expr} {t : TA} {pos : Pos}
/-- a new tuple, known by its object -/
theorem laid_tupX (I : Inv X pins σ H s) (r : Vals xs its) (hz : xs.length ≤ sizeLine) (q : ∀ p ob, H p = none → ob.dict = none → Q (.ref p) (upd H p (.frz ob (.tup xs)))) :
    EP X pins σ Q (.ref s.heap.objs.size) { s with heap := s.heap.push { cls := .type "tuple", data := .seq its.toArray } } := by
  have e := Heap.get?_push_size s.heap (o := { cls := .type "tuple", data := .seq its.toArray }) rfl
  refine ⟨.ref s.heap.objs.size, _, I.laid (t' := s.toks) (o := .frz { cls := .type "tuple", data := .seq its.toArray } (.tup xs)) (fun b u w => Heap.get?_push_of_some _ w) (Nat.le_refl _) ⟨e, hz, its, r, ⟨_, e, rfl, _, rfl⟩⟩, rfl, q _ _ (I.hok.fresh (Nat.le_refl _)) rfl⟩
theorem pe_tupX {x1} (h : PA X es t) : PE X (.Tuple es x1 pos) (fun σ H Q => t σ H fun xs H1 => xs.length ≤ sizeLine ∧ ∀ p ob, H1 p = none → ob.dict = none → Q (.ref p) (upd H1 p (.frz ob (.tup xs)))) :=
  ⟨fun pins s σ H Q I hq => wpAny_Tuple_spliced (thn (h.run pos pins s σ H _ I hq) fun us s1 ⟨xs, H1, I1, r, z, q⟩ => ⟨by rw [← r.length]; exact z, laid_tupX I1 r z q⟩)⟩
theorem newX {K : PySem.W.Frag} {H : Hp} {p : Addr} {ob : Obj} (hd : ob.dict = none) : SqX K (upd H p (.frz ob (.tup xs))) p xs := .inl ⟨ob, upd_same, hd⟩
end
def tuE (f : AS) : ES := fun L ρ => (f L ρ).bind fun p => if p.1.length ≤ sizeLine then .ok (.tuple p.1, p.2) else .bad
def liE (f : AS) : ES := fun L ρ => (f L ρ).bind fun p => if p.1.length ≤ sizeLine then .ok (.list p.1, p.2) else .bad
theorem de_tup {es : List Expr} {fs : AS} {x1} (ha : DA X np EW es fs) : DE X np EW (.Tuple es x1 pos) (tuE fs) :=
  PE.weak (pe_tupX ha) fun σ H Q ⟨L, C, ρ, R, h⟩ => tA_of R h fun p vs H1 C1 A1 R1 r1 h1 => by
    by_cases hz : p.1.length ≤ sizeLine
    · rw [if_pos hz] at h1
      refine ⟨by rw [r1.len]; exact hz, fun t ob ht hd => ?_⟩
      have S := pstp_id (C := C1) (o := .frz ob (.tup vs)) ht
      exact h1 (.ref t) _ C1 (A1.trans (.of S)) (R1.pstp S) (.tup (newX hd) (r1.same S.same))
    · rw [if_neg hz] at h1; exact h1.elim
theorem de_lst {es : List Expr} {fs : AS} (ha : DA X np EW es fs) : DE X np EW (.List es pos) (liE fs) :=
  PE.weak (pe_lst ha) fun σ H Q ⟨L, C, ρ, R, h⟩ => tA_of R h fun p vs H1 C1 A1 R1 r1 h1 => by
    by_cases hz : p.1.length ≤ sizeLine
    · rw [if_pos hz] at h1
      refine ⟨by rw [r1.len]; exact hz, fun t ht => ?_⟩
      have S := pstp_new (C := C1) (o := .lst vs) (n := 0) ht
      exact h1 (.ref t) _ _ (A1.trans (.of S)) (R1.pstp S) (.lst upd_same (by unfold Cof; rw [setC_same]; exact L.ok0) (S.rpA (P := fun c => L.okb c = true) r1))
    · rw [if_neg hz] at h1; exact h1.elim
end
end
end Dm

namespace Dm
noncomputable section
open PySem PySem.Spec PyProof.Rows L2

theorem OpR.or {X : Cx} {f : Value → Value → Sem Value} {r r' : R2} (h : OpR X f r) (h' : OpR X f r') : OpR X f (fun x y H Q => r x y H Q ∨ r' x y H Q) := by
  intro pins s σ H x y v u Q I rx ry q
  rcases q with q | q
  · exact h pins s σ H x y v u Q I rx ry q
  · exact h' pins s σ H x y v u Q I rx ry q
section
variable {K : PySem.W.Frag} {H : Hp} {P : Addr → Prop}
theorem Rp.int_inv {v : V} {i : Int} (r : Rp K H P v (.int i)) : v = .int i := by cases r; rfl
theorem Rp.bl_inv {v : V} {i : Bool} (r : Rp K H P v (.bool i)) : v = .bl i := by cases r; rfl
theorem Rp.non_inv {v : V} (r : Rp K H P v .none) : v = .non := by cases r; rfl
theorem Rp.str_inv {v : V} {i : Str} (r : Rp K H P v (.str i)) : v = .str i := by cases r; rfl
theorem Rp.lst_inv {v : V} {ds : List D} (r : Rp K H P v (.list ds)) : ∃ a xs, v = .ref a ∧ H a = some (.lst xs) ∧ P a ∧ RpA K H P xs ds := by cases r with | lst h p r => exact ⟨_, _, rfl, h, p, r⟩
theorem Rp.tup_inv {v : V} {ds : List D} (r : Rp K H P v (.tuple ds)) : ∃ a xs, v = .ref a ∧ SqT K H a xs ∧ RpA K H P xs ds := by cases r with | tup h r => exact ⟨_, _, rfl, h.sq, r⟩
theorem Rp.tup_invX {v : V} {ds : List D} (r : Rp K H P v (.tuple ds)) : ∃ a xs, v = .ref a ∧ SqX K H a xs ∧ RpA K H P xs ds := by cases r with | tup h r => exact ⟨_, _, rfl, h, r⟩
theorem RpA.ints : ∀ {ns : List Int} {vs : List V}, RpA K H P vs (ns.map PyData.int) → vs = ns.map V.int
  | [], _, .nil => rfl
  | n :: ns, _, .cons h t => by rw [List.map_cons, h.int_inv, RpA.ints t]
theorem RpA.bls : ∀ {ns : List Bool} {vs : List V}, RpA K H P vs (ns.map PyData.bool) → vs = ns.map V.bl
  | [], _, .nil => rfl
  | n :: ns, _, .cons h t => by rw [List.map_cons, h.bl_inv, RpA.bls t]
theorem RpA.nil_iff {ds : List D} {vs : List V} (r : RpA K H P vs ds) : vs = [] ↔ ds = [] := by
  cases r with
  | nil => simp
  | cons _ _ => simp
end

/-! ### operators on ints -/
def gI2 (f : Int → Int → Int) : D → D → Option D
  | .int i, .int j => some (.int (f i j))
  | _, _ => none
def gI2c (c : Int → Int → Bool) (f : Int → Int → Int) : D → D → Option D
  | .int i, .int j => if c i j then some (.int (f i j)) else none
  | _, _ => none
def gB2 (f : Int → Int → Bool) : D → D → Option D
  | .int i, .int j => some (.bool (f i j))
  | _, _ => none
theorem os_I2 {K : PySem.W.Frag} {f : Int → Int → Int} : OpS K (rI0 fun i j => .int (f i j)) (gI2 f) := by
  intro H C L x y dx dy d Q r1 r2 e q
  cases dx <;> cases dy <;> simp [gI2] at e
  cases r1; cases r2; subst e
  exact ⟨_, _, rfl, rfl, q _ H C .refl (.int _)⟩
theorem os_I2c {K : PySem.W.Frag} {f : Int → Int → Int} {c : Int → Int → Bool} {Cn : Int → Int → Prop} (hc : ∀ i j, c i j = true → Cn i j) : OpS K (rI Cn fun i j => .int (f i j)) (gI2c c f) := by
  intro H C L x y dx dy d Q r1 r2 e q
  cases dx <;> cases dy <;> simp [gI2c] at e
  cases r1; cases r2; obtain ⟨e1, e2⟩ := e; subst e2
  exact ⟨_, _, rfl, rfl, hc _ _ e1, q _ H C .refl (.int _)⟩
theorem os_B2 {K : PySem.W.Frag} {f : Int → Int → Bool} : OpS K (rI0 fun i j => .bl (f i j)) (gB2 f) := by
  intro H C L x y dx dy d Q r1 r2 e q
  cases dx <;> cases dy <;> simp [gB2] at e
  cases r1; cases r2; subst e
  exact ⟨_, _, rfl, rfl, q _ H C .refl (.bl _)⟩

def bigI (i : Int) : Bool := decide (i.natAbs.log2 < 400000)
def subD : D → D → Option D := gI2 (· - ·)
/-- % by a positive number -/
def modD : D → D → Option D := gI2c (fun _ j => decide (0 < j)) (· % ·)
/-- // by a positive number below 2^9000 -/
def divD : D → D → Option D := gI2c (fun _ j => decide (0 < j) && decide (j.natAbs.log2 < 9000)) (· / ·)
def powD : D → D → Option D := gI2c (fun i j => decide (0 ≤ j) && decide ((Builtin.Int.intBits i : Int) * j ≤ 134217728)) (fun i j => i ^ j.toNat)
def ltD : D → D → Option D := gB2 fun i j => decide (i < j)
def leD : D → D → Option D := gB2 fun i j => decide (i ≤ j)
def gtD : D → D → Option D := gB2 fun i j => decide (j < i)
def geD : D → D → Option D := gB2 fun i j => decide (j ≤ i)
section
variable {X : Cx} {np : Fp} {EW : XW} {a b c e : Expr} {fa fb fc : ES} {pos : Pos}
theorem op_powW : OpR X (binaryOp .Pow) (rI (fun i j => 0 ≤ j ∧ (Builtin.Int.intBits i : Int) * j ≤ 134217728) fun i j => .int (i ^ j.toNat)) := opI fun _ _ _ _ _ _ _ hc q => pow_int hc.1 (by simpa using hc.2) q
theorem de_sub (ha : DE X np EW a fa) (hb : DE X np EW b fb) : DE X np EW (.BinOp a .Sub b pos) (opE subD fa fb) := de_op op_sub os_I2 ha hb
theorem de_mod (ha : DE X np EW a fa) (hb : DE X np EW b fb) : DE X np EW (.BinOp a .Mod b pos) (opE modD fa fb) := de_op op_mod (os_I2c fun _ _ h => by simpa using h) ha hb
theorem de_div (ha : DE X np EW a fa) (hb : DE X np EW b fb) : DE X np EW (.BinOp a .FloorDiv b pos) (opE divD fa fb) := de_op op_fdivW (os_I2c fun _ _ h => by simpa [CDivW] using h) ha hb
theorem de_pow (ha : DE X np EW a fa) (hb : DE X np EW b fb) : DE X np EW (.BinOp a .Pow b pos) (opE powD fa fb) := de_op op_powW (os_I2c fun _ _ h => by simpa using h) ha hb
theorem de_lt (ha : DE X np EW a fa) (hb : DE X np EW b fb) : DE X np EW (.Compare a [.Lt] [b] pos) (opE ltD fa fb) := de_cmp op_lt os_B2 ha hb (nomark _)
theorem de_le (ha : DE X np EW a fa) (hb : DE X np EW b fb) : DE X np EW (.Compare a [.LtE] [b] pos) (opE leD fa fb) := de_cmp op_le os_B2 ha hb (nomark _)
theorem de_gt (ha : DE X np EW a fa) (hb : DE X np EW b fb) : DE X np EW (.Compare a [.Gt] [b] pos) (opE gtD fa fb) := de_cmp op_gt os_B2 ha hb (nomark _)
theorem de_ge (ha : DE X np EW a fa) (hb : DE X np EW b fb) : DE X np EW (.Compare a [.GtE] [b] pos) (opE geD fa fb) := de_cmp op_ge os_B2 ha hb (nomark _)
theorem dt_lt (ha : DE X np EW a fa) (hb : DE X np EW b fb) : DT X np EW (.Compare a [.Lt] [b] pos) (asT (opE ltD fa fb)) := dt_cmp op_lt os_B2 ha hb (nomark _)
theorem dt_le (ha : DE X np EW a fa) (hb : DE X np EW b fb) : DT X np EW (.Compare a [.LtE] [b] pos) (asT (opE leD fa fb)) := dt_cmp op_le os_B2 ha hb (nomark _)
theorem dt_gt (ha : DE X np EW a fa) (hb : DE X np EW b fb) : DT X np EW (.Compare a [.Gt] [b] pos) (asT (opE gtD fa fb)) := dt_cmp op_gt os_B2 ha hb (nomark _)
theorem dt_ge (ha : DE X np EW a fa) (hb : DE X np EW b fb) : DT X np EW (.Compare a [.GtE] [b] pos) (asT (opE geD fa fb)) := dt_cmp op_ge os_B2 ha hb (nomark _)

/-! ### + and * of all kinds -/
def addD : D → D → Option D
  | .int i, .int j => some (.int (i + j))
  | .tuple xs, .tuple ys => if xs.length + ys.length ≤ sizeLine then some (.tuple (xs ++ ys)) else none
  | .list xs, .list ys => if xs.length + ys.length ≤ sizeLine then some (.list (xs ++ ys)) else none
  | .str x, .str y => if x.length + y.length ≤ sizeLine then some (.str (x ++ y)) else none
  | _, _ => none
/-- t + u, t[lo:hi], of tuples known by their objects -/
def rCatX (K : PySem.W.Frag) : R2 := fun x y H Q => ∃ a b xs ys, x = .ref a ∧ y = .ref b ∧ SqT K H a xs ∧ SqT K H b ys ∧ xs.length + ys.length ≤ sizeLine ∧
  (xs = [] → Q (.ref b) H) ∧ (xs ≠ [] → ys = [] → Q (.ref a) H) ∧ (xs ≠ [] → ys ≠ [] → ∀ p ob, H p = none → ob.dict = none → Q (.ref p) (upd H p (.frz ob (.tup (xs ++ ys)))))
theorem op_catX {X : Cx} : OpR X (binaryOp .Add) (rCatX X.K) := by
  intro pins s σ H x y v u Q I rx ry h
  obtain ⟨a, b, xs, ys, rfl, rfl, ha, hb, hz, q0, q1, q2⟩ := h
  by_cases hx : xs = []
  · subst hx
    exact op_catA pins s σ H _ _ v u Q I rx ry ⟨a, b, [], ys, rfl, rfl, ha, hb, hz, q0, fun z => absurd rfl z, fun z => absurd rfl z⟩
  · by_cases hy : ys = []
    · subst hy
      exact op_catA pins s σ H _ _ v u Q I rx ry ⟨a, b, xs, [], rfl, rfl, ha, hb, hz, fun z => absurd z hx, fun _ _ => q1 hx rfl, fun _ z => absurd rfl z⟩
    · cases rx
      cases ry
      obtain ⟨i1, r1, p1, _⟩ := I.tuple ha
      obtain ⟨i2, r2, p2, _⟩ := I.tuple hb
      refine HT.cat_tup p1 p2 (fun z => hx (r1.nil_iff.mp z)) (fun z => absurd (r2.nil_iff.mp z) hy) (fun z => ?_) (by rw [← r1.length, ← r2.length]; exact hz)
      exact laid_tupX I (r1.append r2) (by rw [List.length_append]; exact hz) (q2 hx hy)
def rSlX (K : PySem.W.Frag) : V → Option Int → Option Int → Hp → VK → Prop := fun x lo hi H Q => ∃ a xs, x = .ref a ∧ SqT K H a xs ∧
  (HT.sIx xs.length 0 lo = 0 ∧ HT.sIx xs.length xs.length hi = xs.length → Q (.ref a) H) ∧ (¬ (HT.sIx xs.length 0 lo = 0 ∧ HT.sIx xs.length xs.length hi = xs.length) → ∀ p ob, H p = none → ob.dict = none → Q (.ref p) (upd H p (.frz ob (.tup (cutV xs lo hi)))))
theorem sl_tupX {X : Cx} : SlR X (rSlX X.K) := by
  intro pins s σ H x v vl vu lo hi sl Q I rx hs pl pu h
  obtain ⟨a, xs, rfl, hx, q1, q2⟩ := h
  by_cases hw : HT.sIx xs.length 0 lo = 0 ∧ HT.sIx xs.length xs.length hi = xs.length
  · exact sl_tupA pins s σ H _ v vl vu lo hi sl Q I rx hs pl pu ⟨a, xs, rfl, hx, q1, fun z => absurd hw z⟩
  · cases rx
    obtain ⟨its, r, ht, hz⟩ := I.tuple hx
    have hn : its.toArray.size = xs.length := by rw [List.size_toArray]; exact r.length.symm
    refine ⟨"tuple", _, PyProof.Rows.slot_tuple_getitem.lookup, ht.typeIs, HT.getItem_tuple_cut ht hs pl pu (by rw [hn]; exact hw) ?_ (by rw [hn]; exact hz)⟩
    rw [hn]
    exact laid_tupX I ((r.drop (HT.sIx xs.length 0 lo)).take (HT.sIx xs.length xs.length hi - HT.sIx xs.length 0 lo)) (Nat.le_trans (cutV_length xs lo hi) hz) (q2 hw)
def rAddAll (K : PySem.W.Frag) : R2 := fun x y H Q => (∃ i j, x = .int i ∧ y = .int j ∧ Q (.int (i + j)) H) ∨ rCatX K x y H Q ∨ rCat x y H Q ∨ ∃ i j, x = .str i ∧ y = .str j ∧ i.length + j.length ≤ sizeLine ∧ Q (.str (i ++ j)) H
theorem op_addAll : OpR X (binaryOp .Add) (rAddAll X.K) := OpR.or op_add (OpR.or op_catX (OpR.or op_cat op_add_str))
theorem os_add {K : PySem.W.Frag} : OpS K (rAddAll K) addD := by
  intro H C L x y dx dy d Q r1 r2 e q
  cases dx <;> cases dy <;> simp only [addD, reduceCtorEq] at e
  · cases r1; cases r2; cases e
    exact .inl ⟨_, _, rfl, rfl, q _ H C .refl (.int _)⟩
  · obtain rfl := r1.str_inv
    obtain rfl := r2.str_inv
    rename_i i j
    by_cases hz : i.length + j.length ≤ sizeLine
    · rw [if_pos hz] at e; cases e
      exact .inr (.inr (.inr ⟨_, _, rfl, rfl, hz, q _ H C .refl (.str _)⟩))
    · rw [if_neg hz] at e; cases e
  · obtain ⟨p, us, rfl, hp, cp, rp⟩ := r1.lst_inv
    obtain ⟨p2, us2, rfl, hp2, cp2, rp2⟩ := r2.lst_inv
    rename_i xs ys
    by_cases hz : xs.length + ys.length ≤ sizeLine
    · rw [if_pos hz] at e; cases e
      refine .inr (.inr (.inl ⟨_, _, _, _, rfl, rfl, hp, hp2, by rw [rp.len, rp2.len]; exact hz, fun t ht => ?_⟩))
      have S := pstp_new (C := C) (o := .lst (us ++ us2)) (n := 0) ht
      exact q _ _ _ S (.lst upd_same (by unfold Cof; rw [setC_same]; exact L.ok0) (S.rpA (P := fun c => L.okb c = true) (rp.app rp2)))
    · rw [if_neg hz] at e; cases e
  · obtain ⟨p, us, rfl, hp, rp⟩ := r1.tup_invX
    obtain ⟨p2, us2, rfl, hp2, rp2⟩ := r2.tup_invX
    rename_i xs ys
    by_cases hz : xs.length + ys.length ≤ sizeLine
    · rw [if_pos hz] at e; cases e
      refine .inr (.inl ⟨_, _, _, _, rfl, rfl, hp.sq, hp2.sq, by rw [rp.len, rp2.len]; exact hz, fun h0 => ?_, fun h0 h1 => ?_, fun h0 h1 t ob ht hd => ?_⟩)
      · have := rp.nil_iff.mp h0; subst this
        exact q _ H C .refl (.tup hp2 rp2)
      · have := rp2.nil_iff.mp h1; subst this
        exact q _ H C .refl (.tup hp (by rw [List.append_nil]; exact rp))
      · have S := pstp_id (C := C) (o := .frz ob (.tup (us ++ us2))) ht
        exact q _ _ _ S (.tup (newX hd) ((rp.app rp2).same S.same))
    · rw [if_neg hz] at e; cases e
theorem de_add (ha : DE X np EW a fa) (hb : DE X np EW b fb) : DE X np EW (.BinOp a .Add b pos) (opE addD fa fb) := de_op op_addAll os_add ha hb
def fitI (k : Int) : Bool := inB (-(2 ^ 63)) (2 ^ 63) k
/-- ints; a list times an int -/
def mulD : D → D → Option D
  | .int i, .int j => if i.natAbs.log2 + j.natAbs.log2 < 1000000 then some (.int (i * j)) else none
  | .list xs, .int k => if fitI k && decide (xs.length * k.toNat ≤ sizeLine) then some (.list (List.replicate k.toNat xs).flatten) else none
  | _, _ => none
theorem rep_rp {K : PySem.W.Frag} {H : Hp} {P : Addr → Prop} {us : List V} {xs : List D} (r : RpA K H P us xs) : ∀ n : Nat, RpA K H P (List.replicate n us).flatten (List.replicate n xs).flatten
  | 0 => .nil
  | n + 1 => by
    rw [List.replicate_succ, List.replicate_succ, List.flatten_cons, List.flatten_cons]
    exact r.app (rep_rp r n)
theorem op_mulAll : OpR X (binaryOp .Mult) (fun x y H Q => rI CMulW (fun i j => .int (i * j)) x y H Q ∨ rRep x y H Q) := OpR.or op_mulW op_rep
theorem os_mul {K : PySem.W.Frag} : OpS K (fun x y H Q => rI CMulW (fun i j => .int (i * j)) x y H Q ∨ rRep x y H Q) mulD := by
  intro H C L x y dx dy d Q r1 r2 e q
  cases dx <;> cases dy <;> simp only [mulD, reduceCtorEq] at e
  · obtain rfl := r1.int_inv
    obtain rfl := r2.int_inv
    rename_i i j
    by_cases hz : i.natAbs.log2 + j.natAbs.log2 < 1000000
    · rw [if_pos hz] at e; cases e
      exact .inl ⟨_, _, rfl, rfl, hz, q _ H C .refl (.int _)⟩
    · rw [if_neg hz] at e; cases e
  · obtain ⟨p, us, rfl, hp, cp, rp⟩ := r1.lst_inv
    obtain rfl := r2.int_inv
    rename_i xs k
    by_cases hz : (fitI k && decide (xs.length * k.toNat ≤ sizeLine)) = true
    · rw [if_pos hz] at e; cases e
      simp only [fitI, inB_eq, Bool.and_eq_true, decide_eq_true_eq] at hz
      refine .inr ⟨_, _, _, rfl, rfl, hp, hz.1.1, hz.1.2, by rw [rp.len]; exact hz.2, fun t ht => ?_⟩
      have S := pstp_new (C := C) (o := .lst (List.replicate k.toNat us).flatten) (n := 0) ht
      exact q _ _ _ S (.lst upd_same (by unfold Cof; rw [setC_same]; exact L.ok0) (S.rpA (P := fun c => L.okb c = true) (rep_rp rp k.toNat)))
    · rw [if_neg hz] at e; cases e
theorem de_mul (ha : DE X np EW a fa) (hb : DE X np EW b fb) : DE X np EW (.BinOp a .Mult b pos) (opE mulD fa fb) := de_op op_mulAll os_mul ha hb
def unE (g : D → Option D) (fa : ES) : ES := fun L ρ => (fa L ρ).bind fun p => (ofO (g p.1)).bind fun d => .ok (d, p.2)
def negD : D → Option D
  | .int i => some (.int (-i))
  | _ => none
theorem de_neg (ha : DE X np EW a fa) : DE X np EW (.UnaryOp .USub a pos) (unE negD fa) :=
  PE.weak (pe_un un_neg ha) fun σ H Q ⟨L, C, ρ, R, h⟩ => tE_of R h fun p v H1 C1 A1 R1 r1 h1 => by
    obtain ⟨d, e, h3⟩ := wp_ofO (wp_bind.mp h1)
    obtain ⟨dp, ρ1⟩ := p
    cases dp <;> simp [negD] at e
    obtain rfl := r1.int_inv
    subst e
    exact ⟨_, rfl, h3 _ H1 C1 A1 R1 (.int _)⟩

/-! ### ==, is None, in -/
def eqS0 (f : Bool → Bool) : D → D → Option D
  | .str a, .str b => some (.bool (f (decide (a = b))))
  | _, _ => none
def eqX (f : Bool → Bool) (x y : D) : Option D := match eqS0 f x y with
  | some d => some d
  | none => if SeqAt.shaped x && SeqAt.shaped y then some (.bool (f (PyData.eqv x y))) else none
def eqD : D → D → Option D := eqX fun b => b
def neD : D → D → Option D := eqX fun b => !b
theorem eqS0_some {f : Bool → Bool} {x y d : D} (h : eqS0 f x y = some d) : ∃ a b, x = .str a ∧ y = .str b ∧ d = .bool (f (decide (a = b))) := by
  unfold eqS0 at h
  split at h
  · cases h; exact ⟨_, _, rfl, rfl, rfl⟩
  · cases h
theorem os_eqX {K : PySem.W.Frag} {f : Bool → Bool} {r1 r2 : R2} (h1 : ∀ a b H Q, Q (.bl (f (decide (a = b)))) H → r1 (.str a) (.str b) H Q)
    (h2 : ∀ x y H Q d e, Dp K H x d → Dp K H y e → SeqAt.shaped d = true → SeqAt.shaped e = true → Q (.bl (f (PyData.eqv d e))) H → r2 x y H Q) : OpS K (fun x y H Q => r1 x y H Q ∨ r2 x y H Q) (eqX f) := by
  intro H C L x y dx dy d Q q1 q2 e q
  unfold eqX at e
  cases e0 : eqS0 f dx dy with
  | some d' =>
    rw [e0] at e
    obtain ⟨a, b, rfl, rfl, rfl⟩ := eqS0_some e0
    cases e
    obtain rfl := q1.str_inv
    obtain rfl := q2.str_inv
    exact .inl (h1 _ _ _ _ (q _ H C .refl (.bl _)))
  | none =>
    rw [e0] at e
    dsimp only at e
    by_cases hz : (SeqAt.shaped dx && SeqAt.shaped dy) = true
    · rw [if_pos hz] at e; cases e
      rw [Bool.and_eq_true] at hz
      exact .inr (h2 _ _ _ _ _ _ q1.dp q2.dp hz.1 hz.2 (q _ H C .refl (.bl _)))
    · rw [if_neg hz] at e; cases e
theorem dec_str {a b : Str} : decide (V.str a = V.str b) = decide (a = b) := by
  by_cases h : a = b
  · subst h; simp
  · rw [decide_eq_false h, decide_eq_false (fun z => h (by cases z; rfl))]
theorem os_eq {K : PySem.W.Frag} : OpS K (fun x y H Q => rEq x y H Q ∨ rEqD K x y H Q) eqD :=
  os_eqX (fun a b H Q h => ⟨rfl, by rw [dec_str]; exact h⟩) fun x y H Q d e h1 h2 h3 h4 h5 => ⟨d, e, h1, h2, h3, h4, h5⟩
theorem os_ne {K : PySem.W.Frag} : OpS K (fun x y H Q => rNe x y H Q ∨ rNeD K x y H Q) neD :=
  os_eqX (fun a b H Q h => ⟨rfl, by rw [dec_str]; exact h⟩) fun x y H Q d e h1 h2 h3 h4 h5 => ⟨d, e, h1, h2, h3, h4, h5⟩
theorem room64 {k : Nat} {A : Around} (hr : Room k A) : A.units + 64 < cLine := by have := hr.un; omega
theorem room65 {k : Nat} {A : Around} (hr : Room k A) : A.units + 65 < cLine := by have := hr.un; omega
theorem de_eq {k : Nat} (hr : Room k X.A) (ha : DE X np EW a fa) (hb : DE X np EW b fb) : DE X np EW (.Compare a [.Eq] [b] pos) (opE eqD fa fb) := de_cmp (op_eq.or (op_eqD (room64 hr))) os_eq ha hb (nomark _)
theorem de_ne {k : Nat} (hr : Room k X.A) (ha : DE X np EW a fa) (hb : DE X np EW b fb) : DE X np EW (.Compare a [.NotEq] [b] pos) (opE neD fa fb) := de_cmp (op_ne.or (op_neD (room64 hr))) os_ne ha hb (nomark _)
theorem dt_eq {k : Nat} (hr : Room k X.A) (ha : DE X np EW a fa) (hb : DE X np EW b fb) : DT X np EW (.Compare a [.Eq] [b] pos) (asT (opE eqD fa fb)) := dt_cmp (op_eq.or (op_eqD (room64 hr))) os_eq ha hb (nomark _)
theorem dt_ne {k : Nat} (hr : Room k X.A) (ha : DE X np EW a fa) (hb : DE X np EW b fb) : DT X np EW (.Compare a [.NotEq] [b] pos) (asT (opE neD fa fb)) := dt_cmp (op_ne.or (op_neD (room64 hr))) os_ne ha hb (nomark _)
def isNd : D → Bool
  | .none => true
  | _ => false
def isND (x y : D) : Option D := if isNd y then some (.bool (isNd x)) else none
def notND (x y : D) : Option D := if isNd y then some (.bool (!isNd x)) else none
theorem isNd_iff {K : PySem.W.Frag} {H : Hp} {P : Addr → Prop} {x : V} {d : D} (r : Rp K H P x d) : decide (x = .non) = isNd d := by
  cases r <;> simp [isNd]
theorem os_isN {K : PySem.W.Frag} : OpS K (fun x y H Q => y = .non ∧ Q (.bl (decide (x = .non))) H) isND := by
  intro H C L x y dx dy d Q r1 r2 e q
  cases dy <;> simp [isND, isNd] at e
  obtain rfl := r2.non_inv
  subst e
  refine ⟨rfl, ?_⟩
  rw [isNd_iff r1]
  exact q _ H C .refl (by cases dx <;> exact .bl _)
theorem os_notN {K : PySem.W.Frag} : OpS K (fun x y H Q => y = .non ∧ Q (.bl (!decide (x = .non))) H) notND := by
  intro H C L x y dx dy d Q r1 r2 e q
  cases dy <;> simp [notND, isNd] at e
  obtain rfl := r2.non_inv
  subst e
  refine ⟨rfl, ?_⟩
  rw [isNd_iff r1]
  exact q _ H C .refl (by cases dx <;> exact .bl _)
theorem de_is (ha : DE X np EW a fa) (hb : DE X np EW b fb) : DE X np EW (.Compare a [.Is] [b] pos) (opE isND fa fb) := de_cmp op_isN os_isN ha hb (nomark _)
theorem de_isnot (ha : DE X np EW a fa) (hb : DE X np EW b fb) : DE X np EW (.Compare a [.IsNot] [b] pos) (opE notND fa fb) := de_cmp op_notN os_notN ha hb (nomark _)
theorem dt_is (ha : DE X np EW a fa) (hb : DE X np EW b fb) : DT X np EW (.Compare a [.Is] [b] pos) (asT (opE isND fa fb)) := dt_cmp op_isN os_isN ha hb (nomark _)
theorem dt_isnot (ha : DE X np EW a fa) (hb : DE X np EW b fb) : DT X np EW (.Compare a [.IsNot] [b] pos) (asT (opE notND fa fb)) := dt_cmp op_notN os_notN ha hb (nomark _)

/-! ### a <= b <= c -/
def chE (g g' : D → D → Option D) (fa fb fc : ES) : ES := fun L ρ => (fa L ρ).bind fun p => (fb L p.2).bind fun q => (ofO (g p.1 q.1)).bind fun d => (isB d).bind fun k =>
  if k then (fc L q.2).bind fun r => (ofO (g' q.1 r.1)).bind fun d' => .ok (d', r.2) else .ok (.bool false, q.2)
theorem ch_fin {K : PySem.W.Frag} {r r' : R2} {g g' : D → D → Option D} (hg : OpS K r g) (hg' : OpS K r' g') {σ : L2.St} {H : Hp} {Q : VK} {L : Lv} {C : Col} {ρ : Slots} (R : Rel K np H C σ ρ)
    (h : wp (chE g g' fa fb fc L ρ) (fun p => ∀ v H' C', Aft np L ρ H C p.2 H' C' → Rel K np H' C' σ p.2 → Rp K H' (Cof C' L) v p.1 → Q v H') (fun c => ∀ H' C', Stp np H C H' C' → EW c H')) :
    tChain r r' (tE K np EW fa) (tE K np EW fb) (tE K np EW fc) σ H Q := by
  refine tE_of R h fun p x H1 C1 A1 R1 r1 h1 => ?_
  refine tE_of R1 h1 fun q y H2 C2 A2 R2 r2 h2 => ?_
  obtain ⟨d, e, h3⟩ := wp_ofO (wp_bind.mp h2)
  refine hg H2 C2 L x y p.1 q.1 d _ (A2.rp r1) r2 e fun v H' C' S r' => ?_
  cases d with
  | bool k =>
    obtain rfl := r'.bl_inv
    refine ⟨k, rfl, ?_⟩
    cases k with
    | false => exact iteF (h3 _ H' C' ((A1.trans A2).trans (.of S)) (R2.pstp S) (.bl _))
    | true =>
      have A3 : Aft np L q.2 H2 C2 q.2 H' C' := .of S
      refine iteT (tE_of (R2.pstp S) (wp_mono h3 (fun _ _ z => z) fun c z H'' C'' T => z H'' C'' (A3.stp.trans T)) fun w u H4 C4 A4 R4 r4 h4 => ?_)
      obtain ⟨d', e', h5⟩ := wp_ofO (wp_bind.mp h4)
      exact hg' H4 C4 L y u q.1 w.1 d' _ (A4.rp (A3.rp r2)) r4 e' fun v5 H5 C5 S5 r5 => h5 v5 H5 C5 (((A1.trans A2).trans A3).trans (A4.trans (.of S5))) (R4.pstp S5) r5
  | _ => exact h3.elim
theorem de_chain {op op' : CmpOp} {r r' : R2} {g g' : D → D → Option D} (ho : OpR X (compareOp op) r) (hg : OpS X.K r g) (ho' : OpR X (compareOp op') r') (hg' : OpS X.K r' g') (ha : DE X np EW a fa) (hb : DE X np EW b fb) (hc : DE X np EW c fc)
    (hm : lastMarks [op, op'] [b, c] = false := by with_unfolding_all rfl) : DE X np EW (.Compare a [op, op'] [b, c] pos) (chE g g' fa fb fc) :=
  PE.weak (pe_chain ho ho' ha hb hc hm) fun σ H Q ⟨L, C, ρ, R, h⟩ => ch_fin hg hg' R h
theorem dt_chain {op op' : CmpOp} {r r' : R2} {g g' : D → D → Option D} (ho : OpR X (compareOp op) r) (hg : OpS X.K r g) (ho' : OpR X (compareOp op') r') (hg' : OpS X.K r' g') (ha : DE X np EW a fa) (hb : DE X np EW b fb) (hc : DE X np EW c fc)
    (hm : lastMarks [op, op'] [b, c] = false := by with_unfolding_all rfl) : DT X np EW (.Compare a [op, op'] [b, c] pos) (asT (chE g g' fa fb fc)) :=
  PT.weak (pt_chain ho ho' ha hb hc hm) fun σ H Q ⟨L, C, ρ, R, h⟩ => by
    refine ch_fin (Q := fun x H' => ∃ k, x = V.bl k ∧ Q k H') (L := L) hg hg' R ?_
    refine wp_mono (wp_bind.mp h) (fun p _ hp v H' C' A R' r' => ?_) fun c z => z
    obtain ⟨d, ρ'⟩ := p
    cases d with
    | bool b => cases r'; exact ⟨b, rfl, hp H' C' A R'⟩
    | _ => exact hp.elim

/-! ### subscripts, slices -/
/-- xs[i], of a list, a tuple, a text -/
def ixD : D → D → Option D
  | .list xs, .int i => atI xs i
  | .tuple xs, .int i => atI xs i
  | .str z, .int i => if z.length ≤ sizeLine then (atI z.cps.toList i).map fun c => .str ⟨#[c]⟩ else none
  | _, _ => none
theorem atI_rp {K : PySem.W.Frag} {H : Hp} {P : Addr → Prop} {us : List V} {xs : List D} {i : Int} {d : D} (r : RpA K H P us xs) (h : atI xs i = some d) : ∃ v, atI us i = some v ∧ Rp K H P v d := by
  unfold atI at h ⊢
  rw [r.len]
  cases e : ixN xs.length i with
  | none => rw [e] at h; cases h
  | some j => rw [e] at h; exact r.get h
theorem os_ix {K : PySem.W.Frag} : OpS K (rIx K) ixD := by
  intro H C L x y dx dy d Q r1 r2 e q
  cases dx <;> cases dy <;> simp only [ixD, reduceCtorEq] at e
  · obtain rfl := r1.str_inv
    obtain rfl := r2.int_inv
    rename_i z i
    by_cases hz : z.length ≤ sizeLine
    · rw [if_pos hz] at e
      cases e2 : atI z.cps.toList i with
      | none => rw [e2] at e; cases e
      | some c => rw [e2] at e; cases e; exact .inr (.inr ⟨_, _, _, rfl, rfl, hz, e2, q _ H C .refl (.str _)⟩)
    · rw [if_neg hz] at e; cases e
  · obtain ⟨p, us, rfl, hp, cp, rp⟩ := r1.lst_inv
    obtain rfl := r2.int_inv
    obtain ⟨v, hv, rv⟩ := atI_rp rp e
    exact .inl ⟨_, _, _, _, rfl, rfl, .of hp, hv, q _ H C .refl rv⟩
  · obtain ⟨p, us, rfl, hp, rp⟩ := r1.tup_inv
    obtain rfl := r2.int_inv
    obtain ⟨v, hv, rv⟩ := atI_rp rp e
    exact .inr (.inl ⟨_, _, _, _, rfl, rfl, hp, hv, q _ H C .refl rv⟩)
theorem de_ix (ha : DE X np EW a fa) (hb : DE X np EW b fb) (hs : PlainIx b := by exact fun _ _ => rfl) : DE X np EW (.Subscript a b pos) (opE ixD fa fb) :=
  PE.weak (pe_ix ix_seq ha hb hs) fun σ H Q ⟨L, C, ρ, R, h⟩ => op_fin os_ix R h
abbrev OS := Lv → Slots → Re (Option Int × Slots)
def noO : OS := fun _ ρ => .ok (none, ρ)
def isI : D → Re Int
  | .int i => .ok i
  | _ => .bad
def soO (f : ES) : OS := fun L ρ => (f L ρ).bind fun p => (isI p.1).bind fun i => .ok (some i, p.2)
def tO (K : PySem.W.Frag) (np : Fp) (EW : XW) (f : OS) : TO := fun σ H Q => ∃ L C ρ, Rel K np H C σ ρ ∧
  wp (f L ρ) (fun p => ∀ H' C', Aft np L ρ H C p.2 H' C' → Rel K np H' C' σ p.2 → Q p.1 H') (fun c => ∀ H' C', Stp np H C H' C' → EW c H')
abbrev DO (X : Cx) (np : Fp) (EW : XW) (e : Option Expr) (f : OS) : Prop := PO X e (tO X.K np EW f)
theorem PO.weak {X : Cx} {e : Option Expr} {t t' : TO} (h : PO X e t) (w : ∀ σ H Q, t' σ H Q → t σ H Q) : PO X e t' := ⟨fun pins s σ H Q I q => h.run pins s σ H Q I (w σ H Q q)⟩
theorem do_none : DO X np EW none noO := PO.weak po_none fun σ H Q ⟨L, C, ρ, R, h⟩ => h H C .refl R
theorem do_some (h : DE X np EW a fa) : DO X np EW (some a) (soO fa) := PO.weak (po_some h) fun σ H Q ⟨L, C, ρ, R, h⟩ => tE_of R h fun p v H1 C1 A1 R1 r1 h1 => by
  obtain ⟨d, ρ1⟩ := p
  cases d with
  | int i =>
    obtain rfl := r1.int_inv
    exact ⟨i, rfl, h1 H1 C1 A1 R1⟩
  | _ => exact h1.elim
def cutD (xs : List D) (lo hi : Option Int) : List D := (xs.drop (HT.sIx xs.length 0 lo)).take (HT.sIx xs.length xs.length hi - HT.sIx xs.length 0 lo)
def slD2 (x : D) (lo hi : Option Int) : Option D := match x with
  | .list xs => some (.list (cutD xs lo hi))
  | .tuple xs => some (.tuple (cutD xs lo hi))
  | _ => none
def slE (fa : ES) (lo hi : OS) : ES := fun L ρ => (fa L ρ).bind fun p => (lo L p.2).bind fun q => (hi L q.2).bind fun r => (ofO (slD2 p.1 q.1 r.1)).bind fun d => .ok (d, r.2)
theorem cut_rp {K : PySem.W.Frag} {H : Hp} {P : Addr → Prop} {us : List V} {xs : List D} (r : RpA K H P us xs) (lo hi : Option Int) : RpA K H P (cutV us lo hi) (cutD xs lo hi) := by
  unfold cutV cutD
  rw [r.len]
  exact (r.drop _).take _
theorem sl_all : SlR X (fun x lo hi H Q => rSlL X.K x lo hi H Q ∨ rSlX X.K x lo hi H Q) := sl_list.or sl_tupX
theorem tO_of {K : PySem.W.Frag} {L : Lv} {C : Col} {ρ : Slots} {σ : L2.St} {H : Hp} {f : OS} {Q : Option Int → Hp → Prop} (R : Rel K np H C σ ρ) {α : Type} {k : Option Int × Slots → Re α} {Qr : α → Prop}
    (h : wp ((f L ρ).bind k) Qr (fun c => ∀ H' C', Stp np H C H' C' → EW c H'))
    (hq : ∀ p H' C', Aft np L ρ H C p.2 H' C' → Rel K np H' C' σ p.2 → wp (k p) Qr (fun c => ∀ H'' C'', Stp np H' C' H'' C'' → EW c H'') → Q p.1 H') : tO K np EW f σ H Q := by
  refine ⟨L, C, ρ, R, wp_mono (wp_bind.mp h) (fun p _ hp H' C' A R' => hq p H' C' A R' (wp_mono hp (fun _ _ z => z) fun c z H'' C'' S => z H'' C'' (A.stp.trans S))) fun c z => z⟩
theorem de_sl {lo hi : Option Expr} {fl fh : OS} {p2 : Pos} (ha : DE X np EW a fa) (hl : DO X np EW lo fl) (hh : DO X np EW hi fh) : DE X np EW (.Subscript a (.Slice lo hi none p2) pos) (slE fa fl fh) :=
  PE.weak (pe_slice sl_all ha hl hh) fun σ H Q ⟨L, C, ρ, R, h⟩ => tE_of R h fun p v H1 C1 A1 R1 r1 h1 => tO_of R1 h1 fun q H2 C2 A2 R2 h2 => tO_of R2 h2 fun r H3 C3 A3 R3 h3 => by
    obtain ⟨d, e, h4⟩ := wp_ofO (wp_bind.mp h3)
    obtain ⟨dp, ρ1⟩ := p
    have A := (A1.trans A2).trans A3
    have rp := A3.rp (A2.rp r1)
    cases dp <;> simp only [slD2, reduceCtorEq] at e
    · cases e
      obtain ⟨t, us, rfl, ht, ct, ru⟩ := rp.lst_inv
      refine .inl ⟨_, _, rfl, .of ht, fun z hz => ?_⟩
      have S := pstp_new (C := C3) (o := .lst (cutV us q.1 r.1)) (n := 0) hz
      exact h4 _ _ _ (A.trans (.of S)) (R3.pstp S) (.lst upd_same (by unfold Cof; rw [setC_same]; exact L.ok0) (S.rpA (P := fun c => L.okb c = true) (cut_rp ru _ _)))
    · cases e
      obtain ⟨t, us, rfl, ht, ru⟩ := rp.tup_invX
      rename_i xs
      refine .inr ⟨_, _, rfl, ht.sq, fun hw => ?_, fun hw z ob hz hd => ?_⟩
      · refine h4 _ H3 C3 A R3 (.tup ht ?_)
        have e1 : cutD xs q.1 r.1 = xs := by
          unfold cutD
          rw [← ru.len, hw.1, hw.2, List.drop_zero, Nat.sub_zero, ru.len, List.take_length]
        rw [e1]; exact ru
      · have S := pstp_id (C := C3) (o := .frz ob (.tup (cutV us q.1 r.1))) hz
        exact h4 _ _ _ (A.trans (.of S)) (R3.pstp S) (.tup (newX hd) ((cut_rp ru _ _).same S.same))
end
end
end Dm

namespace Dm
noncomputable section
open PySem PySem.Spec PyProof.Rows L2

/-! ### a def's promise, with what repr needs to know of the frames around -/
structure GFn (P : Program) (w : World) (K : PySem.W.Frag) (mg : Str → Option Value) (base : Heap) (Xc : CXT) (k : Nat) (f : Addr) (fd : FuncData) (ps : List Str) (sp : Sp) : Prop where
  len : ∀ vs H Q E, sp vs H Q E → vs.length = ps.length
  run : ∀ (A : Around) (outer : List PySem.Env) (s : Shared) (H : Hp) (args : Args) (us : List Value) (vs : List V) (Q : VK) (E : XK), Room k A → A.guards = some [] → Env0 P w K mg base A outer s H → BindsTo s fd args (ps.zip us) →
    Vals vs us → sp vs H Q E → codeAny (model P w) A (.call (.ref f) args) (CR Xc outer P w H s Q E) s
theorem GFn.mono {P : Program} {w : World} {K : PySem.W.Frag} {mg : Str → Option Value} {base : Heap} {Xc : CXT} {j k : Nat} {f : Addr} {fd : FuncData} {ps : List Str} {sp : Sp} (F : GFn P w K mg base Xc j f fd ps sp) (h : j ≤ k) :
    GFn P w K mg base Xc k f fd ps sp := ⟨F.len, fun A o s H a us vs Q E hr => F.run A o s H a us vs Q E (hr.mono h)⟩
theorem GFn.imp {P : Program} {w : World} {K : PySem.W.Frag} {mg : Str → Option Value} {base : Heap} {Xc : CXT} {k : Nat} {f : Addr} {fd : FuncData} {ps : List Str} {sp sp' : Sp} (F : GFn P w K mg base Xc k f fd ps sp)
    (h : ∀ vs H Q E, sp' vs H Q E → sp vs H Q E) : GFn P w K mg base Xc k f fd ps sp' :=
  ⟨fun vs H Q E q => F.len vs H Q E (h _ _ _ _ q), fun A o s H a us vs Q E hr hg e0 hb hv q => F.run A o s H a us vs Q E hr hg e0 hb hv (h _ _ _ _ q)⟩
theorem GFn.of {P : Program} {w : World} {K : PySem.W.Frag} {mg : Str → Option Value} {base : Heap} {Xc : CXT} {k : Nat} {f : Addr} {fd : FuncData} {ps : List Str} {sp : Sp} (F : FnOk P w K mg base Xc k f fd ps sp) : GFn P w K mg base Xc k f fd ps sp :=
  ⟨F.len, fun A o s H a us vs Q E hr _ => F.run A o s H a us vs Q E hr⟩

/-- what is wanted of an exception c, said by E -/
abbrev XO := XK → Exn → Hp → Prop
/-- the promise of a def that computes F: of the arguments' slots, the result and the slots behind -/
def spG (K : PySem.W.Frag) (xo : XO) (n : Nat) (F : Slots → Re (D × Slots)) : Sp := fun vs H Q E => vs.length = n ∧ ∃ (C : Col) (np : Fp) (as : Slots), np.n = n ∧ Rel K np H C (vs.map some) as ∧ (∀ b, H b ≠ none → 1 ≤ C b ∧ C b ≤ n + 2) ∧
  wp (F as) (fun p => ∀ v H' C', Stp np H C H' C' → Rel K np H' C' (vs.map some) p.2 → Rp K H' (fun b => C' b = 0) v p.1 → Q v H') (fun c => ∀ H' C', Stp np H C H' C' → xo E c H')

section
variable {X : Cx} {np : Fp} {EW : XW} {Xc : CXT} {k : Nat} {f : Addr} {fd : FuncData} {ps ks : List Str} {sp : Sp} {E : XK} {x : Str} {p pos kpos : Pos} {e : Expr} {es : List Expr}
theorem g_run {pins : List (Addr × Obj)} {σ : L2.St} {H : Hp} {s : Shared} {Q : VK} {args : Args} {us : List Value} {vs : List V} (F : GFn X.prog X.w X.K X.mg X.base Xc k f fd ps sp) (hr : Room k X.A) (hg : X.A.guards = some [])
    (hb : us.length = ps.length → BindsTo s fd args (ps.zip us)) (hx : Passes Xc X E) (I : Inv X pins σ H s) (r : Vals vs us) (h : sp vs H Q E) :
    codeAny (model X.prog X.w) X.A (.call (.ref f) args) (fun rr s' => match rr with | .ok (.ret u) => EP X pins σ Q u s' | .ok _ => False | .error e => X.xe e s') s := by
  refine codeAny_mono (F.run X.A X.stack s H args us vs Q E hr hg I.env0 (hb (by rw [← r.length]; exact F.len _ _ _ _ h)) r h) fun rr s' q => ?_
  cases rr with
  | error e => exact hx pins σ H s e s' I q
  | ok fl =>
    cases fl with
    | ret u => exact I.after q
    | next => exact q
    | brk => exact q
    | cont => exact q
/-- f(e, ..): what the callee's promise asks of the values -/
theorem gpe_call {t : TA} (F : GFn X.prog X.w X.K X.mg X.base Xc k f fd ps sp) (hr : Room k X.A) (hgd : X.A.guards = some []) (hg : Gl X x) (hm : X.mg x = some (.ref f)) (hk : PySem.W.keepIn X.K (.ref f) = true) (hb : Binds X.K fd ps []) (hx : Passes Xc X E)
    (ha : PA X (e :: es) t) (hdb : (x == ("__debug__" : Str)) = false := by decide) (he : starEach (e :: es) X.env = (false, eval e X.env) :: starEach es X.env := by rfl) (hpl : (backTo pos (starEach es X.env)).any (·.1) = false := by rfl) :
    PE X (.Call (.Name x p) (e :: es) [] pos) (fun σ H Q => t σ H fun vs H1 => sp vs H1 Q E) := by
  refine ⟨fun pins s σ H Q I h => ?_⟩
  refine wpAny_Call_Name_kw (ld_glob I hg hm (PySem.W.callWith_K (h₀ := X.base) I.ok.mod.kin hk (thn (ha.run pos pins s σ H _ I h) fun us s1 ⟨vs, H1, I1, r, q⟩ => ⟨I1.kIn, ?_⟩) he hpl) hdb)
  refine wpAny_call (codeAny_mono (g_run (args := ⟨us, []⟩) F hr hgd (fun hl => ?_) hx I1 r q) fun rr s' z => ?_)
  · have := hb s1 us I1.kIn (by simpa using hl)
    simpa using this
  · cases rr with
    | error e => exact z
    | ok fl => cases fl <;> exact z
theorem gpe_call0 (F : GFn X.prog X.w X.K X.mg X.base Xc k f fd ps sp) (hr : Room k X.A) (hgd : X.A.guards = some []) (hg : Gl X x) (hm : X.mg x = some (.ref f)) (hk : PySem.W.keepIn X.K (.ref f) = true) (hb : Binds X.K fd ps []) (hx : Passes Xc X E)
    (hdb : (x == ("__debug__" : Str)) = false := by decide) : PE X (.Call (.Name x p) [] [] pos) (fun σ H Q => sp [] H Q E) := by
  refine ⟨fun pins s σ H Q I h => ?_⟩
  refine wpAny_Call_Name_kw (ld_glob I hg hm (PySem.W.callWith_K0 I.kIn hk ?_) hdb)
  refine wpAny_call (codeAny_mono (g_run (us := []) (args := ⟨[], []⟩) F hr hgd (fun hl => ?_) hx I .nil h) fun rr s' z => ?_)
  · have := hb s [] I.kIn (by simpa using hl)
    simpa using this
  · cases rr with
    | error e => exact z
    | ok fl => cases fl <;> exact z
/-- f(e, .., k = v, ..), no defaults; gV: the parameters' order -/
theorem gpe_callK {t tk : TA} {kws : List Keyword} {g : List Value → List Value → List Value} {gV : List V → List V → List V} (F : GFn X.prog X.w X.K X.mg X.base Xc k f fd ps sp) (hr : Room k X.A) (hgd : X.A.guards = some []) (hg : Gl X x) (hm : X.mg x = some (.ref f))
    (hk : PySem.W.keepIn X.K (.ref f) = true) (hb : KBinds X.K fd ps ks g gV) (hx : Passes Xc X E) (ha : PA X (e :: es) t) (hkw : PK X kws tk) (hall : (backToKw pos (keywordEach kws X.env)).all (·.1.isSome) = true := by rfl)
    (hks : (backToKw pos (keywordEach kws X.env)).filterMap (·.1) = ks := by rfl) (hdb : (x == ("__debug__" : Str)) = false := by decide) (he : starEach (e :: es) X.env = (false, eval e X.env) :: starEach es X.env := by rfl)
    (hpl : ((backTo pos (starEach (e :: es) X.env)).any (·.1) || (backToKw pos (keywordEach kws X.env)).any (·.1.isNone)) = false := by rfl) :
    PE X (.Call (.Name x p) (e :: es) kws pos) (fun σ H Q => t σ H fun vs H1 => tk σ H1 fun zs H2 => sp (gV vs zs) H2 Q E) := by
  refine ⟨fun pins s σ H Q I h => ?_⟩
  refine wpAny_Call_Name_kw (ld_glob I hg hm (PySem.W.callWith_KW (h₀ := X.base) I.ok.mod.kin hk hall (thn (ha.run pos pins s σ H _ I h) fun us s1 ⟨vs, H1, I1, r, q⟩ => thn (hkw.run pos pins s1 σ H1 _ I1 q) fun ws s2 ⟨zs, H2, I2, rz, q2⟩ => ⟨I2.kIn, ?_⟩) hpl he) hdb)
  rw [hks]
  refine wpAny_call (codeAny_mono (g_run (args := ⟨us, ks.zip ws⟩) F hr hgd (fun hl => hb.to s2 us ws I2.kIn hl) hx I2 (hb.rel r rz) q2) fun rr s' z => ?_)
  cases rr with
  | error e => exact z
  | ok fl => cases fl <;> exact z
theorem gpe_callK0 {tk : TA} {kws : List Keyword} {g : List Value → List Value → List Value} {gV : List V → List V → List V} (F : GFn X.prog X.w X.K X.mg X.base Xc k f fd ps sp) (hr : Room k X.A) (hgd : X.A.guards = some []) (hg : Gl X x) (hm : X.mg x = some (.ref f))
    (hk : PySem.W.keepIn X.K (.ref f) = true) (hb : KBinds X.K fd ps ks g gV) (hx : Passes Xc X E) (hkw : PK X kws tk) (hall : (backToKw pos (keywordEach kws X.env)).all (·.1.isSome) = true := by rfl)
    (hks : (backToKw pos (keywordEach kws X.env)).filterMap (·.1) = ks := by rfl) (hdb : (x == ("__debug__" : Str)) = false := by decide)
    (hpl : ((backTo pos (starEach [] X.env)).any (·.1) || (backToKw pos (keywordEach kws X.env)).any (·.1.isNone)) = false := by rfl) :
    PE X (.Call (.Name x p) [] kws pos) (fun σ H Q => tk σ H fun zs H2 => sp (gV [] zs) H2 Q E) := by
  refine ⟨fun pins s σ H Q I h => ?_⟩
  refine wpAny_Call_Name_kw (ld_glob I hg hm (PySem.W.callWith_KW0 (h₀ := X.base) I.ok.mod.kin hk hall (thn (hkw.run pos pins s σ H _ I h) fun ws s2 ⟨zs, H2, I2, rz, q2⟩ => ⟨I2.kIn, ?_⟩) hpl) hdb)
  rw [hks]
  refine wpAny_call (codeAny_mono (g_run (args := ⟨[] ++ [], ks.zip ws⟩) F hr hgd (fun hl => hb.to s2 [] ws I2.kIn hl) hx I2 (hb.rel .nil rz) q2) fun rr s' z => ?_)
  cases rr with
  | error e => exact z
  | ok fl => cases fl <;> exact z

/-! ### the data's side of a call -/
/-- what a def without changes computes -/
abbrev PF := List D → Re D
def unbo : Sl → Option D
  | .bo d => some d
  | _ => none
def ofP (m : PF) : Slots → Re (D × Slots) := fun as => match as.mapM unbo with
  | some ds => (m ds).bind fun d => .ok (d, as.map fun _ => Sl.no)
  | none => .bad
def clE (k : Lv) (n : Nat) (m : PF) (fs : AS) : ES := fun L ρ => if k.pure || !L.pure then (fs k ρ).bind fun p => if p.1.length = n then (m p.1).bind fun d => .ok (d, p.2) else .bad else .bad
/-- the callee's colours: all that stands is the caller's -/
def colIn (H : Hp) : Col := fun b => match H b with | none => 0 | some _ => 1
theorem colIn_none {H : Hp} {b : Addr} (h : H b = none) : colIn H b = 0 := by unfold colIn; rw [h]
theorem colIn_some {H : Hp} {b : Addr} {o : HO} (h : H b = some o) : colIn H b = 1 := by unfold colIn; rw [h]
theorem ne_some {α : Type} {o : Option α} (h : o ≠ none) : ∃ a, o = some a := by cases o with
  | none => exact absurd rfl h
  | some a => exact ⟨a, rfl⟩
theorem rel_bo {K : PySem.W.Frag} {H : Hp} {P : Addr → Prop} {n : Nat} {pa : Nat → Addr} : ∀ {vs : List V} {ds : List D}, RpA K H P vs ds → Rel K ⟨n, pa⟩ H (colIn H) (vs.map some) (ds.map Sl.bo) := by
  intro vs ds r
  refine ⟨by rw [List.length_map, List.length_map, r.len], fun i s e => ?_⟩
  rw [List.getElem?_map] at e
  cases e2 : ds[i]? with
  | none => rw [e2] at e; cases e
  | some d =>
    rw [e2] at e; cases e
    obtain ⟨v, hv, rv⟩ := r.get e2
    rw [List.getElem?_map, hv]
    exact .bo (rv.move (fun b xs _ h => ⟨h, by rw [colIn_some h]; exact Nat.le_refl _⟩) fun _ _ h _ => h)
theorem mapM_bo (ds : List D) : (ds.map Sl.bo).mapM unbo = some ds := by
  induction ds with
  | nil => rfl
  | cons d r ih => simp [ih, unbo]
/-- a pure callee's promise from the data at hand -/
theorem spG_pure {K : PySem.W.Frag} {xo : XO} {n : Nat} {m : PF} {P : Addr → Prop} {vs : List V} {ds : List D} {H : Hp} {Q : VK} {E : XK} (r : RpA K H P vs ds) (hl : ds.length = n)
    (h : wp (m ds) (fun d => ∀ (v : V) (H' : Hp) (C' : Col), Same H H' → (∀ b, C' b = 0 → H b = none) → Rp K H' (fun b => C' b = 0) v d → Q v H') (fun c => ∀ (H' : Hp), Same H H' → xo E c H')) : spG K xo n (ofP m) vs H Q E := by
  refine ⟨by rw [r.len]; exact hl, colIn H, ⟨n, fun _ => 0⟩, ds.map Sl.bo, rfl, rel_bo r, fun b hb => ?_, ?_⟩
  · obtain ⟨o, ho⟩ := ne_some hb
    rw [colIn_some ho]; omega
  · have same : ∀ {H' : Hp} {C' : Col}, Stp ⟨n, fun _ => 0⟩ H (colIn H) H' C' → Same H H' := fun S b o e => S.keep b o e (.inl (by rw [colIn_some e]; omega))
    unfold ofP
    rw [mapM_bo]
    refine wp_bind.mpr (wp_mono h (fun d _ hd => fun v H' C' S _ rv => hd v H' C' (same S) (fun b hb => ?_) rv) fun c hc H' C' S => hc H' (same S))
    cases q : H b with
    | none => rfl
    | some o =>
      have := S.colo b (by rw [q]; simp) (by rw [colIn_some q]; show 1 ≤ n + 2; omega)
      rw [colIn_some q, hb] at this; cases this
theorem cl_fin {K : PySem.W.Frag} {xo : XO} {n : Nat} {m : PF} {σ : L2.St} {H : Hp} {Q : VK} {L : Lv} {C : Col} {ρ : Slots} {vs : List V} {ds : List D} (hE : ∀ c H', EW c H' → xo E c H') (hl : ds.length = n) {P : Addr → Prop} (R : Rel K np H C σ ρ) (r : RpA K H P vs ds)
    (h : wp ((m ds).bind fun d => .ok (d, ρ)) (fun p => ∀ v H' C', Aft np L ρ H C p.2 H' C' → Rel K np H' C' σ p.2 → Rp K H' (Cof C' L) v p.1 → Q v H') (fun c => ∀ H' C', Stp np H C H' C' → EW c H')) : spG K xo n (ofP m) vs H Q E := by
  refine spG_pure r hl (wp_mono (wp_bind.mp h) (fun d _ hd v H' C' S fr rv => ?_) fun c hc H' S => hE c H' (hc H' C (PStp.stp ⟨S, fun _ _ => rfl⟩)))
  have T : PStp H C H' (fun b => match H b with | none => 0 | some _ => C b) := ⟨S, fun b hb => by
    obtain ⟨o, ho⟩ := ne_some hb
    simp only [ho]⟩
  refine hd v H' _ (.of T) (R.pstp T) (rv.imp fun b hb => ?_)
  unfold Cof
  simp only [fr b hb]
  exact L.ok0
/-- f(e, ..) of a pure def -/
theorem de_call (kl : Lv) {xo : XO} {m : PF} {n : Nat} {fs : AS} (F : GFn X.prog X.w X.K X.mg X.base Xc k f fd ps (spG X.K xo n (ofP m))) (hr : Room k X.A) (hgd : X.A.guards = some []) (hg : Gl X x) (hm : X.mg x = some (.ref f))
    (hk : PySem.W.keepIn X.K (.ref f) = true) (hb : Binds X.K fd ps []) (hx : Passes Xc X E) (hE : ∀ c H', EW c H' → xo E c H') (ha : DA X np EW (e :: es) fs) (hdb : (x == ("__debug__" : Str)) = false := by decide)
    (he : starEach (e :: es) X.env = (false, eval e X.env) :: starEach es X.env := by rfl) (hpl : (backTo pos (starEach es X.env)).any (·.1) = false := by rfl) : DE X np EW (.Call (.Name x p) (e :: es) [] pos) (clE kl n m fs) :=
  PE.weak (gpe_call F hr hgd hg hm hk hb hx ha hdb he hpl) fun σ H Q ⟨L, C, ρ, R, h⟩ => by
    unfold clE at h
    by_cases hk : (kl.pure || !L.pure) = true
    · rw [if_pos hk] at h
      refine tA_of R (L := kl) h fun q vs H1 C1 A1 R1 r1 h1 => ?_
      by_cases hl : q.1.length = n
      · rw [if_pos hl] at h1
        exact cl_fin (L := L) hE hl R1 r1 (wp_mono h1 (fun p _ hp v H' C' A R' r => hp v H' C' ((A1.lev (K := X.K) hk).trans A) R' r) fun _ z => z)
      · rw [if_neg hl] at h1; exact h1.elim
    · rw [if_neg hk] at h; exact h.elim

/-- g() of a pure def -/
theorem de_call0 {xo : XO} {m : PF} (F : GFn X.prog X.w X.K X.mg X.base Xc k f fd ps (spG X.K xo 0 (ofP m))) (hr : Room k X.A) (hgd : X.A.guards = some []) (hg : Gl X x) (hm : X.mg x = some (.ref f))
    (hk : PySem.W.keepIn X.K (.ref f) = true) (hb : Binds X.K fd ps []) (hx : Passes Xc X E) (hE : ∀ c H', EW c H' → xo E c H') (hdb : (x == ("__debug__" : Str)) = false := by decide) : DE X np EW (.Call (.Name x p) [] [] pos) (clE .an 0 m nilA) :=
  PE.weak (gpe_call0 F hr hgd hg hm hk hb hx hdb) fun σ H Q ⟨L, C, ρ, R, h⟩ =>
    cl_fin (K := X.K) (L := L) (P := fun _ => True) hE rfl R .nil h
/-! ### keywords -/
def permG {α : Type} (a b : Nat) (d : α) (is : List Nat) (us ws : List α) : List α := if us.length = a ∧ ws.length = b then is.map fun i => (us ++ ws).getD i d else []
theorem kb_of {K : PySem.W.Frag} {a b : Nat} {is : List Nat} (h0 : ps ≠ []) (h : ∀ us ws : List Value, us.length = a → ws.length = b → bindArgs fd ⟨us, ks.zip ws⟩ = pure (ps.zip (is.map fun i => (us ++ ws).getD i Value.none))) :
    KBinds K fd ps ks (permG a b Value.none is) (permG a b V.non is) where
  to := fun s us ws _ hl => by
    unfold permG at hl ⊢
    by_cases q : us.length = a ∧ ws.length = b
    · rw [if_pos q]; exact .of_eq (h us ws q.1 q.2)
    · rw [if_neg q] at hl
      exact absurd (List.length_eq_zero_iff.mp hl.symm) h0
  rel := fun {vs us zs ws} r r2 => by
    unfold permG
    rw [r.length, r2.length]
    by_cases q : us.length = a ∧ ws.length = b
    · rw [if_pos q, if_pos q]
      have r3 := r.append r2
      clear q h
      induction is with
      | nil => exact .nil
      | cons i t ih =>
        rw [List.map_cons, List.map_cons]
        refine .cons ?_ ih
        rw [List.getD_eq_getElem?_getD, List.getD_eq_getElem?_getD]
        cases e : (vs ++ zs)[i]? with
        | none => rw [r3.none_of e]; exact rfl
        | some v =>
          obtain ⟨u, hu, ru⟩ := r3.get e
          rw [hu]; exact ru
    · rw [if_neg q, if_neg q]; exact .nil
abbrev DK (X : Cx) (np : Fp) (EW : XW) (kws : List Keyword) (f : AS) : Prop := PK X kws (tA X.K np EW f)
theorem PK.weak {kws : List Keyword} {t t' : TA} (h : PK X kws t) (w : ∀ σ H Q, t' σ H Q → t σ H Q) : PK X kws t' := ⟨fun pos pins s σ H Q I q => h.run pos pins s σ H Q I (w σ H Q q)⟩
theorem dk_nil : DK X np EW [] nilA := PK.weak pk_nil fun σ H Q ⟨L, C, ρ, R, h⟩ => h [] H C .refl R .nil
theorem dk_cons {nm : Option Str} {kws : List Keyword} {fa : ES} {fs : AS} (ha : DE X np EW e fa) (hr : DK X np EW kws fs) : DK X np EW (⟨nm, e, kpos⟩ :: kws) (consA fa fs) :=
  PK.weak (pk_cons ha hr) fun σ H Q ⟨L, C, ρ, R, h⟩ => tE_of R h fun p v H1 C1 A1 R1 r1 h1 =>
    tA_of R1 h1 fun q vs H2 C2 A2 R2 r2 h2 => h2 (v :: vs) H2 C2 (A1.trans A2) R2 (.cons (A2.rp r1) r2)
theorem perm_rp {K : PySem.W.Frag} {H : Hp} {P : Addr → Prop} {vs : List V} {ds : List D} (r : RpA K H P vs ds) : ∀ is : List Nat, RpA K H P (is.map fun i => vs.getD i V.non) (is.map fun i => ds.getD i PyData.none)
  | [] => .nil
  | i :: t => by
    rw [List.map_cons, List.map_cons]
    refine .cons ?_ (perm_rp r t)
    rw [List.getD_eq_getElem?_getD, List.getD_eq_getElem?_getD]
    cases e : ds[i]? with
    | none =>
      have : vs[i]? = none := List.getElem?_eq_none_iff.mpr (by rw [r.len]; exact List.getElem?_eq_none_iff.mp e)
      rw [this]; exact .non
    | some d =>
      obtain ⟨v, hv, rv⟩ := r.get e
      rw [hv]; exact rv
/-- the arguments by names: a of them by place, b by name, is: the parameters' order -/
def clK (a b : Nat) (is : List Nat) (m : PF) (fs ks : AS) : ES := fun L ρ => (fs .an ρ).bind fun p => (ks .an p.2).bind fun q => if p.1.length = a ∧ q.1.length = b then (m (is.map fun i => (p.1 ++ q.1).getD i PyData.none)).bind fun d => .ok (d, q.2) else .bad
theorem de_callK {xo : XO} {m : PF} {n a b : Nat} {is : List Nat} {fs gs : AS} {kws : List Keyword} (F : GFn X.prog X.w X.K X.mg X.base Xc k f fd ps (spG X.K xo n (ofP m))) (hn : is.length = n) (hr : Room k X.A) (hgd : X.A.guards = some []) (hg : Gl X x) (hm : X.mg x = some (.ref f))
    (hk : PySem.W.keepIn X.K (.ref f) = true) (hb : KBinds X.K fd ps ks (permG a b Value.none is) (permG a b V.non is)) (hx : Passes Xc X E) (hE : ∀ c H', EW c H' → xo E c H') (ha : DA X np EW (e :: es) fs) (hkw : DK X np EW kws gs)
    (hall : (backToKw pos (keywordEach kws X.env)).all (·.1.isSome) = true := by rfl)
    (hks : (backToKw pos (keywordEach kws X.env)).filterMap (·.1) = ks := by rfl) (hdb : (x == ("__debug__" : Str)) = false := by decide) (he : starEach (e :: es) X.env = (false, eval e X.env) :: starEach es X.env := by rfl)
    (hpl : ((backTo pos (starEach (e :: es) X.env)).any (·.1) || (backToKw pos (keywordEach kws X.env)).any (·.1.isNone)) = false := by rfl) : DE X np EW (.Call (.Name x p) (e :: es) kws pos) (clK a b is m fs gs) :=
  PE.weak (gpe_callK F hr hgd hg hm hk hb hx ha hkw hall hks hdb he hpl) fun σ H Q ⟨L, C, ρ, R, h⟩ => by
    refine tA_of R (L := .an) h fun q vs H1 C1 A1 R1 r1 h1 => ?_
    refine tA_of R1 (L := .an) h1 fun q2 zs H2 C2 A2 R2 r2 h2 => ?_
    by_cases hl : q.1.length = a ∧ q2.1.length = b
    · rw [if_pos hl] at h2
      have r3 := (A2.rpA r1).app r2
      have e1 : permG a b V.non is vs zs = is.map fun i => (vs ++ zs).getD i V.non := by unfold permG; rw [(A2.rpA r1).len, r2.len, if_pos hl]
      show spG _ _ _ _ (permG a b V.non is vs zs) _ _ _
      rw [e1]
      exact cl_fin (L := L) hE (by rw [List.length_map]; exact hn) R2 (perm_rp r3 is) (wp_mono h2 (fun p _ hp v H' C' A R' r => hp v H' C' (((A1.trans A2).lev (K := X.K) rfl).trans A) R' r) fun _ z => z)
    · rw [if_neg hl] at h2; exact h2.elim
theorem de_callK0 {xo : XO} {m : PF} {n b : Nat} {is : List Nat} {gs : AS} {kws : List Keyword} (F : GFn X.prog X.w X.K X.mg X.base Xc k f fd ps (spG X.K xo n (ofP m))) (hn : is.length = n) (hr : Room k X.A) (hgd : X.A.guards = some []) (hg : Gl X x) (hm : X.mg x = some (.ref f))
    (hk : PySem.W.keepIn X.K (.ref f) = true) (hb : KBinds X.K fd ps ks (permG 0 b Value.none is) (permG 0 b V.non is)) (hx : Passes Xc X E) (hE : ∀ c H', EW c H' → xo E c H') (hkw : DK X np EW kws gs)
    (hall : (backToKw pos (keywordEach kws X.env)).all (·.1.isSome) = true := by rfl)
    (hks : (backToKw pos (keywordEach kws X.env)).filterMap (·.1) = ks := by rfl) (hdb : (x == ("__debug__" : Str)) = false := by decide)
    (hpl : ((backTo pos (starEach [] X.env)).any (·.1) || (backToKw pos (keywordEach kws X.env)).any (·.1.isNone)) = false := by rfl) : DE X np EW (.Call (.Name x p) [] kws pos) (clK 0 b is m nilA gs) :=
  PE.weak (gpe_callK0 F hr hgd hg hm hk hb hx hkw hall hks hdb hpl) fun σ H Q ⟨L, C, ρ, R, h⟩ => by
    refine tA_of R (L := .an) h fun q2 zs H2 C2 A2 R2 r2 h2 => ?_
    by_cases hl : (0 = 0) ∧ q2.1.length = b
    · have hl' : ([] : List D).length = 0 ∧ q2.1.length = b := ⟨rfl, hl.2⟩
      rw [if_pos hl'] at h2
      have e1 : permG 0 b V.non is [] zs = is.map fun i => ([] ++ zs).getD i V.non := by unfold permG; rw [r2.len, if_pos ⟨rfl, hl.2⟩]
      show spG _ _ _ _ (permG 0 b V.non is [] zs) _ _ _
      rw [e1]
      exact cl_fin (L := L) hE (by rw [List.length_map]; exact hn) R2 (perm_rp (vs := [] ++ zs) (ds := [] ++ q2.1) r2 is) (wp_mono h2 (fun p _ hp v H' C' A R' r => hp v H' C' ((A2.lev (K := X.K) rfl).trans A) R' r) fun _ z => z)
    · have hl' : ¬ (([] : List D).length = 0 ∧ q2.1.length = b) := fun z => hl ⟨rfl, z.2⟩
      rw [if_neg hl'] at h2; exact h2.elim

/-! ### a def that changes its first argument, a list of plain things -/
abbrev OF := List D → List D → Re (D × List D)
def ofO1 (m : OF) : Slots → Re (D × Slots)
  | .ow cs :: as => match as.mapM unbo with
    | some ds => (m cs ds).bind fun p => .ok (p.1, .ow p.2 :: as.map fun _ => Sl.no)
    | none => .bad
  | _ => .bad
/-- the slots but j stand where lists of other colours stand -/
theorem SlotR.off {K : PySem.W.Frag} {H H' : Hp} {C C' : Col} {i j : Nat} {o : Option (Option V)} {s : Sl} (hij : i ≠ j) (hl : ∀ b xs, C b ≠ j + 3 → H b = some xs → H' b = some xs ∧ C' b = C b)
    (hi : ∀ b o, H b = some o → Imm o → H' b = some o) (r : SlotR K np H C i o s) : SlotR K np H' C' i o s := by
  have mv : ∀ {Pc : Nat → Prop} {v : V} {d : D}, (∀ c, Pc c → c ≠ j + 3) → Rp K H (fun b => Pc (C b)) v d → Rp K H' (fun b => Pc (C' b)) v d := fun {Pc v d} hp r =>
    r.move (fun b xs p h => ⟨(hl b _ (hp _ p) h).1, by rw [(hl b _ (hp _ p) h).2]; exact p⟩) hi
  have mvA : ∀ {Pc : Nat → Prop} {v : List V} {d : List D}, (∀ c, Pc c → c ≠ j + 3) → RpA K H (fun b => Pc (C b)) v d → RpA K H' (fun b => Pc (C' b)) v d := fun {Pc v d} hp r =>
    r.move (fun b xs p h => ⟨(hl b _ (hp _ p) h).1, by rw [(hl b _ (hp _ p) h).2]; exact p⟩) hi
  cases r with
  | no => exact .no
  | va r => exact .va (mv (Pc := fun c => c = 0) (fun c h => by omega) r)
  | bo r => exact .bo (mv (Pc := fun c => c ≤ 1) (fun c h => by omega) r)
  | @ow a _ _ h c r pn =>
    have hc : C a ≠ j + 3 := by rw [c]; omega
    exact .ow (hl _ _ hc h).1 (by rw [(hl _ _ hc h).2]; exact c) (mvA (Pc := fun c => c = 0) (fun c h => by omega) r) pn
  | un r => exact .un (mv (Pc := fun c => c = i + 3) (fun c h => by omega) r)
  | sc h => exact .sc (h.elim (fun ⟨o, h⟩ => .inl ⟨o, hi _ _ h trivial⟩) .inr)
  | @ob a _ _ _ _ _ h c n r pn =>
    have hc : C a ≠ j + 3 := by rw [c]; omega
    exact .ob (hl _ _ hc h).1 (by rw [(hl _ _ hc h).2]; exact c) n (r.move (fun b xs e h => by
      have := hl b _ (by omega) h
      exact ⟨this.1, by rw [this.2]; exact e⟩) hi) pn
  | @dc a _ _ h c r pn =>
    have hc : C a ≠ j + 3 := by rw [c]; omega
    exact .dc (hl _ _ hc h).1 (by rw [(hl _ _ hc h).2]; exact c) (r.move hi) pn
  | ex h n r => exact .ex (hi _ _ h trivial) n (r.move hi)
  | @tw t a b _ _ _ _ ht ha hb n ca cb x y r q =>
    have hca : C a ≠ j + 3 := by rw [ca]; omega
    have hcb : C b ≠ j + 3 := by rw [cb]; omega
    exact .tw (ht.keep hi) (hl _ _ hca ha).1 (hl _ _ hcb hb).1 n (by rw [(hl _ _ hca ha).2]; exact ca) (by rw [(hl _ _ hcb hb).2]; exact cb) x y (r.move (fun _ _ p => p.elim) hi) (q.move (fun _ _ p => p.elim) hi)
def isOw : Option Sl → Bool
  | some (.ow _) => true
  | _ => false
def clO (j n : Nat) (m : OF) (fs : AS) : ES := fun L ρ => if !L.pure && isOw ρ[j]? then (fs .bo ρ).bind fun p => match p.2[j]? with
  | some (.ow cs) => if noLs cs && decide (p.1.length = n) then (m cs p.1).bind fun q => if noLs q.2 then .ok (q.1, p.2.set j (.ow q.2)) else .bad else .bad
  | _ => .bad
  else .bad
theorem spG_own {K : PySem.W.Frag} {xo : XO} {n : Nat} {m : OF} {vs us : List V} {cs ds : List D} {H : Hp} {a : Addr} {Q : VK} {E : XK} (ha : H a = some (.lst us)) (rc : RpA K H (fun _ => False) us cs) (r : RpA K H (fun b => b ≠ a) vs ds) (hl : ds.length = n)
    (h : wp (m cs ds) (fun p => noLs p.2 = true ∧ ∀ (v : V) (H' : Hp) (C' : Col) (us' : List V), (∀ b o, b ≠ a → H b = some o → H' b = some o) → H' a = some (.lst us') → RpA K H' (fun _ => False) us' p.2 → (∀ b, C' b = 0 → H b = none) → Rp K H' (fun b => C' b = 0) v p.1 → Q v H')
      (fun c => ∀ (H' : Hp), (∀ b o, b ≠ a → H b = some o → H' b = some o) → (∀ b, H b ≠ none → H' b ≠ none) → xo E c H')) : spG K xo (n + 1) (ofO1 m) (.ref a :: vs) H Q E := by
  have hca : setC (colIn H) a 3 a = 3 := setC_same
  have hcn : ∀ b o, b ≠ a → H b = some o → setC (colIn H) a 3 b = 1 := fun b o e h => by rw [setC_ne e, colIn_some h]
  refine ⟨by rw [List.length_cons, r.len, hl], setC (colIn H) a 3, ⟨n + 1, fun _ => a⟩, .ow cs :: ds.map Sl.bo, rfl, ⟨?_, fun i s e => ?_⟩, fun b hb => ?_, ?_⟩
  · simp [r.len]
  · cases i with
    | zero =>
      cases e
      exact .ow ha hca (rc.imp fun _ h => h.elim) fun _ => rfl
    | succ i =>
      rw [List.getElem?_cons_succ, List.getElem?_map] at e
      cases e2 : ds[i]? with
      | none => rw [e2] at e; cases e
      | some d =>
        rw [e2] at e; cases e
        obtain ⟨v, hv, rv⟩ := r.get e2
        rw [List.map_cons, List.getElem?_cons_succ, List.getElem?_map, hv]
        exact .bo (rv.move (fun b xs hb h => ⟨h, by rw [hcn b _ hb h]; exact Nat.le_refl _⟩) fun _ _ h _ => h)
  · obtain ⟨o, ho⟩ := ne_some hb
    by_cases e : b = a
    · subst e; rw [hca]; omega
    · rw [hcn b o e ho]; omega
  · have same : ∀ {H' : Hp} {C' : Col}, Stp ⟨n + 1, fun _ => a⟩ H (setC (colIn H) a 3) H' C' → ∀ b o, b ≠ a → H b = some o → H' b = some o := fun S b o e h => S.keep b o h (.inl (by rw [hcn b o e h]; omega))
    have e1 : ofO1 m (.ow cs :: ds.map Sl.bo) = (m cs ds).bind fun p => .ok (p.1, .ow p.2 :: (ds.map Sl.bo).map fun _ => Sl.no) := by
      show (match (ds.map Sl.bo).mapM unbo with | some ds' => (m cs ds').bind fun p => Re.ok (p.1, Sl.ow p.2 :: (ds.map Sl.bo).map fun _ => Sl.no) | none => .bad) = _
      rw [mapM_bo]
    rw [e1]
    refine wp_bind.mpr (wp_mono h (fun p _ ⟨hn, hp⟩ => fun v H' C' S R' rv => ?_) fun c hc H' C' S => hc H' (same S) S.there)
    have r0 := R'.get 0 (.ow p.2) rfl
    have e0 : (List.map some (V.ref a :: vs))[0]? = some (some (V.ref a)) := rfl
    rw [e0] at r0
    cases r0 with
    | ow h0 _ rr _ =>
      refine hp v H' C' _ (same S) h0 (rr.free hn) (fun b hb => ?_) rv
      cases q : H b with
      | none => rfl
      | some o =>
        have hne : H b ≠ none := by rw [q]; simp
        have c1 : setC (colIn H) a 3 b = 1 ∨ setC (colIn H) a 3 b = 3 := by
          by_cases e : b = a
          · subst e; exact .inr hca
          · exact .inl (hcn b o e q)
        have := S.colo b hne (by show _ ≤ n + 1 + 2; omega)
        rw [hb] at this
        omega
/-- f(cart, ..): cart is the list at slot j -/
theorem de_callO {xo : XO} {m : OF} {n j : Nat} {fs : AS} {y : Str} {py : Pos} (F : GFn X.prog X.w X.K X.mg X.base Xc k f fd ps (spG X.K xo (n + 1) (ofO1 m))) (hr : Room k X.A) (hgd : X.A.guards = some []) (hg : Gl X x) (hm : X.mg x = some (.ref f))
    (hk : PySem.W.keepIn X.K (.ref f) = true) (hb : Binds X.K fd ps []) (hx : Passes Xc X E) (hE : ∀ c H', EW c H' → xo E c H') (hj : PE X (.Name y py) (tVar j)) (ha : DA X np EW es fs) (hdb : (x == ("__debug__" : Str)) = false := by decide)
    (he : starEach (.Name y py :: es) X.env = (false, eval (.Name y py) X.env) :: starEach es X.env := by rfl) (hpl : (backTo pos (starEach es X.env)).any (·.1) = false := by rfl) : DE X np EW (.Call (.Name x p) (.Name y py :: es) [] pos) (clO j n m fs) :=
  PE.weak (gpe_call F hr hgd hg hm hk hb hx (pa_cons hj ha he) hdb he hpl) fun σ H Q ⟨L, C, ρ, R, h⟩ => by
    unfold clO at h
    by_cases hL : (!L.pure && isOw ρ[j]?) = true
    · rw [if_pos hL] at h
      rw [Bool.and_eq_true] at hL
      have hLp : L.pure = false := by simpa using hL.1
      obtain ⟨a, hvj⟩ : ∃ a, σ[j]? = some (some (V.ref a)) := by
        have h2 := hL.2
        cases e : ρ[j]? with
        | none => rw [e] at h2; cases h2
        | some s =>
          rw [e] at h2
          have r := R.get j s e
          cases s with
          | ow ds =>
            generalize σ[j]? = o at r
            cases r with
            | ow _ _ _ _ => exact ⟨_, rfl⟩
          | _ => cases h2
      refine ⟨.ref a, hvj, tA_of R (L := .bo) h fun q vs H1 C1 A1 R1 r1 h1 => ?_⟩
      cases e : q.2[j]? with
      | none => rw [e] at h1; exact h1.elim
      | some s =>
        rw [e] at h1
        have sr := R1.get j s e
        rw [hvj] at sr
        cases s with
        | ow cs =>
          cases sr with
          | @ow _ us _ ha hc rc pn =>
            by_cases hq : (noLs cs && decide (q.1.length = n)) = true
            · simp only [hq, if_true] at h1
              simp only [Bool.and_eq_true, decide_eq_true_eq] at hq
              have tup_ne : ∀ {b : Addr} {o : HO}, H1 b = some o → Imm o → b ≠ a := fun {b o} h i z => by
                subst z; rw [ha] at h; cases h; exact i
              refine spG_own ha (rc.free hq.1) (r1.imp fun b hb z => ?_) hq.2 (wp_mono (wp_bind.mp h1) (fun p _ hp => ?_) fun c hc H' S T => hE c H' (hc H' C1 ⟨fun b x h k => S b x ?_ h, T, fun _ _ _ => rfl, fun _ _ h => .inr h⟩))
              · subst z
                have hb' : Lv.bo.okb (C1 b) = true := hb
                rw [hc] at hb'
                simp [Lv.okb] at hb'
              · by_cases hn : noLs p.2 = true
                · rw [if_pos hn] at hp
                  refine ⟨hn, fun v H' C' us' S h0 rr fr rv => ?_⟩
                  have tra : ∀ b, H1 b ≠ none → H' b ≠ none := fun b hb => by
                    obtain ⟨o, ho⟩ := ne_some hb
                    by_cases z : b = a
                    · subst z; rw [h0]; simp
                    · rw [S b o z ho]; simp
                  let C2 : Col := fun b => match H1 b with | none => 0 | some _ => C1 b
                  have hC2 : ∀ b, H1 b ≠ none → C2 b = C1 b := fun b hb => by
                    obtain ⟨o, ho⟩ := ne_some hb
                    show (match H1 b with | none => 0 | some _ => C1 b) = _
                    rw [ho]
                  have St : Stp np H1 C1 H' C2 := ⟨fun b x h k => S b x (fun z => by
                    rcases k with k | k
                    · subst z; omega
                    · exact tup_ne h k z) h, tra, fun b hb _ => hC2 b hb, fun b hb k => by rw [hC2 b hb]; exact .inr k⟩
                  refine hp v H' C2 ⟨A1.stp.trans St, fun z => by rw [hLp] at z; cases z⟩ ⟨by rw [List.length_set]; exact R1.len, fun i s es => ?_⟩ (rv.imp fun b hb => ?_)
                  · by_cases hij : i = j
                    · subst hij
                      rw [hvj]
                      have hlt : i < q.2.length := (List.getElem?_eq_some_iff.mp e).1
                      rw [List.getElem?_set_self hlt] at es
                      cases es
                      exact .ow h0 (by rw [hC2 a (by rw [ha]; simp)]; exact hc) (rr.imp fun _ z => z.elim) pn
                    · rw [List.getElem?_set_ne (Ne.symm hij)] at es
                      refine (R1.get i s es).off hij (fun b xs hb h => ?_) fun b o h im => S b o (tup_ne h im) h
                      have hba : b ≠ a := fun z => by subst z; exact hb hc
                      exact ⟨S b _ hba h, hC2 b (by rw [h]; simp)⟩
                  · unfold Cof
                    have : C2 b = 0 := by show (match H1 b with | none => 0 | some _ => C1 b) = _; rw [fr b hb]
                    rw [this]; exact L.ok0
                · rw [if_neg hn] at hp; exact hp.elim
              · intro z
                rcases k with k | k
                · subst z; omega
                · exact tup_ne h k z
            · simp only [hq] at h1; exact h1.elim
        | _ => exact h1.elim
    · rw [if_neg hL] at h; exact h.elim
end
end
end Dm

namespace Dm
noncomputable section
open PySem PySem.Spec PyProof.Rows L2

/-- how a statement ends -/
inductive Fl where
  | bad
  | nx (ρ : Slots)
  | rt (d : D) (ρ : Slots)
  | bk (ρ : Slots)
  | ct (ρ : Slots)
  | ex (c : Exn)
abbrev SS := Slots → Fl
/-- what a def's own lists may be handed out at a return -/
def RtC (np : Fp) (C : Col) : Addr → Prop := fun a => (Lv.rt np.n).okb (C a) = true
def pst (K : PySem.W.Frag) (np : Fp) (EW : XW) (Dn : Ends) (H : Hp) (C : Col) : Fl → Prop
  | .bad => False
  | .nx ρ' => ∀ σ' H' C', Stp np H C H' C' → Rel K np H' C' σ' ρ' → Dn.nx σ' H'
  | .bk ρ' => ∀ σ' H' C', Stp np H C H' C' → Rel K np H' C' σ' ρ' → Dn.bk σ' H'
  | .ct ρ' => ∀ σ' H' C', Stp np H C H' C' → Rel K np H' C' σ' ρ' → Dn.ct σ' H'
  | .rt d ρ' => ∀ v σ' H' C', Stp np H C H' C' → Rel K np H' C' σ' ρ' → Rp K H' (RtC np C') v d → Dn.rt v H'
  | .ex c => ∀ H' C', Stp np H C H' C' → EW c H'
def tS (K : PySem.W.Frag) (np : Fp) (EW : XW) (f : SS) : TS := fun Dn σ H => ∃ C ρ, Rel K np H C σ ρ ∧ pst K np EW Dn H C (f ρ)
abbrev DS (X : Cx) (np : Fp) (EW : XW) (st : Stmt) (f : SS) : Prop := PS X st (tS X.K np EW f)
abbrev DSs (X : Cx) (np : Fp) (EW : XW) (st : List Stmt) (f : SS) : Prop := PSs X st (tS X.K np EW f)
theorem PS.weak {X : Cx} {e : Stmt} {t t' : TS} (h : PS X e t) (w : ∀ Dn σ H, t' Dn σ H → t Dn σ H) : PS X e t' := ⟨fun pins s σ H Dn I q => h.run pins s σ H Dn I (w Dn σ H q)⟩
theorem PSs.weak {X : Cx} {e : List Stmt} {t t' : TS} (h : PSs X e t) (w : ∀ Dn σ H, t' Dn σ H → t Dn σ H) : PSs X e t' := ⟨fun pins s σ H Dn I q => h.run pins s σ H Dn I (w Dn σ H q)⟩
section
variable {K : PySem.W.Frag} {np : Fp} {EW : XW} {Dn : Ends} {H H1 : Hp} {C C1 : Col}
theorem pst_stp {r : Fl} (h : pst K np EW Dn H C r) (S : Stp np H C H1 C1) : pst K np EW Dn H1 C1 r := by
  cases r with
  | bad => exact h
  | nx ρ => exact fun σ' H' C' T => h σ' H' C' (S.trans T)
  | bk ρ => exact fun σ' H' C' T => h σ' H' C' (S.trans T)
  | ct ρ => exact fun σ' H' C' T => h σ' H' C' (S.trans T)
  | rt d ρ => exact fun v σ' H' C' T => h v σ' H' C' (S.trans T)
  | ex c => exact fun H' C' T => h H' C' (S.trans T)
end
/-- an expression ahead of a statement's end -/
def Re.to {α : Type} (r : Re α) (k : α → Fl) : Fl := match r with
  | .bad => .bad
  | .ok a => k a
  | .ex c => .ex c
@[simp] theorem to_ok {α : Type} (a : α) (k : α → Fl) : (Re.ok a).to k = k a := Eq.trans rfl rfl
@[simp] theorem to_ex {α : Type} (c : Exn) (k : α → Fl) : (Re.ex c : Re α).to k = .ex c := Eq.trans rfl rfl
@[simp] theorem to_bad {α : Type} (k : α → Fl) : (Re.bad : Re α).to k = .bad := Eq.trans rfl rfl
def Fl.seq (r : Fl) (k : Slots → Fl) : Fl := match r with
  | .nx ρ => k ρ
  | r => r
@[simp] theorem seq_nx (ρ : Slots) (k : Slots → Fl) : (Fl.nx ρ).seq k = k ρ := Eq.trans rfl rfl
@[simp] theorem seq_rt (d : D) (ρ : Slots) (k : Slots → Fl) : (Fl.rt d ρ).seq k = .rt d ρ := Eq.trans rfl rfl
@[simp] theorem seq_bad (k : Slots → Fl) : Fl.bad.seq k = .bad := Eq.trans rfl rfl
@[simp] theorem seq_ex (c : Exn) (k : Slots → Fl) : (Fl.ex c).seq k = .ex c := Eq.trans rfl rfl
@[simp] theorem seq_bk (ρ : Slots) (k : Slots → Fl) : (Fl.bk ρ).seq k = .bk ρ := Eq.trans rfl rfl
@[simp] theorem seq_ct (ρ : Slots) (k : Slots → Fl) : (Fl.ct ρ).seq k = .ct ρ := Eq.trans rfl rfl
section
variable {X : Cx} {np : Fp} {EW : XW} {e : Expr} {fe : ES} {st : Stmt} {rest : List Stmt} {f g : SS} {pos : Pos}
section
variable {K : PySem.W.Frag} {Dn : Ends} {H : Hp} {C : Col} {ρ : Slots} {σ : L2.St} {L : Lv}
theorem toE_of {f : ES} {Q : V → Hp → Prop} {k : D × Slots → Fl} (R : Rel K np H C σ ρ) (h : pst K np EW Dn H C ((f L ρ).to k))
    (hq : ∀ p v H' C', Aft np L ρ H C p.2 H' C' → Rel K np H' C' σ p.2 → Rp K H' (Cof C' L) v p.1 → pst K np EW Dn H' C' (k p) → Q v H') : tE K np EW f σ H Q := by
  refine ⟨L, C, ρ, R, ?_⟩
  cases e : f L ρ with
  | bad => rw [e] at h; exact h.elim
  | ok p => rw [e] at h; exact fun v H' C' A R' r => hq p v H' C' A R' r (pst_stp h A.stp)
  | ex c => rw [e] at h; exact h
theorem toT_of {f : BS} {Q : Bool → Hp → Prop} {k : Bool × Slots → Fl} (R : Rel K np H C σ ρ) (h : pst K np EW Dn H C ((f L ρ).to k))
    (hq : ∀ p H' C', Aft np L ρ H C p.2 H' C' → Rel K np H' C' σ p.2 → pst K np EW Dn H' C' (k p) → Q p.1 H') : tT K np EW f σ H Q := by
  refine ⟨L, C, ρ, R, ?_⟩
  cases e : f L ρ with
  | bad => rw [e] at h; exact h.elim
  | ok p => rw [e] at h; exact fun H' C' A R' => hq p H' C' A R' (pst_stp h A.stp)
  | ex c => rw [e] at h; exact h
theorem toA_of {f : AS} {Q : List V → Hp → Prop} {k : List D × Slots → Fl} (R : Rel K np H C σ ρ) (h : pst K np EW Dn H C ((f L ρ).to k))
    (hq : ∀ p v H' C', Aft np L ρ H C p.2 H' C' → Rel K np H' C' σ p.2 → RpA K H' (Cof C' L) v p.1 → pst K np EW Dn H' C' (k p) → Q v H') : tA K np EW f σ H Q := by
  refine ⟨L, C, ρ, R, ?_⟩
  cases e : f L ρ with
  | bad => rw [e] at h; exact h.elim
  | ok p => rw [e] at h; exact fun v H' C' A R' r => hq p v H' C' A R' r (pst_stp h A.stp)
  | ex c => rw [e] at h; exact h
end
/-! ### blocks -/
def skS : SS := fun ρ => .nx ρ
def sqS (f g : SS) : SS := fun ρ => (f ρ).seq g
theorem dss_nil : DSs X np EW [] skS := PSs.weak pss_nil fun Dn σ H ⟨C, ρ, R, h⟩ => h σ H C .refl R
theorem dss_one (h : DS X np EW st f) : DSs X np EW [st] f := pss_one h
theorem dss_cons (h : DS X np EW st f) (hr : DSs X np EW rest g) : DSs X np EW (st :: rest) (sqS f g) :=
  PSs.weak (pss_cons h hr) fun Dn σ H ⟨C, ρ, R, h⟩ => by
    refine ⟨C, ρ, R, ?_⟩
    have h' : pst X.K np EW Dn H C ((f ρ).seq g) := h
    cases e : f ρ with
    | bad => rw [e] at h'; exact h'
    | nx ρ' =>
      rw [e] at h'
      exact fun σ' H' C' S R' => ⟨C', ρ', R', pst_stp h' S⟩
    | rt d ρ' => rw [e] at h'; exact h'
    | bk ρ' => rw [e] at h'; exact h'
    | ct ρ' => rw [e] at h'; exact h'
    | ex c => rw [e] at h'; exact h'
def bkS : SS := fun ρ => .bk ρ
def ctS : SS := fun ρ => .ct ρ
def badS : SS := fun _ => .bad
theorem ds_pass : DS X np EW (.Pass pos) skS := PS.weak ps_pass fun Dn σ H ⟨C, ρ, R, h⟩ => h σ H C .refl R
theorem ds_break : DS X np EW (.Break pos) bkS := PS.weak ps_break fun Dn σ H ⟨C, ρ, R, h⟩ => h σ H C .refl R
theorem ds_continue : DS X np EW (.Continue pos) ctS := PS.weak ps_continue fun Dn σ H ⟨C, ρ, R, h⟩ => h σ H C .refl R
/-- what is never come to -/
theorem ds_never : DS X np EW st badS := PS.weak ps_never fun Dn σ H ⟨C, ρ, R, h⟩ => h.elim
def rtS (np : Nat) (fe : ES) : SS := fun ρ => (fe (.rt np) ρ).to fun p => .rt p.1 p.2
def rteS (fe : ES) : SS := fun ρ => (fe .va ρ).to fun p => .rt p.1 p.2
theorem ds_ret (h : DE X np EW e fe) : DS X np EW (.Return (some e) pos) (rtS np.n fe) :=
  PS.weak (ps_ret h) fun Dn σ H ⟨C, ρ, R, h⟩ => toE_of R h fun p v H' C' A R' r q => q v σ H' C' .refl R' r
/-- .. with effects -/
theorem ds_rete (h : DE X np EW e fe) : DS X np EW (.Return (some e) pos) (rteS fe) :=
  PS.weak (ps_ret h) fun Dn σ H ⟨C, ρ, R, h⟩ => toE_of (L := .va) R h fun p v H' C' A R' r q => q v σ H' C' .refl R' (r.imp fun b hb => by
    have hb' : Lv.va.okb (C' b) = true := hb
    simp [Lv.okb] at hb'
    unfold RtC
    rw [hb']; exact Lv.ok0 _)
theorem ds_retN : DS X np EW (.Return none pos) (fun ρ => .rt .none ρ) := PS.weak ps_retN fun Dn σ H ⟨C, ρ, R, h⟩ => h .non σ H C .refl R .non
/-- an expression alone -/
def exS (L : Lv) (fe : ES) : SS := fun ρ => (fe L ρ).to fun p => .nx p.2
theorem ds_expr (L : Lv) (h : DE X np EW e fe) (hs : swapsWith e none pos.line X.env = pure false := by rfl) : DS X np EW (.Expr e pos) (exS L fe) :=
  PS.weak (ps_expr h hs) fun Dn σ H ⟨C, ρ, R, h⟩ => toE_of R h fun p v H' C' A R' r q => q σ H' C' .refl R'
def ifS (L : Lv) (c : BS) (f g : SS) : SS := fun ρ => (c L ρ).to fun p => if p.1 then f p.2 else g p.2
theorem ds_if (L : Lv) {c : Expr} {fc : BS} {a b : List Stmt} (hc : DT X np EW c fc) (ha : DSs X np EW a f) (hb : DSs X np EW b g) : DS X np EW (.If c a b pos) (ifS L fc f g) :=
  PS.weak (ps_if hc ha hb) fun Dn σ H ⟨C, ρ, R, h⟩ => toT_of R h fun p H' C' A R' q => by
    cases e : p.1 with
    | true => rw [e] at q; exact iteT ⟨C', p.2, R', q⟩
    | false => rw [e] at q; exact iteF ⟨C', p.2, R', q⟩

/-! ### stores at names -/
theorem Rel.set {K : PySem.W.Frag} {H : Hp} {C : Col} {σ : L2.St} {ρ : Slots} {i : Nat} {v : V} {s : Sl} (R : Rel K np H C σ ρ) (h : SlotR K np H C i (some (some v)) s) : Rel K np H C (σ.set i (some v)) (ρ.set i s) := by
  refine ⟨by rw [List.length_set, List.length_set]; exact R.len, fun j s' e => ?_⟩
  by_cases hij : j = i
  · subst hij
    have hl : j < ρ.length := by
      have := (List.getElem?_eq_some_iff.mp e).1
      rw [List.length_set] at this; exact this
    rw [List.getElem?_set_self hl] at e
    cases e
    rw [List.getElem?_set_self (by rw [R.len]; exact hl)]
    exact h
  · rw [List.getElem?_set_ne (Ne.symm hij)] at e ⊢
    exact R.get j s' e
/-- x = e: as one's own, as what was handed in -/
def vaS (i : Nat) (fe : ES) : SS := fun ρ => (fe .va ρ).to fun p => .nx (p.2.set i (.va p.1))
def boS (i : Nat) (fe : ES) : SS := fun ρ => (fe .bo ρ).to fun p => .nx (p.2.set i (.bo p.1))
section
variable {i : Nat} {x : Str} {pos' : Pos}
theorem ds_va (hN : X.N.Nodup) (hi : X.N[i]? = some x) (hx : Loc X.env.scope x) (h : DE X np EW e fe) (hs : swapsWith e (some (.Name x pos')) pos.line X.env = pure false := by rfl) (hf : X.fn x = true ∨ X.env.scope.names.lookup x = some .local := by first | exact .inl rfl | exact .inr rfl | assumption) :
    DS X np EW (.Assign [.Name x pos'] e pos) (vaS i fe) :=
  PS.weak (ps_set hN hi hx h hs hf) fun Dn σ H ⟨C, ρ, R, h⟩ => toE_of (L := .va) R h fun p v H' C' A R' r q => q _ H' C' .refl (R'.set (.va (r.imp fun b hb => by
    have hb' : Lv.va.okb (C' b) = true := hb
    simpa [Lv.okb] using hb')))
theorem ds_bo (hN : X.N.Nodup) (hi : X.N[i]? = some x) (hx : Loc X.env.scope x) (h : DE X np EW e fe) (hs : swapsWith e (some (.Name x pos')) pos.line X.env = pure false := by rfl) (hf : X.fn x = true ∨ X.env.scope.names.lookup x = some .local := by first | exact .inl rfl | exact .inr rfl | assumption) :
    DS X np EW (.Assign [.Name x pos'] e pos) (boS i fe) :=
  PS.weak (ps_set hN hi hx h hs hf) fun Dn σ H ⟨C, ρ, R, h⟩ => toE_of (L := .bo) R h fun p v H' C' A R' r q => q _ H' C' .refl (R'.set (.bo (r.imp fun b hb => by
    have hb' : Lv.bo.okb (C' b) = true := hb
    simpa [Lv.okb] using hb')))
end
/-! ### a new list -/
/-- the expression makes a new list, of these items -/
def tN (K : PySem.W.Frag) (np : Fp) (EW : XW) (f : AS) : TE := fun σ H Q => ∃ L C ρ, Rel K np H C σ ρ ∧
  wp (f L ρ) (fun p => ∀ t vs H' C', Aft np L ρ H C p.2 H' C' → Rel K np H' C' σ p.2 → H' t = none → RpA K H' (Cof C' L) vs p.1 → Q (.ref t) (upd H' t (.lst vs))) (fun c => ∀ H' C', Stp np H C H' C' → EW c H')
abbrev DN (X : Cx) (np : Fp) (EW : XW) (e : Expr) (f : AS) : Prop := PE X e (tN X.K np EW f)
def lsE (f : AS) : ES := fun L ρ => (f L ρ).bind fun p => .ok (.list p.1, p.2)
theorem DN.de {f : AS} (h : DN X np EW e f) : DE X np EW e (lsE f) := PE.weak h fun σ H Q ⟨L, C, ρ, R, h⟩ =>
  ⟨L, C, ρ, R, wp_mono (wp_bind.mp h) (fun p _ hp t vs H' C' A R' ht r => by
    have S := pstp_new (C := C') (o := .lst vs) (n := 0) ht
    exact hp (.ref t) _ _ (A.trans (.of S)) (R'.pstp S) (.lst upd_same (by unfold Cof; rw [setC_same]; exact L.ok0) (S.rpA (P := fun c => L.okb c = true) r))) fun c z => z⟩
def szA (f : AS) : AS := fun L ρ => (f L ρ).bind fun p => if p.1.length ≤ sizeLine then .ok p else .bad
theorem dn_lst {es : List Expr} {fs : AS} (ha : DA X np EW es fs) : DN X np EW (.List es pos) (szA fs) :=
  PE.weak (pe_lst ha) fun σ H Q ⟨L, C, ρ, R, h⟩ => tA_of R h fun p vs H1 C1 A1 R1 r1 h1 => by
    by_cases hz : p.1.length ≤ sizeLine
    · rw [if_pos hz] at h1
      exact ⟨by rw [r1.len]; exact hz, fun t ht => h1 t vs H1 C1 A1 R1 ht r1⟩
    · rw [if_neg hz] at h1; exact h1.elim
/-- x = a new list that x alone holds -/
def owS (np i : Nat) (f : AS) : SS := fun ρ => if np ≤ i then (f .va ρ).to fun p => .nx (p.2.set i (.ow p.1)) else .bad
theorem ow_new {K : PySem.W.Frag} {H : Hp} {C : Col} {σ : L2.St} {ρ : Slots} {i : Nat} {t : Addr} {vs : List V} {ds : List D} (hi : np.n ≤ i) (R : Rel K np H C σ ρ) (ht : H t = none) (r : RpA K H (Cof C .va) vs ds) :
    PStp H C (upd H t (.lst vs)) (setC C t (i + 3)) ∧ Rel K np (upd H t (.lst vs)) (setC C t (i + 3)) (σ.set i (some (.ref t))) (ρ.set i (.ow ds)) := by
  have S := pstp_new (C := C) (o := .lst vs) (n := i + 3) ht
  refine ⟨S, (R.pstp S).set (.ow upd_same setC_same (S.rpA (P := fun c => c = 0) (r.imp fun b hb => ?_)) fun z => absurd hi (by omega))⟩
  have hb' : Lv.va.okb (C b) = true := hb
  simpa [Lv.okb] using hb'
theorem ds_ow {i : Nat} {x : Str} {pos' : Pos} {f : AS} (hN : X.N.Nodup) (hi : X.N[i]? = some x) (hx : Loc X.env.scope x) (h : DN X np EW e f) (hs : swapsWith e (some (.Name x pos')) pos.line X.env = pure false := by rfl)
    (hf : X.fn x = true ∨ X.env.scope.names.lookup x = some .local := by first | exact .inl rfl | exact .inr rfl | assumption) : DS X np EW (.Assign [.Name x pos'] e pos) (owS np.n i f) :=
  PS.weak (ps_set hN hi hx h hs hf) fun Dn σ H ⟨C, ρ, R, h⟩ => by
    unfold owS at h
    by_cases hn : np.n ≤ i
    · rw [if_pos hn] at h
      refine ⟨.va, C, ρ, R, ?_⟩
      cases e : f .va ρ with
      | bad => rw [e] at h; exact h.elim
      | ex c => rw [e] at h; exact h
      | ok p =>
        rw [e] at h
        intro t vs H' C' A R' ht r
        obtain ⟨S, R2⟩ := ow_new hn R' ht r
        exact h _ _ _ (A.stp.trans S.stp) R2
    · rw [if_neg hn] at h; exact h.elim
/-- the list at slot i is handed out: nobody changes it any more -/
def fzS (np i : Nat) (f : SS) : SS := fun ρ => match ρ[i]? with
  | some (.ow ds) => if np ≤ i then f (ρ.set i (.va (.list ds))) else .bad
  | _ => .bad
theorem set_self {α : Type} {l : List α} {i : Nat} {a : α} (h : l[i]? = some a) : l.set i a = l := by
  apply List.ext_getElem?
  intro j
  by_cases e : j = i
  · subst e
    rw [List.getElem?_set_self (List.getElem?_eq_some_iff.mp h).1, h]
  · rw [List.getElem?_set_ne (Ne.symm e)]
theorem fz_rel {K : PySem.W.Frag} {H : Hp} {C : Col} {σ : L2.St} {ρ : Slots} {i : Nat} {ds : List D} (hi : np.n ≤ i) (R : Rel K np H C σ ρ) (e : ρ[i]? = some (.ow ds)) : ∃ C', Stp np H C H C' ∧ Rel K np H C' σ (ρ.set i (.va (.list ds))) := by
  have r := R.get i _ e
  cases eo : σ[i]? with
  | none => rw [eo] at r; cases r
  | some o =>
    rw [eo] at r
    cases r with
    | @ow a vs _ ha hc rr pn =>
      have hC : ∀ b, C b ≠ i + 3 → (fun b => if C b = i + 3 then 0 else C b) b = C b := fun b h => if_neg h
      refine ⟨fun b => if C b = i + 3 then 0 else C b, ⟨fun b x h _ => h, fun b h => h, fun b _ h => hC b (by omega), fun b _ h => ?_⟩, ⟨by rw [List.length_set]; exact R.len, fun j s es => ?_⟩⟩
      · by_cases z : C b = i + 3
        · exact .inl (if_pos z)
        · right; show np.n + 3 ≤ if C b = i + 3 then 0 else C b; rw [if_neg z]; exact h
      · by_cases hij : j = i
        · subst hij
          rw [List.getElem?_set_self (List.getElem?_eq_some_iff.mp e).1] at es
          cases es
          rw [eo]
          refine .va (.lst ha (if_pos hc) (rr.imp fun b hb => ?_))
          show (if C b = j + 3 then 0 else C b) = 0
          rw [if_neg (by omega)]; exact hb
        · rw [List.getElem?_set_ne (Ne.symm hij)] at es
          exact (R.get j s es).off hij (fun b xs hb h => ⟨h, hC b hb⟩) fun b o h _ => h
theorem ds_fz (i : Nat) (h : DS X np EW st f) : DS X np EW st (fzS np.n i f) :=
  PS.weak h fun Dn σ H ⟨C, ρ, R, h⟩ => by
    unfold fzS at h
    cases e : ρ[i]? with
    | none => rw [e] at h; exact h.elim
    | some s =>
      rw [e] at h
      cases s with
      | ow ds =>
        by_cases hn : np.n ≤ i
        · have h' : pst X.K np EW Dn H C (f (ρ.set i (.va (.list ds)))) := by simpa [hn] using h
          obtain ⟨C', S, R'⟩ := fz_rel hn R e
          exact ⟨C', _, R', pst_stp h' S⟩
        · have h' : pst X.K np EW Dn H C .bad := by simpa [hn] using h
          exact h'.elim
      | _ => exact h.elim
/-! ### changes of a list at a slot -/
/-- the list at slot j is rewritten -/
theorem ow_upd {K : PySem.W.Frag} {H : Hp} {C : Col} {σ : L2.St} {ρ : Slots} {j : Nat} {a : Addr} {us ws : List V} {es : List D} (R : Rel K np H C σ ρ) (hj : ∃ ds, ρ[j]? = some (.ow ds)) (hs : σ[j]? = some (some (.ref a))) (ha : H a = some (.lst us)) (hc : C a = j + 3)
    (r : RpA K H (fun b => C b = 0) ws es) : Stp np H C (upd H a (.lst ws)) C ∧ Rel K np (upd H a (.lst ws)) C σ (ρ.set j (.ow es)) := by
  obtain ⟨ds, ej⟩ := hj
  have ne_of_col : ∀ b, C b ≠ j + 3 → b ≠ a := fun b h z => by subst z; exact h hc
  have imm_ne : ∀ {b : Addr} {o : HO}, H b = some o → Imm o → b ≠ a := fun {b o} h i z => by subst z; rw [ha] at h; cases h; exact i
  refine ⟨⟨fun b x h k => ?_, fun b h => ?_, fun _ _ _ => rfl, fun _ _ h => .inr h⟩, ⟨by rw [List.length_set]; exact R.len, fun i s e => ?_⟩⟩
  · rw [upd_ne ?_]; exact h
    rcases k with k | k
    · exact ne_of_col b (by omega)
    · exact imm_ne h k
  · by_cases z : b = a
    · subst z; rw [upd_same]; simp
    · rw [upd_ne z]; exact h
  · by_cases hij : i = j
    · subst hij
      rw [List.getElem?_set_self (List.getElem?_eq_some_iff.mp ej).1] at e
      cases e
      have r0 := R.get i _ ej
      rw [hs] at r0 ⊢
      cases r0 with
      | ow _ _ _ pn =>
        exact .ow upd_same hc (r.move (fun b xs hb h => ⟨by rw [upd_ne (ne_of_col b (by omega))]; exact h, hb⟩) fun b o h im => by rw [upd_ne (imm_ne h im)]; exact h) pn
    · rw [List.getElem?_set_ne (Ne.symm hij)] at e
      exact (R.get i s e).off hij (fun b xs hb h => ⟨by rw [upd_ne (ne_of_col b hb)]; exact h, rfl⟩) fun b o h im => by rw [upd_ne (imm_ne h im)]; exact h
theorem ow_get {K : PySem.W.Frag} {H : Hp} {C : Col} {σ : L2.St} {ρ : Slots} {j : Nat} {ds : List D} (R : Rel K np H C σ ρ) (e : ρ[j]? = some (.ow ds)) : ∃ a us, σ[j]? = some (some (.ref a)) ∧ H a = some (.lst us) ∧ C a = j + 3 ∧ RpA K H (fun b => C b = 0) us ds := by
  have r := R.get j _ e
  generalize σ[j]? = o at r
  cases r with
  | ow ha hc rr pn => exact ⟨_, _, rfl, ha, hc, rr⟩
theorem isOw_get {ρ : Slots} {j : Nat} (h : isOw ρ[j]? = true) : ∃ ds, ρ[j]? = some (.ow ds) := by
  cases e : ρ[j]? with
  | none => rw [e] at h; cases h
  | some s =>
    rw [e] at h
    cases s with
    | ow ds => exact ⟨ds, rfl⟩
    | _ => cases h
def owA (o : Option Sl) (k : List D → Fl) : Fl := match o with
  | some (.ow ds) => k ds
  | _ => .bad
@[simp] theorem owA_ow (ds : List D) (k : List D → Fl) : owA (some (.ow ds)) k = k ds := Eq.trans rfl rfl
theorem owA_of {o : Option Sl} {k : List D → Fl} {K : PySem.W.Frag} {Dn : Ends} {H : Hp} {C : Col} (h : pst K np EW Dn H C (owA o k)) : ∃ ds, o = some (.ow ds) ∧ pst K np EW Dn H C (k ds) := by
  cases o with
  | none => exact h.elim
  | some s =>
    cases s with
    | ow ds => exact ⟨ds, rfl, h⟩
    | _ => exact h.elim
/-- xs.append(e) -/
def apS (j : Nat) (fe : ES) : SS := fun ρ => if isOw ρ[j]? then (fe .va ρ).to fun p => owA p.2[j]? fun ds => if ds.length < sizeLine then .nx (p.2.set j (.ow (ds ++ [p.1]))) else .bad else .bad
/-- a method call of the list at slot j -/
theorem owm_pre {K : PySem.W.Frag} {H : Hp} {C : Col} {σ : L2.St} {ρ : Slots} {j : Nat} {Dn : Ends} {r : Fl} (R : Rel K np H C σ ρ) (h : pst K np EW Dn H C (if isOw ρ[j]? then r else .bad)) :
    ∃ a us, σ[j]? = some (some (V.ref a)) ∧ H a = some (.lst us) ∧ pst K np EW Dn H C r := by
  by_cases q : isOw ρ[j]? = true
  · rw [if_pos q] at h
    obtain ⟨ds, e⟩ := isOw_get q
    obtain ⟨a, us, h1, h2, _⟩ := ow_get R e
    exact ⟨a, us, h1, h2, h⟩
  · rw [if_neg q] at h; exact h.elim
theorem ds_append (j : Nat) {x : Str} {px apos : Pos} {cpos : Pos} (hj : PE X (.Name x px) (tVar j)) (h : DE X np EW e fe)
    (hs : swapsWith (.Call (.Attribute (.Name x px) "append" apos) [e] [] cpos) none pos.line X.env = pure false := by rfl) (hst : starEach [e] X.env = (false, eval e X.env) :: starEach [] X.env := by rfl)
    (hpe : ∀ {t : TE}, PE X e t → PE X (.Call (.Attribute (.Name x px) "append" apos) [e] [] cpos) (tBM X.K "list" rAppend (tVar j) (tCons t tNil))) :
    DS X np EW (.Expr (.Call (.Attribute (.Name x px) "append" apos) [e] [] cpos) pos) (apS j fe) :=
  PS.weak (ps_expr (hpe h) hs) fun Dn σ H ⟨C, ρ, R, h⟩ => by
    obtain ⟨a, us, hs, ha, h⟩ := owm_pre R h
    refine ⟨.ref a, hs, .inl ⟨rfl, _, .inl (.inl ha)⟩, toE_of (L := .va) R h fun p v H' C' A R' r q => ?_⟩
    obtain ⟨ds, e, q⟩ := owA_of q
    obtain ⟨a', us', hs', ha', hc', rr⟩ := ow_get R' e
    rw [hs] at hs'; cases hs'
    by_cases hz : ds.length < sizeLine
    · rw [if_pos hz] at q
      refine ⟨a, us', v, rfl, rfl, ha', by rw [rr.len]; exact hz, ?_⟩
      obtain ⟨S, R2⟩ := ow_upd R' ⟨ds, e⟩ hs ha' hc' (rr.app (.cons (r.imp fun b hb => by
        have hb' : Lv.va.okb (C' b) = true := hb
        simpa [Lv.okb] using hb') .nil))
      exact q _ _ _ S R2
    · rw [if_neg hz] at q; exact q.elim
end
end
end Dm

namespace Dm
noncomputable section
open PySem PySem.Spec PyProof.Rows L2

section
variable {P : Program} {w : World} {K : PySem.W.Frag} {mg : Str → Option Value} {base : Heap}
/-- the slots that a def gives back: the lists that it may change -/
def selF : Sl → Sl → Sl
  | .ow _, .ow ds => .ow ds
  | .ob _ _, .ob kl xs => .ob kl xs
  | _, _ => .no
def outF : Slots → Slots → Slots
  | [], _ => []
  | a :: as, [] => .no :: outF as []
  | a :: as, s :: r => selF a s :: outF as r
theorem outF_len : ∀ (as ρ : Slots), (outF as ρ).length = as.length
  | [], _ => rfl
  | _ :: as, [] => by rw [outF, List.length_cons, List.length_cons, outF_len as []]
  | _ :: as, _ :: r => by rw [outF, List.length_cons, List.length_cons, outF_len as r]
theorem outF_get : ∀ (as ρ : Slots) (i : Nat) (s : Sl), (outF as ρ)[i]? = some s → s = .no ∨ (∃ d0 ds, as[i]? = some (.ow d0) ∧ ρ[i]? = some (.ow ds) ∧ s = .ow ds) ∨ ∃ k0 x0 kl xs, as[i]? = some (.ob k0 x0) ∧ ρ[i]? = some (.ob kl xs) ∧ s = .ob kl xs
  | [], _, _, _, h => by simp [outF] at h
  | a :: as, [], 0, s, h => by rw [outF] at h; cases h; exact .inl rfl
  | a :: as, [], i + 1, s, h => by
    rw [outF, List.getElem?_cons_succ] at h
    rcases outF_get as [] i s h with h | ⟨d0, ds, _, h2, _⟩ | ⟨_, _, _, _, _, h2, _⟩
    · exact .inl h
    · simp at h2
    · simp at h2
  | a :: as, t :: r, 0, s, h => by
    rw [outF] at h
    have e : selF a t = s := Option.some.inj h
    subst e
    cases a <;> cases t <;> first
      | exact .inl rfl
      | exact .inr (.inl ⟨_, _, rfl, rfl, rfl⟩)
      | exact .inr (.inr ⟨_, _, _, _, rfl, rfl, rfl⟩)
  | a :: as, t :: r, i + 1, s, h => by
    rw [outF, List.getElem?_cons_succ] at h
    exact outF_get as r i s h
theorem outF_bo : ∀ (ds : List D) (ρ : Slots), outF (ds.map Sl.bo) ρ = (ds.map Sl.bo).map fun _ => Sl.no
  | [], _ => rfl
  | d :: ds, [] => by rw [List.map_cons, outF, outF_bo ds []]; rfl
  | d :: ds, s :: r => by rw [List.map_cons, outF, outF_bo ds r]; rfl
/-- what a body's end is for the caller -/
def finF (as : Slots) : Fl → Re (D × Slots)
  | .rt d ρ => .ok (d, outF as ρ)
  | .nx ρ => .ok (.none, outF as ρ)
  | .ex c => .ex c
  | _ => .bad
/-- a def by its body: m slots beside the parameters -/
def bodyF (m : Nat) (f : SS) : Slots → Re (D × Slots) := fun as => finF as (f (as ++ List.replicate m .no))
theorem rel_start {np : Fp} {H : Hp} {C : Col} {vs : List V} {as : Slots} {N : List Str} {m : Nat} (R : Rel K np H C (vs.map some) as) (hN : N.length = vs.length + m) : Rel K np H C (L2.start N vs) (as ++ List.replicate m .no) := by
  have hl := R.len
  rw [List.length_map] at hl
  unfold L2.start
  have e : N.length - vs.length = m := by omega
  rw [e]
  refine ⟨by simp [hl], fun i s es => ?_⟩
  by_cases hi : i < as.length
  · rw [List.getElem?_append_left hi] at es
    rw [List.getElem?_append_left (by simp [hl]; exact hi)]
    exact R.get i s es
  · rw [List.getElem?_append_right (by omega), List.getElem?_replicate] at es
    split at es
    · cases es; exact .no
    · cases es
/-- behind a body: the colours as the caller sees them -/
theorem fin_caller {np : Fp} {H H' : Hp} {C C' : Col} {σ' : L2.St} {as ρ' : Slots} {vs : List V} (h0 : ∀ b, H b ≠ none → 1 ≤ C b ∧ C b ≤ np.n + 2) (hv : vs.length = np.n) (R0 : Rel K np H C (vs.map some) as)
    (S : Stp np H C H' C') (R : Rel K np H' C' σ' ρ') : ∃ C'', Stp np H C H' C'' ∧ Rel K np H' C'' (vs.map some) (outF as ρ') ∧ (∀ v d, Rp K H' (RtC np C') v d → Rp K H' (fun b => C'' b = 0) v d) := by
  have lo : ∀ b, C' b ≤ np.n + 2 → (if np.n + 3 ≤ C' b then 0 else C' b) = C' b := fun b h => if_neg (by omega)
  refine ⟨fun b => if np.n + 3 ≤ C' b then 0 else C' b, ⟨S.keep, S.there, fun b hb hc => ?_, fun b hb hc => ?_⟩, ⟨?_, fun i s es => ?_⟩, fun v d r => r.imp fun b hb => ?_⟩
  · have := S.colo b hb hc
    rw [lo b (by rw [this]; exact hc), this]
  · have := (h0 b hb).2; omega
  · rw [outF_len, List.length_map, hv, ← hv]
    have := R0.len
    rw [List.length_map] at this
    exact this
  · rcases outF_get as ρ' i s es with rfl | ⟨d0, ds, e1, e2, rfl⟩ | ⟨k0, x0, kl, xs, e1, e2, rfl⟩
    · exact .no
    · have r0 := R0.get i _ e1
      have r1 := R.get i _ e2
      have hi : i < np.n := by
        have h1 := (List.getElem?_eq_some_iff.mp e1).1
        have h2 := R0.len
        rw [List.length_map] at h2
        omega
      generalize (vs.map some)[i]? = o at r0 ⊢
      generalize σ'[i]? = o' at r1
      cases r0 with
      | ow _ _ _ p0 =>
        cases r1 with
        | ow h1 c1 rr p1 =>
          rw [p0 hi, ← p1 hi]
          exact .ow h1 (by rw [lo _ (by rw [c1]; omega)]; exact c1) (rr.imp fun b hb => by rw [lo b (by omega)]; exact hb) p1
    · have r0 := R0.get i _ e1
      have r1 := R.get i _ e2
      have hi : i < np.n := by
        have h1 := (List.getElem?_eq_some_iff.mp e1).1
        have h2 := R0.len
        rw [List.length_map] at h2
        omega
      generalize (vs.map some)[i]? = o at r0 ⊢
      generalize σ'[i]? = o' at r1
      cases r0 with
      | ob _ _ _ _ p0 =>
        cases r1 with
        | ob h1 c1 n1 rr p1 =>
          rw [p0 hi, ← p1 hi]
          exact .ob h1 (by rw [lo _ (by rw [c1]; omega)]; exact c1) n1 (rr.move (fun b xs e h => ⟨h, by rw [lo b (by omega)]; exact e⟩) fun _ _ h _ => h) p1
  · have hb' : (C' b == 0 || decide (np.n + 3 ≤ C' b)) = true := hb
    simp only [Bool.or_eq_true, beq_iff_eq, decide_eq_true_eq] at hb'
    show (if np.n + 3 ≤ C' b then 0 else C' b) = 0
    by_cases z : np.n + 3 ≤ C' b
    · rw [if_pos z]
    · rw [if_neg z]; omega
/-- THE RULE for a def that raises nothing: its body's judgement gives its promise -/
theorem g_fn {x qual : Str} {st : Stmt} {f : Addr} {fd : FuncData} {N ps : List Str} {k m : Nat} {F : SS} (Fn : Fun K x qual st f fd) (Sc : FnScope N ps (defScope st)) (hN : N.length = ps.length + m)
    (hbody : ∀ (np : Fp) (cdv : Value) (A : Around) (outer : List PySem.Env) (s : Shared) (H : Hp) (E : XK), np.n = ps.length → Room k (A.deeper (envOfC qual (defScope st) s.heap.objs.size f cdv)) → A.guards = some [] →
      DSs (cxOf CX0 P w K mg base N qual (defScope st) f cdv A outer s H E).nox np (fun _ _ => False) (defBody st) F) : GFn P w K mg base CX0 (k + 1) f fd ps (spG K (fun _ _ _ => False) ps.length (bodyF m F)) := by
  refine ⟨fun vs H Q E h => h.1, fun A outer s H args us vs Q E hr hg e0 hb r hsp => ?_⟩
  obtain ⟨oc, od, kV, doc, pm, an, cdv, ct, osl, rfl, lk, hcd⟩ := Fn.ex
  obtain ⟨hl, C, np, as, hnp, R, h0, hw⟩ := hsp
  have hv : vs.length = np.n := by rw [hl, hnp]
  have kin : K.In s.heap := e0.mod.kin.keeps fun b o e => (e0.bs b o e).1
  have nlm : s.heap.NoLimit := e0.mod.nolimit.keeps fun b o e => (e0.bs b o e).1
  have kinds : ∀ y ∈ ps.zip us, (defScope st).names.lookup y.1 = some .local ∨ ((defScope st).names.lookup y.1 = some .cell ∧ ((cellsFrom (s.heap.objs.size + 1) (defScope st).names []).lookup y.1).isSome = true) := by
    intro y hy
    rcases Sc.par y.1 (List.of_mem_zip (show (y.1, y.2) ∈ ps.zip us from hy)).1 with q | q
    · exact .inl q
    · exact .inr ⟨q, PySem.W.cellsFrom_some _ _ _ (.inl q)⟩
  have toEnd : ∀ (X : Cx), X = cxOf CX0 P w K mg base N qual (defScope st) f cdv A outer s H E → ∀ {σ' : L2.St} {H' : Hp} {v : V} {u : Value} {s' : Shared}, Inv X [] σ' H' s' → RelV v u → Q v H' → CE outer P w H s Q u s' := by
    intro X hX σ' H' v u s' J rv q
    subst hX
    exact ⟨v, H', J.os, J.bare, J.base, J.hok, rv, q⟩
  refine codeAny_call_function hr.depth (kin _ _ lk) rfl Sc.co Sc.gen rfl (PySem.W.codeRec_of kin hcd) (hb _ _ _ _ (wpAny_newFunctionEnv_cells Sc.kind kinds fun env he s1 x => ?_))
  subst he
  refine ⟨nlm.keeps x.toInCall.keep, codeAny_func ?_⟩
  have B := hbody np cdv A outer s H E hnp (hr.deeper _) hg
  have I := inv_start (CX := CX0) (E := E) Sc hr.hd e0 hl r x
  have pre : tS K np (fun _ _ => False) F { nx := fun _ H' => Q .non H', rt := Q } (L2.start N vs) H := by
    refine ⟨C, _, rel_start (m := m) R (by rw [hN, hl]), ?_⟩
    have hw' : wp (finF as (F (as ++ List.replicate m .no))) _ _ := hw
    cases e : F (as ++ List.replicate m .no) with
    | bad => rw [e] at hw'; exact hw'.elim
    | bk _ => rw [e] at hw'; exact hw'.elim
    | ct _ => rw [e] at hw'; exact hw'.elim
    | ex c => rw [e] at hw'; exact fun H' C' S => hw' H' C' S
    | rt d ρ' =>
      rw [e] at hw'
      intro v σ' H' C' S R' rv
      obtain ⟨C'', S2, R2, r2⟩ := fin_caller (by rw [hnp]; exact h0) hv R S R'
      exact hw' v H' C'' S2 R2 (r2 v d rv)
    | nx ρ' =>
      rw [e] at hw'
      intro σ' H' C' S R'
      obtain ⟨C'', S2, R2, r2⟩ := fin_caller (by rw [hnp]; exact h0) hv R S R'
      exact hw' .non H' C'' S2 R2 .non
  refine wpAny_mono (B.nox.run [] s1 (L2.start N vs) H _ I pre) (fun fl s' hs => ?_) fun e s' hs => hs
  cases fl with
  | ret u =>
    obtain ⟨v, σ', H', J, rv, q⟩ := hs
    exact toEnd _ rfl J rv q
  | next =>
    obtain ⟨σ', H', J, q⟩ := hs
    exact toEnd _ rfl (v := V.non) (u := Value.none) J rfl q
  | brk => obtain ⟨_, _, _, q⟩ := hs; exact q.elim
  | cont => obtain ⟨_, _, _, q⟩ := hs; exact q.elim
/-- a def that computes data from data -/
def pfOf (m : Nat) (f : SS) : PF := fun ds => (bodyF m f (ds.map Sl.bo)).bind fun p => .ok p.1
def ofOf (m : Nat) (f : SS) : OF := fun cs ds => (bodyF m f (.ow cs :: ds.map Sl.bo)).bind fun p => match p.2 with
  | .ow cs' :: _ => .ok (p.1, cs')
  | _ => .bad
theorem mapM_unbo : ∀ {as : Slots} {ds : List D}, as.mapM unbo = some ds → as = ds.map Sl.bo
  | [], ds, h => by
    have : some [] = some ds := h
    cases this; rfl
  | a :: as, ds, h => by
    rw [List.mapM_cons] at h
    cases e : unbo a with
    | none => rw [e] at h; cases h
    | some d =>
      rw [e] at h
      cases e2 : as.mapM unbo with
      | none => rw [e2] at h; cases h
      | some r =>
        rw [e2] at h
        have h' : some (d :: r) = some ds := h
        cases h'
        cases a <;> simp [unbo] at e
        subst e
        rw [List.map_cons, mapM_unbo e2]
theorem finF_bo {ds : List D} {r : Fl} : finF (ds.map Sl.bo) r = ((finF (ds.map Sl.bo) r).bind fun p => .ok p.1).bind fun d => .ok (d, (ds.map Sl.bo).map fun _ => Sl.no) := by
  cases r <;> simp [finF, outF_bo]
theorem spG_of {xo : XO} {n m : Nat} {F : SS} {vs : List V} {H : Hp} {Q : VK} {E : XK} (h : spG K xo n (ofP (pfOf m F)) vs H Q E) : spG K xo n (bodyF m F) vs H Q E := by
  obtain ⟨h1, C, np, as, h2, h3, h4, hw⟩ := h
  refine ⟨h1, C, np, as, h2, h3, h4, ?_⟩
  cases e : as.mapM unbo with
  | none =>
    unfold ofP at hw
    rw [e] at hw; exact hw.elim
  | some ds =>
    have ea := mapM_unbo e
    subst ea
    have e2 : bodyF m F (ds.map Sl.bo) = ofP (pfOf m F) (ds.map Sl.bo) := by
      unfold ofP
      rw [mapM_bo]
      show finF _ _ = (pfOf m F ds).bind _
      unfold pfOf
      exact finF_bo
    rw [e2]; exact hw
theorem spG_ofO {xo : XO} {n m : Nat} {F : SS} {vs : List V} {H : Hp} {Q : VK} {E : XK} (h : spG K xo n (ofO1 (ofOf m F)) vs H Q E) : spG K xo n (bodyF m F) vs H Q E := by
  obtain ⟨h1, C, np, as, h2, h3, h4, hw⟩ := h
  refine ⟨h1, C, np, as, h2, h3, h4, ?_⟩
  cases as with
  | nil => exact hw.elim
  | cons a r =>
    cases a with
    | ow cs =>
      cases e : r.mapM unbo with
      | none =>
        unfold ofO1 at hw
        simp only [e] at hw; exact hw.elim
      | some ds =>
        have ea := mapM_unbo e
        subst ea
        have e1 : ofO1 (ofOf m F) (.ow cs :: ds.map Sl.bo) = (ofOf m F cs ds).bind fun p => .ok (p.1, .ow p.2 :: (ds.map Sl.bo).map fun _ => Sl.no) := by
          show (match (ds.map Sl.bo).mapM unbo with | some ds' => (ofOf m F cs ds').bind fun p => Re.ok (p.1, Sl.ow p.2 :: (ds.map Sl.bo).map fun _ => Sl.no) | none => .bad) = _
          rw [mapM_bo]
        rw [e1] at hw
        unfold ofOf at hw
        cases e2 : bodyF m F (.ow cs :: ds.map Sl.bo) with
        | bad => rw [e2] at hw; exact hw.elim
        | ex c => rw [e2] at hw; exact hw
        | ok p =>
          rw [e2] at hw
          have sh : ∃ x, p.2 = outF (.ow cs :: ds.map Sl.bo) x := by
            unfold bodyF at e2
            cases e3 : F (.ow cs :: ds.map Sl.bo ++ List.replicate m .no) <;> rw [e3] at e2 <;> simp [finF] at e2
            · exact ⟨_, by rw [← e2]⟩
            · exact ⟨_, by rw [← e2]⟩
          obtain ⟨x, hx⟩ := sh
          obtain ⟨d, ρ⟩ := p
          have hx' : ρ = outF (.ow cs :: ds.map Sl.bo) x := hx
          subst hx'
          cases x with
          | nil => exact hw.elim
          | cons s t =>
            cases s with
            | ow cs' =>
              rw [outF, outF_bo] at hw ⊢
              exact hw
            | _ => exact hw.elim
    | _ => exact hw.elim
theorem g_pure {x qual : Str} {st : Stmt} {f : Addr} {fd : FuncData} {N ps : List Str} {k m : Nat} {F : SS} (Fn : Fun K x qual st f fd) (Sc : FnScope N ps (defScope st)) (hN : N.length = ps.length + m)
    (hbody : ∀ (np : Fp) (cdv : Value) (A : Around) (outer : List PySem.Env) (s : Shared) (H : Hp) (E : XK), np.n = ps.length → Room k (A.deeper (envOfC qual (defScope st) s.heap.objs.size f cdv)) → A.guards = some [] →
      DSs (cxOf CX0 P w K mg base N qual (defScope st) f cdv A outer s H E).nox np (fun _ _ => False) (defBody st) F) : GFn P w K mg base CX0 (k + 1) f fd ps (spG K (fun _ _ _ => False) ps.length (ofP (pfOf m F))) :=
  (g_fn Fn Sc hN hbody).imp fun _ _ _ _ h => spG_of h
theorem g_own {x qual : Str} {st : Stmt} {f : Addr} {fd : FuncData} {N ps : List Str} {k m : Nat} {F : SS} (Fn : Fun K x qual st f fd) (Sc : FnScope N ps (defScope st)) (hN : N.length = ps.length + m)
    (hbody : ∀ (np : Fp) (cdv : Value) (A : Around) (outer : List PySem.Env) (s : Shared) (H : Hp) (E : XK), np.n = ps.length → Room k (A.deeper (envOfC qual (defScope st) s.heap.objs.size f cdv)) → A.guards = some [] →
      DSs (cxOf CX0 P w K mg base N qual (defScope st) f cdv A outer s H E).nox np (fun _ _ => False) (defBody st) F) : GFn P w K mg base CX0 (k + 1) f fd ps (spG K (fun _ _ _ => False) ps.length (ofO1 (ofOf m F))) :=
  (g_fn Fn Sc hN hbody).imp fun _ _ _ _ h => spG_ofO h
end
end
end Dm

namespace Dm
noncomputable section
open PySem PySem.Spec PyProof.Rows L2

/-! ### what is walked -/
/-- .. or, where it is unpacked at once, a tuple of which nothing more is known -/
def RpB (b : Bool) (K : PySem.W.Frag) (H : Hp) (P : Addr → Prop) (v : V) (d : D) : Prop := Rp K H P v d ∨ (b = true ∧ ∃ a xs ds, v = .ref a ∧ d = .tuple ds ∧ SqT K H a xs ∧ RpA K H P xs ds)
theorem RpB.ff {K : PySem.W.Frag} {H : Hp} {P : Addr → Prop} {v : V} {d : D} (h : RpB false K H P v d) : Rp K H P v d := by
  rcases h with h | ⟨h, _⟩
  · exact h
  · cases h
theorem RpB.tup {b : Bool} {K : PySem.W.Frag} {H : Hp} {P : Addr → Prop} {v : V} {ds : List D} (h : RpB b K H P v (.tuple ds)) : ∃ a xs, v = .ref a ∧ SqT K H a xs ∧ RpA K H P xs ds := by
  rcases h with h | ⟨_, a, xs, ds', rfl, e, h, r⟩
  · exact h.tup_inv
  · cases e; exact ⟨a, xs, rfl, h, r⟩
/-- the target unpacks -/
def isTupE : Expr → Bool
  | .Tuple _ _ _ => true
  | _ => false
/-- a walk of these items, while what stood at H0 stands -/
structure ItOk (b : Bool) (K : PySem.W.Frag) (np : Fp) (L : Lv) (ds : List D) (J : It) (H0 : Hp) (C0 : Col) : Prop where
  go : ∀ i H C ρ, Aft np L ρ H0 C0 ρ H C → i < ds.length → J.go i H
  stop : ∀ H C ρ, Aft np L ρ H0 C0 ρ H C → J.stop ds.length H
  yld : ∀ i H C ρ x H' d, Aft np L ρ H0 C0 ρ H C → ds[i]? = some d → J.yld i H x H' → PStp H C H' C ∧ (∀ b, H' b ≠ none → H b = none → ∃ o, H' b = some o) ∧ RpB b K H' (Cof C L) x d
theorem Aft.slots {np : Fp} {L : Lv} {ρ ρ' ρ2 : Slots} {H H1 : Hp} {C C1 : Col} (a : Aft np L ρ H C ρ' H1 C1) : Aft np L ρ2 H C ρ2 H1 C1 := ⟨a.stp, fun h => ⟨rfl, (a.pu h).2⟩⟩
def tI (b : Bool) (K : PySem.W.Frag) (np : Fp) (EW : XW) (f : AS) : TI := fun σ H R => ∃ L C ρ, Rel K np H C σ ρ ∧
  wp (f L ρ) (fun p => ∀ J H' C', Aft np L ρ H C p.2 H' C' → Rel K np H' C' σ p.2 → ItOk b K np L p.1 J H' C' → R J H') (fun c => ∀ H' C', Stp np H C H' C' → EW c H')
abbrev DI (X : Cx) (np : Fp) (EW : XW) (tg e : Expr) (f : AS) : Prop := PI X tg e (tI (isTupE tg) X.K np EW f)
theorem PI.weak {X : Cx} {tg e : Expr} {t t' : TI} (h : PI X tg e t) (w : ∀ σ H Q, t' σ H Q → t σ H Q) : PI X tg e t' := ⟨fun pins s σ H Q I q => h.run pins s σ H Q I (w σ H Q q)⟩
/-- a list or a tuple, walked -/
theorem pi_lt {X : Cx} {tg l : Expr} {tl : TE} (hl : PE X l tl) : PI X tg l (fun σ H R => tl σ H fun x H1 => ∃ a, x = .ref a ∧ (((∃ xs, SqL X.K H1 a xs) ∧ R (Itl X.K a) H1) ∨ ((∃ xs, SqT X.K H1 a xs) ∧ R (Itt X.K a) H1))) := by
  refine ⟨fun pins s σ H R I h => thn (hl.run pins s σ H _ I h) fun v s1 ⟨x, H1, I1, r1, a, e, q⟩ => ?_⟩
  subst e
  cases r1
  have fp : ∀ b ∈ [s1.heap.objs.size], FpOk X pins H1 b := fun b hb => by
    have e : b = s1.heap.objs.size := by simpa using hb
    subst e
    exact I1.fpOk (Nat.le_refl _) (I1.hok.fresh (Nat.le_refl _))
  rcases q with ⟨⟨xs, hq⟩, q⟩ | ⟨⟨xs, hq⟩, q⟩
  · obtain ⟨its, rv, p, hz⟩ := I1.list hq
    exact wpAny_pyIter_list p.isList ⟨_, [s1.heap.objs.size], _, _, H1, rfl, I1.kept (t' := s1.toks) fun b o e => Heap.get?_push_of_some _ e, turn_list a _, ⟨_, Heap.get?_push_size _ rfl, rfl, rfl⟩, fp, q⟩
  · obtain ⟨its, rv, p, hz⟩ := I1.tuple hq
    exact wpAny_pyIter_tuple (show s1.heap.IsTuple a its.toArray from p) ⟨_, [s1.heap.objs.size], _, _, H1, rfl, I1.kept (t' := s1.toks) fun b o e => Heap.get?_push_of_some _ e, turn_tuple a _, ⟨_, Heap.get?_push_size _ rfl, rfl, rfl⟩, fp, q⟩
/-- the items of a list, of a tuple -/
def itD : D → Option (List D)
  | .list xs => some xs
  | .tuple xs => some xs
  | _ => none
def itA (fe : ES) : AS := fun L ρ => (fe L ρ).bind fun p => (ofO (itD p.1)).bind fun ds => .ok (ds, p.2)
theorem okb_lt {L : Lv} {ρ : Slots} {K : PySem.W.Frag} {np : Fp} {H0 H : Hp} {C0 C : Col} {xs : List V} {a : Addr} (A : Aft np L ρ H0 C0 ρ H C) (ha : H0 a = some (.lst xs)) (hc : Cof C0 L a) : H a = some (.lst xs) := (A.moves.1 a xs hc ha).1
theorem it_list {bb : Bool} {K : PySem.W.Frag} {np : Fp} {L : Lv} {H0 : Hp} {C0 : Col} {a : Addr} {xs : List V} {ds : List D} (ha : H0 a = some (.lst xs)) (hc : Cof C0 L a) (r : RpA K H0 (Cof C0 L) xs ds) : ItOk bb K np L ds (Itl K a) H0 C0 where
  go := fun i H C ρ A hi => by
    have h1 := (A.moves.1 a xs hc ha).1
    have hi' : i < xs.length := by rw [r.len]; exact hi
    exact ⟨xs, xs[i], .of h1, by simp [hi']⟩
  stop := fun H C ρ A => ⟨xs, .of (A.moves.1 a xs hc ha).1, by rw [r.len]; exact Nat.le_refl _⟩
  yld := fun i H C ρ x H' d A e ⟨h1, h2⟩ => by
    subst h1
    have h3 := h2 xs (.of (A.moves.1 a xs hc ha).1)
    obtain ⟨v, hv, rv⟩ := r.get e
    rw [h3] at hv; cases hv
    exact ⟨.refl, fun b h h' => absurd h' h, .inl (A.rp rv)⟩
theorem SqT.keep {K : PySem.W.Frag} {H H' : Hp} {a : Addr} {xs : List V} (h : SqT K H a xs) (k : ∀ b o, H b = some o → Imm o → H' b = some o) : SqT K H' a xs := by
  rcases h with (h | ⟨o, h⟩) | h
  · exact .inl (.inl (k _ _ h trivial))
  · exact .inl (.inr ⟨o, k _ _ h trivial⟩)
  · exact .inr h
theorem it_tup {bb : Bool} {K : PySem.W.Frag} {np : Fp} {L : Lv} {H0 : Hp} {C0 : Col} {a : Addr} {xs : List V} {ds : List D} (ha : SqT K H0 a xs) (r : RpA K H0 (Cof C0 L) xs ds) : ItOk bb K np L ds (Itt K a) H0 C0 where
  go := fun i H C ρ A hi => by
    have hi' : i < xs.length := by rw [r.len]; exact hi
    exact ⟨xs, xs[i], SqT.keep ha A.moves.2, by simp [hi']⟩
  stop := fun H C ρ A => ⟨xs, SqT.keep ha A.moves.2, by rw [r.len]; exact Nat.le_refl _⟩
  yld := fun i H C ρ x H' d A e ⟨h1, h2⟩ => by
    subst h1
    have h3 := h2 xs (SqT.keep ha A.moves.2)
    obtain ⟨v, hv, rv⟩ := r.get e
    rw [h3] at hv; cases hv
    exact ⟨.refl, fun b h h' => absurd h' h, .inl (A.rp rv)⟩
section
variable {X : Cx} {np : Fp} {EW : XW} {tg e e2 : Expr} {fe fe2 : ES} {p pos : Pos}
theorem di_seq (h : DE X np EW e fe) : DI X np EW tg e (itA fe) := PI.weak (pi_lt h) fun σ H R ⟨L, C, ρ, Rl, h⟩ => tE_of Rl h fun p v H1 C1 A1 R1 r1 h1 => by
  obtain ⟨d, e, h2⟩ := wp_ofO (wp_bind.mp h1)
  obtain ⟨dp, ρ1⟩ := p
  cases dp <;> simp only [itD, reduceCtorEq] at e
  · cases e
    obtain ⟨a, us, rfl, ha, hc, rr⟩ := r1.lst_inv
    exact ⟨a, rfl, .inl ⟨⟨_, .of ha⟩, h2 _ H1 C1 A1 R1 (it_list ha hc rr)⟩⟩
  · cases e
    obtain ⟨a, us, rfl, ha, rr⟩ := r1.tup_inv
    exact ⟨a, rfl, .inr ⟨⟨_, ha⟩, h2 _ H1 C1 A1 R1 (it_tup ha rr)⟩⟩
def rgD (lo : Int) (n : Nat) : List D := (List.range n).map fun i => .int (lo + (i : Nat))
theorem rgD_get {lo : Int} {n i : Nat} {d : D} (h : (rgD lo n)[i]? = some d) : d = .int (lo + (i : Nat)) ∧ i < n := by
  unfold rgD at h
  rw [List.getElem?_map] at h
  cases e : (List.range n)[i]? with
  | none => rw [e] at h; cases h
  | some j =>
    rw [e] at h
    have := List.getElem?_eq_some_iff.mp e
    obtain ⟨h1, h2⟩ := this
    simp at h1 h2
    subst h2
    cases h
    exact ⟨rfl, h1⟩
theorem it_rng {bb : Bool} {K : PySem.W.Frag} {L : Lv} {H0 : Hp} {C0 : Col} {lo : Int} {n : Nat} : ItOk bb K np L (rgD lo n) (Itr lo n) H0 C0 where
  go := fun i H C ρ A hi => by simpa [rgD, Itr] using hi
  stop := fun H C ρ A => by simp [rgD, Itr]
  yld := fun i H C ρ x H' d A e ⟨h1, h2⟩ => by
    obtain ⟨h3, _⟩ := rgD_get e
    subst h1 h2 h3
    exact ⟨.refl, fun b h h' => absurd h' h, .inl (.int _)⟩
def fit62 (i : Int) : Bool := inB (-(2 ^ 62)) (2 ^ 62) i
def rg1D : List D → Option (List D)
  | [.int j] => if fit62 j then some (rgD 0 j.toNat) else none
  | _ => none
def rg2D : List D → Option (List D)
  | [.int i, .int j] => if fit62 i && fit62 j then some (rgD i (j - i).toNat) else none
  | _ => none
theorem rg1D_some : ∀ {ds r : List D}, rg1D ds = some r → ∃ j : Int, ds = [PyData.int j] ∧ fit62 j = true ∧ r = rgD 0 j.toNat := by
  intro ds r h
  unfold rg1D at h
  split at h
  · rename_i j
    by_cases hz : fit62 j = true
    · rw [if_pos hz] at h; cases h; exact ⟨j, rfl, hz, rfl⟩
    · rw [if_neg hz] at h; cases h
  · cases h
theorem rg2D_some : ∀ {ds r : List D}, rg2D ds = some r → ∃ i j : Int, ds = [PyData.int i, PyData.int j] ∧ (fit62 i && fit62 j) = true ∧ r = rgD i (j - i).toNat := by
  intro ds r h
  unfold rg2D at h
  split at h
  · rename_i i j
    by_cases hz : (fit62 i && fit62 j) = true
    · rw [if_pos hz] at h; cases h; exact ⟨i, j, rfl, hz, rfl⟩
    · rw [if_neg hz] at h; cases h
  · cases h
def agA (g : List D → Option (List D)) (fs : AS) : AS := fun L ρ => (fs L ρ).bind fun p => (ofO (g p.1)).bind fun ds => .ok (ds, p.2)
theorem di_range1 {fs : AS} (hg : Gl X "range") (hm : X.mg "range" = none) (ha : DA X np EW [e] fs) (hs : starEach [e] X.env = [(false, eval e X.env)] := by rfl) : DI X np EW tg (.Call (.Name "range" p) [e] [] pos) (agA rg1D fs) :=
  PI.weak (pi_range1 hg hm ha hs) fun σ H R ⟨L, C, ρ, Rl, h⟩ => tA_of Rl h fun q vs H1 C1 A1 R1 r1 h1 => by
    obtain ⟨d, e, h2⟩ := wp_ofO (wp_bind.mp h1)
    obtain ⟨ds, ρ1⟩ := q
    obtain ⟨j, rfl, hz, rfl⟩ := rg1D_some e
    cases r1 with
    | cons r r' =>
      cases r'
      obtain rfl := r.int_inv
      simp only [fit62, inB_eq, Bool.and_eq_true, decide_eq_true_eq] at hz
      exact ⟨j, rfl, hz.1, hz.2, h2 _ H1 C1 A1 R1 it_rng⟩
theorem di_range2 {fs : AS} (hg : Gl X "range") (hm : X.mg "range" = none) (ha : DA X np EW [e, e2] fs) (hs : starEach [e, e2] X.env = [(false, eval e X.env), (false, eval e2 X.env)] := by rfl) (hs2 : starEach [e2] X.env = [(false, eval e2 X.env)] := by rfl) :
    DI X np EW tg (.Call (.Name "range" p) [e, e2] [] pos) (agA rg2D fs) :=
  PI.weak (pi_range2 hg hm ha hs hs2) fun σ H R ⟨L, C, ρ, Rl, h⟩ => tA_of Rl h fun q vs H1 C1 A1 R1 r1 h1 => by
    obtain ⟨d, e, h2⟩ := wp_ofO (wp_bind.mp h1)
    obtain ⟨ds, ρ1⟩ := q
    obtain ⟨i, j, rfl, hz, rfl⟩ := rg2D_some e
    cases r1 with
    | cons r r' =>
      cases r' with
      | cons r2 r3 =>
        cases r3
        obtain rfl := r.int_inv
        obtain rfl := r2.int_inv
        simp only [fit62, inB_eq, Bool.and_eq_true, decide_eq_true_eq] at hz
        exact ⟨i, j, rfl, ⟨hz.1.1, hz.1.2, hz.2.1, hz.2.2⟩, h2 _ H1 C1 A1 R1 it_rng⟩

/-! ### targets -/
/-- data stored at a name's slot -/
def itS (L : Lv) (d : D) : Option Sl := if noL d then some (.va d) else match L with
  | .va => some (.va d)
  | .vp => some (.va d)
  | .bo => some (.bo d)
  | .bp => some (.bo d)
  | _ => none
theorem itS_ok {K : PySem.W.Frag} {H : Hp} {C : Col} {L : Lv} {d : D} {s : Sl} {v : V} {i : Nat} (r : Rp K H (Cof C L) v d) (h : itS L d = some s) : SlotR K np H C i (some (some v)) s := by
  unfold itS at h
  by_cases hn : noL d = true
  · rw [if_pos hn] at h; cases h; exact .va (r.free hn)
  · rw [if_neg hn] at h
    cases L <;> simp only [reduceCtorEq] at h <;> cases h
    · exact .va (r.imp fun b hb => by have : Lv.va.okb (C b) = true := hb; simpa [Lv.okb] using this)
    · exact .bo (r.imp fun b hb => by have : Lv.bo.okb (C b) = true := hb; simpa [Lv.okb] using this)
    · exact .va (r.imp fun b hb => by have : Lv.vp.okb (C b) = true := hb; simpa [Lv.okb] using this)
    · exact .bo (r.imp fun b hb => by have : Lv.bp.okb (C b) = true := hb; simpa [Lv.okb] using this)
abbrev GS := Lv → D → Slots → Option Slots
abbrev GSs := Lv → List D → Slots → Option Slots
def tG (b : Bool) (K : PySem.W.Frag) (np : Fp) (is : List Nat) (st : GS) : TG := fun v σ H Q => ∃ L C ρ d ρ', Rel K np H C σ ρ ∧ RpB b K H (Cof C L) v d ∧ st L d ρ = some ρ' ∧ ∀ σ', Rel K np H C σ' ρ' → σ'.length = σ.length → (∀ k, k ∉ is → σ'[k]? = σ[k]?) → Q σ' H
def tGs (K : PySem.W.Frag) (np : Fp) (is : List Nat) (st : GSs) : TGs := fun v σ H Q => ∃ L C ρ d ρ', Rel K np H C σ ρ ∧ RpA K H (Cof C L) v d ∧ st L d ρ = some ρ' ∧ ∀ σ', Rel K np H C σ' ρ' → σ'.length = σ.length → (∀ k, k ∉ is → σ'[k]? = σ[k]?) → Q σ' H
abbrev DG (X : Cx) (np : Fp) (tg : Expr) (is : List Nat) (st : GS) : Prop := PG X tg (tG (isTupE tg) X.K np is st)
abbrev DGs (X : Cx) (np : Fp) (tg : List Expr) (is : List Nat) (st : GSs) : Prop := PGs X tg (tGs X.K np is st)
theorem PG.weak {tg : Expr} {t t' : TG} (h : PG X tg t) (w : ∀ v σ H Q, t' v σ H Q → t v σ H Q) : PG X tg t' := ⟨fun pins s σ H v u Q I r q => h.run pins s σ H v u Q I r (w v σ H Q q)⟩
theorem PGs.weak {tg : List Expr} {t t' : TGs} (h : PGs X tg t) (w : ∀ v σ H Q, t' v σ H Q → t v σ H Q) : PGs X tg t' := ⟨fun pins s σ H v u Q I r q => h.run pins s σ H v u Q I r (w v σ H Q q)⟩
def nmG (i : Nat) : GS := fun L d ρ => (itS L d).map fun s => ρ.set i s
theorem dg_name {i : Nat} {x : Str} (hN : X.N.Nodup) (hi : X.N[i]? = some x) (hx : Loc X.env.scope x) (hf : X.fn x = true ∨ X.env.scope.names.lookup x = some .local := by first | exact .inl rfl | exact .inr rfl | assumption) : DG X np (.Name x pos) [i] (nmG i) :=
  PG.weak (pg_name hN hi hx hf) fun v σ H Q ⟨L, C, ρ, d, ρ', R, r, e, q⟩ => by
    unfold nmG at e
    cases e2 : itS L d with
    | none => rw [e2] at e; cases e
    | some s =>
      rw [e2] at e; cases e
      exact q _ (R.set (itS_ok r.ff e2)) (List.length_set ..) fun k hk => List.getElem?_set_ne (fun z => hk (by simp [z]))
def nilG : GSs := fun _ ds ρ => match ds with | [] => some ρ | _ => none
def consG (g : GS) (gs : GSs) : GSs := fun L ds ρ => match ds with
  | d :: r => (g L d ρ).bind fun ρ1 => gs L r ρ1
  | [] => none
theorem dgs_nil : DGs X np [] [] nilG := PGs.weak pgs_nil fun v σ H Q ⟨L, C, ρ, d, ρ', R, r, e, q⟩ => by
  cases d with
  | nil => cases r; cases e; exact ⟨rfl, q σ R rfl fun _ _ => rfl⟩
  | cons _ _ => cases e
theorem dgs_cons {t : Expr} {ts : List Expr} {is js : List Nat} {g : GS} {gs : GSs} (h1 : DG X np t is g) (h2 : DGs X np ts js gs) (hs : (assignEach (t :: ts) X.env).map (·.2) = assign t X.env :: (assignEach ts X.env).map (·.2) := by rfl) : DGs X np (t :: ts) (is ++ js) (consG g gs) :=
  PGs.weak (pgs_cons h1 h2 hs) fun v σ H Q ⟨L, C, ρ, d, ρ', R, r, e, q⟩ => by
    cases d with
    | nil => cases e
    | cons d0 dr =>
      cases r with
      | cons r0 rr =>
        have e' : (g L d0 ρ).bind (fun ρ1 => gs L dr ρ1) = some ρ' := e
        cases e1 : g L d0 ρ with
        | none => rw [e1] at e'; cases e'
        | some ρ1 =>
          rw [e1] at e'
          refine ⟨_, _, rfl, L, C, ρ, d0, ρ1, R, .inl r0, e1, fun σ1 R1 l1 k1 => ⟨L, C, ρ1, dr, ρ', R1, rr, e', fun σ2 R2 l2 k2 => q σ2 R2 (l2.trans l1) fun k hk => ?_⟩⟩
          rw [List.mem_append, not_or] at hk
          rw [k2 k hk.2, k1 k hk.1]
def tuG (n : Nat) (gs : GSs) : GS := fun L d ρ => match d with
  | .tuple ds => if ds.length = n then gs L ds ρ else none
  | _ => none
theorem dg_tup {es : List Expr} {is : List Nat} {gs : GSs} {kk n : Nat} (hc : X.calm = true) (h : DGs X np es is gs) (hn : (assignEach es X.env).length = n := by rfl) (hst : (assignEach es X.env).findIdx? (·.1) = none := by rfl) : DG X np (.Tuple es kk pos) is (tuG n gs) :=
  PG.weak (pg_tup hc h hn hst) fun v σ H Q ⟨L, C, ρ, d, ρ', R, r, e, q⟩ => by
    cases d <;> simp only [tuG, reduceCtorEq] at e
    rename_i ds
    obtain ⟨a, us, rfl, ha, rr⟩ := r.tup
    by_cases hl : ds.length = n
    · rw [if_pos hl] at e
      exact ⟨a, us, rfl, ha, by rw [rr.len, hl], L, C, ρ, ds, ρ', R, rr, e, q⟩
    · rw [if_neg hl] at e; cases e
/-- t = e, t a tuple of names -/
def tgS (L : Lv) (g : GS) (fe : ES) : SS := fun ρ => (fe L ρ).to fun p => match g L p.1 p.2 with
  | some ρ' => .nx ρ'
  | none => .bad
theorem ds_tg (L : Lv) {t : Expr} {is : List Nat} {g : GS} (h : DE X np EW e fe) (hg : DG X np t is g) (hs : swapsWithSole [t] e pos.line X.env = pure false := by rfl) (hw : swappedStores [t] e X.env = pure none := by rfl) (h1 : (assignEach [t] X.env).map (·.2) = [assign t X.env] := by rfl) : DS X np EW (.Assign [t] e pos) (tgS L g fe) :=
  PS.weak (ps_asg h hg hs hw (h1 := h1)) fun Dn σ H ⟨C, ρ, R, h⟩ => toE_of R h fun p v H' C' A R' r q => by
    cases e : g L p.1 p.2 with
    | none => rw [e] at q; exact q.elim
    | some ρ' =>
      rw [e] at q
      exact ⟨L, C', p.2, p.1, ρ', R', .inl r, e, fun σ' R2 _ _ => q σ' H' C' .refl R2⟩

/-! ### for -/
def forF (L : Lv) (g : GS) (body : SS) : List D → Slots → Fl
  | [], ρ => .nx ρ
  | d :: ds, ρ => match g L d ρ with
    | none => .bad
    | some ρ1 => match body ρ1 with
      | .nx ρ2 => forF L g body ds ρ2
      | .ct ρ2 => forF L g body ds ρ2
      | .bk ρ2 => .nx ρ2
      | r => r
def forS (L : Lv) (src : AS) (g : GS) (body : SS) : SS := fun ρ => if L.pure then .bad else (src L ρ).to fun p => forF L g body p.1 p.2
theorem pst_for {K : PySem.W.Frag} {Dn : Ends} {H : Hp} {C : Col} {r : Fl} (h : pst K np EW Dn H C r) (N : L2.St → Hp → Prop) (k : Slots → Fl)
    (hk : ∀ ρ2, (r = .nx ρ2 ∨ r = .ct ρ2) → ∀ σ' H' C', Stp np H C H' C' → Rel K np H' C' σ' ρ2 → N σ' H') : pst K np EW { Dn with nx := N, ct := N, bk := Dn.nx } H C r ∨ ∃ ρ2, r = .bk ρ2 := by
  cases r with
  | bad => exact .inl h
  | nx ρ2 => exact .inl fun σ' H' C' S R => hk ρ2 (.inl rfl) σ' H' C' S R
  | ct ρ2 => exact .inl fun σ' H' C' S R => hk ρ2 (.inr rfl) σ' H' C' S R
  | bk ρ2 => exact .inr ⟨ρ2, rfl⟩
  | rt d ρ2 => exact .inl h
  | ex c => exact .inl h
theorem ds_for (L : Lv) {t : Expr} {is : List Nat} {g : GS} {src : AS} {body : List Stmt} {fb : SS} (hp : PassesOwn (model X.prog X.w) X.A X.env X.xe) (hc : X.calm = true) (hi : DI X np EW t e src) (hg : DG X np t is g) (hb : DSs X np EW body fb)
    (hs : ∀ x, foldedSetIterable e X.env x = pure x := by intro _; rfl) : DS X np EW (.For t e body [] pos) (forS L src g fb) :=
  PS.weak (ps_for hp hc hi hg hb hs) fun Dn σ H ⟨C, ρ, R, h⟩ => by
    unfold forS at h
    cases hL : L.pure with
    | true => rw [hL, if_pos rfl] at h; exact h.elim
    | false =>
      rw [hL, if_neg Bool.false_ne_true] at h
      refine ⟨L, C, ρ, R, ?_⟩
      cases e1 : src L ρ with
      | bad => rw [e1] at h; exact h.elim
      | ex c => rw [e1] at h; exact h
      | ok p =>
        rw [e1] at h
        intro J H1 C1 A1 R1 ok
        have h1 : pst X.K np EW Dn H1 C1 (forF L g fb p.1 p.2) := pst_stp h A1.stp
        have aft : ∀ {H C ρ}, Stp np H1 C1 H C → Aft np L ρ H1 C1 ρ H C := fun S => ⟨S, fun z => by rw [hL] at z; cases z⟩
        refine ⟨fun i m σ2 H2 => ∃ C2 ρ2, m = p.1.length - i ∧ i ≤ p.1.length ∧ Stp np H1 C1 H2 C2 ∧ Rel X.K np H2 C2 σ2 ρ2 ∧ pst X.K np EW Dn H2 C2 (forF L g fb (p.1.drop i) ρ2), ⟨_, C1, p.2, rfl, Nat.zero_le _, .refl, R1, by rw [List.drop_zero]; exact h1⟩, ?_⟩
        rintro i m σ2 H2 ⟨C2, ρ2, rfl, hi', S2, R2, q2⟩
        by_cases hlt : i < p.1.length
        · obtain ⟨d, hd⟩ : ∃ d, p.1[i]? = some d := ⟨p.1[i], by simp [hlt]⟩
          have hdrop : p.1.drop i = d :: p.1.drop (i + 1) := by
            rw [List.drop_eq_getElem_cons hlt]
            congr 1
            rw [List.getElem?_eq_getElem hlt] at hd
            exact Option.some.inj hd
          rw [hdrop] at q2
          refine .inr ⟨ok.go i H2 C2 ρ2 (aft S2) hlt, fun σ3 H3 => ∃ C3 ρ3, Stp np H1 C1 H3 C3 ∧ Rel X.K np H3 C3 σ3 ρ3 ∧ pst X.K np EW Dn H3 C3 (forF L g fb (p.1.drop (i + 1)) ρ3), fun σ3 H3 ⟨C3, ρ3, a, b, c⟩ => ⟨p.1.length - (i + 1), by omega, C3, ρ3, rfl, hlt, a, b, c⟩, fun x H3 hy => ?_⟩
          obtain ⟨S3, _, rx⟩ := ok.yld i H2 C2 ρ2 x H3 d (aft S2) hd hy
          have q3 := pst_stp q2 S3.stp
          rw [forF] at q3
          cases eg : g L d ρ2 with
          | none => simp only [eg] at q3; exact q3.elim
          | some ρ3 =>
            simp only [eg] at q3
            refine ⟨L, C2, ρ2, d, ρ3, R2.pstp S3, rx, eg, fun σ4 R4 _ _ => ?_⟩
            refine ⟨C2, ρ3, R4, ?_⟩
            cases eb : fb ρ3 with
            | bad => simp only [eb] at q3; exact q3.elim
            | nx ρ4 => simp only [eb] at q3; exact fun σ' H' C' S R' => ⟨C', ρ4, (S2.trans S3.stp).trans S, R', pst_stp q3 S⟩
            | ct ρ4 => simp only [eb] at q3; exact fun σ' H' C' S R' => ⟨C', ρ4, (S2.trans S3.stp).trans S, R', pst_stp q3 S⟩
            | bk ρ4 => simp only [eb] at q3; exact fun σ' H' C' S R' => q3 σ' H' C' S R'
            | rt d ρ4 => simp only [eb] at q3; exact q3
            | ex c => simp only [eb] at q3; exact q3
        · have e : i = p.1.length := by omega
          subst e
          rw [List.drop_length, forF] at q2
          exact .inl ⟨ok.stop H2 C2 ρ2 (aft S2), q2 σ2 H2 C2 .refl R2⟩
/-! ### while, with fuel -/
def whF (L : Lv) (c : BS) (body : SS) : Nat → Slots → Fl
  | 0, _ => .bad
  | n + 1, ρ => (c L ρ).to fun p => if p.1 then (match body p.2 with
      | .nx ρ2 => whF L c body n ρ2
      | .ct ρ2 => whF L c body n ρ2
      | .bk ρ2 => .nx ρ2
      | r => r) else .nx p.2
theorem ds_while (L : Lv) (n : Nat) {c : Expr} {fc : BS} {body : List Stmt} {fb : SS} (hp : PassesOwn (model X.prog X.w) X.A X.env X.xe) (hc : DT X np EW c fc) (hb : DSs X np EW body fb) : DS X np EW (.While c body [] pos) (whF L fc fb n) :=
  PS.weak (ps_while hp hc hb) fun Dn σ H ⟨C, ρ, R, h⟩ => by
    refine ⟨fun m σ2 H2 => ∃ C2 ρ2, Rel X.K np H2 C2 σ2 ρ2 ∧ pst X.K np EW Dn H2 C2 (whF L fc fb m ρ2), ⟨n, C, ρ, R, h⟩, ?_⟩
    rintro m σ2 H2 ⟨C2, ρ2, R2, q2⟩
    cases m with
    | zero => exact q2.elim
    | succ m =>
      rw [whF] at q2
      refine toT_of R2 q2 fun p H' C' A R' q => ?_
      cases e : p.1 with
      | false => rw [e] at q; exact iteF (q σ2 H' C' .refl R')
      | true =>
        rw [e] at q
        refine iteT ⟨fun σ3 H3 => ∃ C3 ρ3, Rel X.K np H3 C3 σ3 ρ3 ∧ pst X.K np EW Dn H3 C3 (whF L fc fb m ρ3), fun σ3 H3 ⟨C3, ρ3, a, b⟩ => ⟨m, Nat.lt_succ_self _, C3, ρ3, a, b⟩, C', p.2, R', ?_⟩
        cases eb : fb p.2 with
        | bad => simp only [eb] at q; exact q.elim
        | nx ρ4 => simp only [eb] at q; exact fun σ' H' C' S R' => ⟨C', ρ4, R', pst_stp q S⟩
        | ct ρ4 => simp only [eb] at q; exact fun σ' H' C' S R' => ⟨C', ρ4, R', pst_stp q S⟩
        | bk ρ4 => simp only [eb] at q; exact fun σ' H' C' S R' => q σ' H' C' S R'
        | rt d ρ4 => simp only [eb] at q; exact q
        | ex c => simp only [eb] at q; exact q
end
end
end Dm

namespace Dm
noncomputable section
open PySem PySem.Spec PyProof.Rows L2

/-! ### comprehensions -/
def wiS (ρ : Slots) : List Nat → Slots
  | [] => ρ
  | v :: vs => (wiS ρ vs).set v .no
def reS (ρ0 ρ : Slots) : List Nat → Slots
  | [] => ρ
  | v :: vs => (reS ρ0 ρ vs).set v (ρ0.getD v .no)
def okO (ρ : Slots) (own : List Nat) : Bool := own.all fun i => match ρ[i]? with
  | some (.ow _) => false
  | some (.un _) => false
  | some (.sc _) => false
  | some (.ob _ _) => false
  | some (.dc _) => false
  | some (.ex _) => false
  | some (.tw _ _) => false
  | _ => true
theorem wiS_len (ρ : Slots) : ∀ vs, (wiS ρ vs).length = ρ.length
  | [] => rfl
  | v :: vs => by rw [wiS, List.length_set, wiS_len ρ vs]
theorem wiS_get {ρ : Slots} {i : Nat} {s : Sl} : ∀ {vs : List Nat}, (wiS ρ vs)[i]? = some s → (i ∈ vs ∧ s = .no) ∨ (i ∉ vs ∧ ρ[i]? = some s)
  | [], h => .inr ⟨by simp, h⟩
  | v :: vs, h => by
    rw [wiS] at h
    by_cases e : i = v
    · subst e
      by_cases hl : i < (wiS ρ vs).length
      · rw [List.getElem?_set_self hl] at h; cases h; exact .inl ⟨by simp, rfl⟩
      · rw [List.getElem?_eq_none (by simpa using hl)] at h; cases h
    · rw [List.getElem?_set_ne (Ne.symm e)] at h
      rcases wiS_get h with ⟨a, b⟩ | ⟨a, b⟩
      · exact .inl ⟨by simp [a], b⟩
      · exact .inr ⟨by simp [a, e], b⟩
theorem reS_len (ρ0 ρ : Slots) : ∀ vs, (reS ρ0 ρ vs).length = ρ.length
  | [] => rfl
  | v :: vs => by rw [reS, List.length_set, reS_len ρ0 ρ vs]
theorem reS_get {ρ0 ρ : Slots} {i : Nat} {s : Sl} : ∀ {vs : List Nat}, (reS ρ0 ρ vs)[i]? = some s → (i ∈ vs ∧ s = ρ0.getD i .no) ∨ (i ∉ vs ∧ ρ[i]? = some s)
  | [], h => .inr ⟨by simp, h⟩
  | v :: vs, h => by
    rw [reS] at h
    by_cases e : i = v
    · subst e
      by_cases hl : i < (reS ρ0 ρ vs).length
      · rw [List.getElem?_set_self hl] at h; cases h; exact .inl ⟨by simp, rfl⟩
      · rw [List.getElem?_eq_none (by simpa using hl)] at h; cases h
    · rw [List.getElem?_set_ne (Ne.symm e)] at h
      rcases reS_get h with ⟨a, b⟩ | ⟨a, b⟩
      · exact .inl ⟨by simp [a], b⟩
      · exact .inr ⟨by simp [a, e], b⟩
theorem reS_wiS (ρ : Slots) (vs : List Nat) : reS ρ (wiS ρ vs) vs = ρ := by
  apply List.ext_getElem?
  intro i
  by_cases hl : i < ρ.length
  · have h1 : i < (reS ρ (wiS ρ vs) vs).length := by rw [reS_len, wiS_len]; exact hl
    obtain ⟨s, hs⟩ : ∃ s, (reS ρ (wiS ρ vs) vs)[i]? = some s := ⟨_, List.getElem?_eq_getElem h1⟩
    rw [hs]
    rcases reS_get hs with ⟨a, b⟩ | ⟨a, b⟩
    · rw [b, List.getD_eq_getElem?_getD, List.getElem?_eq_getElem hl]; rfl
    · rcases wiS_get b with ⟨c, _⟩ | ⟨_, c⟩
      · exact absurd c a
      · exact c.symm
  · rw [List.getElem?_eq_none (by rw [reS_len, wiS_len]; omega), List.getElem?_eq_none (by omega)]
theorem wiS_eq {ρ ρ' : Slots} {vs : List Nat} (hl : ρ'.length = ρ.length) (h : ∀ k, k ∉ vs → ρ'[k]? = ρ[k]?) : wiS ρ' vs = wiS ρ vs := by
  apply List.ext_getElem?
  intro i
  by_cases hi : i < ρ.length
  · obtain ⟨s, hs⟩ : ∃ s, (wiS ρ' vs)[i]? = some s := ⟨_, List.getElem?_eq_getElem (by rw [wiS_len, hl]; exact hi)⟩
    obtain ⟨t, ht⟩ : ∃ s, (wiS ρ vs)[i]? = some s := ⟨_, List.getElem?_eq_getElem (by rw [wiS_len]; exact hi)⟩
    rw [hs, ht]
    rcases wiS_get hs with ⟨a, b⟩ | ⟨a, b⟩
    · rcases wiS_get ht with ⟨_, d⟩ | ⟨c, _⟩
      · rw [b, d]
      · exact absurd a c
    · rcases wiS_get ht with ⟨c, _⟩ | ⟨_, d⟩
      · exact absurd c a
      · rw [← b, ← d]; exact h i a
  · rw [List.getElem?_eq_none (by rw [wiS_len, hl]; omega), List.getElem?_eq_none (by rw [wiS_len]; omega)]
theorem wipe_get {σ : L2.St} {i : Nat} {s : Option V} : ∀ {vs : List Nat}, (wipe σ vs)[i]? = some s → (i ∈ vs ∧ s = none) ∨ (i ∉ vs ∧ σ[i]? = some s)
  | [], h => .inr ⟨by simp, h⟩
  | v :: vs, h => by
    unfold wipe at h
    by_cases e : i = v
    · subst e
      by_cases hl : i < (wipe σ vs).length
      · rw [List.getElem?_set_self hl] at h; cases h; exact .inl ⟨by simp, rfl⟩
      · rw [List.getElem?_eq_none (by simpa using hl)] at h; cases h
    · rw [List.getElem?_set_ne (Ne.symm e)] at h
      rcases wipe_get h with ⟨a, b⟩ | ⟨a, b⟩
      · exact .inl ⟨by simp [a], b⟩
      · exact .inr ⟨by simp [a, e], b⟩
theorem wipe_off {σ : L2.St} {i : Nat} {vs : List Nat} (h : i ∉ vs) : (wipe σ vs)[i]? = σ[i]? := by
  by_cases hl : i < σ.length
  · obtain ⟨s, hs⟩ : ∃ s, (wipe σ vs)[i]? = some s := ⟨_, List.getElem?_eq_getElem (by rw [wipe_length]; exact hl)⟩
    rw [hs]
    rcases wipe_get hs with ⟨a, _⟩ | ⟨_, b⟩
    · exact absurd a h
    · exact b.symm
  · rw [List.getElem?_eq_none (by rw [wipe_length]; omega), List.getElem?_eq_none (by omega)]
theorem wipe_eq {σ σ' : L2.St} {vs : List Nat} (hl : σ'.length = σ.length) (h : ∀ k, k ∉ vs → σ'[k]? = σ[k]?) : wipe σ' vs = wipe σ vs := by
  apply List.ext_getElem?
  intro i
  by_cases hv : i ∈ vs
  · by_cases hi : i < σ.length
    · obtain ⟨s, hs⟩ : ∃ s, (wipe σ' vs)[i]? = some s := ⟨_, List.getElem?_eq_getElem (by rw [wipe_length, hl]; exact hi)⟩
      obtain ⟨t, ht⟩ : ∃ s, (wipe σ vs)[i]? = some s := ⟨_, List.getElem?_eq_getElem (by rw [wipe_length]; exact hi)⟩
      rw [hs, ht]
      rcases wipe_get hs with ⟨_, b⟩ | ⟨a, _⟩
      · rcases wipe_get ht with ⟨_, d⟩ | ⟨c, _⟩
        · rw [b, d]
        · exact absurd hv c
      · exact absurd hv a
    · rw [List.getElem?_eq_none (by rw [wipe_length, hl]; omega), List.getElem?_eq_none (by rw [wipe_length]; omega)]
  · rw [wipe_off hv, wipe_off hv, h i hv]
theorem rel_wipe {K : PySem.W.Frag} {np : Fp} {H : Hp} {C : Col} {σ : L2.St} {ρ : Slots} (R : Rel K np H C σ ρ) (vs : List Nat) : Rel K np H C (wipe σ vs) (wiS ρ vs) :=
  ⟨by rw [wipe_length, wiS_len, R.len], fun i s e => by
    rcases wiS_get e with ⟨_, b⟩ | ⟨a, b⟩
    · rw [b]; exact .no
    · rw [wipe_off a]; exact R.get i s b⟩
/-- lists of another colour than c are where they were -/
theorem SlotR.offc {K : PySem.W.Frag} {np : Fp} {H H' : Hp} {C : Col} {i c : Nat} {o : Option (Option V)} {s : Sl} (h2 : 2 ≤ c) (hc : c ≠ i + 3) (hl : ∀ b xs, C b ≠ c → H b = some xs → H' b = some xs)
    (hi : ∀ b o, H b = some o → Imm o → H' b = some o) (r : SlotR K np H C i o s) : SlotR K np H' C i o s := by
  have mv : ∀ {Pc : Nat → Prop} {v : V} {d : D}, (∀ k, Pc k → k ≠ c) → Rp K H (fun b => Pc (C b)) v d → Rp K H' (fun b => Pc (C b)) v d := fun {Pc v d} hp r => r.move (fun b xs p h => ⟨hl b _ (hp _ p) h, p⟩) hi
  have mvA : ∀ {Pc : Nat → Prop} {v : List V} {d : List D}, (∀ k, Pc k → k ≠ c) → RpA K H (fun b => Pc (C b)) v d → RpA K H' (fun b => Pc (C b)) v d := fun {Pc v d} hp r => r.move (fun b xs p h => ⟨hl b _ (hp _ p) h, p⟩) hi
  cases r with
  | no => exact .no
  | va r => exact .va (mv (Pc := fun k => k = 0) (fun k h => by omega) r)
  | bo r => exact .bo (mv (Pc := fun k => k ≤ 1) (fun k h => by omega) r)
  | @ow a _ _ h c' r pn => exact .ow (hl _ _ (by rw [c']; exact fun z => hc z.symm) h) c' (mvA (Pc := fun k => k = 0) (fun k h => by omega) r) pn
  | un r => exact .un (mv (Pc := fun k => k = i + 3) (fun k h => by omega) r)
  | sc h => exact .sc (h.elim (fun ⟨o, h⟩ => .inl ⟨o, hi _ _ h trivial⟩) .inr)
  | @ob a _ _ _ _ _ h c' n r pn => exact .ob (hl _ _ (by rw [c']; exact fun z => hc z.symm) h) c' n (r.move (fun b xs e h => ⟨hl b _ (by omega) h, e⟩) hi) pn
  | @dc a _ _ h c' r pn => exact .dc (hl _ _ (by rw [c']; exact fun z => hc z.symm) h) c' (r.move hi) pn
  | ex h n r => exact .ex (hi _ _ h trivial) n (r.move hi)
  | tw ht ha hb n ca cb x y r q => exact .tw (ht.keep hi) (hl _ _ (by rw [ca]; exact fun z => hc z.symm) ha) (hl _ _ (by rw [cb]; exact fun z => hc z.symm) hb) n ca cb x y (r.move (fun _ _ p => p.elim) hi) (q.move (fun _ _ p => p.elim) hi)

def compF (ks L : Lv) (own : List Nat) (g : GS) (c : BS) (el : ES) : List D → Slots → Re (List D × Slots)
  | [], ρ => .ok ([], ρ)
  | d :: ds, ρ => match g ks d ρ with
    | none => .bad
    | some ρ1 => (c L ρ1).bind fun p => if p.1 then (el L p.2).bind fun q => if !L.okb 2 || noL q.1 then (compF ks L own g c el ds (wiS q.2 own)).bind fun r => .ok (q.1 :: r.1, r.2) else .bad
      else compF ks L own g c el ds (wiS p.2 own)
def noEx {α : Type} : Re α → Re α
  | .ex _ => .bad
  | r => r
@[simp] theorem noEx_ok {α : Type} (a : α) : noEx (.ok a) = .ok a := Eq.trans rfl rfl
theorem wp_noEx {α : Type} {r : Re α} {Q : α → Prop} {E : Exn → Prop} (h : wp (noEx r) Q E) : wp r Q (fun _ => False) := by
  cases r with
  | bad => exact h
  | ok a => exact h
  | ex c => exact h.elim
def lcA (ks : Lv) (own : List Nat) (src : AS) (g : GS) (c : BS) (el : ES) : AS := fun L ρ => if ks.pure == L.pure then (src ks ρ).bind fun p => if okO p.2 own then
    (noEx (compF ks L own g c el p.1 (wiS p.2 own))).bind fun r => if r.1.length ≤ sizeLine then .ok (r.1, reS p.2 r.2 own) else .bad else .bad else .bad
def noX : XW := fun _ _ => False
/-- the heap without the list at t -/
def hidH (H : Hp) (t : Addr) : Hp := fun b => if b = t then none else H b
theorem hidH_same {H : Hp} {t : Addr} : hidH H t t = none := if_pos rfl
theorem hidH_ne {H : Hp} {t b : Addr} (h : b ≠ t) : hidH H t b = H b := if_neg h
theorem hidH_upd {H : Hp} {t : Addr} {o : HO} (h : H t = some o) : upd (hidH H t) t o = H := by
  funext b
  by_cases e : b = t
  · subst e; rw [upd_same, h]
  · rw [upd_ne e, hidH_ne e]
/-- a target changes these slots alone -/
def GOff (is : List Nat) (g : GS) : Prop := ∀ L d ρ ρ', g L d ρ = some ρ' → ρ'.length = ρ.length ∧ ∀ k, k ∉ is → ρ'[k]? = ρ[k]?
def GsOff (is : List Nat) (g : GSs) : Prop := ∀ L d ρ ρ', g L d ρ = some ρ' → ρ'.length = ρ.length ∧ ∀ k, k ∉ is → ρ'[k]? = ρ[k]?
theorem off_nm (i : Nat) : GOff [i] (nmG i) := fun L d ρ ρ' h => by
  unfold nmG at h
  cases e : itS L d with
  | none => rw [e] at h; cases h
  | some s => rw [e] at h; cases h; exact ⟨List.length_set .., fun k hk => List.getElem?_set_ne fun z => hk (by simp [z])⟩
theorem off_nil : GsOff [] nilG := fun L d ρ ρ' h => by
  cases d with
  | nil => cases h; exact ⟨rfl, fun _ _ => rfl⟩
  | cons _ _ => cases h
theorem off_cons {is js : List Nat} {g : GS} {gs : GSs} (h1 : GOff is g) (h2 : GsOff js gs) : GsOff (is ++ js) (consG g gs) := fun L d ρ ρ' h => by
  cases d with
  | nil => cases h
  | cons d r =>
    have h' : (g L d ρ).bind (fun ρ1 => gs L r ρ1) = some ρ' := h
    cases e : g L d ρ with
    | none => rw [e] at h'; cases h'
    | some ρ1 =>
      rw [e] at h'
      obtain ⟨a, b⟩ := h1 _ _ _ _ e
      obtain ⟨a2, b2⟩ := h2 _ _ _ _ h'
      refine ⟨a2.trans a, fun k hk => ?_⟩
      rw [List.mem_append, not_or] at hk
      rw [b2 k hk.2, b k hk.1]
theorem off_tup {n : Nat} {is : List Nat} {gs : GSs} (h : GsOff is gs) : GOff is (tuG n gs) := fun L d ρ ρ' e => by
  cases d <;> simp only [tuG, reduceCtorEq] at e
  rename_i ds
  by_cases hl : ds.length = n
  · rw [if_pos hl] at e; exact h _ _ _ _ e
  · rw [if_neg hl] at e; cases e
theorem lc_main {bb : Bool} {K : PySem.W.Frag} {np : Fp} {EW : XW} {ks : Lv} {own is : List Nat} {src : AS} {g : GS} {c : BS} {el : ES} (hsub : ∀ i ∈ is, i ∈ own) (hoff : GOff is g) {σ : L2.St} {H : Hp} {Q : VK} (h : tN K np EW (lcA ks own src g c el) σ H Q) :
    tLc (tI bb K np EW src) (tG bb K np is g) (tT K np noX c) (tE K np noX el) own σ H Q := by
  obtain ⟨L, C, ρ, R, h⟩ := h
  unfold lcA at h
  by_cases hks : (ks.pure == L.pure) = true
  · rw [if_pos hks] at h
    have hpe : ks.pure = L.pure := by simpa using hks
    refine ⟨ks, C, ρ, R, wp_mono (wp_bind.mp h) (fun p _ hp J H1 C1 A1 R1 ok => ?_) fun _ z => z⟩
    by_cases ho : okO p.2 own = true
    · rw [if_pos ho] at hp
      have A1' : Aft np L ρ H C p.2 H1 C1 := ⟨A1.stp, fun z => A1.pu (by rw [hpe]; exact z)⟩
      intro T hT
      -- from H1 on
      have aft : ∀ {H2 C2 ρ2}, Stp np H1 C1 H2 C2 → (L.pure = true → PStp H1 C1 H2 C2) → Aft np ks ρ2 H1 C1 ρ2 H2 C2 := fun S P => ⟨S, fun z => ⟨rfl, P (by rw [← hpe]; exact z)⟩⟩
      refine ⟨fun i m H2 => ∃ C2 ρ2 acc dacc, m = p.1.length - i ∧ i ≤ p.1.length ∧ H2 T = some (.lst acc) ∧ C2 T = 2 ∧ Stp np H1 C1 H2 C2 ∧ (L.pure = true → PStp H1 C1 H2 C2 ∧ ρ2 = wiS p.2 own) ∧ Rel K np H2 C2 (wipe σ own) ρ2 ∧
          RpA K H2 (fun b => Cof C2 L b ∧ b ≠ T) acc dacc ∧ wp (compF ks L own g c el (p.1.drop i) ρ2) (fun r => (dacc ++ r.1).length ≤ sizeLine ∧ ∀ t vs H' C', Aft np L ρ H C (reS p.2 r.2 own) H' C' → Rel K np H' C' σ (reS p.2 r.2 own) → H' t = none → RpA K H' (Cof C' L) vs (dacc ++ r.1) → Q (.ref t) (upd H' t (.lst vs))) (fun _ => False), ?_, ?_⟩
      · have S0 := pstp_new (C := C1) (o := .lst []) (n := 2) hT
        refine ⟨_, setC C1 T 2, wiS p.2 own, [], [], rfl, Nat.zero_le _, upd_same, setC_same, S0.stp, fun _ => ⟨S0, rfl⟩, rel_wipe (R1.pstp S0) own, .nil, ?_⟩
        rw [List.drop_zero]
        refine wp_mono (wp_noEx (wp_bind.mp hp)) (fun r _ hr => ?_) fun _ z => z
        by_cases hz : r.1.length ≤ sizeLine
        · rw [if_pos hz] at hr
          exact ⟨hz, hr⟩
        · rw [if_neg hz] at hr; exact hr.elim
      · rintro i m H2 ⟨C2, ρ2, acc, dacc, rfl, hi, hD, hC, S2, P2, R2, ra, hw⟩
        have imm_ne : ∀ {H3 : Hp} {us : List V}, H3 T = some (.lst us) → ∀ {b : Addr} {o : HO}, H3 b = some o → Imm o → b ≠ T := fun {H3 us} ht {b o} h im z => by subst z; rw [ht] at h; cases h; exact im
        by_cases hlt : i < p.1.length
        · refine .inr ⟨ok.go i H2 C2 ρ2 (aft S2 fun z => (P2 z).1) hlt, fun H5 => ∃ C5 ρ5 acc5 dacc5, H5 T = some (.lst acc5) ∧ C5 T = 2 ∧ Stp np H1 C1 H5 C5 ∧ (L.pure = true → PStp H1 C1 H5 C5 ∧ ρ5 = wiS p.2 own) ∧ Rel K np H5 C5 (wipe σ own) ρ5 ∧
            RpA K H5 (fun b => Cof C5 L b ∧ b ≠ T) acc5 dacc5 ∧ wp (compF ks L own g c el (p.1.drop (i + 1)) ρ5) (fun r => (dacc5 ++ r.1).length ≤ sizeLine ∧ ∀ t vs H' C', Aft np L ρ H C (reS p.2 r.2 own) H' C' → Rel K np H' C' σ (reS p.2 r.2 own) → H' t = none → RpA K H' (Cof C' L) vs (dacc5 ++ r.1) → Q (.ref t) (upd H' t (.lst vs))) (fun _ => False),
            fun H5 ⟨C5, ρ5, acc5, dacc5, a1, a2, a3, a4, a5, a6, a7⟩ => ⟨p.1.length - (i + 1), by omega, C5, ρ5, acc5, dacc5, rfl, hlt, a1, a2, a3, a4, a5, a6, a7⟩, fun x H3 hy => ?_⟩
          obtain ⟨d, hd⟩ : ∃ d, p.1[i]? = some d := ⟨p.1[i], by simp [hlt]⟩
          have hdrop : p.1.drop i = d :: p.1.drop (i + 1) := by
            rw [List.drop_eq_getElem_cons hlt]
            congr 1
            rw [List.getElem?_eq_getElem hlt] at hd
            exact Option.some.inj hd
          rw [hdrop, compF] at hw
          obtain ⟨S3, _, rx⟩ := ok.yld i H2 C2 ρ2 x H3 d (aft S2 fun z => (P2 z).1) hd hy
          have hD3 := S3.same T _ hD
          have ra3 := ra.move (H' := H3) (P' := fun b => Cof C2 L b ∧ b ≠ T) (fun b xs pb h => ⟨S3.same b _ h, pb⟩) fun b o h _ => S3.same b o h
          have S13 : Stp np H1 C1 H3 C2 := S2.trans S3.stp
          have P13 : L.pure = true → PStp H1 C1 H3 C2 ∧ ρ2 = wiS p.2 own := fun z => ⟨(P2 z).1.trans S3, (P2 z).2⟩
          cases eg : g ks d ρ2 with
          | none => simp only [eg] at hw; exact hw.elim
          | some ρ3 =>
            simp only [eg] at hw
            refine ⟨ks, C2, ρ2, d, ρ3, R2.pstp S3, rx, eg, fun σ4 R4 l4 k4 => ?_⟩
            have hlr : ρ3.length = ρ2.length := by rw [← R4.len, l4, ← R2.len]
            have hwe : wipe σ4 own = wipe σ own := by
              have h1 := wipe_eq (σ := wipe σ own) (σ' := σ4) (vs := own) l4 fun k hk => k4 k fun z => hk (hsub k z)
              rw [h1]
              exact wipe_eq (wipe_length σ own) fun k hk => wipe_off hk
            have pur3 : L.pure = true → wiS ρ3 own = wiS p.2 own := fun z => by
              obtain ⟨o1, o2⟩ := hoff _ _ _ _ eg
              have h1 := wiS_eq (ρ := ρ2) (ρ' := ρ3) (vs := own) o1 fun k hk => o2 k fun z => hk (hsub k z)
              rw [h1, (P2 z).2]
              refine wiS_eq (wiS_len _ _) fun k hk => ?_
              by_cases hl : k < p.2.length
              · obtain ⟨s, hs⟩ : ∃ s, (wiS p.2 own)[k]? = some s := ⟨_, List.getElem?_eq_getElem (by rw [wiS_len]; exact hl)⟩
                rw [hs]
                rcases wiS_get hs with ⟨a, _⟩ | ⟨_, b⟩
                · exact absurd a hk
                · exact b.symm
              · rw [List.getElem?_eq_none (by rw [wiS_len]; omega), List.getElem?_eq_none (by omega)]
            refine ⟨hwe, L, C2, ρ3, R4, wp_mono (wp_bind.mp hw) (fun q _ hq H4 C4 A4 R4' => ?_) fun _ z => z.elim⟩
            have hD4 : H4 T = some (.lst acc) := A4.stp.keep T _ hD3 (.inl (by rw [hC]; exact Nat.le_refl _))
            have hC4 : C4 T = 2 := by rw [A4.stp.colo T (by rw [hD3]; simp) (by rw [hC]; omega)]; exact hC
            have mv : ∀ {ρa ρb : Slots} {Ha Hb : Hp} {Ca Cb : Col} {us : List V} {es : List D}, Aft np L ρa Ha Ca ρb Hb Cb → RpA K Ha (fun b => Cof Ca L b ∧ b ≠ T) us es → RpA K Hb (fun b => Cof Cb L b ∧ b ≠ T) us es := fun A r =>
              r.move (fun b xs pb h => ⟨(A.moves.1 b xs pb.1 h).1, (A.moves.1 b xs pb.1 h).2, pb.2⟩) A.moves.2
            cases eq1 : q.1 with
            | false =>
              rw [eq1] at hq
              refine iteF ⟨C4, wiS q.2 own, acc, dacc, hD4, hC4, S13.trans A4.stp, fun z => ⟨(P13 z).1.trans (A4.pu z).2, by rw [(A4.pu z).1]; exact pur3 z⟩, ?_, mv A4 ra3, hq⟩
              have := rel_wipe R4' own
              rw [hwe] at this; exact this
            | true =>
              rw [eq1] at hq
              refine iteT ⟨L, C4, q.2, R4', wp_mono (wp_bind.mp hq) (fun w _ hw2 y H6 C6 A6 R6 ry => ?_) fun _ z => z.elim⟩
              have hD6 : H6 T = some (.lst acc) := A6.stp.keep T _ hD4 (.inl (by rw [hC4]; exact Nat.le_refl _))
              have hC6 : C6 T = 2 := by rw [A6.stp.colo T (by rw [hD4]; simp) (by rw [hC4]; omega)]; exact hC4
              have ra6 := mv A6 (mv A4 ra3)
              by_cases hn : (!L.okb 2 || noL w.1) = true
              · rw [if_pos hn] at hw2
                have ry6 : Rp K H6 (fun b => Cof C6 L b ∧ b ≠ T) y w.1 := by
                  rw [Bool.or_eq_true] at hn
                  rcases hn with hn | hn
                  · refine ry.imp fun b hb => ⟨hb, fun z => ?_⟩
                    subst z
                    have hb' : L.okb (C6 b) = true := hb
                    rw [hC6] at hb'
                    rw [hb'] at hn; cases hn
                  · exact ry.free hn
                have ne_new : ∀ b, H1 b ≠ none → b ≠ T := fun b hb z => by subst z; exact hb hT
                have S16 := (S13.trans A4.stp).trans A6.stp
                have hsz : acc.length < sizeLine := by
                  have h3 := wp_bind.mp hw2
                  have hl := ra6.len
                  cases e5 : compF ks L own g c el (p.1.drop (i + 1)) (wiS w.2 own) with
                  | bad => rw [e5] at h3; exact h3.elim
                  | ex _ => rw [e5] at h3; exact h3.elim
                  | ok r5 =>
                    rw [e5] at h3
                    have h4 : (dacc ++ (w.1 :: r5.1)).length ≤ sizeLine := h3.1
                    rw [List.length_append, List.length_cons] at h4
                    omega
                refine ⟨acc, hD6, hsz, C6, wiS w.2 own, acc ++ [y], dacc ++ [w.1], upd_same, hC6, ⟨fun b x h k => ?_, fun b h => ?_, S16.colo, S16.colh⟩, fun z => ⟨⟨fun b x h => ?_, fun b h => ?_⟩, ?_⟩, ?_, ?_, ?_⟩
                · rw [upd_ne (ne_new b (by rw [h]; simp))]; exact S16.keep b x h k
                · rw [upd_ne (ne_new b h)]; exact S16.there b h
                · rw [upd_ne (ne_new b (by rw [h]; simp))]
                  exact (((P13 z).1.trans (A4.pu z).2).trans (A6.pu z).2).same b x h
                · exact (((P13 z).1.trans (A4.pu z).2).trans (A6.pu z).2).col b h
                · rw [(A6.pu z).1, (A4.pu z).1]; exact pur3 z
                · have h7 := rel_wipe R6 own
                  rw [hwe] at h7
                  exact ⟨h7.len, fun j s es => (h7.get j s es).offc (Nat.le_refl 2) (by omega) (fun b xs hb h => by rw [upd_ne (fun z => by subst z; exact hb hC6)]; exact h) fun b o h im => by rw [upd_ne (imm_ne hD6 h im)]; exact h⟩
                · have := ra6.app (.cons ry6 .nil)
                  exact this.move (fun b xs pb h => ⟨by rw [upd_ne pb.2]; exact h, pb⟩) fun b o h im => by rw [upd_ne (imm_ne hD6 h im)]; exact h
                · refine wp_mono (wp_bind.mp hw2) (fun r _ hr => ?_) fun _ z => z
                  have e9 : dacc ++ [w.1] ++ r.1 = dacc ++ (w.1 :: r.1) := by simp
                  rw [e9]; exact hr
              · rw [if_neg hn] at hw2; exact hw2.elim
        · have e : i = p.1.length := by omega
          subst e
          rw [List.drop_length, compF] at hw
          refine .inl ⟨ok.stop H2 C2 ρ2 (aft S2 fun z => (P2 z).1), ?_⟩
          have hq := hw.2 T acc (hidH H2 T) C2 ?_ ?_ hidH_same ?_
          · rw [hidH_upd hD] at hq; exact hq
          · have ne_new : ∀ b, H1 b ≠ none → b ≠ T := fun b hb z => by subst z; exact hb hT
            refine ⟨A1'.stp.trans ⟨fun b x h k => ?_, fun b h => ?_, S2.colo, S2.colh⟩, fun z => ?_⟩
            · rw [hidH_ne (ne_new b (by rw [h]; simp))]; exact S2.keep b x h k
            · rw [hidH_ne (ne_new b h)]; exact S2.there b h
            · refine ⟨?_, (A1'.pu z).2.trans ⟨fun b x h => ?_, fun b h => ?_⟩⟩
              · show reS p.2 ρ2 own = ρ
                rw [(P2 z).2, reS_wiS]; exact (A1'.pu z).1
              · rw [hidH_ne (ne_new b (by rw [h]; simp))]; exact (P2 z).1.same b x h
              · exact (P2 z).1.col b h
          · have hlen : p.2.length = ρ2.length := by rw [← R1.len, ← R2.len, wipe_length]
            refine ⟨by rw [reS_len, ← hlen]; exact R1.len, fun j s es => ?_⟩
            rcases reS_get es with ⟨a, b⟩ | ⟨a, b⟩
            · subst b
              by_cases hj : j < p.2.length
              · have e5 : p.2[j]? = some (p.2.getD j .no) := by rw [List.getD_eq_getElem?_getD, List.getElem?_eq_getElem hj]; rfl
                have r5 := R1.get j _ e5
                have o5 := List.all_eq_true.mp ho j a
                rw [e5] at o5
                generalize p.2.getD j .no = s5 at r5 o5
                have ne_new : ∀ b, H1 b ≠ none → b ≠ T := fun b hb z => by subst z; exact hb hT
                generalize σ[j]? = o at r5 ⊢
                have mvl : ∀ {Pc : Nat → Prop} {v : V} {d : D}, (∀ k, Pc k → k ≤ 1) → Rp K H1 (fun b => Pc (C1 b)) v d → Rp K (hidH H2 T) (fun b => Pc (C2 b)) v d := fun {Pc v d} hp r =>
                  r.move (fun b xs pb h => ⟨by rw [hidH_ne (ne_new b (by rw [h]; simp))]; exact S2.keep b _ h (.inl (by have := hp _ pb; omega)), by rw [S2.colo b (by rw [h]; simp) (by have := hp _ pb; omega)]; exact pb⟩) fun b o h im => by
                    rw [hidH_ne (ne_new b (by rw [h]; simp))]; exact S2.keep b o h (.inr im)
                cases r5 with
                | no => exact .no
                | va r => exact .va (mvl (Pc := fun k => k = 0) (fun k h => by omega) r)
                | bo r => exact .bo (mvl (Pc := fun k => k ≤ 1) (fun k h => by omega) r)
                | ow _ _ _ _ => cases o5
                | un _ => cases o5
                | sc _ => cases o5
                | ob _ _ _ _ _ => cases o5
                | dc _ _ _ _ => cases o5
                | ex _ _ _ => cases o5
                | tw _ _ _ _ _ _ _ _ _ _ => cases o5
              · have e5 : p.2.getD j .no = .no := by rw [List.getD_eq_getElem?_getD, List.getElem?_eq_none (by omega)]; rfl
                rw [e5]; exact .no
            · have r5 := R2.get j s b
              rw [wipe_off a] at r5
              exact r5.offc (Nat.le_refl 2) (by omega) (fun b xs hb h => by rw [hidH_ne (fun z => by subst z; exact hb hC)]; exact h) fun b o h im => by rw [hidH_ne (imm_ne hD h im)]; exact h
          · rw [List.append_nil]
            exact ra.move (fun b xs pb h => ⟨by rw [hidH_ne pb.2]; exact h, pb.1⟩) fun b o h im => by rw [hidH_ne (imm_ne hD h im)]; exact h
    · rw [if_neg ho] at hp; exact hp.elim
  · rw [if_neg hks] at h; exact h.elim

/-- no test, one test -/
def yesT : BS := fun _ ρ => .ok (true, ρ)
abbrev DTs (X : Cx) (np : Fp) (EW : XW) (e : List Expr) (f : BS) : Prop := PTs X e (tT X.K np EW f)
section
variable {X : Cx} {np : Fp} {EW : XW} {e elt tg iter : Expr} {fe el : ES} {p pos : Pos}
theorem PTs.weak {ifs : List Expr} {t t' : TT} (h : PTs X ifs t) (w : ∀ σ H Q, t' σ H Q → t σ H Q) : PTs X ifs t' := ⟨fun pins s σ H Q I q => h.run pins s σ H Q I (w σ H Q q)⟩
theorem dts_nil : DTs X np EW [] yesT := PTs.weak pts_nil fun σ H Q ⟨L, C, ρ, R, h⟩ => h H C .refl R
theorem dts_one {c : Expr} {f : BS} (h : DT X np EW c f) : DTs X np EW [c] f := pts_one h
variable {ifs : List Expr} {scope : Scope} {own : List (Str × Nat)} {src : AS} {g : GS} {c : BS} {is : List Nat}
theorem dn_lc (ks : Lv) (hc : X.calm = true) (hN : X.N.Nodup) (hi : DI X np EW tg iter src) (ok : BlkOk X.N X.env.scope scope own) (hsub : ∀ i ∈ is, i ∈ own.map (·.2)) (hoff : GOff is g)
    (hg : ∀ (s : Shared) (H : Hp) (C : Addr) (cl : List (Str × Addr)) (fp : List Addr), DG (X.blk s H scope (compEnvC scope cl C X.env) fp) np tg is g)
    (ht : ∀ (s : Shared) (H : Hp) (C : Addr) (cl : List (Str × Addr)) (fp : List Addr), DTs (X.blk s H scope (compEnvC scope cl C X.env) fp) np noX ifs c)
    (he : ∀ (s : Shared) (H : Hp) (C : Addr) (cl : List (Str × Addr)) (fp : List Addr), DE (X.blk s H scope (compEnvC scope cl C X.env) fp) np noX elt el) (hs : ∀ x, foldedSetIterable iter X.env x = pure x := by intro _; rfl) :
    DN X np EW (.ListComp elt [⟨tg, iter, ifs, 0⟩] scope pos) (lcA ks (own.map (·.2)) src g c el) :=
  PE.weak (pe_lc hc hN hi ok hg ht he hs) fun σ H Q h => lc_main hsub hoff h
/-- x = [.. for ..] on one line -/
theorem ds_asg_of {st : Stmt} {t : TE} {i : Nat} {f : AS} (h : PS X st (tAsg t (gName i))) (w : ∀ σ H Q, tN X.K np EW f σ H Q → t σ H Q) : DS X np EW st (vaS i (lsE f)) :=
  PS.weak h fun Dn σ H ⟨C, ρ, R, h⟩ => by
    refine w σ H _ ⟨.va, C, ρ, R, ?_⟩
    have h' : pst X.K np EW Dn H C (((f .va ρ).bind fun p => .ok (.list p.1, p.2)).to fun p => .nx (p.2.set i (.va p.1))) := h
    cases e : f .va ρ with
    | bad => rw [e] at h'; exact h'.elim
    | ex c => rw [e] at h'; exact h'
    | ok p =>
      rw [e] at h'
      intro t vs H' C' A R' ht r
      have S := pstp_new (C := C') (o := .lst vs) (n := 0) ht
      refine h' _ _ _ (A.stp.trans S.stp) ((R'.pstp S).set (.va (.lst upd_same setC_same ?_)))
      exact (S.rpA (P := fun c => c = 0) (r.imp fun b hb => by have : Lv.va.okb (C' b) = true := hb; simpa [Lv.okb] using this))
theorem ds_asg_bo {st : Stmt} {t : TE} {i : Nat} {f : AS} (h : PS X st (tAsg t (gName i))) (w : ∀ σ H Q, tN X.K np EW f σ H Q → t σ H Q) : DS X np EW st (boS i (lsE f)) :=
  PS.weak h fun Dn σ H ⟨C, ρ, R, h⟩ => by
    refine w σ H _ ⟨.bo, C, ρ, R, ?_⟩
    have h' : pst X.K np EW Dn H C (((f .bo ρ).bind fun p => .ok (.list p.1, p.2)).to fun p => .nx (p.2.set i (.bo p.1))) := h
    cases e : f .bo ρ with
    | bad => rw [e] at h'; exact h'.elim
    | ex c => rw [e] at h'; exact h'
    | ok p =>
      rw [e] at h'
      intro t vs H' C' A R' ht r
      have S := pstp_new (C := C') (o := .lst vs) (n := 0) ht
      refine h' _ _ _ (A.stp.trans S.stp) ((R'.pstp S).set (.bo (.lst upd_same (by rw [setC_same]; omega) ?_)))
      exact (S.rpA (P := fun c => c ≤ 1) (r.imp fun b hb => by have : Lv.bo.okb (C' b) = true := hb; simpa [Lv.okb] using this))
theorem ds_asg_ow {st : Stmt} {t : TE} {i : Nat} {f : AS} (h : PS X st (tAsg t (gName i))) (w : ∀ σ H Q, tN X.K np EW f σ H Q → t σ H Q) : DS X np EW st (owS np.n i f) :=
  PS.weak h fun Dn σ H ⟨C, ρ, R, h⟩ => by
    unfold owS at h
    by_cases hn : np.n ≤ i
    · rw [if_pos hn] at h
      refine w σ H _ ⟨.va, C, ρ, R, ?_⟩
      cases e : f .va ρ with
      | bad => rw [e] at h; exact h.elim
      | ex c => rw [e] at h; exact h
      | ok p =>
        rw [e] at h
        intro t vs H' C' A R' ht r
        obtain ⟨S, R2⟩ := ow_new hn R' ht r
        exact h _ _ _ (A.stp.trans S.stp) R2
    · rw [if_neg hn] at h; exact h.elim
end
end
end Dm

namespace Dm
noncomputable section
open PySem PySem.Spec PyProof.Rows L2

/-! ### built-ins -/
def CallS (K : PySem.W.Frag) (r : List V → Hp → VK → Prop) (g : List D → Option D) : Prop := ∀ (H : Hp) (C : Col) (L : Lv) (vs : List V) (ds : List D) (d : D) (Q : VK), RpA K H (Cof C L) vs ds → g ds = some d →
  (∀ v H' C', PStp H C H' C' → Rp K H' (Cof C' L) v d → Q v H') → r vs H Q
def cbE (g : List D → Option D) (fs : AS) : ES := fun L ρ => (fs L ρ).bind fun p => (ofO (g p.1)).bind fun d => .ok (d, p.2)
section
variable {X : Cx} {np : Fp} {EW : XW} {e : Expr} {es : List Expr} {fs : AS} {x : Str} {p pos : Pos} {id T : String} {r : List V → Hp → VK → Prop} {g : List D → Option D}
theorem cb_fin {K : PySem.W.Frag} (hs : CallS K r g) {σ : L2.St} {H : Hp} {Q : VK} (h : tE K np EW (cbE g fs) σ H Q) : tA K np EW fs σ H fun vs H1 => r vs H1 Q := by
  obtain ⟨L, C, ρ, R, h⟩ := h
  refine tA_of R h fun q vs H1 C1 A1 R1 r1 h1 => ?_
  obtain ⟨d, e, h2⟩ := wp_ofO (wp_bind.mp h1)
  exact hs H1 C1 L vs q.1 d Q r1 e fun v H' C' S rv => h2 v H' C' (A1.trans (.of S)) (R1.pstp S) rv
theorem de_callB (hc : CallR X (.builtin id) r) (hs : CallS X.K r g) (hg : Gl X x) (hm : X.mg x = none) (hv : bootBuiltins x = some (.builtin id)) (ha : DA X np EW (e :: es) fs) (hn : x ≠ "__name__" := by decide) (hdb : (x == ("__debug__" : Str)) = false := by decide)
    (he : starEach (e :: es) X.env = (false, eval e X.env) :: starEach es X.env := by rfl) (hpl : (backTo pos (starEach es X.env)).any (·.1) = false := by rfl) : DE X np EW (.Call (.Name x p) (e :: es) [] pos) (cbE g fs) :=
  PE.weak (pe_callB hc hg hm hv ha hn hdb he hpl) fun σ H Q h => cb_fin hs h
theorem de_callTy (hc : CallR X (.type T) r) (hs : CallS X.K r g) (hg : Gl X x) (hm : X.mg x = none) (hv : bootBuiltins x = some (.type T)) (ha : DA X np EW (e :: es) fs) (hn : x ≠ "__name__" := by decide) (hdb : (x == ("__debug__" : Str)) = false := by decide)
    (he : starEach (e :: es) X.env = (false, eval e X.env) :: starEach es X.env := by rfl) (hpl : (backTo pos (starEach es X.env)).any (·.1) = false := by rfl) : DE X np EW (.Call (.Name x p) (e :: es) [] pos) (cbE g fs) :=
  PE.weak (pe_callTy hc hg hm hv ha hn hdb he hpl) fun σ H Q h => cb_fin hs h
end
section
variable {K : PySem.W.Frag} {H : Hp} {P : Addr → Prop}
theorem RpA.one {vs : List V} {d : D} (r : RpA K H P vs [d]) : ∃ v, vs = [v] ∧ Rp K H P v d := by
  cases r with
  | cons a b => cases b; exact ⟨_, rfl, a⟩
theorem RpA.two {vs : List V} {d e : D} (r : RpA K H P vs [d, e]) : ∃ v w, vs = [v, w] ∧ Rp K H P v d ∧ Rp K H P w e := by
  cases r with
  | cons a b =>
    cases b with
    | cons b c => cases c; exact ⟨_, _, rfl, a, b⟩
end
/-! len -/
def lenG : List D → Option D
  | [.list xs] => some (.int xs.length)
  | [.tuple xs] => some (.int xs.length)
  | [.str z] => if z.length ≤ sizeLine then some (.int z.length) else none
  | _ => none
theorem cs_len {K : PySem.W.Frag} : CallS K (fun xs H Q => ∃ x n, xs = [x] ∧ LenV K x H n ∧ Q (.int n) H) lenG := by
  intro H C L vs ds d Q r e q
  unfold lenG at e
  split at e
  · cases e
    obtain ⟨v, rfl, rv⟩ := r.one
    obtain ⟨a, us, rfl, ha, _, rr⟩ := rv.lst_inv
    exact ⟨_, _, rfl, .inl ⟨_, .of ha, rr.len.symm⟩, q _ H C .refl (.int _)⟩
  · cases e
    obtain ⟨v, rfl, rv⟩ := r.one
    obtain ⟨a, us, rfl, ha, rr⟩ := rv.tup_inv
    exact ⟨_, _, rfl, .inr ⟨_, ha, rr.len.symm⟩, q _ H C .refl (.int _)⟩
  · rename_i z
    by_cases hz : z.length ≤ sizeLine
    · rw [if_pos hz] at e; cases e
      obtain ⟨v, rfl, rv⟩ := r.one
      obtain rfl := rv.str_inv
      exact ⟨_, _, rfl, ⟨hz, rfl⟩, q _ H C .refl (.int _)⟩
    · rw [if_neg hz] at e; cases e
  · cases e
/-! abs, min, max of two -/
def absG : List D → Option D
  | [.int i] => some (.int (if i < 0 then -i else i))
  | _ => none
theorem cs_abs {K : PySem.W.Frag} : CallS K (fun xs H Q => ∃ i, xs = [.int i] ∧ Q (.int (if i < 0 then -i else i)) H) absG := by
  intro H C L vs ds d Q r e q
  unfold absG at e
  split at e
  · cases e
    obtain ⟨v, rfl, rv⟩ := r.one
    obtain rfl := rv.int_inv
    exact ⟨_, rfl, q _ H C .refl (.int _)⟩
  · cases e
def maxL (ns : List Int) : Int := ns.foldl (fun a b => if b > a then b else a) (ns.headD 0)
def minL (ns : List Int) : Int := ns.foldl (fun a b => if b < a then b else a) (ns.headD 0)
def ints? : List D → Option (List Int)
  | [] => some []
  | .int i :: r => (ints? r).map (i :: ·)
  | _ => none
theorem ints?_some : ∀ {ds : List D} {ns : List Int}, ints? ds = some ns → ds = ns.map PyData.int
  | [], _, h => by cases h; rfl
  | .int i :: r, ns, h => by
    rw [ints?] at h
    cases e : ints? r with
    | none => rw [e] at h; cases h
    | some m => rw [e] at h; cases h; rw [List.map_cons, ints?_some e]
  | .none :: _, _, h => by simp [ints?] at h
  | .bool _ :: _, _, h => by simp [ints?] at h
  | .str _ :: _, _, h => by simp [ints?] at h
  | .list _ :: _, _, h => by simp [ints?] at h
  | .tuple _ :: _, _, h => by simp [ints?] at h
  | .dict _ :: _, _, h => by simp [ints?] at h
@[simp] theorem ints?_map : ∀ ns : List Int, ints? (ns.map PyData.int) = some ns
  | [] => rfl
  | n :: r => by simp [ints?, ints?_map r]
def bools? : List D → Option (List Bool)
  | [] => some []
  | .bool i :: r => (bools? r).map (i :: ·)
  | _ => none
theorem bools?_some : ∀ {ds : List D} {ns : List Bool}, bools? ds = some ns → ds = ns.map PyData.bool
  | [], _, h => by cases h; rfl
  | .bool i :: r, ns, h => by
    rw [bools?] at h
    cases e : bools? r with
    | none => rw [e] at h; cases h
    | some m => rw [e] at h; cases h; rw [List.map_cons, bools?_some e]
  | .none :: _, _, h => by simp [bools?] at h
  | .int _ :: _, _, h => by simp [bools?] at h
  | .str _ :: _, _, h => by simp [bools?] at h
  | .list _ :: _, _, h => by simp [bools?] at h
  | .tuple _ :: _, _, h => by simp [bools?] at h
  | .dict _ :: _, _, h => by simp [bools?] at h
@[simp] theorem bools?_map : ∀ ns : List Bool, bools? (ns.map PyData.bool) = some ns
  | [] => rfl
  | n :: r => by simp [bools?, bools?_map r]
theorem foldl_max : ∀ (ns : List Int) (a : Int), (a ≤ ns.foldl (fun a b => if b > a then b else a) a ∧ ∀ y ∈ ns, y ≤ ns.foldl (fun a b => if b > a then b else a) a) ∧ (ns.foldl (fun a b => if b > a then b else a) a = a ∨ ns.foldl (fun a b => if b > a then b else a) a ∈ ns)
  | [], a => ⟨⟨Int.le_refl _, fun y hy => nomatch hy⟩, .inl rfl⟩
  | b :: r, a => by
    rw [List.foldl_cons]
    obtain ⟨⟨h1, h2⟩, h3⟩ := foldl_max r (if b > a then b else a)
    have e1 : a ≤ (if b > a then b else a) ∧ b ≤ (if b > a then b else a) := by split <;> omega
    refine ⟨⟨by omega, fun y hy => ?_⟩, ?_⟩
    · rcases List.mem_cons.mp hy with rfl | hy
      · omega
      · exact h2 y hy
    · rcases h3 with h3 | h3
      · rw [h3]
        by_cases z : b > a
        · rw [if_pos z]; exact .inr (List.mem_cons_self ..)
        · rw [if_neg z]; exact .inl rfl
      · exact .inr (List.mem_cons_of_mem _ h3)
theorem foldl_min : ∀ (ns : List Int) (a : Int), (ns.foldl (fun a b => if b < a then b else a) a ≤ a ∧ ∀ y ∈ ns, ns.foldl (fun a b => if b < a then b else a) a ≤ y) ∧ (ns.foldl (fun a b => if b < a then b else a) a = a ∨ ns.foldl (fun a b => if b < a then b else a) a ∈ ns)
  | [], a => ⟨⟨Int.le_refl _, fun y hy => nomatch hy⟩, .inl rfl⟩
  | b :: r, a => by
    rw [List.foldl_cons]
    obtain ⟨⟨h1, h2⟩, h3⟩ := foldl_min r (if b < a then b else a)
    have e1 : (if b < a then b else a) ≤ a ∧ (if b < a then b else a) ≤ b := by split <;> omega
    refine ⟨⟨by omega, fun y hy => ?_⟩, ?_⟩
    · rcases List.mem_cons.mp hy with rfl | hy
      · omega
      · exact h2 y hy
    · rcases h3 with h3 | h3
      · rw [h3]
        by_cases z : b < a
        · rw [if_pos z]; exact .inr (List.mem_cons_self ..)
        · rw [if_neg z]; exact .inl rfl
      · exact .inr (List.mem_cons_of_mem _ h3)
theorem maxL_mem {ns : List Int} (h : 0 < ns.length) : maxL ns ∈ ns ∧ ∀ y ∈ ns, y ≤ maxL ns := by
  obtain ⟨⟨_, h2⟩, h3⟩ := foldl_max ns (ns.headD 0)
  refine ⟨?_, h2⟩
  rcases h3 with h3 | h3
  · unfold maxL; rw [h3]
    cases ns with
    | nil => simp at h
    | cons a r => simp
  · exact h3
theorem minL_mem {ns : List Int} (h : 0 < ns.length) : minL ns ∈ ns ∧ ∀ y ∈ ns, minL ns ≤ y := by
  obtain ⟨⟨_, h2⟩, h3⟩ := foldl_min ns (ns.headD 0)
  refine ⟨?_, h2⟩
  rcases h3 with h3 | h3
  · unfold minL; rw [h3]
    cases ns with
    | nil => simp at h
    | cons a r => simp
  · exact h3
def maxG : List D → Option D
  | [.int i, .int j] => some (.int (if j > i then j else i))
  | [.list ds] => match ints? ds with
    | some ns => if 0 < ns.length then some (.int (maxL ns)) else none
    | none => none
  | _ => none
def minG : List D → Option D
  | [.int i, .int j] => some (.int (if j < i then j else i))
  | [.list ds] => match ints? ds with
    | some ns => if 0 < ns.length then some (.int (minL ns)) else none
    | none => none
  | _ => none
def rMaxA (K : PySem.W.Frag) : List V → Hp → VK → Prop := fun xs H Q => (∃ i j, xs = [.int i, .int j] ∧ Q (.int (if j > i then j else i)) H) ∨ rMax K xs H Q
def rMinA (K : PySem.W.Frag) : List V → Hp → VK → Prop := fun xs H Q => (∃ i j, xs = [.int i, .int j] ∧ Q (.int (if j < i then j else i)) H) ∨ rMin K xs H Q
theorem call_maxA {X : Cx} (hc : X.calm = true) : CallR X (.builtin "max") (rMaxA X.K) := (call_max2 hc).or (cr_max hc)
theorem call_minA {X : Cx} (hc : X.calm = true) : CallR X (.builtin "min") (rMinA X.K) := (call_min2 hc).or (cr_min hc)
theorem cs_max {K : PySem.W.Frag} : CallS K (rMaxA K) maxG := by
  intro H C L vs ds d Q r e q
  unfold maxG at e
  split at e
  · cases e
    obtain ⟨v, w, rfl, rv, rw⟩ := r.two
    obtain rfl := rv.int_inv
    obtain rfl := rw.int_inv
    exact .inl ⟨_, _, rfl, q _ H C .refl (.int _)⟩
  · rename_i ds
    cases e2 : ints? ds with
    | none => rw [e2] at e; cases e
    | some ns =>
      rw [e2] at e
      by_cases hz : 0 < ns.length
      · simp only [hz, if_true] at e; cases e
        obtain ⟨v, rfl, rv⟩ := r.one
        obtain ⟨a, us, rfl, ha, _, rr⟩ := rv.lst_inv
        have := ints?_some e2
        subst this
        have eu := rr.ints
        subst eu
        refine .inr ⟨_, ns, rfl, .of ha, hz, fun m hm hy => ?_⟩
        have h1 := maxL_mem hz
        have : m = maxL ns := by have := hy _ h1.1; have := h1.2 _ hm; omega
        subst this
        exact q _ H C .refl (.int _)
      · simp only [hz, if_false] at e; cases e
  · cases e
theorem cs_min {K : PySem.W.Frag} : CallS K (rMinA K) minG := by
  intro H C L vs ds d Q r e q
  unfold minG at e
  split at e
  · cases e
    obtain ⟨v, w, rfl, rv, rw⟩ := r.two
    obtain rfl := rv.int_inv
    obtain rfl := rw.int_inv
    exact .inl ⟨_, _, rfl, q _ H C .refl (.int _)⟩
  · rename_i ds
    cases e2 : ints? ds with
    | none => rw [e2] at e; cases e
    | some ns =>
      rw [e2] at e
      by_cases hz : 0 < ns.length
      · simp only [hz, if_true] at e; cases e
        obtain ⟨v, rfl, rv⟩ := r.one
        obtain ⟨a, us, rfl, ha, _, rr⟩ := rv.lst_inv
        have := ints?_some e2
        subst this
        have eu := rr.ints
        subst eu
        refine .inr ⟨_, ns, rfl, .of ha, hz, fun m hm hy => ?_⟩
        have h1 := minL_mem hz
        have : m = minL ns := by have := hy _ h1.1; have := h1.2 _ hm; omega
        subst this
        exact q _ H C .refl (.int _)
      · simp only [hz, if_false] at e; cases e
  · cases e
def sumG : List D → Option D
  | [.list ds] => (ints? ds).map fun ns => .int ns.sum
  | _ => none
theorem cs_sum {K : PySem.W.Frag} : CallS K (rSum K) sumG := by
  intro H C L vs ds d Q r e q
  unfold sumG at e
  split at e
  · rename_i ds
    cases e2 : ints? ds with
    | none => rw [e2] at e; cases e
    | some ns =>
      rw [e2] at e; cases e
      obtain ⟨v, rfl, rv⟩ := r.one
      obtain ⟨a, us, rfl, ha, _, rr⟩ := rv.lst_inv
      have := ints?_some e2
      subst this
      have eu := rr.ints
      subst eu
      exact ⟨_, ns, rfl, .of ha, q _ H C .refl (.int _)⟩
  · cases e
def allG : List D → Option D
  | [.list ds] => (bools? ds).map fun bs => .bool (bs.all _root_.id)
  | _ => none
def anyG : List D → Option D
  | [.list ds] => (bools? ds).map fun bs => .bool (bs.any _root_.id)
  | _ => none
theorem cs_all {K : PySem.W.Frag} : CallS K (rAll K) allG := by
  intro H C L vs ds d Q r e q
  unfold allG at e
  split at e
  · rename_i ds
    cases e2 : bools? ds with
    | none => rw [e2] at e; cases e
    | some ns =>
      rw [e2] at e; cases e
      obtain ⟨v, rfl, rv⟩ := r.one
      obtain ⟨a, us, rfl, ha, _, rr⟩ := rv.lst_inv
      have := bools?_some e2
      subst this
      have eu := rr.bls
      subst eu
      exact ⟨_, ns, rfl, .of ha, q _ H C .refl (.bl _)⟩
  · cases e
theorem cs_any {K : PySem.W.Frag} : CallS K (rAny K) anyG := by
  intro H C L vs ds d Q r e q
  unfold anyG at e
  split at e
  · rename_i ds
    cases e2 : bools? ds with
    | none => rw [e2] at e; cases e
    | some ns =>
      rw [e2] at e; cases e
      obtain ⟨v, rfl, rv⟩ := r.one
      obtain ⟨a, us, rfl, ha, _, rr⟩ := rv.lst_inv
      have := bools?_some e2
      subst this
      have eu := rr.bls
      subst eu
      exact ⟨_, ns, rfl, .of ha, q _ H C .refl (.bl _)⟩
  · cases e
/-! tuple(x), list(x) -/
def tupG : List D → Option D
  | [.list xs] => some (.tuple xs)
  | [.tuple xs] => some (.tuple xs)
  | _ => none
def rTupX (K : PySem.W.Frag) : List V → Hp → VK → Prop := fun xs H Q => ∃ p ys, xs = [.ref p] ∧ ((SqL K H p ys ∧ ∀ l ob, H l = none → ob.dict = none → Q (.ref l) (upd H l (.frz ob (.tup ys)))) ∨ (SqT K H p ys ∧ Q (.ref p) H))
theorem call_tupX {X : Cx} : CallR X (.type "tuple") (rTupX X.K) := by
  intro pins s σ H xs us Q I r h
  obtain ⟨p, ys, rfl, h⟩ := h
  rcases h with ⟨hq, q⟩ | ⟨hq, q⟩
  · obtain ⟨u, rfl, rx⟩ := vals1 r
    cases rx
    obtain ⟨its, r1, pl, hz⟩ := I.list hq
    have hn := r1.length
    refine call_tuple_list pl.isList (fun h' kp => ?_) (by simp only [List.size_toArray] <;> omega)
    have I1 : Inv X pins σ H { s with heap := h' } := I.kept (t' := s.toks) kp
    exact laid_tupX I1 r1 hz q
  · exact call_tuple_of pins s σ H [.ref p] us Q I r ⟨p, ys, rfl, .inr ⟨hq, q⟩⟩
theorem cs_tuple {K : PySem.W.Frag} : CallS K (rTupX K) tupG := by
  intro H C L vs ds d Q r e q
  unfold tupG at e
  split at e
  · cases e
    obtain ⟨v, rfl, rv⟩ := r.one
    obtain ⟨a, us, rfl, ha, _, rr⟩ := rv.lst_inv
    refine ⟨_, _, rfl, .inl ⟨.of ha, fun t ob ht hd => ?_⟩⟩
    have S := pstp_id (C := C) (o := .frz ob (.tup us)) ht
    exact q _ _ _ S (.tup (newX hd) (rr.same S.same))
  · cases e
    obtain ⟨v, rfl, rv⟩ := r.one
    obtain ⟨a, us, rfl, ha, rr⟩ := rv.tup_invX
    exact ⟨_, _, rfl, .inr ⟨ha.sq, q _ H C .refl (.tup ha rr)⟩⟩
  · cases e
section
variable {X : Cx} {np : Fp} {EW : XW} {e : Expr} {fe : ES} {p pos : Pos}
/-- list(x): a new list -/
def lsA (fe : ES) : AS := fun L ρ => (fe L ρ).bind fun p => (ofO (itD p.1)).bind fun ds => .ok (ds, p.2)
theorem dn_list {x : Str} (hg : Gl X x) (hm : X.mg x = none) (hv : bootBuiltins x = some (.type "list")) (ha : DE X np EW e fe) (hn : x ≠ "__name__" := by decide) (hdb : (x == ("__debug__" : Str)) = false := by decide)
    (he : starEach [e] X.env = (false, eval e X.env) :: starEach [] X.env := by rfl) : DN X np EW (.Call (.Name x p) [e] [] pos) (lsA fe) :=
  PE.weak (pe_callTy call_list_of hg hm hv (pa_cons ha pa_nil he) hn hdb he rfl) fun σ H Q ⟨L, C, ρ, R, h⟩ => tE_of R h fun q v H1 C1 A1 R1 r1 h1 => by
    obtain ⟨d, e, h2⟩ := wp_ofO (wp_bind.mp h1)
    obtain ⟨dq, ρ1⟩ := q
    cases dq <;> simp only [itD, reduceCtorEq] at e
    · cases e
      obtain ⟨a, us, rfl, ha, _, rr⟩ := r1.lst_inv
      exact ⟨_, _, rfl, .inl (.of ha), fun t ht => h2 t us H1 C1 A1 R1 ht rr⟩
    · cases e
      obtain ⟨a, us, rfl, ha, rr⟩ := r1.tup_inv
      exact ⟨_, _, rfl, .inr ha, fun t ht => h2 t us H1 C1 A1 R1 ht rr⟩
/-- list(range(n)) -/
def lrA (fe : ES) : AS := fun L ρ => (fe L ρ).bind fun p => (isI p.1).bind fun n => if inB 0 16777217 n then .ok (rgD 0 n.toNat, p.2) else .bad
theorem rgV_rp {K : PySem.W.Frag} {H : Hp} {P : Addr → Prop} {n : Int} : RpA K H P (rgV 0 n) (rgD 0 n.toNat) := by
  unfold rgV rgD
  rw [Int.sub_zero]
  generalize List.range n.toNat = l
  induction l with
  | nil => exact .nil
  | cons a r ih => exact .cons (.int _) ih
theorem dn_lrng {p2 pos2 : Pos} (hc : X.calm = true) (hg : Gl X "list") (hm : X.mg "list" = none) (hg2 : Gl X "range") (hm2 : X.mg "range" = none) (ha : DE X np EW e fe) (na : starEach [e] X.env = (false, eval e X.env) :: starEach [] X.env := by rfl)
    (na2 : starEach [.Call (.Name "range" p2) [e] [] pos2] X.env = (false, eval (.Call (.Name "range" p2) [e] [] pos2) X.env) :: starEach [] X.env := by rfl) : DN X np EW (.Call (.Name "list" p) [.Call (.Name "range" p2) [e] [] pos2] [] pos) (lrA fe) :=
  PE.weak (pe_listRg hc hg hm (prg_1 hg2 hm2 ha na) na2) fun σ H Q ⟨L, C, ρ, R, h⟩ => tE_of R h fun q v H1 C1 A1 R1 r1 h1 => by
    obtain ⟨dq, ρ1⟩ := q
    cases dq with
    | int n =>
      obtain rfl := r1.int_inv
      by_cases hz : inB 0 16777217 n = true
      · have h2 := h1
        simp only [isI, bind_ok, hz, if_true] at h2
        rw [inB_eq, Bool.and_eq_true, decide_eq_true_eq, decide_eq_true_eq] at hz
        exact ⟨n, rfl, RgOk.of_le (Int.le_refl _) (by omega) (by omega) hz.1, fun t ht => h2 t _ H1 C1 A1 R1 ht rgV_rp⟩
      · simp only [isI, bind_ok, hz] at h1; exact h1.elim
    | _ => exact h1.elim

/-! isinstance -/
def tyD : D → String
  | .none => "NoneType"
  | .bool _ => "bool"
  | .int _ => "int"
  | .str _ => "str"
  | .list _ => "list"
  | .tuple _ => "tuple"
  | .dict _ => "dict"
def isiB (T : String) (d : D) : Bool := tyD d == T || (T == "int" && tyD d == "bool")
def isiE (T : String) (fe : ES) : ES := fun L ρ => (fe L ρ).bind fun p => .ok (.bool (isiB T p.1), p.2)
theorem tyx {K : PySem.W.Frag} {H : Hp} {P : Addr → Prop} {v : V} {d : D} (r : Rp K H P v d) : TyX K H v (.type (tyD d)) := by
  cases r with
  | non => exact .base .non
  | bl b => exact .base (.bl b)
  | int i => exact .base (.int i)
  | str x => exact .base (.str x)
  | lst h _ _ => exact .base (.lst h)
  | tup h _ =>
    rcases h with ⟨o, h, _⟩ | ⟨o, its, n, h1, h2, _⟩
    · exact .fTuple h
    · exact .kTuple h1 h2
def isiOk (T : String) : Bool := ["NoneType", "bool", "int", "str", "list", "tuple", "dict"].all fun t => kitB t T == some (t == T || (T == "int" && t == "bool"))
theorem isi_kit {T : String} (h : isiOk T = true) (d : D) : kitB (tyD d) T = some (isiB T d) := by
  have h' := List.all_eq_true.mp h
  cases d <;> exact eq_of_beq (h' _ (by simp [tyD]))
theorem ok_int : isiOk "int" = true := by decide +kernel
theorem ok_bool : isiOk "bool" = true := by decide +kernel
theorem ok_str : isiOk "str" = true := by decide +kernel
theorem ok_list : isiOk "list" = true := by decide +kernel
theorem ok_tuple : isiOk "tuple" = true := by decide +kernel
theorem ok_dict : isiOk "dict" = true := by decide +kernel
theorem de_isi {y : Str} {T : String} {p2 : Pos} (hT : isiOk T = true) (hg : Gl X "isinstance") (hm : X.mg "isinstance" = none) (hgy : Gl X y) (hmy : X.mg y = none) (hv : bootBuiltins y = some (.type T)) (h : DE X np EW e fe) (hn : y ≠ "__name__" := by decide) (hd : (y == ("__debug__" : Str)) = false := by decide)
    (he : starEach [e, .Name y p2] X.env = (false, eval e X.env) :: starEach [.Name y p2] X.env := by rfl) (he2 : starEach [.Name y p2] X.env = (false, eval (.Name y p2) X.env) :: starEach [] X.env := by rfl)
    (hpl : (backTo pos (starEach [.Name y p2] X.env)).any (·.1) = false := by rfl) : DE X np EW (.Call (.Name "isinstance" p) [e, .Name y p2] [] pos) (isiE T fe) :=
  PE.weak (pe_callB call_isi hg hm (by decide +kernel) (pa_cons h (pa_cons (pe_bltn (v := .ty T) hgy hmy hv rfl hn hd) pa_nil he2) he) (by decide) (by decide) he hpl) fun σ H Q ⟨L, C, ρ, R, h⟩ => tE_of R h fun q v H1 C1 A1 R1 r1 h1 =>
    ⟨v, .ty T, _, _, _, rfl, .ty T, tyx r1, kit_ty (isi_kit hT q.1), h1 (.bl _) H1 C1 A1 R1 (.bl _)⟩
/-- isinstance(x, (T1, T2)) -/
def isiE2 (T1 T2 : String) (fe : ES) : ES := fun L ρ => (fe L ρ).bind fun p => .ok (.bool (isiB T1 p.1 || isiB T2 p.1), p.2)
theorem kit2 {K : PySem.W.Frag} {T1 T2 : String} (h1 : isiOk T1 = true) (h2 : isiOk T2 = true) (d : D) : PySem.W.kitAny K (.type (tyD d)) [.type T1, .type T2] = some (isiB T1 d || isiB T2 d) := by
  refine kitAny_cons (kit_ty (isi_kit h1 d)) (fun hb => kitAny_cons (kit_ty (isi_kit h2 d)) (fun hb2 => ?_) fun hb2 => ?_) fun hb => ?_
  · rw [hb, hb2]; exact kitAny_nil
  · rw [hb2, Bool.or_true]
  · rw [hb, Bool.true_or]
theorem de_isi2 {y z : Str} {T1 T2 : String} {p2 p3 p4 : Pos} {kk} (h1 : isiOk T1 = true) (h2 : isiOk T2 = true) (hg : Gl X "isinstance") (hm : X.mg "isinstance" = none) (hgy : Gl X y) (hmy : X.mg y = none) (hv : bootBuiltins y = some (.type T1)) (hgz : Gl X z) (hmz : X.mg z = none) (hvz : bootBuiltins z = some (.type T2))
    (h : DE X np EW e fe) (hn : y ≠ "__name__" := by decide) (hd : (y == ("__debug__" : Str)) = false := by decide) (hnz : z ≠ "__name__" := by decide) (hdz : (z == ("__debug__" : Str)) = false := by decide)
    (he : starEach [e, .Tuple [.Name y p2, .Name z p3] kk p4] X.env = (false, eval e X.env) :: starEach [.Tuple [.Name y p2, .Name z p3] kk p4] X.env := by rfl) (he2 : starEach [.Tuple [.Name y p2, .Name z p3] kk p4] X.env = (false, eval (.Tuple [.Name y p2, .Name z p3] kk p4) X.env) :: starEach [] X.env := by rfl)
    (hpl : (backTo pos (starEach [.Tuple [.Name y p2, .Name z p3] kk p4] X.env)).any (·.1) = false := by rfl) : DE X np EW (.Call (.Name "isinstance" p) [e, .Tuple [.Name y p2, .Name z p3] kk p4] [] pos) (isiE2 T1 T2 fe) :=
  PE.weak (pe_callB call_isiT hg hm (by decide +kernel) (pa_cons h (pa_cons (pe_tup (pa_cons (pe_bltn (v := .ty T1) hgy hmy hv rfl hn hd) (pa_cons (pe_bltn (v := .ty T2) hgz hmz hvz rfl hnz hdz) pa_nil))) pa_nil he2) he) (by decide) (by decide) he hpl) fun σ H Q ⟨L, C, ρ, R, h⟩ => tE_of R h fun q v H1 C1 A1 R1 r1 h3 => by
    refine ⟨(show 2 ≤ sizeLine by decide), fun t ht => ?_⟩
    have S := pstp_id (C := C1) (o := .tup [.ty T1, .ty T2]) ht
    exact ⟨v, t, [.ty T1, .ty T2], _, [.type T1, .type T2], _, rfl, upd_same, .cons (.ty T1) (.cons (.ty T2) .nil), tyx (r1.same S.same), kit2 h1 h2 q.1, h3 (.bl _) _ C1 (A1.trans (.of S)) (R1.pstp S) (.bl _)⟩

/-! repr -/
def isDisp : D → Bool
  | .list _ => true
  | .tuple _ => true
  | _ => false
def noDict (d : D) : Bool := !PyData.hasDict d
def reprOk (d : D) : Bool := isDisp d && d.showable && noDict d && decide (d.depth ≤ 64) && decide (d.shown.length ≤ sizeLine)
def reprG : List D → Option D
  | [.int i] => if i.natAbs.log2 < 1920 then some (.str (toString i)) else none
  | [d] => if reprOk d then some (.str d.shown) else none
  | _ => none
def rReprD (K : PySem.W.Frag) : List V → Hp → VK → Prop := fun xs H Q => ∃ v d, xs = [v] ∧ Dp K H v d ∧ reprOk d = true ∧ Q (.str d.shown) H
theorem call_reprD {k : Nat} (hr : Room k X.A) (hg : X.A.guards = some []) : CallR X (.builtin "repr") (rReprD X.K) := by
  intro pins s σ H xs us Q I r h
  obtain ⟨v, d, rfl, hd, ho, q⟩ := h
  obtain ⟨u, rfl, ru⟩ := vals1 r
  simp only [reprOk, noDict, Bool.and_eq_true, decide_eq_true_eq, Bool.not_eq_true'] at ho
  obtain ⟨⟨⟨⟨h1, h2⟩, h3⟩, h4⟩, h5⟩ := ho
  obtain ⟨as, rd⟩ := Dp.reads I d v u hd ru
  have hu : X.A.units + (d.depth + 1) < cLine := by have := hr.un; omega
  cases hd with
  | lst _ _ =>
    cases ru
    exact repr_of_reads' rd h2 (PyData.noDict_hsm h3) hg hu (fun _ _ e => e) (fun h' t tk k => ⟨.str _, H, I.kept (t' := tk) k, ⟨_, rfl⟩, q⟩) h5
  | tup _ _ =>
    cases ru
    exact repr_of_reads' rd h2 (PyData.noDict_hsm h3) hg hu (fun _ _ e => e) (fun h' t tk k => ⟨.str _, H, I.kept (t' := tk) k, ⟨_, rfl⟩, q⟩) h5
  | _ => simp [isDisp] at h1
theorem call_reprA {k : Nat} (hr : Room k X.A) (hg : X.A.guards = some []) : CallR X (.builtin "repr") (fun xs H Q => rReprD X.K xs H Q ∨ ∃ i, xs = [.int i] ∧ i.natAbs.log2 < 1920 ∧ Q (.str (toString i)) H) := (call_reprD hr hg).or SkE.call_repr_int
theorem cs_repr {K : PySem.W.Frag} : CallS K (fun xs H Q => rReprD K xs H Q ∨ ∃ i, xs = [.int i] ∧ i.natAbs.log2 < 1920 ∧ Q (.str (toString i)) H) reprG := by
  intro H C L vs ds d Q r e q
  unfold reprG at e
  split at e
  · rename_i i
    by_cases hz : i.natAbs.log2 < 1920
    · rw [if_pos hz] at e; cases e
      obtain ⟨v, rfl, rv⟩ := r.one
      obtain rfl := rv.int_inv
      exact .inr ⟨_, rfl, hz, q _ H C .refl (.str _)⟩
    · rw [if_neg hz] at e; cases e
  · rename_i d0 _
    by_cases hz : reprOk d0 = true
    · rw [if_pos hz] at e; cases e
      obtain ⟨v, rfl, rv⟩ := r.one
      exact .inl ⟨_, _, rfl, rv.dp, hz, q _ H C .refl (.str _)⟩
    · rw [if_neg hz] at e; cases e
  · cases e

/-! len(set(t)), t a tuple of ints -/
def dd : List Int → List Int
  | [] => []
  | x :: r => if x ∈ r then dd r else x :: dd r
theorem dd_mem : ∀ {l : List Int} {x : Int}, x ∈ dd l ↔ x ∈ l
  | [], x => Iff.rfl
  | a :: r, x => by
    rw [dd]
    by_cases h : a ∈ r
    · rw [if_pos h, dd_mem, List.mem_cons]
      exact ⟨.inr, fun z => z.elim (fun e => by rw [e]; exact h) (fun z => z)⟩
    · rw [if_neg h, List.mem_cons, List.mem_cons, dd_mem]
theorem dd_nodup : ∀ l : List Int, (dd l).Nodup
  | [] => List.nodup_nil
  | a :: r => by
    rw [dd]
    by_cases h : a ∈ r
    · rw [if_pos h]; exact dd_nodup r
    · rw [if_neg h]; exact List.nodup_cons.mpr ⟨fun z => h (dd_mem.mp z), dd_nodup r⟩
theorem dd_of_nodup : ∀ {l : List Int}, l.Nodup → dd l = l
  | [], _ => rfl
  | a :: r, h => by
    rw [List.nodup_cons] at h
    rw [dd, if_neg h.1, dd_of_nodup h.2]
theorem nodup_len {α : Type} [DecidableEq α] : ∀ {l m : List α}, l.Nodup → (∀ x ∈ l, x ∈ m) → l.length ≤ m.length
  | [], _, _, _ => Nat.zero_le _
  | a :: r, m, hl, h => by
    rw [List.nodup_cons] at hl
    have h1 := nodup_len (l := r) (m := m.erase a) hl.2 fun x hx => (List.mem_erase_of_ne fun e => hl.1 (by rw [← e]; exact hx)).mpr (h x (List.mem_cons_of_mem _ hx))
    have h2 := List.length_erase_of_mem (h a (List.mem_cons_self ..))
    have h3 : 0 < m.length := List.length_pos_of_mem (h a (List.mem_cons_self ..))
    rw [List.length_cons]; omega
def lsetD : D → Option D
  | .tuple ds => match ints? ds with
    | some ns => if ns.length ≤ 4000 then some (.int (dd ns).length) else none
    | none => none
  | _ => none
theorem de_lset {p2 q : Pos} (hg : Gl X "len") (hm : X.mg "len" = none) (hg2 : Gl X "set") (hm2 : X.mg "set" = none) (ha : DE X np EW e fe) (hc : X.calm = true := by rfl)
    (na : starEach [e] X.env = (false, eval e X.env) :: starEach [] X.env := by rfl) : DE X np EW (.Call (.Name "len" p) [.Call (.Name "set" p2) [e] [] q] [] pos) (unE lsetD fe) := by
  refine ⟨fun pins s σ H Q I h => ?_⟩
  refine Call_ (ld_blt I hg hm boot_len (PyProof.Rows.callWith_builtin1 (PyProof.Rows.args_cons ?_ rfl) rfl rfl))
  refine Call_ (ld_blt I hg2 hm2 boot_set (PyProof.Rows.callWith_type1 (PyProof.Rows.args_cons ?_ na) na rfl))
  obtain ⟨L, C, ρ, R, h⟩ := h
  have h0 : tE X.K np EW fe σ H (fun v H1 => ∃ l ns, v = .ref l ∧ SqT X.K H1 l (ns.map V.int) ∧ ns.length ≤ 4000 ∧ Q (.int (dd ns).length) H1) := tE_of R h fun p v H1 C1 A1 R1 r1 h1 => by
    obtain ⟨d, e, h2⟩ := wp_ofO (wp_bind.mp h1)
    obtain ⟨dp, ρ1⟩ := p
    cases dp <;> simp only [lsetD, reduceCtorEq] at e
    rename_i ds
    cases e2 : ints? ds with
    | none => rw [e2] at e; cases e
    | some ns =>
      rw [e2] at e
      by_cases hz : ns.length ≤ 4000
      · simp only [hz, if_true] at e; cases e
        obtain ⟨a, us, rfl, hat, rr⟩ := r1.tup_inv
        have := ints?_some e2
        subst this
        have eu := rr.ints
        subst eu
        exact ⟨a, ns, rfl, hat, hz, h2 _ H1 C1 A1 R1 (.int _)⟩
      · simp only [hz, if_false] at e; cases e
  refine thn (ha.run pins s σ H _ I h0) fun v s1 ⟨x, H1, I1, r1, l, ns, e1, hq, hl, q1⟩ => PyProof.Rows.args_nil ?_
  subst e1
  cases r1
  obtain ⟨its, rv, ht, hz⟩ := I1.tuple hq
  refine call_set_tupI ns (I1.ok.hd hc) (show s1.heap.IsTuple l its.toArray from ht) (by simpa using rv.ints) (by unfold scanBound; omega) fun h' tk c hS hcl hk => ?_
  refine PyProof.Rows.args_nil ?_
  obtain ⟨o, es, ep, t, ho, hex, hd, _, hnd, hmem, hsb, hf, hn, _⟩ := hS
  have I2 : Inv X pins σ H1 { s1 with heap := h', toks := tk } := I1.kept hk
  have hlen : es.size = (dd ns).length := by
    have l1 : (es.toList.map keyOf).length = es.size := by simp
    have a1 : (es.toList.map keyOf).length ≤ (dd ns).length := nodup_len hnd fun x hx => dd_mem.mpr (by simpa using (hmem x).mpr hx)
    have a2 : (dd ns).length ≤ (es.toList.map keyOf).length := nodup_len (dd_nodup ns) fun x hx => (hmem x).mp (by simpa using dd_mem.mp hx)
    omega
  exact call_len_set ho hex hd hf (by have : es.size < scanBound := hsb; unfold scanBound at this; omega) ⟨.int (dd ns).length, H1, I2.tok _, ⟨_, by rw [hlen]⟩, q1⟩
end
end
end Dm

namespace Dm
noncomputable section
open PySem PySem.Spec PyProof.Rows L2

/-! ### zip, enumerate, a text's signs -/
section
variable {K : PySem.W.Frag} {np : Fp} {L : Lv} {H0 : Hp} {C0 : Col}
def zipD (xs ys : List D) : List D := (xs.zip ys).map fun p => .tuple [p.1, p.2]
theorem zipD_get {xs ys : List D} {i : Nat} {d : D} (h : (zipD xs ys)[i]? = some d) : ∃ x y, xs[i]? = some x ∧ ys[i]? = some y ∧ d = .tuple [x, y] := by
  unfold zipD at h
  rw [List.getElem?_map] at h
  cases e : (xs.zip ys)[i]? with
  | none => rw [e] at h; cases h
  | some p =>
    rw [e] at h; cases h
    have := List.getElem?_zip_eq_some.mp e
    exact ⟨p.1, p.2, this.1, this.2, rfl⟩
theorem zipD_len (xs ys : List D) : (zipD xs ys).length = min xs.length ys.length := by unfold zipD; rw [List.length_map, List.length_zip]
theorem pair_new {H : Hp} {C : Col} {T : Addr} {x y : V} {d e : D} {P : Addr → Prop} (hT : H T = none) (rx : Rp K H P x d) (ry : Rp K H P y e) : PStp H C (upd H T (.tup [x, y])) C ∧ (∀ b, upd H T (.tup [x, y]) b ≠ none → H b = none → ∃ o, upd H T (.tup [x, y]) b = some o) ∧
    RpB true K (upd H T (.tup [x, y])) P (.ref T) (.tuple [d, e]) := by
  have S := pstp_id (C := C) (o := .tup [x, y]) hT
  refine ⟨S, fun b h1 h2 => ?_, .inr ⟨rfl, _, _, _, rfl, rfl, .of upd_same, .cons (rx.same S.same) (.cons (ry.same S.same) .nil)⟩⟩
  by_cases e : b = T
  · subst e; exact ⟨_, upd_same⟩
  · rw [upd_ne e] at h1; exact absurd h2 h1
theorem it_zipL {a b : Addr} {us ws : List V} {xs ys : List D} (ha : H0 a = some (.lst us)) (ca : Cof C0 L a) (ra : RpA K H0 (Cof C0 L) us xs) (hb : H0 b = some (.lst ws)) (cb : Cof C0 L b) (rb : RpA K H0 (Cof C0 L) ws ys) : ItOk true K np L (zipD xs ys) (Itz K a b) H0 C0 where
  go := fun i H C ρ A hi => by
    rw [zipD_len, ← ra.len, ← rb.len] at hi
    have h1 : i < us.length := by omega
    have h2 : i < ws.length := by omega
    exact ⟨us, ws, us[i], ws[i], .of (A.moves.1 a us ca ha).1, .of (A.moves.1 b ws cb hb).1, by simp [h1], by simp [h2]⟩
  stop := fun H C ρ A => ⟨us, ws, .of (A.moves.1 a us ca ha).1, .of (A.moves.1 b ws cb hb).1, by rw [zipD_len, ← ra.len, ← rb.len]; omega⟩
  yld := fun i H C ρ v H' d A e ⟨T, x, y, h1, hT, h2, hx, hy⟩ => by
    obtain ⟨dx, dy, e1, e2, rfl⟩ := zipD_get e
    subst h1 h2
    obtain ⟨vx, g1, r1⟩ := ra.get e1
    obtain ⟨vy, g2, r2⟩ := rb.get e2
    have z1 := hx us (.of (A.moves.1 a us ca ha).1)
    have z2 := hy ws (.of (A.moves.1 b ws cb hb).1)
    rw [z1] at g1; cases g1
    rw [z2] at g2; cases g2
    exact pair_new hT (A.rp r1) (A.rp r2)
theorem it_zipT {a b : Addr} {us ws : List V} {xs ys : List D} (ha : SqT K H0 a us) (ra : RpA K H0 (Cof C0 L) us xs) (hb : SqT K H0 b ws) (rb : RpA K H0 (Cof C0 L) ws ys) : ItOk true K np L (zipD xs ys) (RZ.ItzT K a b) H0 C0 where
  go := fun i H C ρ A hi => by
    rw [zipD_len, ← ra.len, ← rb.len] at hi
    have h1 : i < us.length := by omega
    have h2 : i < ws.length := by omega
    exact ⟨us, ws, us[i], ws[i], SqT.keep ha A.moves.2, SqT.keep hb A.moves.2, by simp [h1], by simp [h2]⟩
  stop := fun H C ρ A => ⟨us, ws, SqT.keep ha A.moves.2, SqT.keep hb A.moves.2, by rw [zipD_len, ← ra.len, ← rb.len]; omega⟩
  yld := fun i H C ρ v H' d A e ⟨T, x, y, h1, hT, h2, hx, hy⟩ => by
    obtain ⟨dx, dy, e1, e2, rfl⟩ := zipD_get e
    subst h1 h2
    obtain ⟨vx, g1, r1⟩ := ra.get e1
    obtain ⟨vy, g2, r2⟩ := rb.get e2
    have z1 := hx us (SqT.keep ha A.moves.2)
    have z2 := hy ws (SqT.keep hb A.moves.2)
    rw [z1] at g1; cases g1
    rw [z2] at g2; cases g2
    exact pair_new hT (A.rp r1) (A.rp r2)
def enumD (xs : List D) : List D := xs.zipIdx.map fun p => .tuple [.int (p.2 : Nat), p.1]
theorem enumD_get {xs : List D} {i : Nat} {d : D} (h : (enumD xs)[i]? = some d) : ∃ x, xs[i]? = some x ∧ d = .tuple [.int (i : Nat), x] := by
  unfold enumD at h
  rw [List.getElem?_map, List.getElem?_zipIdx] at h
  cases e : xs[i]? with
  | none => rw [e] at h; cases h
  | some x => rw [e] at h; cases h; exact ⟨x, rfl, by simp⟩
theorem it_enum {a : Addr} {us : List V} {xs : List D} (ha : H0 a = some (.lst us)) (ca : Cof C0 L a) (ra : RpA K H0 (Cof C0 L) us xs) : ItOk true K np L (enumD xs) (Ite K a) H0 C0 where
  go := fun i H C ρ A hi => by
    have h1 : i < us.length := by rw [ra.len]; simpa [enumD] using hi
    exact ⟨us, us[i], .of (A.moves.1 a us ca ha).1, by simp [h1]⟩
  stop := fun H C ρ A => ⟨us, .of (A.moves.1 a us ca ha).1, by rw [ra.len]; simp [enumD]⟩
  yld := fun i H C ρ v H' d A e ⟨T, x, h1, hT, h2, hx⟩ => by
    obtain ⟨dx, e1, rfl⟩ := enumD_get e
    subst h1 h2
    obtain ⟨vx, g1, r1⟩ := ra.get e1
    have z1 := hx us (.of (A.moves.1 a us ca ha).1)
    rw [z1] at g1; cases g1
    exact pair_new hT (.int _) (A.rp r1)
end
section
variable {X : Cx} {np : Fp} {EW : XW} {tg e e2 : Expr} {fe fe2 : ES} {p pos tpos : Pos} {fs : AS} {elts : List Expr} {kk : Nat}
def zipG : List D → Option (List D)
  | [.list xs, .list ys] => some (zipD xs ys)
  | [.tuple xs, .tuple ys] => some (zipD xs ys)
  | _ => none
theorem zipG_some : ∀ {ds r : List D}, zipG ds = some r → (∃ xs ys, ds = [.list xs, .list ys] ∧ r = zipD xs ys) ∨ ∃ xs ys, ds = [.tuple xs, .tuple ys] ∧ r = zipD xs ys := by
  intro ds r h
  unfold zipG at h
  split at h
  · cases h; exact .inl ⟨_, _, rfl, rfl⟩
  · cases h; exact .inr ⟨_, _, rfl, rfl⟩
  · cases h
theorem di_zip (hg : Gl X "zip") (hm : X.mg "zip" = none) (ha : DA X np EW [e, e2] fs)
    (hs : starEach [e, e2] X.env = (false, eval e X.env) :: starEach [e2] X.env := by rfl) (hpl : (backTo pos (starEach [e2] X.env)).any (·.1) = false := by rfl) : DI X np EW (.Tuple elts kk tpos) (.Call (.Name "zip" p) [e, e2] [] pos) (agA zipG fs) :=
  PI.weak (RZ.pi_zipA hg hm ha hs hpl) fun σ H R ⟨L, C, ρ, Rl, h⟩ => tA_of Rl h fun q vs H1 C1 A1 R1 r1 h1 => by
    obtain ⟨d, e, h2⟩ := wp_ofO (wp_bind.mp h1)
    obtain ⟨ds, ρ1⟩ := q
    rcases zipG_some e with ⟨xs, ys, rfl, rfl⟩ | ⟨xs, ys, rfl, rfl⟩
    · obtain ⟨v, w, rfl, rv, rw⟩ := r1.two
      obtain ⟨a, us, rfl, ha, ca, ra⟩ := rv.lst_inv
      obtain ⟨b, ws, rfl, hb, cb, rb⟩ := rw.lst_inv
      exact ⟨a, b, us, ws, rfl, .inl ⟨.of ha, .of hb, h2 _ H1 C1 A1 R1 (it_zipL ha ca ra hb cb rb)⟩⟩
    · obtain ⟨v, w, rfl, rv, rw⟩ := r1.two
      obtain ⟨a, us, rfl, ha, ra⟩ := rv.tup_inv
      obtain ⟨b, ws, rfl, hb, rb⟩ := rw.tup_inv
      exact ⟨a, b, us, ws, rfl, .inr ⟨ha, hb, h2 _ H1 C1 A1 R1 (it_zipT ha ra hb rb)⟩⟩
def enumG : List D → Option (List D)
  | [.list xs] => some (enumD xs)
  | _ => none
theorem di_enum (hg : Gl X "enumerate") (hm : X.mg "enumerate" = none) (ha : DA X np EW [e] fs) (hs : starEach [e] X.env = [(false, eval e X.env)] := by rfl) : DI X np EW (.Tuple elts kk tpos) (.Call (.Name "enumerate" p) [e] [] pos) (agA enumG fs) :=
  PI.weak (pi_enum hg hm ha hs) fun σ H R ⟨L, C, ρ, Rl, h⟩ => tA_of Rl h fun q vs H1 C1 A1 R1 r1 h1 => by
    obtain ⟨d, e, h2⟩ := wp_ofO (wp_bind.mp h1)
    obtain ⟨ds, ρ1⟩ := q
    unfold enumG at e
    split at e
    · rename_i xs he
      have he' : ds = [.list xs] := he
      subst he'
      cases e
      obtain ⟨v, rfl, rv⟩ := r1.one
      obtain ⟨a, us, rfl, ha, ca, ra⟩ := rv.lst_inv
      exact ⟨a, us, rfl, .of ha, h2 _ H1 C1 A1 R1 (it_enum ha ca ra)⟩
    · cases e

/-! ### xs[i] = e, xs[i] op= e, of the list at slot j -/
theorem ixN_set {us : List V} {ds : List D} {K : PySem.W.Frag} {H : Hp} {P : Addr → Prop} (r : RpA K H P us ds) {k : Int} {n : Nat} (h : ixN ds.length k = some n) : ixN us.length k = some n := by rw [r.len]; exact h
def stS (j : Nat) (fe fi : ES) : SS := fun ρ => if isOw ρ[j]? then (fe .va ρ).to fun p => (fi .va p.2).to fun q => (isI q.1).to fun k => owA q.2[j]? fun ds => match ixN ds.length k with
  | some n => .nx (q.2.set j (.ow (ds.set n p.1)))
  | none => .bad
  else .bad
theorem va_imp {K : PySem.W.Frag} {H : Hp} {C : Col} {v : V} {d : D} (r : Rp K H (Cof C .va) v d) : Rp K H (fun b => C b = 0) v d := r.imp fun b hb => by
  have h : Lv.va.okb (C b) = true := hb
  simpa [Lv.okb] using h
theorem owm_pre2 {K : PySem.W.Frag} {H : Hp} {C : Col} {σ : L2.St} {ρ : Slots} {j : Nat} {Dn : Ends} {r : Fl} (R : Rel K np H C σ ρ) (h : pst K np EW Dn H C (if isOw ρ[j]? then r else .bad)) :
    ∃ a, σ[j]? = some (some (V.ref a)) ∧ pst K np EW Dn H C r := let ⟨a, _, h1, _, h3⟩ := owm_pre R h; ⟨a, h1, h3⟩
theorem ds_sub (j : Nat) {i : Expr} {fi : ES} {x : Str} {px tpos : Pos} (hj : PE X (.Name x px) (tVar j)) (h : DE X np EW e fe) (hi : DE X np EW i fi)
    (ha : ∀ v, assign (.Subscript (.Name x px) i tpos) X.env v = (do
      let ov ← holding [v] (eval (.Name x px) X.env)
      let iv ← holding [v, ov] (eval i X.env)
      standAt tpos
      holding [v, ov, iv] (setItem ov iv v)
      release [v, ov, iv] []) := by intro _; rfl) (hs : swapsWithSole [.Subscript (.Name x px) i tpos] e pos.line X.env = pure false := by rfl) (hw : swappedStores [.Subscript (.Name x px) i tpos] e X.env = pure none := by rfl)
    (h1 : (assignEach [.Subscript (.Name x px) i tpos] X.env).map (·.2) = [assign (.Subscript (.Name x px) i tpos) X.env] := by rfl) : DS X np EW (.Assign [.Subscript (.Name x px) i tpos] e pos) (stS j fe fi) :=
  PS.weak (ps_asg h (pg_sub hj hi set_list ha) hs hw h1) fun Dn σ H ⟨C, ρ, R, h⟩ => by
    obtain ⟨a, hs, h⟩ := owm_pre2 R h
    refine toE_of (L := .va) R h fun p v H1 C1 A1 R1 r1 q1 => ⟨.ref a, hs, toE_of (L := .va) R1 q1 fun q w H2 C2 A2 R2 r2 q2 => ?_⟩
    obtain ⟨dq, ρ2⟩ := q
    cases dq with
    | int k =>
      obtain rfl := r2.int_inv
      obtain ⟨ds, e, q3⟩ := owA_of (show pst X.K np EW Dn H2 C2 (owA ρ2[j]? fun ds => match ixN ds.length k with
        | some n => .nx (ρ2.set j (.ow (ds.set n p.1)))
        | none => .bad) from q2)
      obtain ⟨a', us, hs', ha', hc', rr⟩ := ow_get R2 e
      rw [hs] at hs'; cases hs'
      cases en : ixN ds.length k with
      | none => simp only [en] at q3; exact q3.elim
      | some n =>
        simp only [en] at q3
        refine ⟨a, us, k, n, rfl, rfl, ha', ixN_set rr en, ?_⟩
        obtain ⟨S, R3⟩ := ow_upd R2 ⟨ds, e⟩ hs ha' hc' (rr.set n (va_imp (A2.rp r1)))
        exact q3 _ _ _ S R3
    | _ => exact q2.elim
/-- list items by a place from 0 on -/
def rGetL (K : PySem.W.Frag) : V → V → Hp → VK → Prop := fun x y H Q => ∃ p xs i v, x = .ref p ∧ y = .int i ∧ SqL K H p xs ∧ 0 ≤ i ∧ xs[i.toNat]? = some v ∧ Q v H
theorem get_list : PGet X (rGetL X.K) := by
  intro pins s σ H o i ov iv Q I ro ri h
  obtain ⟨a, xs, k, v, rfl, rfl, hq, h0, hv, q⟩ := h
  cases ro
  obtain ⟨t, rfl⟩ := ri
  obtain ⟨its, r, pl, hz⟩ := I.list hq
  obtain ⟨u, hu, ru⟩ := r.get hv
  have hlt : k.toNat < its.length := (List.getElem?_eq_some_iff.mp hu).1
  have hl := r.length
  have hn := line63
  exact wpAny_getItem_list pl.isList h0 (by omega) (by simpa using hu) ⟨v, H, I, ru, q⟩
def ipAdd (f : Int → Int → Int) : D → D → Option D
  | .int i, .int j => some (.int (f i j))
  | _, _ => none
def auS (j : Nat) (f : Int → Int → Int) (fi fe : ES) : SS := fun ρ => if isOw ρ[j]? then (fi .va ρ).to fun q => (isI q.1).to fun k => owA q.2[j]? fun ds => if 0 ≤ k then (match ds[k.toNat]? with
  | some old => (fe .va q.2).to fun p => owA p.2[j]? fun ds2 => match ipAdd f old p.1 with
    | some new => if k.toNat < ds2.length then .nx (p.2.set j (.ow (ds2.set k.toNat new))) else .bad
    | none => .bad
  | none => .bad) else .bad else .bad
theorem ds_aug (j : Nat) {op : Operator} {f : Int → Int → Int} {i : Expr} {fi : ES} {x : Str} {px tpos : Pos} (hp : PIp X op (ipI f)) (hj : PE X (.Name x px) (tVar j)) (hi : DE X np EW i fi) (h : DE X np EW e fe)
    (ha : ∀ ov iv new, augStore i ov iv new = (do holding [new, ov, iv] (setItem ov iv new); release [new, ov, iv] []; pure .next) := by intros; rfl) : DS X np EW (.AugAssign (.Subscript (.Name x px) i tpos) op e pos) (auS j f fi fe) :=
  PS.weak (ps_augS hj hi get_list h hp set_list ha) fun Dn σ H ⟨C, ρ, R, h⟩ => by
    obtain ⟨a, hs, h⟩ := owm_pre2 R h
    refine ⟨.ref a, hs, toE_of (L := .va) R h fun q w H2 C2 A2 R2 r2 q2 => ?_⟩
    obtain ⟨dq, ρ2⟩ := q
    cases dq with
    | int k =>
      obtain rfl := r2.int_inv
      obtain ⟨ds, e, q3⟩ := owA_of (show pst X.K np EW Dn H2 C2 (owA ρ2[j]? fun ds => if 0 ≤ k then (match ds[k.toNat]? with
        | some old => (fe .va ρ2).to fun p => owA p.2[j]? fun ds2 => match ipAdd f old p.1 with
          | some new => if k.toNat < ds2.length then .nx (p.2.set j (.ow (ds2.set k.toNat new))) else .bad
          | none => .bad
        | none => .bad) else .bad) from q2)
      obtain ⟨a', us, hs', ha', hc', rr⟩ := ow_get R2 e
      rw [hs] at hs'; cases hs'
      by_cases h0 : 0 ≤ k
      · rw [if_pos h0] at q3
        cases eo : ds[k.toNat]? with
        | none => simp only [eo] at q3; exact q3.elim
        | some old =>
          simp only [eo] at q3
          obtain ⟨vo, hvo, rvo⟩ := rr.get eo
          refine ⟨a, us, k, vo, rfl, rfl, .of ha', h0, hvo, toE_of (L := .va) R2 q3 fun p y H3 C3 A3 R3 r3 q4 => ?_⟩
          obtain ⟨ds2, e3, q5⟩ := owA_of q4
          obtain ⟨a3, us3, hs3, ha3, hc3, rr3⟩ := ow_get R3 e3
          rw [hs] at hs3; cases hs3
          cases en : ipAdd f old p.1 with
          | none => simp only [en] at q5; exact q5.elim
          | some new =>
            simp only [en] at q5
            obtain ⟨dp, ρ3⟩ := p
            cases old <;> cases dp <;> simp only [ipAdd, reduceCtorEq] at en
            cases en
            obtain rfl := rvo.int_inv
            obtain rfl := r3.int_inv
            refine ⟨_, _, rfl, rfl, ?_⟩
            by_cases hl : k.toNat < ds2.length
            · rw [if_pos hl] at q5
              refine ⟨a, us3, k, k.toNat, rfl, rfl, ha3, ?_, ?_⟩
              · unfold ixN
                rw [if_pos h0, if_pos (by rw [rr3.len]; omega)]
              · obtain ⟨S, R5⟩ := ow_upd R3 ⟨ds2, e3⟩ hs ha3 hc3 (rr3.set k.toNat (.int _))
                exact q5 _ _ _ S R5
            · rw [if_neg hl] at q5; exact q5.elim
      · rw [if_neg h0] at q3; exact q3.elim
    | _ => exact q2.elim

/-! ### xs.pop(i) -/
def poE (j : Nat) (fi : ES) : ES := fun L ρ => if !L.pure && isOw ρ[j]? then (fi .va ρ).bind fun q => (isI q.1).bind fun k => match q.2[j]? with
  | some (.ow ds) => if inB 0 (2 ^ 63) k then (match ds[k.toNat]? with
    | some d => .ok (d, q.2.set j (.ow (ds.eraseIdx k.toNat)))
    | none => .bad) else .bad
  | _ => .bad
  else .bad
theorem de_pop (j : Nat) {i : Expr} {fi : ES} {x : Str} {px apos cpos : Pos} (hj : PE X (.Name x px) (tVar j)) (hi : DE X np EW i fi)
    (hpe : ∀ {t : TE}, PE X i t → PE X (.Call (.Attribute (.Name x px) "pop" apos) [i] [] cpos) (tBM X.K "list" rPopAt (tVar j) (tCons t tNil))) :
    DE X np EW (.Call (.Attribute (.Name x px) "pop" apos) [i] [] cpos) (poE j fi) :=
  PE.weak (hpe hi) fun σ H Q ⟨L, C, ρ, R, h⟩ => by
    unfold poE at h
    by_cases hL : (!L.pure && isOw ρ[j]?) = true
    · rw [if_pos hL] at h
      rw [Bool.and_eq_true] at hL
      have hLp : L.pure = false := by simpa using hL.1
      obtain ⟨ds0, e0⟩ := isOw_get hL.2
      obtain ⟨a, us, hs, ha, _, _⟩ := ow_get R e0
      refine ⟨.ref a, hs, .inl ⟨rfl, _, .inl (.inl ha)⟩, tE_of (L := .va) R h fun q w H2 C2 A2 R2 r2 q2 => ?_⟩
      obtain ⟨dq, ρ2⟩ := q
      cases dq with
      | int k =>
        obtain rfl := r2.int_inv
        simp only [isI, bind_ok] at q2
        cases e : ρ2[j]? with
        | none => simp only [e] at q2; exact q2.elim
        | some s =>
          cases s with
          | ow ds =>
            simp only [e] at q2
            by_cases hk : inB 0 (2 ^ 63) k = true
            · simp only [hk, if_true] at q2
              simp only [inB_eq, Bool.and_eq_true, decide_eq_true_eq] at hk
              cases ed : ds[k.toNat]? with
              | none => simp only [ed] at q2; exact q2.elim
              | some d =>
                simp only [ed] at q2
                obtain ⟨a', us', hs', ha', hc', rr⟩ := ow_get R2 e
                rw [hs] at hs'; cases hs'
                obtain ⟨v, hv, rv⟩ := rr.get ed
                have hlt : k.toNat < us'.length := (List.getElem?_eq_some_iff.mp hv).1
                refine ⟨a, us', k, k.toNat, v, rfl, rfl, ha', by omega, hk.2, PySem.StrLaws.seqIndex_nonneg hk.1 (by omega), hv, ?_⟩
                obtain ⟨S, R3⟩ := ow_upd R2 ⟨ds, e⟩ hs ha' hc' (rr.erase k.toNat)
                refine q2 v _ C2 ⟨A2.stp.trans S, fun z => by rw [hLp] at z; cases z⟩ R3 ?_
                have ne_a : ∀ b, C2 b = 0 → b ≠ a := fun b h z => by subst z; omega
                exact rv.move (fun b xs hb h => ⟨by rw [upd_ne (ne_a b hb)]; exact h, by unfold Cof; rw [hb]; exact L.ok0⟩) fun b o h im => by
                  rw [upd_ne (fun z => by subst z; rw [ha'] at h; cases h; exact im)]; exact h
            · simp only [hk] at q2; exact q2.elim
          | _ => simp only [e] at q2; exact q2.elim
      | _ => exact q2.elim
    · rw [if_neg hL] at h; exact h.elim

/-! ### the script -/
def slenE (j : Nat) : ES := fun _ ρ => match ρ[j]? with
  | some (.sc ns) => .ok (.int ns.length, ρ)
  | _ => .bad
def sixE (j : Nat) (fi : ES) : ES := fun L ρ => match ρ[j]? with
  | some (.sc ns) => (fi L ρ).bind fun q => match q.1 with
    | .int k => if 0 ≤ k then (match ns[k.toNat]? with | some n => .ok (.int n, q.2) | none => .bad) else .bad
    | _ => .bad
  | _ => .bad
theorem sc_get {K : PySem.W.Frag} {H : Hp} {C : Col} {σ : L2.St} {ρ : Slots} {j : Nat} {ns : List Int} (R : Rel K np H C σ ρ) (e : ρ[j]? = some (.sc ns)) : ∃ a, σ[j]? = some (some (.ref a)) ∧ SqF K H a (ns.map V.int) := by
  have r := R.get j _ e
  generalize σ[j]? = o at r
  cases r with
  | sc h => exact ⟨_, rfl, h⟩
theorem de_slen (j : Nat) {x : Str} {px : Pos} (hg : Gl X "len") (hm : X.mg "len" = none) (hj : PE X (.Name x px) (tVar j)) : DE X np EW (.Call (.Name "len" p) [.Name x px] [] pos) (slenE j) :=
  PE.weak (pe_callB call_len hg hm PySem.boot_len (pa_cons hj pa_nil)) fun σ H Q ⟨L, C, ρ, R, h⟩ => by
    unfold slenE at h
    cases e : ρ[j]? with
    | none => rw [e] at h; exact h.elim
    | some s =>
      rw [e] at h
      cases s with
      | sc ns =>
        obtain ⟨a, hs, ha⟩ := sc_get R e
        exact ⟨.ref a, hs, .ref a, ns.length, rfl, .inl ⟨_, ha.sq, by rw [List.length_map]⟩, h _ H C .refl R (.int _)⟩
      | _ => exact h.elim
theorem de_six (j : Nat) {i : Expr} {fi : ES} {x : Str} {px : Pos} (hj : PE X (.Name x px) (tVar j)) (hi : DE X np EW i fi) (hs : PlainIx i := by exact fun _ _ => rfl) : DE X np EW (.Subscript (.Name x px) i pos) (sixE j fi) :=
  PE.weak (pe_ix ix_list hj hi hs) fun σ H Q ⟨L, C, ρ, R, h⟩ => by
    unfold sixE at h
    cases e : ρ[j]? with
    | none => rw [e] at h; exact h.elim
    | some s =>
      rw [e] at h
      cases s with
      | sc ns =>
        obtain ⟨a, hs, ha⟩ := sc_get R e
        refine ⟨.ref a, hs, tE_of R h fun q w H2 C2 A2 R2 r2 q2 => ?_⟩
        obtain ⟨dq, ρ2⟩ := q
        cases dq with
        | int k =>
          obtain rfl := r2.int_inv
          simp only at q2
          by_cases h0 : 0 ≤ k
          · rw [if_pos h0] at q2
            cases en : ns[k.toNat]? with
            | none => simp only [en] at q2; exact q2.elim
            | some n =>
              simp only [en] at q2
              have ha2 : SqL X.K H2 a (ns.map V.int) := by
                refine SqF.sq ?_
                rcases ha with ⟨o, ha⟩ | ha
                · exact .inl ⟨o, A2.stp.keep _ _ ha (.inr trivial)⟩
                · exact .inr ha
              refine ⟨a, ns.map V.int, k, .int n, rfl, rfl, ha2, ?_, q2 _ H2 C2 A2 R2 (.int _)⟩
              have := atI_nat (xs := ns.map V.int) (j := k.toNat) (v := .int n) (by rw [List.getElem?_map, en]; rfl)
              rwa [Int.toNat_of_nonneg h0] at this
          · rw [if_neg h0] at q2; exact q2.elim
        | _ => exact q2.elim
      | _ => exact h.elim
/-! ### what is made anew is x's alone, with all that lies within -/
def boAll : Slots → Slots := List.map fun s => match s with
  | .va d => .bo d
  | .ow _ => .no
  | .ob _ _ => .no
  | .dc _ => .no
  | .ex _ => .no
  | .tw _ _ => .no
  | s => s
def unS (np i : Nat) (fe : ES) : SS := fun ρ => if np ≤ i then (fe .fr (boAll ρ)).to fun p => .nx (ρ.set i (.un p.1)) else .bad
theorem rel_boAll {K : PySem.W.Frag} {H : Hp} {C : Col} {σ : L2.St} {ρ : Slots} (R : Rel K np H C σ ρ) : Rel K np H (fun b => match H b with | none => 0 | some _ => if C b = 0 then 1 else C b) σ (boAll ρ) := by
  refine ⟨by unfold boAll; rw [List.length_map]; exact R.len, fun i s e => ?_⟩
  unfold boAll at e
  rw [List.getElem?_map] at e
  have tr : ∀ b xs, H b = some (.lst xs) → (match H b with | none => 0 | some _ => if C b = 0 then 1 else C b) = (if C b = 0 then 1 else C b) := fun b xs h => by rw [h]
  cases e2 : ρ[i]? with
  | none => rw [e2] at e; cases e
  | some s0 =>
    rw [e2] at e
    have r := R.get i s0 e2
    generalize σ[i]? = o at r ⊢
    cases r with
    | no => cases e; exact .no
    | va r => cases e; exact .bo (r.move (fun b xs hb h => ⟨h, by rw [tr b xs h, if_pos hb]; exact Nat.le_refl _⟩) fun _ _ h _ => h)
    | bo r => cases e; exact .bo (r.move (fun b xs hb h => ⟨h, by rw [tr b xs h]; split <;> omega⟩) fun _ _ h _ => h)
    | ow h c r pn => cases e; exact .no
    | un r => cases e; exact .un (r.move (fun b xs hb h => ⟨h, by rw [tr b xs h, if_neg (by omega)]; exact hb⟩) fun _ _ h _ => h)
    | sc h => cases e; exact .sc h
    | ob _ _ _ _ _ => cases e; exact .no
    | dc _ _ _ _ => cases e; exact .no
    | ex _ _ _ => cases e; exact .no
    | tw _ _ _ _ _ _ _ _ _ _ => cases e; exact .no
theorem ds_un {i : Nat} {x : Str} {pos' : Pos} (hN : X.N.Nodup) (hi : X.N[i]? = some x) (hx : Loc X.env.scope x) (h : DE X np EW e fe) (hs : swapsWith e (some (.Name x pos')) pos.line X.env = pure false := by rfl)
    (hf : X.fn x = true ∨ X.env.scope.names.lookup x = some .local := by first | exact .inl rfl | exact .inr rfl | assumption) : DS X np EW (.Assign [.Name x pos'] e pos) (unS np.n i fe) :=
  PS.weak (ps_set hN hi hx h hs hf) fun Dn σ H ⟨C, ρ, R, h⟩ => by
    unfold unS at h
    by_cases hn : np.n ≤ i
    · rw [if_pos hn] at h
      have tr : ∀ b, H b ≠ none → (match H b with | none => 0 | some _ => if C b = 0 then 1 else C b) = (if C b = 0 then 1 else C b) := fun b hb => by
        obtain ⟨o, ho⟩ := ne_some hb
        rw [ho]
      refine ⟨.fr, _, boAll ρ, rel_boAll R, ?_⟩
      cases e : fe .fr (boAll ρ) with
      | bad => rw [e] at h; exact h.elim
      | ex c =>
        rw [e] at h
        intro H' C' S
        refine h H' (fun b => match H b with | none => 0 | some _ => if C b = 0 then 0 else C' b) ⟨fun b x hb k => S.keep b x hb ?_, S.there, fun b hb hc => ?_, fun b hb hc => ?_⟩
        · rcases k with k | k
          · left; rw [tr b (by rw [hb]; simp)]; split <;> omega
          · exact .inr k
        · obtain ⟨o, ho⟩ := ne_some hb
          simp only [ho]
          by_cases z : C b = 0
          · rw [if_pos z, z]
          · rw [if_neg z]
            have := S.colo b hb (by rw [tr b hb, if_neg z]; exact hc)
            rw [this, tr b hb, if_neg z]
        · obtain ⟨o, ho⟩ := ne_some hb
          simp only [ho]
          have z : ¬ C b = 0 := by omega
          rw [if_neg z]
          have := S.colh b hb (by rw [tr b hb, if_neg z]; exact hc)
          exact this
      | ok p =>
        rw [e] at h
        intro v H' C' A _ r
        obtain ⟨_, P⟩ := A.pu rfl
        have old : ∀ b, C' b = 0 → H b = none := fun b hb => by
          cases q : H b with
          | none => rfl
          | some o =>
            have h1 := P.col b (by rw [q]; simp)
            rw [tr b (by rw [q]; simp)] at h1
            split at h1 <;> omega
        have S : PStp H C H' (fun b => match H b with | none => i + 3 | some _ => C b) := ⟨P.same, fun b hb => by
          obtain ⟨o, ho⟩ := ne_some hb
          simp only [ho]⟩
        refine h _ H' _ S.stp ((R.pstp S).set (.un (r.imp fun b hb => ?_)))
        have hb' : Lv.fr.okb (C' b) = true := hb
        have hb2 : C' b = 0 := by simpa [Lv.okb] using hb'
        show (match H b with | none => i + 3 | some _ => C b) = i + 3
        rw [old b hb2]
    · rw [if_neg hn] at h; exact h.elim
end
end
end Dm

namespace Dm
noncomputable section
open PySem PySem.Spec PyProof.Rows L2

/-! ### the law's own end -/
section
variable {P : Program} {w : World} {K : PySem.W.Frag} {mg mb : Str → Option Value}
/-- nothing is tracked but the script at a, if that is none of the module's own -/
structure Sc0 (P : Program) (w : World) (K : PySem.W.Frag) (h : Heap) (a : Addr) (ns : List Int) (H : Hp) : Prop where
  one : ∀ b, H b ≠ none → b = a ∧ K.lookup a = none
  frz : ∀ b o, H b = some o → ∃ ob xs, o = .frz ob (.lst xs)
  sq : SqF K H a (ns.map V.int)
  ok : HOk P w H h
theorem sc0 {h : Heap} {a : Addr} {vs : List Value} {ns : List Int} (kin : K.In h) (ha : h.get? a = some { cls := .type "list", data := .seq vs.toArray }) (hi : IntsAre vs ns) (hl : ns.length ≤ sizeLine) : ∃ H, Sc0 P w K h a ns H := by
  have rv := vals_ints hi
  have ln := hi.length
  cases hk : K.lookup a with
  | some o =>
    have e : h.get? a = some o := kin a o hk
    rw [ha] at e; cases e
    exact ⟨fun _ => none, { one := fun b z => absurd rfl z, frz := fun b o z => (nomatch (show (none : Option HO) = some o from z)), sq := .inr ⟨_, vs.toArray, 0, hk, rfl, rfl, rfl, by rw [List.size_toArray, ln]; exact hl, by simpa using rv⟩, ok := fun b o z => (nomatch (show (none : Option HO) = some o from z)) }⟩
  | none =>
    let fo : HO := .frz { cls := .type "list", data := .seq vs.toArray } (.lst (ns.map V.int))
    have off : ∀ b, b ≠ a → upd (fun _ => none) a fo b = none := fun b z => upd_ne z
    refine ⟨upd (fun _ => none) a fo, { one := fun b z => ⟨Classical.byContradiction fun q => z (off b q), hk⟩, frz := fun b o z => ?_, sq := .inl ⟨_, upd_same⟩, ok := fun b u z => ?_ }⟩
    · by_cases q : b = a
      · subst q; rw [upd_same] at z; cases z; exact ⟨_, _, rfl⟩
      · rw [off b q] at z; cases z
    · by_cases q : b = a
      · subst q; rw [upd_same] at z; cases z
        exact ⟨ha, by rw [List.length_map]; exact hl, vs, 0, rv, ha⟩
      · rw [off b q] at z; cases z
theorem g_call {Xc : CXT} {k : Nat} {fa a : Addr} {fd : FuncData} {x : Str} {sp : Sp} {s : Shared} {vs : List Value} {ns : List Int} (kin : K.In s.heap) (gl : s.heap.Ns mainGlobals mg) (bl : s.heap.Ns builtinsNs mb) (bb : ∀ y : Str, y ≠ "__name__" → mb y = bootBuiltins y)
    (lim : s.heap.NoLimit) (hg : s.gens = #[]) (ha : s.heap.get? a = some { cls := .type "list", data := .seq vs.toArray }) (hi : IntsAre vs ns) (hl : ns.length ≤ sizeLine) (room : Room k callerA)
    (F : ∀ b : Heap, K.In b → b.Ns mainGlobals mg → GFn P w K mg b Xc k fa fd [x] sp) (hbind : ∀ (s : Shared) (u : Value), BindsTo s fd ⟨[u], []⟩ [(x, u)])
    (hsp : ∀ H : Hp, SqF K H a (ns.map V.int) → sp [.ref a] H (fun v _ => v = .bl true) fun _ _ _ => False) (hx : ∀ H e s', ¬ Xc [] H s (fun _ _ _ => False) e s') :
    codeAny (model P w) callerA (.call (.ref fa) ⟨[.ref a], []⟩) (fun r s' => r = .ok (.ret (.bool true)) ∧ OldK s.heap s'.heap ∧ s'.os = s.os ∧ AllBare s'.gens) s := by
  obtain ⟨H, S⟩ := sc0 (P := P) (w := w) kin ha hi hl
  -- the base: the heap without the script
  have bget : ∀ {b o}, s.heap.get? b = some o → H b = none → (hidT s.heap H).get? b = some o := fun e n => hidT_get e n
  have dicts : ∀ {b : Addr} {o : Obj} {es : Array DictEntry} {ep : Nat}, s.heap.get? b = some o → o.data = .dict es ep → H b = none := by
    intro b o es ep e d
    cases q : H b with
    | none => rfl
    | some u =>
      obtain ⟨z, _⟩ := S.one b (by rw [q]; simp)
      subst z
      rw [ha] at e; cases e
      exact nomatch (show Data.seq vs.toArray _ = Data.dict es ep from d)
  have ns : ∀ {b : Addr} {m : Str → Option Value}, s.heap.Ns b m → (hidT s.heap H).Ns b m := by
    rintro b m ⟨o, es, ep, e, d, r⟩
    exact ⟨o, es, ep, bget e (dicts e d), d, r⟩
  have kb : K.In (hidT s.heap H) := by
    intro b o e
    refine bget (kin b o e) ?_
    cases q : H b with
    | none => rfl
    | some u =>
      obtain ⟨z, z2⟩ := S.one b (by rw [q]; simp)
      subst z
      rw [z2] at e; cases e
  obtain ⟨mc, c1, c2⟩ := lim
  have md : Mod K mg (hidT s.heap H) := ⟨kb, ns gl, ⟨mb, ns bl, bb⟩, ⟨mc, ns c1, c2⟩⟩
  have e0 : Env0 P w K mg (hidT s.heap H) callerA [] s H :=
    { frames := rfl, mod := md, bs := fun b o e => of_hidT e, bsz := Nat.le_of_eq (hidT_size _ _), funs := trivial, frf := fun b hb => (by simp [frs] at hb), hok := S.ok, bare := .of_eq hg }
  refine codeAny_mono ((F _ kb (ns gl)).run callerA [] s H ⟨[.ref a], []⟩ [.ref a] [.ref a] _ _ room rfl e0 (hbind s (.ref a)) (.cons rfl .nil) (hsp H S.sq)) fun r s' q => ?_
  cases r with
  | error e => exact (hx H e s' q).elim
  | ok fl =>
    cases fl with
    | ret u =>
      obtain ⟨v, H', os, bare, un, ok', rv, qv⟩ := q
      have qv' : v = .bl true := qv
      subst qv'
      have hu : u = Value.bool true := rv
      subst hu
      refine ⟨rfl, OldK.of_keep fun b o e => ?_, os, bare⟩
      cases q : H b with
      | none => exact un.keep b o e q (by simp [frs]) (by simp)
      | some uo =>
        obtain ⟨ob, xs, rfl⟩ := S.frz b uo q
        have z := (S.ok b _ q).1
        rw [e] at z; cases z
        exact (ok' b _ (un.frzs b _ _ q)).1
    | next => exact False.elim q
    | brk => exact False.elim q
    | cont => exact False.elim q
end
/-- the law's row, by what its def computes -/
theorem g_walk {l : PySem.W.OpenLaw} {n k m : Nat} {q : Program} {loose : List Str} {XP : (Str → Option Value) → Heap → Prop} {YP : World → Heap → Prop} {d : DefRec} {K : Params → PySem.W.Frag} {x : Str} {F : SS}
    (hn : l.most = some n) (hn2 : n ≤ sizeLine) (hdf : d.params.defaults = []) (hr : Room k callerA) (hY : ∀ (w : World) (h : Heap), YP w h → (K w.params).In h)
    (hF : ∀ (w : World) (mg : Str → Option Value) (fa : Addr) (h : Heap), (K w.params).In h → h.Ns mainGlobals mg → mg d.name = some (.ref fa) →
      ∃ fd : FuncData, (∀ (s : Shared) (u : Value), BindsTo s fd ⟨[u], []⟩ [(x, u)]) ∧ ∀ base : Heap, (K w.params).In base → base.Ns mainGlobals mg → GFn l.prog w (K w.params) mg base CX0 k fa fd [x] (spG (K w.params) (fun _ _ _ => False) 1 (bodyF m F)))
    (hm : ∀ ns : List Int, ns.length ≤ n → (∀ z ∈ ns, Builtin.Int.intBits z ≤ 1048576) → ∃ ρ, bodyF m F [.sc ns] = .ok (.bool true, ρ)) :
    PySem.W.WalkO q loose XP YP l.row.toRowW d [] (fun f vs => PySem.call f vs) := by
  refine Att.attach_callB hn hdf fun w s0 s mg mb fa o pm cd doc a vs ns G Y ho hd hcd hmg hobj hints hlen hbits hgen => ?_
  have kin := hY w _ Y
  obtain ⟨fd, hb, hF⟩ := hF w mg fa _ kin G.T.g hmg
  refine g_call kin G.T.g G.T.b G.T.builtins G.T.nolimit hgen hobj hints (Nat.le_trans hlen hn2) hr hF hb (fun H sq => ?_) fun H e s' z => z
  obtain ⟨ρ, e⟩ := hm ns hlen hbits
  refine ⟨rfl, colIn H, ⟨1, fun _ => 0⟩, [.sc ns], rfl, ⟨rfl, fun i s es => ?_⟩, fun b hb => ?_, ?_⟩
  · cases i with
    | zero => cases es; exact .sc sq
    | succ i => simp at es
  · obtain ⟨o, ho⟩ := ne_some hb
    rw [colIn_some ho]; omega
  · rw [e]
    exact fun v H' C' _ _ rv => rv.bl_inv
end
end Dm

namespace Dm
noncomputable section
open PySem PySem.Spec PyProof.Rows L2

/-! ### the same without effects -/
def Lv.toP : Lv → Lv
  | .va => .vp
  | .bo => .bp
  | L => L
theorem toP_okb (L : Lv) (c : Nat) : L.toP.okb c = L.okb c := by cases L <;> rfl
theorem toP_pure (L : Lv) : L.toP.pure = true := by cases L <;> rfl
def lvE (f : ES) : ES := fun L ρ => f L.toP ρ
def lvA (f : AS) : AS := fun L ρ => f L.toP ρ
theorem cof_toP {C : Col} {L : Lv} : Cof C L.toP = Cof C L := by funext b; unfold Cof; rw [toP_okb]
section
variable {X : Cx} {np : Fp} {EW : XW} {e : Expr} {fe : ES} {p pos : Pos}
theorem Aft.ofP {L : Lv} {ρ ρ1 : Slots} {H H1 : Hp} {C C1 : Col} (a : Aft np L.toP ρ H C ρ1 H1 C1) : Aft np L ρ H C ρ1 H1 C1 := ⟨a.stp, fun _ => a.pu (toP_pure L)⟩
theorem de_lv (h : DE X np EW e fe) : DE X np EW e (lvE fe) := PE.weak h fun σ H Q ⟨L, C, ρ, R, h⟩ =>
  ⟨L.toP, C, ρ, R, wp_mono h (fun p _ hp v H' C' A R' r => hp v H' C' A.ofP R' (by rw [← cof_toP]; exact r)) fun c z => z⟩
theorem tN_lv {K : PySem.W.Frag} {f : AS} {σ : L2.St} {H : Hp} {Q : VK} (h : tN K np EW (lvA f) σ H Q) : tN K np EW f σ H Q := by
  obtain ⟨L, C, ρ, R, h⟩ := h
  exact ⟨L.toP, C, ρ, R, wp_mono h (fun p _ hp t vs H' C' A R' ht r => hp t vs H' C' A.ofP R' ht (by rw [← cof_toP]; exact r)) fun c z => z⟩
theorem dn_lv {f : AS} (h : DN X np EW e f) : DN X np EW e (lvA f) := PE.weak h fun σ H Q => tN_lv
/-! int(x) -/
def intG : List D → Option D
  | [.int i] => some (.int i)
  | [.bool b] => some (.int (if b then 1 else 0))
  | _ => none
theorem cs_int {K : PySem.W.Frag} : CallS K (fun xs H Q => (∃ i, xs = [.int i] ∧ Q (.int i) H) ∨ ∃ k, xs = [.bl k] ∧ Q (.int (if k then 1 else 0)) H) intG := by
  intro H C L vs ds d Q r e q
  unfold intG at e
  split at e
  · cases e
    obtain ⟨v, rfl, rv⟩ := r.one
    obtain rfl := rv.int_inv
    exact .inl ⟨_, rfl, q _ H C .refl (.int _)⟩
  · cases e
    obtain ⟨v, rfl, rv⟩ := r.one
    obtain rfl := rv.bl_inv
    exact .inr ⟨_, rfl, q _ H C .refl (.int _)⟩
  · cases e
/-! x += e at a name -/
def agS (i : Nat) (f : Int → Int → Int) (fe : ES) : SS := fun ρ => match ρ[i]? with
  | some (.va (.int a)) => (fe .an ρ).to fun p => (isI p.1).to fun b => .nx (p.2.set i (.va (.int (f a b))))
  | _ => .bad
theorem ds_agn {i : Nat} {x : Str} {op : Operator} {f : Int → Int → Int} {pos' : Pos} (ho : PIp X op (ipI f)) (hN : X.N.Nodup) (hi : X.N[i]? = some x) (hx : Loc X.env.scope x) (h : DE X np EW e fe)
    (hf : X.fn x = true ∨ X.env.scope.names.lookup x = some .local := by first | exact .inl rfl | exact .inr rfl | assumption) : DS X np EW (.AugAssign (.Name x pos') op e pos) (agS i f fe) :=
  PS.weak (ps_aug hN hi hx h ho hf) fun Dn σ H ⟨C, ρ, R, h⟩ => by
    unfold agS at h
    cases e1 : ρ[i]? with
    | none => rw [e1] at h; exact h.elim
    | some s =>
      rw [e1] at h
      have r := R.get i s e1
      cases s with
      | va d =>
        cases d with
        | int a =>
          generalize eo : σ[i]? = o at r
          cases r with
          | va r =>
            obtain rfl := r.int_inv
            refine ⟨_, eo, toE_of (L := .an) R h fun p v H' C' A R' rv q => ?_⟩
            obtain ⟨dp, ρ1⟩ := p
            cases dp with
            | int b =>
              obtain rfl := rv.int_inv
              exact ⟨a, b, rfl, rfl, q _ H' C' .refl (R'.set (.va (.int _)))⟩
            | _ => exact q.elim
        | _ => exact h.elim
      | _ => exact h.elim
end
/-! told.append(e), told.reverse(), told[0].append(e) ..: a list within what is told's alone, plain things around it -/
def unA (o : Option Sl) (k : D → Fl) : Fl := match o with
  | some (.un d) => k d
  | _ => .bad
theorem unA_of {np : Fp} {EW : XW} {o : Option Sl} {k : D → Fl} {K : PySem.W.Frag} {Dn : Ends} {H : Hp} {C : Col} (h : pst K np EW Dn H C (unA o k)) : ∃ d, o = some (.un d) ∧ pst K np EW Dn H C (k d) := by
  cases o with
  | none => exact h.elim
  | some s =>
    cases s with
    | un d => exact ⟨d, rfl, h⟩
    | _ => exact h.elim
/-- the list at a, of x's own colour, gets new plain items -/
theorem un_upd {np : Fp} {K : PySem.W.Frag} {H : Hp} {C : Col} {σ : L2.St} {ρ : Slots} {j : Nat} {a : Addr} {us ws : List V} {v : V} {d' : D} (R : Rel K np H C σ ρ) (hj : ∃ d, ρ[j]? = some (.un d)) (hs : σ[j]? = some (some v)) (ha : H a = some (.lst us)) (hc : C a = j + 3)
    (r : Rp K (upd H a (.lst ws)) (fun b => C b = j + 3) v d') (hn : np.n ≤ j) : Stp np H C (upd H a (.lst ws)) C ∧ Rel K np (upd H a (.lst ws)) C σ (ρ.set j (.un d')) := by
  obtain ⟨d0, ej⟩ := hj
  have ne_of_col : ∀ b, C b ≠ j + 3 → b ≠ a := fun b h z => by subst z; exact h hc
  have imm_ne : ∀ {b : Addr} {o : HO}, H b = some o → Imm o → b ≠ a := fun {b o} h i z => by subst z; rw [ha] at h; cases h; exact i
  refine ⟨⟨fun b x h k => ?_, fun b h => ?_, fun _ _ _ => rfl, fun _ _ h => .inr h⟩, ⟨by rw [List.length_set]; exact R.len, fun i s e => ?_⟩⟩
  · rw [upd_ne ?_]; exact h
    rcases k with k | k
    · exact ne_of_col b (by omega)
    · exact imm_ne h k
  · by_cases z : b = a
    · subst z; rw [upd_same]; simp
    · rw [upd_ne z]; exact h
  · by_cases hij : i = j
    · subst hij
      rw [List.getElem?_set_self (List.getElem?_eq_some_iff.mp ej).1] at e
      cases e
      rw [hs]
      exact .un r
    · rw [List.getElem?_set_ne (Ne.symm hij)] at e
      exact (R.get i s e).off hij (fun b xs hb h => ⟨by rw [upd_ne (ne_of_col b hb)]; exact h, rfl⟩) fun b o h im => by rw [upd_ne (imm_ne h im)]; exact h
section
variable {X : Cx} {np : Fp} {EW : XW} {e : Expr} {fe : ES} {p pos : Pos}
/-- a method of a list without arguments, with one: what it makes of the items -/
structure Ml0 (X : Cx) (id : String) (r : V → List V → Hp → VK → Prop) (g : {α : Type} → List α → List α) : Prop where
  mt : MtM X id r
  ok : ∀ (l : Addr) (xs : List V) (H : Hp) (Q : VK), H l = some (.lst xs) → Q .non (upd H l (.lst (g xs))) → r (.ref l) [] H Q
  rp : ∀ {K : PySem.W.Frag} {H : Hp} {P : Addr → Prop} {us : List V} {ds : List D}, RpA K H P us ds → RpA K H P (g us) (g ds)
  no : ∀ ds : List D, noLs ds = true → noLs (g ds) = true
theorem noLs_app (a b : List D) : noLs (a ++ b) = (noLs a && noLs b) := by
  induction a with
  | nil => simp [noLs]
  | cons x r ih => simp [noLs, ih, Bool.and_assoc]
theorem noLs_all (a : List D) : noLs a = a.all noL := by
  induction a with
  | nil => rfl
  | cons x r ih => simp [noLs, ih]
theorem ml_reverse : Ml0 X "list.reverse" rReverse (fun xs => xs.reverse) := ⟨mt_reverse, fun l xs H Q h q => ⟨l, xs, rfl, rfl, h, q⟩, fun r => r.rev, fun ds h => by rw [noLs_all] at h ⊢; rw [List.all_reverse]; exact h⟩
theorem ml_clear : Ml0 X "list.clear" rClear (fun _ => []) := ⟨mt_clear, fun l xs H Q h q => ⟨l, xs, rfl, rfl, h, q⟩, fun _ => .nil, fun _ _ => rfl⟩
/-- told.m() -/
def u0S (np j : Nat) (g : List D → List D) : SS := fun ρ => if np ≤ j then unA ρ[j]? fun d => match d with
  | .list ds => if noLs ds then .nx (ρ.set j (.un (.list (g ds)))) else .bad
  | _ => .bad
  else .bad
theorem rp_plain {K : PySem.W.Frag} {H H' : Hp} {P P' : Addr → Prop} {us : List V} {ds : List D} (r : RpA K H P us ds) (h : noLs ds = true) (hi : ∀ a o, H a = some o → Imm o → H' a = some o) : RpA K H' P' us ds :=
  (r.free (P' := fun _ => False) h).move (fun a xs p _ => p.elim) hi
theorem upd_imm {H : Hp} {a : Addr} {us ws : List V} (ha : H a = some (.lst us)) : ∀ b o, H b = some o → Imm o → upd H a (.lst ws) b = some o := fun b o h i => by
  rw [upd_ne (fun z => by subst z; rw [ha] at h; cases h; exact i)]; exact h
theorem ds_um0 (j : Nat) {id : String} {r : V → List V → Hp → VK → Prop} {g : {α : Type} → List α → List α} {x m : Str} {px apos cpos : Pos} (M : Ml0 X id r g) (hj : PE X (.Name x px) (tVar j))
    (hpe : PE X (.Call (.Attribute (.Name x px) m apos) [] [] cpos) (tBM0 X.K "list" r (tVar j))) (hs : swapsWith (.Call (.Attribute (.Name x px) m apos) [] [] cpos) none pos.line X.env = pure false := by rfl) :
    DS X np EW (.Expr (.Call (.Attribute (.Name x px) m apos) [] [] cpos) pos) (u0S np.n j g) :=
  PS.weak (ps_expr hpe hs) fun Dn σ H ⟨C, ρ, R, h⟩ => by
    unfold u0S at h
    by_cases hn : np.n ≤ j
    · rw [if_pos hn] at h
      obtain ⟨d, e, h⟩ := unA_of h
      have r0 := R.get j _ e
      generalize eo : σ[j]? = o at r0
      cases r0 with
      | un r0 =>
        cases d with
        | list ds =>
          obtain ⟨a, us, rfl, ha, hc, rr⟩ := r0.lst_inv
          by_cases hp : noLs ds = true
          · simp only [hp, if_true] at h
            refine ⟨_, eo, .inl ⟨rfl, _, .inl (.inl ha)⟩, M.ok a us H _ ha ?_⟩
            obtain ⟨S, R2⟩ := un_upd R ⟨_, e⟩ eo ha hc (.lst upd_same hc (rp_plain (M.rp rr) (M.no ds hp) (upd_imm ha))) hn
            exact h _ _ _ S R2
          · simp only [hp] at h; exact h.elim
        | _ => exact h.elim
    · rw [if_neg hn] at h; exact h.elim
/-- told.append(c), c plain -/
def u0A (np j : Nat) (fe : ES) : SS := fun ρ => if np ≤ j then unA ρ[j]? fun d => match d with
  | .list ds => (fe .an ρ).to fun p => if noLs ds && noL p.1 && decide (ds.length < sizeLine) then .nx (ρ.set j (.un (.list (ds ++ [p.1])))) else .bad
  | _ => .bad
  else .bad
theorem ds_uapp (j : Nat) {x : Str} {px apos cpos : Pos} (hj : PE X (.Name x px) (tVar j)) (h : DE X np EW e fe)
    (hpe : ∀ {t : TE}, PE X e t → PE X (.Call (.Attribute (.Name x px) "append" apos) [e] [] cpos) (tBM X.K "list" rAppend (tVar j) (tCons t tNil))) (hs : swapsWith (.Call (.Attribute (.Name x px) "append" apos) [e] [] cpos) none pos.line X.env = pure false := by rfl) :
    DS X np EW (.Expr (.Call (.Attribute (.Name x px) "append" apos) [e] [] cpos) pos) (u0A np.n j fe) :=
  PS.weak (ps_expr (hpe h) hs) fun Dn σ H ⟨C, ρ, R, h⟩ => by
    unfold u0A at h
    by_cases hn : np.n ≤ j
    · rw [if_pos hn] at h
      obtain ⟨d, e, h⟩ := unA_of h
      have r0 := R.get j _ e
      generalize eo : σ[j]? = o at r0
      cases r0 with
      | un r0 =>
        cases d with
        | list ds =>
          obtain ⟨a, us, rfl, ha, hc, rr⟩ := r0.lst_inv
          refine ⟨_, eo, .inl ⟨rfl, _, .inl (.inl ha)⟩, toE_of (L := .an) R h fun p v H' C' A R' rv q => ?_⟩
          obtain ⟨hρ, P⟩ := A.pu rfl
          rw [hρ] at R'
          by_cases hp : (noLs ds && noL p.1 && decide (ds.length < sizeLine)) = true
          · rw [if_pos hp] at q
            simp only [Bool.and_eq_true, decide_eq_true_eq] at hp
            have ha' := P.same _ _ ha
            have hc' : C' a = j + 3 := by rw [P.col a (by rw [ha]; simp)]; exact hc
            have hz : (ds ++ [p.1]).length = ds.length + 1 := by simp
            refine ⟨a, us, v, rfl, rfl, ha', by rw [rr.len]; exact hp.2, ?_⟩
            obtain ⟨S, R2⟩ := un_upd (ws := us ++ [v]) (d' := .list (ds ++ [p.1])) R' ⟨_, e⟩ eo ha' hc' (.lst upd_same hc' (rp_plain (P := fun _ => True) ((((rr.imp fun _ _ => trivial).same P.same).app (.cons (rv.imp fun _ _ => trivial) .nil))) (by simp [noLs_app, noLs, hp.1.1, hp.1.2]) (upd_imm ha'))) hn
            exact q _ _ _ S R2
          · rw [if_neg hp] at q; exact q.elim
        | _ => exact h.elim
    · rw [if_neg hn] at h; exact h.elim
/-- told[k].m() of a tuple with one list at k -/
def u1S (np j k : Nat) (g : List D → List D) : SS := fun ρ => if np ≤ j then unA ρ[j]? fun d => match d with
  | .tuple xs => (match xs[k]? with
    | some (.list ds) => if noLs ds && noLs (xs.eraseIdx k) then .nx (ρ.set j (.un (.tuple (xs.set k (.list (g ds)))))) else .bad
    | _ => .bad)
  | _ => .bad
  else .bad
theorem rp_setAt {K : PySem.W.Frag} {H H' : Hp} {P P' : Addr → Prop} (hi : ∀ a o, H a = some o → Imm o → H' a = some o) : ∀ {us : List V} {xs : List D} {k : Nat} {v : V} {d' : D}, RpA K H P us xs → us[k]? = some v → noLs (xs.eraseIdx k) = true → Rp K H' P' v d' → RpA K H' P' us (xs.set k d')
  | _, _, _, _, _, .nil, h, _, _ => by simp at h
  | _ :: us, _ :: xs, 0, v, d', .cons a b, h, hn, r => by
    simp at h; subst h
    exact .cons r (rp_plain b hn hi)
  | _ :: us, x :: xs, k + 1, v, d', .cons a b, h, hn, r => by
    have hn' : noL x = true ∧ noLs (xs.eraseIdx k) = true := by simpa [noLs] using hn
    exact .cons ((a.free (P' := fun _ => False) hn'.1).move (fun _ _ p _ => p.elim) hi) (rp_setAt hi b (by simpa using h) hn'.2 r)
theorem atI_natD {xs : List V} {k : Nat} {v : V} (h : xs[k]? = some v) : atI xs ((k : Nat) : Int) = some v := atI_nat h
theorem ds_um1 (j k : Nat) {id : String} {r : V → List V → Hp → VK → Prop} {g : {α : Type} → List α → List α} {o : Expr} {m : Str} {apos cpos : Pos} (M : Ml0 X id r g)
    (hpe : PE X (.Call (.Attribute o m apos) [] [] cpos) (tBM0 X.K "list" r (tOp (rIx X.K) (tVar j) (tC (.int (k : Nat)))))) (hs : swapsWith (.Call (.Attribute o m apos) [] [] cpos) none pos.line X.env = pure false := by rfl) :
    DS X np EW (.Expr (.Call (.Attribute o m apos) [] [] cpos) pos) (u1S np.n j k g) :=
  PS.weak (ps_expr hpe hs) fun Dn σ H ⟨C, ρ, R, h⟩ => by
    unfold u1S at h
    by_cases hn : np.n ≤ j
    · rw [if_pos hn] at h
      obtain ⟨d, e, h⟩ := unA_of h
      have r0 := R.get j _ e
      generalize eo : σ[j]? = ov at r0
      cases r0 with
      | un r0 =>
        cases d with
        | tuple xs =>
          obtain ⟨t, ts, rfl, ht, rt⟩ := r0.tup_invX
          cases ex : xs[k]? with
          | none => simp only [ex] at h; exact h.elim
          | some dk =>
            simp only [ex] at h
            cases dk with
            | list ds =>
              obtain ⟨w, hw, rw⟩ := rt.get ex
              obtain ⟨a, us, rfl, ha, hc, rr⟩ := rw.lst_inv
              by_cases hp : (noLs ds && noLs (xs.eraseIdx k)) = true
              · simp only [hp, if_true] at h
                simp only [Bool.and_eq_true] at hp
                refine ⟨_, eo, .inr (.inl ⟨t, ts, _, _, rfl, rfl, ht.sq, atI_natD hw, ?_⟩)⟩
                refine ⟨.inl ⟨rfl, _, .inl (.inl ha)⟩, M.ok a us H _ ha ?_⟩
                have im := upd_imm (ws := g us) ha
                obtain ⟨S, R2⟩ := un_upd (ws := g us) R ⟨_, e⟩ eo ha hc (.tup (SqX.keep ht im) (rp_setAt (P' := fun b => C b = j + 3) im rt hw hp.2 (.lst upd_same hc (rp_plain (M.rp rr) (M.no ds hp.1) im)))) hn
                exact h _ _ _ S R2
              · simp only [hp] at h; exact h.elim
            | _ => exact h.elim
        | _ => exact h.elim
    · rw [if_neg hn] at h; exact h.elim
def u1A (np j k : Nat) (fe : ES) : SS := fun ρ => if np ≤ j then unA ρ[j]? fun d => match d with
  | .tuple xs => (match xs[k]? with
    | some (.list ds) => (fe .an ρ).to fun p => if noLs ds && noL p.1 && noLs (xs.eraseIdx k) && decide (ds.length < sizeLine) then .nx (ρ.set j (.un (.tuple (xs.set k (.list (ds ++ [p.1])))))) else .bad
    | _ => .bad)
  | _ => .bad
  else .bad
theorem ds_uapp1 (j k : Nat) {o : Expr} {apos cpos : Pos} (h : DE X np EW e fe)
    (hpe : ∀ {t : TE}, PE X e t → PE X (.Call (.Attribute o "append" apos) [e] [] cpos) (tBM X.K "list" rAppend (tOp (rIx X.K) (tVar j) (tC (.int (k : Nat)))) (tCons t tNil))) (hs : swapsWith (.Call (.Attribute o "append" apos) [e] [] cpos) none pos.line X.env = pure false := by rfl) :
    DS X np EW (.Expr (.Call (.Attribute o "append" apos) [e] [] cpos) pos) (u1A np.n j k fe) :=
  PS.weak (ps_expr (hpe h) hs) fun Dn σ H ⟨C, ρ, R, h⟩ => by
    unfold u1A at h
    by_cases hn : np.n ≤ j
    · rw [if_pos hn] at h
      obtain ⟨d, e, h⟩ := unA_of h
      have r0 := R.get j _ e
      generalize eo : σ[j]? = ov at r0
      cases r0 with
      | un r0 =>
        cases d with
        | tuple xs =>
          obtain ⟨t, ts, rfl, ht, rt⟩ := r0.tup_invX
          cases ex : xs[k]? with
          | none => simp only [ex] at h; exact h.elim
          | some dk =>
            simp only [ex] at h
            cases dk with
            | list ds =>
              obtain ⟨w, hw, rw⟩ := rt.get ex
              obtain ⟨a, us, rfl, ha, hc, rr⟩ := rw.lst_inv
              refine ⟨_, eo, .inr (.inl ⟨t, ts, _, _, rfl, rfl, ht.sq, atI_natD hw, ?_⟩)⟩
              refine ⟨.inl ⟨rfl, _, .inl (.inl ha)⟩, toE_of (L := .an) R h fun p v H' C' A R' rv q => ?_⟩
              obtain ⟨hρ, P⟩ := A.pu rfl
              rw [hρ] at R'
              by_cases hp : (noLs ds && noL p.1 && noLs (xs.eraseIdx k) && decide (ds.length < sizeLine)) = true
              · rw [if_pos hp] at q
                simp only [Bool.and_eq_true, decide_eq_true_eq] at hp
                have ha' := P.same _ _ ha
                have hc' : C' a = j + 3 := by rw [P.col a (by rw [ha]; simp)]; exact hc
                refine ⟨a, us, v, rfl, rfl, ha', by rw [rr.len]; exact hp.2, ?_⟩
                have im := upd_imm (ws := us ++ [v]) ha'
                obtain ⟨S, R2⟩ := un_upd (ws := us ++ [v]) R' ⟨_, e⟩ eo ha' hc' (.tup (SqX.keep (SqX.keep ht fun b o h _ => P.same b o h) im) (rp_setAt (P' := fun b => C' b = j + 3) im (rt.same P.same) hw hp.1.2 (.lst upd_same hc' (rp_plain (P := fun _ => True) (((rr.imp fun _ _ => trivial).same P.same).app (.cons (rv.imp fun _ _ => trivial) .nil)) (by simp [noLs_app, noLs, hp.1.1.1, hp.1.1.2]) im)))) hn
                exact q _ _ _ S R2
              · rw [if_neg hp] at q; exact q.elim
            | _ => exact h.elim
        | _ => exact h.elim
    · rw [if_neg hn] at h; exact h.elim
end
end
end Dm

namespace Dm
noncomputable section
open PySem PySem.Spec PyProof.Rows L2

/-! ### a def of the script -/
abbrev SF := List Int → List D → Re D
def ofSc (m : SF) : Slots → Re (D × Slots)
  | .sc ns :: as => match as.mapM unbo with
    | some ds => (m ns ds).bind fun d => .ok (d, .no :: as.map fun _ => Sl.no)
    | none => .bad
  | _ => .bad
def sfOf (m : Nat) (f : SS) : SF := fun ns ds => (bodyF m f (.sc ns :: ds.map Sl.bo)).bind fun p => .ok p.1
section
variable {P : Program} {w : World} {K : PySem.W.Frag} {mg : Str → Option Value} {base : Heap}
theorem finF_sc {ns : List Int} {ds : List D} {r : Fl} : finF (.sc ns :: ds.map Sl.bo) r = ((finF (.sc ns :: ds.map Sl.bo) r).bind fun p => .ok p.1).bind fun d => .ok (d, .no :: (ds.map Sl.bo).map fun _ => Sl.no) := by
  have h : ∀ ρ, outF (.sc ns :: ds.map Sl.bo) ρ = .no :: (ds.map Sl.bo).map fun _ => Sl.no := fun ρ => by
    cases ρ with
    | nil => rw [outF, outF_bo]
    | cons s t =>
      rw [outF, outF_bo]
      rfl
  cases r <;> simp [finF, h]
theorem spG_ofSc {xo : XO} {n m : Nat} {F : SS} {vs : List V} {H : Hp} {Q : VK} {E : XK} (h : spG K xo n (ofSc (sfOf m F)) vs H Q E) : spG K xo n (bodyF m F) vs H Q E := by
  obtain ⟨h1, C, np, as, h2, h3, h4, hw⟩ := h
  refine ⟨h1, C, np, as, h2, h3, h4, ?_⟩
  cases as with
  | nil => exact hw.elim
  | cons a r =>
    cases a with
    | sc ns =>
      cases e : r.mapM unbo with
      | none =>
        unfold ofSc at hw
        simp only [e] at hw; exact hw.elim
      | some ds =>
        have ea := mapM_unbo e
        subst ea
        have e2 : bodyF m F (.sc ns :: ds.map Sl.bo) = ofSc (sfOf m F) (.sc ns :: ds.map Sl.bo) := by
          show finF _ _ = (match (ds.map Sl.bo).mapM unbo with | some ds' => (sfOf m F ns ds').bind fun d => Re.ok (d, Sl.no :: (ds.map Sl.bo).map fun _ => Sl.no) | none => .bad)
          rw [mapM_bo]
          show finF _ _ = (sfOf m F ns ds).bind _
          unfold sfOf
          exact finF_sc
        rw [e2]; exact hw
    | _ => exact hw.elim
theorem g_sc {x qual : Str} {st : Stmt} {f : Addr} {fd : FuncData} {N ps : List Str} {k m : Nat} {F : SS} (Fn : Fun K x qual st f fd) (Sc : FnScope N ps (defScope st)) (hN : N.length = ps.length + m)
    (hbody : ∀ (np : Fp) (cdv : Value) (A : Around) (outer : List PySem.Env) (s : Shared) (H : Hp) (E : XK), np.n = ps.length → Room k (A.deeper (envOfC qual (defScope st) s.heap.objs.size f cdv)) → A.guards = some [] →
      DSs (cxOf CX0 P w K mg base N qual (defScope st) f cdv A outer s H E).nox np (fun _ _ => False) (defBody st) F) : GFn P w K mg base CX0 (k + 1) f fd ps (spG K (fun _ _ _ => False) ps.length (ofSc (sfOf m F))) :=
  (g_fn Fn Sc hN hbody).imp fun _ _ _ _ h => spG_ofSc h
theorem fun_kbinds {x qual : Str} {st : Stmt} {f : Addr} {fd : FuncData} {ps ks : List Str} {a b : Nat} {is : List Nat} (F : Fun K x qual st f fd)
    (h : ∀ (kV doc pm : Value) (an : Option Addr) (cdv ct : Value) (us ws : List Value), us.length = a → ws.length = b →
      bindArgs (PySem.W.fnOf x qual (defArgs st) (defBody st) (defScope st) .none kV doc pm an cdv ct) ⟨us, ks.zip ws⟩ = pure (ps.zip (is.map fun i => (us ++ ws).getD i Value.none))) :
    ∀ us ws : List Value, us.length = a → ws.length = b → bindArgs fd ⟨us, ks.zip ws⟩ = pure (ps.zip (is.map fun i => (us ++ ws).getD i Value.none)) := by
  obtain ⟨oc, od, kV, doc, pm, an, cdv, ct, osl, rfl, lk, hcd⟩ := F.ex
  exact h kV doc pm an cdv ct
end
section
variable {X : Cx} {np : Fp} {EW : XW} {Xc : CXT} {k : Nat} {f : Addr} {fd : FuncData} {ps ks : List Str} {E : XK} {x : Str} {p pos : Pos} {e : Expr} {es : List Expr} {fs : AS} {st : Stmt} {g : SS}
def clSc (j n : Nat) (m : SF) (fs : AS) : ES := fun L ρ => match ρ[j]? with
  | some (.sc ns) => (fs (if L.pure then .an else .bo) ρ).bind fun p => if p.1.length = n then (m ns p.1).bind fun d => .ok (d, p.2) else .bad
  | _ => .bad
theorem spG_sc {K : PySem.W.Frag} {xo : XO} {n : Nat} {m : SF} {P : Addr → Prop} {a : Addr} {ns : List Int} {vs : List V} {ds : List D} {H : Hp} {Q : VK} {E : XK} (ha : SqF K H a (ns.map V.int)) (r : RpA K H P vs ds) (hl : ds.length = n)
    (h : wp (m ns ds) (fun d => ∀ (v : V) (H' : Hp) (C' : Col), Same H H' → (∀ b, C' b = 0 → H b = none) → Rp K H' (fun b => C' b = 0) v d → Q v H') (fun c => ∀ (H' : Hp), Same H H' → xo E c H')) : spG K xo (n + 1) (ofSc m) (.ref a :: vs) H Q E := by
  refine ⟨by rw [List.length_cons, r.len, hl], colIn H, ⟨n + 1, fun _ => 0⟩, .sc ns :: ds.map Sl.bo, rfl, ⟨by simp [r.len], fun i s es => ?_⟩, fun b hb => ?_, ?_⟩
  · cases i with
    | zero => cases es; exact .sc ha
    | succ i =>
      rw [List.getElem?_cons_succ] at es
      have this := (rel_bo (K := K) (n := n + 1) (pa := fun _ => 0) r).get i s es
      rw [List.map_cons, List.getElem?_cons_succ]
      generalize (vs.map some)[i]? = oo at this ⊢
      cases this with
      | no => exact .no
      | va r => exact .va r
      | bo r => exact .bo r
      | ow h c r pn =>
        rw [List.getElem?_map] at es
        cases e2 : ds[i]? with
        | none => rw [e2] at es; cases es
        | some d => rw [e2] at es; cases es
      | un r =>
        rw [List.getElem?_map] at es
        cases e2 : ds[i]? with
        | none => rw [e2] at es; cases es
        | some d => rw [e2] at es; cases es
      | sc h => exact .sc h
      | ob h c n r pn =>
        rw [List.getElem?_map] at es
        cases e2 : ds[i]? with
        | none => rw [e2] at es; cases es
        | some d => rw [e2] at es; cases es
      | dc h c r pn =>
        rw [List.getElem?_map] at es
        cases e2 : ds[i]? with
        | none => rw [e2] at es; cases es
        | some d => rw [e2] at es; cases es
      | ex _ _ _ =>
        rw [List.getElem?_map] at es
        cases e2 : ds[i]? with
        | none => rw [e2] at es; cases es
        | some d => rw [e2] at es; cases es
      | tw _ _ _ _ _ _ _ _ _ _ =>
        rw [List.getElem?_map] at es
        cases e2 : ds[i]? with
        | none => rw [e2] at es; cases es
        | some d => rw [e2] at es; cases es
  · obtain ⟨o, ho⟩ := ne_some hb
    rw [colIn_some ho]; omega
  · have same : ∀ {H' : Hp} {C' : Col}, Stp ⟨n + 1, fun _ => 0⟩ H (colIn H) H' C' → Same H H' := fun S b o e => S.keep b o e (.inl (by rw [colIn_some e]; omega))
    have e1 : ofSc m (.sc ns :: ds.map Sl.bo) = (m ns ds).bind fun d => .ok (d, .no :: (ds.map Sl.bo).map fun _ => Sl.no) := by
      show (match (ds.map Sl.bo).mapM unbo with | some ds' => (m ns ds').bind fun d => Re.ok (d, Sl.no :: (ds.map Sl.bo).map fun _ => Sl.no) | none => .bad) = _
      rw [mapM_bo]
    rw [e1]
    refine wp_bind.mpr (wp_mono h (fun d _ hd => fun v H' C' S _ rv => hd v H' C' (same S) (fun b hb => ?_) rv) fun c hc H' C' S => hc H' (same S))
    cases q : H b with
    | none => rfl
    | some o =>
      have := S.colo b (by rw [q]; simp) (by rw [colIn_some q]; show 1 ≤ n + 1 + 2; omega)
      rw [colIn_some q, hb] at this; cases this
theorem de_callSc {xo : XO} {m : SF} {n j : Nat} {y : Str} {py : Pos} (F : GFn X.prog X.w X.K X.mg X.base Xc k f fd ps (spG X.K xo (n + 1) (ofSc m))) (hr : Room k X.A) (hgd : X.A.guards = some []) (hg : Gl X x) (hm : X.mg x = some (.ref f))
    (hk : PySem.W.keepIn X.K (.ref f) = true) (hb : Binds X.K fd ps []) (hx : Passes Xc X E) (hE : ∀ c H', EW c H' → xo E c H') (hj : PE X (.Name y py) (tVar j)) (ha : DA X np EW es fs) (hdb : (x == ("__debug__" : Str)) = false := by decide)
    (he : starEach (.Name y py :: es) X.env = (false, eval (.Name y py) X.env) :: starEach es X.env := by rfl) (hpl : (backTo pos (starEach es X.env)).any (·.1) = false := by rfl) : DE X np EW (.Call (.Name x p) (.Name y py :: es) [] pos) (clSc j n m fs) :=
  PE.weak (gpe_call F hr hgd hg hm hk hb hx (pa_cons hj ha he) hdb he hpl) fun σ H Q ⟨L, C, ρ, R, h⟩ => by
    unfold clSc at h
    cases e : ρ[j]? with
    | none => rw [e] at h; exact h.elim
    | some s =>
      rw [e] at h
      cases s with
      | sc ns =>
        obtain ⟨a, hs, hsq⟩ := sc_get R e
        have hk' : ((if L.pure then Lv.an else .bo).pure || !L.pure) = true := by cases L.pure <;> rfl
        refine ⟨.ref a, hs, tA_of R h fun q vs H1 C1 A1 R1 r1 h1 => ?_⟩
        have A1' := A1.lev (K := X.K) hk'
        by_cases hl : q.1.length = n
        · rw [if_pos hl] at h1
          have hsq1 : SqF X.K H1 a (ns.map V.int) := by
            rcases hsq with ⟨o, z⟩ | z
            · exact .inl ⟨o, A1.stp.keep _ _ z (.inr trivial)⟩
            · exact .inr z
          refine spG_sc hsq1 r1 hl (wp_mono (wp_bind.mp h1) (fun d _ hd v H' C' S fr rv => ?_) fun c hc H' S => hE c H' (hc H' C1 (PStp.stp ⟨S, fun _ _ => rfl⟩)))
          have T : PStp H1 C1 H' (fun b => match H1 b with | none => 0 | some _ => C1 b) := ⟨S, fun b hb => by
            obtain ⟨o, ho⟩ := ne_some hb
            simp only [ho]⟩
          refine hd v H' _ (A1'.trans (.of T)) (R1.pstp T) (rv.imp fun b hb => ?_)
          unfold Cof
          simp only [fr b hb]
          exact L.ok0
        · rw [if_neg hl] at h1; exact h1.elim
      | _ => exact h.elim
/-- what is x's alone, a list of plain things: x may change it -/
def uoS (np i : Nat) (f : SS) : SS := fun ρ => (f ρ).seq fun ρ' => match ρ'[i]? with
  | some (.un (.list ds)) => if noLs ds && decide (np ≤ i) then .nx (ρ'.set i (.ow ds)) else .bad
  | _ => .bad
theorem ds_uo (i : Nat) (h : DS X np EW st g) : DS X np EW st (uoS np.n i g) :=
  PS.weak h fun Dn σ H ⟨C, ρ, R, h⟩ => by
    refine ⟨C, ρ, R, ?_⟩
    have h' : pst X.K np EW Dn H C ((g ρ).seq fun ρ' => match ρ'[i]? with
      | some (.un (.list ds)) => if noLs ds && decide (np.n ≤ i) then .nx (ρ'.set i (.ow ds)) else .bad
      | _ => .bad) := h
    cases e : g ρ with
    | bad => rw [e] at h'; exact h'
    | nx ρ' =>
      rw [e] at h'
      intro σ' H' C' S R'
      have h2 := pst_stp h' S
      cases e2 : ρ'[i]? with
      | none => simp only [seq_nx, e2] at h2; exact h2.elim
      | some s =>
        cases s with
        | un d =>
          cases d with
          | list ds =>
            simp only [seq_nx, e2] at h2
            by_cases hz : (noLs ds && decide (np.n ≤ i)) = true
            · simp only [hz, if_true] at h2
              simp only [Bool.and_eq_true, decide_eq_true_eq] at hz
              refine h2 σ' H' C' .refl ⟨by rw [List.length_set]; exact R'.len, fun j s es => ?_⟩
              by_cases hij : j = i
              · subst hij
                rw [List.getElem?_set_self (List.getElem?_eq_some_iff.mp e2).1] at es
                cases es
                have r := R'.get j _ e2
                generalize σ'[j]? = o at r ⊢
                cases r with
                | un r =>
                  obtain ⟨a, us, rfl, ha, hc, rr⟩ := r.lst_inv
                  exact .ow ha hc (rr.free hz.1) fun z => absurd hz.2 (by omega)
              · rw [List.getElem?_set_ne (Ne.symm hij)] at es
                exact R'.get j s es
            · simp only [hz] at h2; exact h2.elim
          | _ => simp only [seq_nx, e2] at h2; exact h2.elim
        | _ => simp only [seq_nx, e2] at h2; exact h2.elim
    | rt d ρ' => rw [e] at h'; exact h'
    | bk ρ' => rw [e] at h'; exact h'
    | ct ρ' => rw [e] at h'; exact h'
    | ex c => rw [e] at h'; exact h'
end
end
end Dm

namespace Dm
noncomputable section
open PySem PySem.Spec PyProof.Rows L2

/-! ### the mirror, run by simp -/
@[simp ↓] theorem un_bind {α β : Type} {r : Re α} {k : α → Re β} : r.bind k = match r with
  | .bad => .bad
  | .ok a => k a
  | .ex c => .ex c := Eq.trans rfl rfl
@[simp ↓] theorem un_to {α : Type} {r : Re α} {k : α → Fl} : r.to k = match r with
  | .bad => .bad
  | .ok a => k a
  | .ex c => .ex c := Eq.trans rfl rfl
@[simp ↓] theorem un_seq {r : Fl} {k : Slots → Fl} : r.seq k = match r with
  | .nx ρ => k ρ
  | r => r := Eq.trans rfl rfl
section
variable {L k ks : Lv} {ρ : Slots} {f g : SS} {fa fb fc : ES} {c : BS} {fs src : AS} {i j n np m a b : Nat} {d : D} {gg : D → D → Option D} {g1 : D → Option D} {gl : List D → Option D} {gi : List D → Option (List D)} {tg : GS} {tgs : GSs}
@[simp] theorem ev_sqS : sqS f g ρ = (f ρ).seq g := Eq.trans rfl rfl
@[simp] theorem ev_skS : skS ρ = .nx ρ := Eq.trans rfl rfl
@[simp] theorem ev_bkS : bkS ρ = .bk ρ := Eq.trans rfl rfl
@[simp] theorem ev_ctS : ctS ρ = .ct ρ := Eq.trans rfl rfl
@[simp] theorem ev_rtS : rtS np fa ρ = (fa (.rt np) ρ).to fun p => .rt p.1 p.2 := Eq.trans rfl rfl
@[simp] theorem ev_rteS : rteS fa ρ = (fa .va ρ).to fun p => .rt p.1 p.2 := Eq.trans rfl rfl
@[simp] theorem ev_exS : exS L fa ρ = (fa L ρ).to fun p => .nx p.2 := Eq.trans rfl rfl
@[simp] theorem ev_vaS : vaS i fa ρ = (fa .va ρ).to fun p => .nx (p.2.set i (.va p.1)) := Eq.trans rfl rfl
@[simp] theorem ev_boS : boS i fa ρ = (fa .bo ρ).to fun p => .nx (p.2.set i (.bo p.1)) := Eq.trans rfl rfl
@[simp] theorem ev_ifS : ifS L c f g ρ = (c L ρ).to fun p => if p.1 then f p.2 else g p.2 := Eq.trans rfl rfl
@[simp] theorem ev_owS : owS np i fs ρ = if np ≤ i then (fs .va ρ).to fun p => .nx (p.2.set i (.ow p.1)) else .bad := Eq.trans rfl rfl
@[simp] theorem ev_apS : apS j fa ρ = if isOw ρ[j]? then (fa .va ρ).to fun p => owA p.2[j]? fun ds => if ds.length < sizeLine then .nx (p.2.set j (.ow (ds ++ [p.1]))) else .bad else .bad := Eq.trans rfl rfl
@[simp] theorem ev_stS : stS j fa fb ρ = if isOw ρ[j]? then (fa .va ρ).to fun p => (fb .va p.2).to fun q => (isI q.1).to fun k => owA q.2[j]? fun ds => match ixN ds.length k with
  | some n => .nx (q.2.set j (.ow (ds.set n p.1)))
  | none => .bad
  else .bad := Eq.trans rfl rfl
@[simp] theorem ev_forS : forS L src tg f ρ = if L.pure then .bad else (src L ρ).to fun p => forF L tg f p.1 p.2 := Eq.trans rfl rfl
@[simp] theorem ev_tgS : tgS L tg fa ρ = (fa L ρ).to fun p => match tg L p.1 p.2 with
  | some ρ' => .nx ρ'
  | none => .bad := Eq.trans rfl rfl
@[simp] theorem ev_unS : unS np i fa ρ = if np ≤ i then (fa .fr (boAll ρ)).to fun p => .nx (ρ.set i (.un p.1)) else .bad := Eq.trans rfl rfl
@[simp] theorem ev_uoS : uoS np i f ρ = (f ρ).seq fun ρ' => match ρ'[i]? with
  | some (.un (.list ds)) => if noLs ds && decide (np ≤ i) then .nx (ρ'.set i (.ow ds)) else .bad
  | _ => .bad := Eq.trans rfl rfl
@[simp] theorem ev_csE : csE d L ρ = .ok (d, ρ) := Eq.trans rfl rfl
theorem ev_nmE : nmE i L ρ = match ρ[i]? with
  | some s => (slD L i s).bind fun d => .ok (d, ρ)
  | none => .bad := Eq.trans rfl rfl
@[simp] theorem ev_opE : opE gg fa fb L ρ = (fa L ρ).bind fun p => (fb L p.2).bind fun q => (ofO (gg p.1 q.1)).bind fun d => .ok (d, q.2) := Eq.trans rfl rfl
@[simp] theorem ev_unE : unE g1 fa L ρ = (fa L ρ).bind fun p => (ofO (g1 p.1)).bind fun d => .ok (d, p.2) := Eq.trans rfl rfl
@[simp] theorem ev_atE : atE k fa L ρ = if k.pure || !L.pure then (fa k ρ).bind fun p => if noL p.1 then .ok p else .bad else .bad := Eq.trans rfl rfl
@[simp] theorem ev_atT : atT k c L ρ = if k.pure || !L.pure then c k ρ else .bad := Eq.trans rfl rfl
@[simp] theorem ev_asT : asT fa L ρ = (fa L ρ).bind fun p => (isB p.1).bind fun b => .ok (b, p.2) := Eq.trans rfl rfl
@[simp] theorem ev_ntT : ntT c L ρ = (c L ρ).bind fun p => .ok (!p.1, p.2) := Eq.trans rfl rfl
@[simp] theorem ev_anT {c' : BS} : anT c c' L ρ = (c L ρ).bind fun p => if p.1 then c' L p.2 else .ok (false, p.2) := Eq.trans rfl rfl
@[simp] theorem ev_orT {c' : BS} : orT c c' L ρ = (c L ρ).bind fun p => if p.1 then .ok (true, p.2) else c' L p.2 := Eq.trans rfl rfl
@[simp] theorem ev_ifE : ifE c fa fb L ρ = (c L ρ).bind fun p => if p.1 then fa L p.2 else fb L p.2 := Eq.trans rfl rfl
@[simp] theorem ev_anE : anE fa fb L ρ = (fa L ρ).bind fun p => (isB p.1).bind fun b => if b then fb L p.2 else .ok (.bool false, p.2) := Eq.trans rfl rfl
@[simp] theorem ev_orE : orE fa fb L ρ = (fa L ρ).bind fun p => (isB p.1).bind fun b => if b then .ok (.bool true, p.2) else fb L p.2 := Eq.trans rfl rfl
@[simp] theorem ev_ntE : ntE fa L ρ = (fa L ρ).bind fun p => (isB p.1).bind fun b => .ok (.bool (!b), p.2) := Eq.trans rfl rfl
@[simp] theorem ev_chE {g' : D → D → Option D} : chE gg g' fa fb fc L ρ = (fa L ρ).bind fun p => (fb L p.2).bind fun q => (ofO (gg p.1 q.1)).bind fun d => (isB d).bind fun k =>
  if k then (fc L q.2).bind fun r => (ofO (g' q.1 r.1)).bind fun d' => .ok (d', r.2) else .ok (.bool false, q.2) := Eq.trans rfl rfl
@[simp] theorem ev_nilA : nilA L ρ = .ok ([], ρ) := Eq.trans rfl rfl
@[simp] theorem ev_consA : consA fa fs L ρ = (fa L ρ).bind fun p => (fs L p.2).bind fun q => .ok (p.1 :: q.1, q.2) := Eq.trans rfl rfl
@[simp] theorem ev_tuE : tuE fs L ρ = (fs L ρ).bind fun p => if p.1.length ≤ sizeLine then .ok (.tuple p.1, p.2) else .bad := Eq.trans rfl rfl
@[simp] theorem ev_liE : liE fs L ρ = (fs L ρ).bind fun p => if p.1.length ≤ sizeLine then .ok (.list p.1, p.2) else .bad := Eq.trans rfl rfl
@[simp] theorem ev_lsE : lsE fs L ρ = (fs L ρ).bind fun p => .ok (.list p.1, p.2) := Eq.trans rfl rfl
@[simp] theorem ev_szA : szA fs L ρ = (fs L ρ).bind fun p => if p.1.length ≤ sizeLine then .ok p else .bad := Eq.trans rfl rfl
@[simp] theorem ev_noO : noO L ρ = .ok (none, ρ) := Eq.trans rfl rfl
@[simp] theorem ev_soO : soO fa L ρ = (fa L ρ).bind fun p => (isI p.1).bind fun i => .ok (some i, p.2) := Eq.trans rfl rfl
@[simp] theorem ev_slE {lo hi : OS} : slE fa lo hi L ρ = (fa L ρ).bind fun p => (lo L p.2).bind fun q => (hi L q.2).bind fun r => (ofO (slD2 p.1 q.1 r.1)).bind fun d => .ok (d, r.2) := Eq.trans rfl rfl
@[simp] theorem ev_clE {mm : PF} : clE k n mm fs L ρ = if k.pure || !L.pure then (fs k ρ).bind fun p => if p.1.length = n then (mm p.1).bind fun d => .ok (d, p.2) else .bad else .bad := Eq.trans rfl rfl
@[simp] theorem ev_clK {is : List Nat} {mm : PF} {kk : AS} : clK a b is mm fs kk L ρ = (fs .an ρ).bind fun p => (kk .an p.2).bind fun q => if p.1.length = a ∧ q.1.length = b then (mm (is.map fun i => (p.1 ++ q.1).getD i PyData.none)).bind fun d => .ok (d, q.2) else .bad := Eq.trans rfl rfl
@[simp] theorem ev_clO {mm : OF} : clO j n mm fs L ρ = if !L.pure && isOw ρ[j]? then (fs .bo ρ).bind fun p => match p.2[j]? with
  | some (.ow cs) => if noLs cs && decide (p.1.length = n) then (mm cs p.1).bind fun q => if noLs q.2 then .ok (q.1, p.2.set j (.ow q.2)) else .bad else .bad
  | _ => .bad
  else .bad := Eq.trans rfl rfl
@[simp] theorem ev_clSc {mm : SF} : clSc j n mm fs L ρ = match ρ[j]? with
  | some (.sc ns) => (fs (if L.pure then .an else .bo) ρ).bind fun p => if p.1.length = n then (mm ns p.1).bind fun d => .ok (d, p.2) else .bad
  | _ => .bad := Eq.trans rfl rfl
@[simp] theorem ev_cbE : cbE gl fs L ρ = (fs L ρ).bind fun p => (ofO (gl p.1)).bind fun d => .ok (d, p.2) := Eq.trans rfl rfl
@[simp] theorem ev_isiE {T : String} : isiE T fa L ρ = (fa L ρ).bind fun p => .ok (.bool (isiB T p.1), p.2) := Eq.trans rfl rfl
@[simp] theorem ev_isiE2 {T T2 : String} : isiE2 T T2 fa L ρ = (fa L ρ).bind fun p => .ok (.bool (isiB T p.1 || isiB T2 p.1), p.2) := Eq.trans rfl rfl
@[simp] theorem ev_itA : itA fa L ρ = (fa L ρ).bind fun p => (ofO (itD p.1)).bind fun ds => .ok (ds, p.2) := Eq.trans rfl rfl
@[simp] theorem ev_agA : agA gi fs L ρ = (fs L ρ).bind fun p => (ofO (gi p.1)).bind fun ds => .ok (ds, p.2) := Eq.trans rfl rfl
@[simp] theorem ev_lsA : lsA fa L ρ = (fa L ρ).bind fun p => (ofO (itD p.1)).bind fun ds => .ok (ds, p.2) := Eq.trans rfl rfl
@[simp] theorem ev_lrA : lrA fa L ρ = (fa L ρ).bind fun p => (isI p.1).bind fun n => if inB 0 16777217 n then .ok (rgD 0 n.toNat, p.2) else .bad := Eq.trans rfl rfl
@[simp] theorem ev_yesT : yesT L ρ = .ok (true, ρ) := Eq.trans rfl rfl
@[simp] theorem ev_lvE : lvE fa L ρ = fa L.toP ρ := Eq.trans rfl rfl
@[simp] theorem ev_lvA : lvA fs L ρ = fs L.toP ρ := Eq.trans rfl rfl
@[simp] theorem ev_slenE : slenE j L ρ = match ρ[j]? with
  | some (.sc ns) => .ok (.int ns.length, ρ)
  | _ => .bad := Eq.trans rfl rfl
@[simp] theorem ev_sixE : sixE j fa L ρ = match ρ[j]? with
  | some (.sc ns) => (fa L ρ).bind fun q => match q.1 with
    | .int k => if 0 ≤ k then (match ns[k.toNat]? with | some n => .ok (.int n, q.2) | none => .bad) else .bad
    | _ => .bad
  | _ => .bad := Eq.trans rfl rfl
@[simp] theorem ev_poE : poE j fa L ρ = if !L.pure && isOw ρ[j]? then (fa .va ρ).bind fun q => (isI q.1).bind fun k => match q.2[j]? with
  | some (.ow ds) => if inB 0 (2 ^ 63) k then (match ds[k.toNat]? with
    | some d => .ok (d, q.2.set j (.ow (ds.eraseIdx k.toNat)))
    | none => .bad) else .bad
  | _ => .bad
  else .bad := Eq.trans rfl rfl
@[simp] theorem ev_lcA {own : List Nat} : lcA ks own src tg c fa L ρ = if ks.pure == L.pure then (src ks ρ).bind fun p => if okO p.2 own then
    (noEx (compF ks L own tg c fa p.1 (wiS p.2 own))).bind fun r => if r.1.length ≤ sizeLine then .ok (r.1, reS p.2 r.2 own) else .bad else .bad else .bad := Eq.trans rfl rfl
theorem ev_compF_nil {own : List Nat} : compF ks L own tg c fa [] ρ = .ok ([], ρ) := Eq.trans rfl rfl
theorem ev_compF_cons {own : List Nat} {ds : List D} : compF ks L own tg c fa (d :: ds) ρ = match tg ks d ρ with
    | none => .bad
    | some ρ1 => (c L ρ1).bind fun p => if p.1 then (fa L p.2).bind fun q => if !L.okb 2 || noL q.1 then (compF ks L own tg c fa ds (wiS q.2 own)).bind fun r => .ok (q.1 :: r.1, r.2) else .bad
      else compF ks L own tg c fa ds (wiS p.2 own) := Eq.trans rfl rfl
theorem ev_forF_nil : forF L tg f [] ρ = .nx ρ := Eq.trans rfl rfl
theorem ev_forF_cons {ds : List D} : forF L tg f (d :: ds) ρ = match tg L d ρ with
    | none => .bad
    | some ρ1 => match f ρ1 with
      | .nx ρ2 => forF L tg f ds ρ2
      | .ct ρ2 => forF L tg f ds ρ2
      | .bk ρ2 => .nx ρ2
      | r => r := Eq.trans rfl rfl
@[simp] theorem ev_nmG : nmG i L d ρ = (itS L d).map fun s => ρ.set i s := Eq.trans rfl rfl
@[simp] theorem ev_nilG : nilG L [] ρ = some ρ := Eq.trans rfl rfl
@[simp] theorem ev_consG {ds : List D} : consG tg tgs L (d :: ds) ρ = (tg L d ρ).bind fun ρ1 => tgs L ds ρ1 := Eq.trans rfl rfl
@[simp] theorem ev_tuG {ds : List D} : tuG n tgs L (.tuple ds) ρ = if ds.length = n then tgs L ds ρ else none := Eq.trans rfl rfl
@[simp] theorem ev_ofO_some {α : Type} {x : α} : ofO (some x) = .ok x := Eq.trans rfl rfl
@[simp] theorem ev_isB {x : Bool} : isB (.bool x) = .ok x := Eq.trans rfl rfl
@[simp] theorem ev_isI {x : Int} : isI (.int x) = .ok x := Eq.trans rfl rfl
@[simp] theorem ev_slD_va : slD L i (.va d) = .ok d := Eq.trans rfl rfl
@[simp] theorem ev_slD_bo : slD L i (.bo d) = if L.okb 1 || noL d then .ok d else .bad := Eq.trans rfl rfl
@[simp] theorem ev_slD_ow {ds : List D} : slD L i (.ow ds) = if L.okb (i + 3) then .ok (.list ds) else .bad := Eq.trans rfl rfl
@[simp] theorem ev_slD_un : slD L i (.un d) = if L.okb (i + 3) || noL d then .ok d else .bad := Eq.trans rfl rfl
@[simp] theorem ev_owA {ds : List D} {k : List D → Fl} : owA (some (.ow ds)) k = k ds := Eq.trans rfl rfl
@[simp] theorem ev_isOw {ds : List D} : isOw (some (.ow ds)) = true := Eq.trans rfl rfl
@[simp] theorem ev_finF_rt {as : Slots} : finF as (.rt d ρ) = .ok (d, outF as ρ) := Eq.trans rfl rfl
@[simp] theorem ev_finF_nx {as : Slots} : finF as (.nx ρ) = .ok (.none, outF as ρ) := Eq.trans rfl rfl
@[simp] theorem pu_va : Lv.va.pure = false := Eq.trans rfl rfl
@[simp] theorem pu_bo : Lv.bo.pure = false := Eq.trans rfl rfl
@[simp] theorem pu_an : Lv.an.pure = true := Eq.trans rfl rfl
@[simp] theorem pu_vp : Lv.vp.pure = true := Eq.trans rfl rfl
@[simp] theorem pu_bp : Lv.bp.pure = true := Eq.trans rfl rfl
@[simp] theorem pu_rt : (Lv.rt n).pure = true := Eq.trans rfl rfl
@[simp] theorem pu_fr : Lv.fr.pure = true := Eq.trans rfl rfl
@[simp] theorem ok_va {c : Nat} : Lv.va.okb c = (c == 0) := Eq.trans rfl rfl
@[simp] theorem ok_bo {c : Nat} : Lv.bo.okb c = decide (c ≤ 1) := Eq.trans rfl rfl
@[simp] theorem ok_an {c : Nat} : Lv.an.okb c = true := Eq.trans rfl rfl
@[simp] theorem ok_vp {c : Nat} : Lv.vp.okb c = (c == 0) := Eq.trans rfl rfl
@[simp] theorem ok_bp {c : Nat} : Lv.bp.okb c = decide (c ≤ 1) := Eq.trans rfl rfl
@[simp] theorem ok_rt {c : Nat} : (Lv.rt n).okb c = (c == 0 || decide (n + 3 ≤ c)) := Eq.trans rfl rfl
@[simp] theorem ok_fr {c : Nat} : Lv.fr.okb c = (c == 0) := Eq.trans rfl rfl
@[simp] theorem tp_va : Lv.va.toP = .vp := Eq.trans rfl rfl
@[simp] theorem tp_bo : Lv.bo.toP = .bp := Eq.trans rfl rfl
@[simp] theorem tp_an : Lv.an.toP = .an := Eq.trans rfl rfl
@[simp] theorem tp_vp : Lv.vp.toP = .vp := Eq.trans rfl rfl
@[simp] theorem tp_bp : Lv.bp.toP = .bp := Eq.trans rfl rfl
@[simp] theorem tp_rt : (Lv.rt n).toP = .rt n := Eq.trans rfl rfl
@[simp] theorem tp_fr : Lv.fr.toP = .fr := Eq.trans rfl rfl
end
@[simp] theorem noL_none : noL .none = true := Eq.trans rfl rfl
@[simp] theorem noL_bool {b : Bool} : noL (.bool b) = true := Eq.trans rfl rfl
@[simp] theorem noL_int {b : Int} : noL (.int b) = true := Eq.trans rfl rfl
@[simp] theorem noL_str {b : Str} : noL (.str b) = true := Eq.trans rfl rfl
@[simp] theorem noL_list {b : List D} : noL (.list b) = false := Eq.trans rfl rfl
@[simp] theorem noL_tuple {b : List D} : noL (.tuple b) = noLs b := Eq.trans rfl rfl
@[simp] theorem noLs_nil : noLs [] = true := Eq.trans rfl rfl
@[simp] theorem noLs_cons {a : D} {b : List D} : noLs (a :: b) = (noL a && noLs b) := Eq.trans rfl rfl
theorem noLs_iff : ∀ {l : List D}, noLs l = true ↔ ∀ d ∈ l, noL d = true
  | [] => by simp
  | a :: r => by rw [noLs_cons, Bool.and_eq_true, noLs_iff]; simp
@[simp] theorem noLs_append {a b : List D} : noLs (a ++ b) = (noLs a && noLs b) := by
  rw [Bool.eq_iff_iff, Bool.and_eq_true, noLs_iff, noLs_iff, noLs_iff]
  simp only [List.mem_append]
  exact ⟨fun h => ⟨fun d z => h d (.inl z), fun d z => h d (.inr z)⟩, fun h d z => z.elim (h.1 d) (h.2 d)⟩
theorem noLs_map {α : Type} {f : α → D} (h : ∀ a, noL (f a) = true) {l : List α} : noLs (l.map f) = true := noLs_iff.mpr fun d hd => by
  obtain ⟨a, _, rfl⟩ := List.mem_map.mp hd
  exact h a
@[simp] theorem noLs_map_int {l : List Int} : noLs (l.map PyData.int) = true := noLs_map fun _ => rfl
theorem pf_eq {m : Nat} {f : SS} {ds : List D} : pfOf m f ds = (finF (ds.map Sl.bo) (f (ds.map Sl.bo ++ List.replicate m .no))).bind fun p => .ok p.1 := Eq.trans rfl rfl
theorem of_eq {m : Nat} {f : SS} {cs ds : List D} : ofOf m f cs ds = (finF (.ow cs :: ds.map Sl.bo) (f (.ow cs :: ds.map Sl.bo ++ List.replicate m .no))).bind fun p => match p.2 with
  | .ow cs' :: _ => .ok (p.1, cs')
  | _ => .bad := Eq.trans rfl rfl
theorem sf_eq {m : Nat} {f : SS} {ns : List Int} {ds : List D} : sfOf m f ns ds = (finF (.sc ns :: ds.map Sl.bo) (f (.sc ns :: ds.map Sl.bo ++ List.replicate m .no))).bind fun p => .ok p.1 := Eq.trans rfl rfl
theorem body_eq {m : Nat} {f : SS} {as : Slots} : bodyF m f as = finF as (f (as ++ List.replicate m .no)) := Eq.trans rfl rfl
@[simp] theorem outF_nil {ρ : Slots} : outF [] ρ = [] := by cases ρ <;> rfl
@[simp] theorem outF_cons {a s : Sl} {as ρ : Slots} : outF (a :: as) (s :: ρ) = selF a s :: outF as ρ := Eq.trans rfl rfl
@[simp] theorem selF_ow {a b : List D} : selF (.ow a) (.ow b) = .ow b := Eq.trans rfl rfl

/-! subscripts -/
theorem atI_nat {α : Type} {xs : List α} {i : Nat} : atI xs (i : Int) = xs[i]? := by
  unfold atI ixN
  by_cases h : i < xs.length
  · rw [if_pos (by omega), if_pos (by omega)]; rfl
  · rw [if_pos (by omega), if_neg (by omega), List.getElem?_eq_none (by omega)]; rfl
theorem atI_last {α : Type} {xs : List α} : atI xs (-1) = xs.getLast? := by
  unfold atI ixN
  rw [if_neg (by omega), List.getLast?_eq_getElem?]
  by_cases h : 0 < xs.length
  · rw [if_pos (by omega), Option.bind_some]
    congr 1
    omega
  · have : xs = [] := List.eq_nil_of_length_eq_zero (by omega)
    subst this
    rfl
@[simp] theorem ixd_tup {xs : List D} {i : Nat} : ixD (.tuple xs) (.int (i : Int)) = xs[i]? := atI_nat
@[simp] theorem ixd_lst {xs : List D} {i : Nat} : ixD (.list xs) (.int (i : Int)) = xs[i]? := atI_nat
@[simp] theorem ix_tup0 {xs : List D} : ixD (.tuple xs) (.int 0) = xs[0]? := atI_nat (i := 0)
@[simp] theorem ix_lst0 {xs : List D} : ixD (.list xs) (.int 0) = xs[0]? := atI_nat (i := 0)
@[simp] theorem ix_tup1 {xs : List D} : ixD (.tuple xs) (.int 1) = xs[1]? := atI_nat (i := 1)
@[simp] theorem ix_lst1 {xs : List D} : ixD (.list xs) (.int 1) = xs[1]? := atI_nat (i := 1)
@[simp] theorem ix_tup2 {xs : List D} : ixD (.tuple xs) (.int 2) = xs[2]? := atI_nat (i := 2)
@[simp] theorem ix_lst2 {xs : List D} : ixD (.list xs) (.int 2) = xs[2]? := atI_nat (i := 2)
@[simp] theorem ix_tupm {xs : List D} : ixD (.tuple xs) (.int (-1)) = xs.getLast? := atI_last
@[simp] theorem ix_lstm {xs : List D} : ixD (.list xs) (.int (-1)) = xs.getLast? := atI_last
theorem ix_lsti {xs : List D} {i : Int} (h : 0 ≤ i) : ixD (.list xs) (.int i) = xs[i.toNat]? := by
  have := @ixd_lst xs i.toNat
  rwa [Int.toNat_of_nonneg h] at this
theorem ix_tupi {xs : List D} {i : Int} (h : 0 ≤ i) : ixD (.tuple xs) (.int i) = xs[i.toNat]? := by
  have := @ixd_tup xs i.toNat
  rwa [Int.toNat_of_nonneg h] at this
@[simp] theorem ixN_nat {n i : Nat} : ixN n (i : Int) = if i < n then some i else none := by
  unfold ixN
  by_cases h : i < n
  · rw [if_pos (by omega), if_pos (by omega), if_pos h]; simp
  · rw [if_pos (by omega), if_neg (by omega), if_neg h]
@[simp] theorem ixN0 {n : Nat} : ixN n 0 = if 0 < n then some 0 else none := ixN_nat (i := 0)
@[simp] theorem ixN1 {n : Nat} : ixN n 1 = if 1 < n then some 1 else none := ixN_nat (i := 1)
@[simp] theorem ixN2 {n : Nat} : ixN n 2 = if 2 < n then some 2 else none := ixN_nat (i := 2)
@[simp] theorem cut_to {xs : List D} {i : Nat} : cutD xs none (some (i : Int)) = xs.take i := by
  unfold cutD
  rw [HT.sIx_none, HT.sIx_nat, List.drop_zero, Nat.sub_zero]
  by_cases h : i ≤ xs.length
  · rw [Nat.min_eq_left h]
  · rw [Nat.min_eq_right (by omega), List.take_of_length_le (Nat.le_refl _), List.take_of_length_le (by omega)]
@[simp] theorem cut_from {xs : List D} {i : Nat} : cutD xs (some (i : Int)) none = xs.drop i := by
  unfold cutD
  rw [HT.sIx_none, HT.sIx_nat]
  by_cases h : i ≤ xs.length
  · rw [Nat.min_eq_left h, List.take_of_length_le (by simp)]
  · rw [Nat.min_eq_right (by omega), List.drop_of_length_le (Nat.le_refl _), List.drop_of_length_le (by omega)]; simp
@[simp] theorem cut_from1 {xs : List D} {i : Nat} : cutD xs (some ((i : Int) + 1)) none = xs.drop (i + 1) := cut_from (i := i + 1)
@[simp] theorem rgD_nat {n : Nat} : rgD 0 n = (List.range n).map fun i => PyData.int (i : Nat) := by unfold rgD; simp

@[simp] theorem add_int {a b : Int} : addD (.int a) (.int b) = some (.int (a + b)) := Eq.trans rfl rfl
@[simp] theorem sub_int {a b : Int} : subD (.int a) (.int b) = some (.int (a - b)) := Eq.trans rfl rfl
@[simp] theorem lt_int {a b : Int} : ltD (.int a) (.int b) = some (.bool (decide (a < b))) := Eq.trans rfl rfl
@[simp] theorem le_int {a b : Int} : leD (.int a) (.int b) = some (.bool (decide (a ≤ b))) := Eq.trans rfl rfl
@[simp] theorem gt_int {a b : Int} : gtD (.int a) (.int b) = some (.bool (decide (b < a))) := Eq.trans rfl rfl
@[simp] theorem ge_int {a b : Int} : geD (.int a) (.int b) = some (.bool (decide (b ≤ a))) := Eq.trans rfl rfl
@[simp] theorem neg_int {a : Int} : negD (.int a) = some (.int (-a)) := Eq.trans rfl rfl
theorem add_tup {a b : List D} (h : a.length + b.length ≤ 16777216) : addD (.tuple a) (.tuple b) = some (.tuple (a ++ b)) := if_pos h
theorem add_lst {a b : List D} (h : a.length + b.length ≤ 16777216) : addD (.list a) (.list b) = some (.list (a ++ b)) := if_pos h
@[simp] theorem is_none {a : D} : isND a .none = some (.bool (isNd a)) := Eq.trans rfl rfl
@[simp] theorem isnot_none {a : D} : notND a .none = some (.bool (!isNd a)) := Eq.trans rfl rfl
@[simp] theorem isNd_none : isNd .none = true := Eq.trans rfl rfl
@[simp] theorem isNd_int {a : Int} : isNd (.int a) = false := Eq.trans rfl rfl
@[simp] theorem isNd_tup {a : List D} : isNd (.tuple a) = false := Eq.trans rfl rfl
@[simp] theorem isNd_lst {a : List D} : isNd (.list a) = false := Eq.trans rfl rfl
@[simp] theorem len_tup {a : List D} : lenG [.tuple a] = some (.int a.length) := Eq.trans rfl rfl
@[simp] theorem len_lst {a : List D} : lenG [.list a] = some (.int a.length) := Eq.trans rfl rfl
@[simp] theorem isi_int {a : Int} {T : String} : isiB T (.int a) = (T == "int") := by simp [isiB, tyD]; exact BEq.comm
@[simp] theorem isi_tup {a : List D} {T : String} : isiB T (.tuple a) = (T == "tuple") := by simp [isiB, tyD]; exact BEq.comm
@[simp] theorem isi_lst {a : List D} {T : String} : isiB T (.list a) = (T == "list") := by simp [isiB, tyD]; exact BEq.comm
theorem all_bools {bs : List Bool} : allG [.list (bs.map PyData.bool)] = some (.bool (bs.all _root_.id)) := by simp [allG]
theorem any_bools {bs : List Bool} : anyG [.list (bs.map PyData.bool)] = some (.bool (bs.any _root_.id)) := by simp [anyG]
theorem all_true {n : Nat} : allG [.list (List.replicate n (.bool true))] = some (.bool true) := by
  have := @all_bools (List.replicate n true)
  rw [List.map_replicate] at this
  rw [this]; simp
@[simp] theorem sz_le {n : Nat} : (n ≤ sizeLine) = (n ≤ 16777216) := Eq.trans rfl rfl
@[simp] theorem sz_lt {n : Nat} : (n < sizeLine) = (n < 16777216) := Eq.trans rfl rfl
/-! loops whose steps are plain -/
theorem forF_run {α : Type} {L : Lv} {g : GS} {f : SS} {e : α → D} (I : List α → Slots → Prop) (step : ∀ a r ρ, I (a :: r) ρ → ∃ ρ1 ρ2, g L (e a) ρ = some ρ1 ∧ (f ρ1 = .nx ρ2 ∨ f ρ1 = .ct ρ2) ∧ I r ρ2) :
    ∀ (l : List α) (ρ : Slots), I l ρ → ∃ ρ', forF L g f (l.map e) ρ = .nx ρ' ∧ I [] ρ'
  | [], ρ, h => ⟨ρ, rfl, h⟩
  | a :: r, ρ, h => by
    obtain ⟨ρ1, ρ2, h1, h2, h3⟩ := step a r ρ h
    obtain ⟨ρ', h4, h5⟩ := forF_run I step r ρ2 h3
    refine ⟨ρ', ?_, h5⟩
    rw [List.map_cons, ev_forF_cons, h1]
    rcases h2 with h2 | h2 <;> simp only [h2, h4]
/-- a comprehension with own effects -/
theorem compF_run {α : Type} {ks L : Lv} {own : List Nat} {g : GS} {c : BS} {el : ES} {e : α → D} (I : List α → List D → Slots → Prop)
    (step : ∀ a r ds ρ, I (a :: r) ds ρ → ∃ ρ1 b ρ2, g ks (e a) ρ = some ρ1 ∧ c L ρ1 = .ok (b, ρ2) ∧ (b = false → I r ds (wiS ρ2 own)) ∧ (b = true → ∃ d ρ3, el L ρ2 = .ok (d, ρ3) ∧ (L.okb 2 = false ∨ noL d = true) ∧ I r (ds ++ [d]) (wiS ρ3 own))) :
    ∀ (l : List α) (ds : List D) (ρ : Slots), I l ds ρ → ∃ es ρ', compF ks L own g c el (l.map e) ρ = .ok (es, ρ') ∧ I [] (ds ++ es) ρ'
  | [], ds, ρ, h => ⟨[], ρ, rfl, by simpa using h⟩
  | a :: r, ds, ρ, h => by
    obtain ⟨ρ1, b, ρ2, h1, h2, h3, h4⟩ := step a r ds ρ h
    rw [List.map_cons, ev_compF_cons, h1]
    cases b with
    | false =>
      obtain ⟨es, ρ', h5, h6⟩ := compF_run I step r ds _ (h3 rfl)
      exact ⟨es, ρ', by simp [h2, h5], h6⟩
    | true =>
      obtain ⟨d, ρ3, e1, e2, e3⟩ := h4 rfl
      obtain ⟨es, ρ', h5, h6⟩ := compF_run I step r _ _ e3
      refine ⟨d :: es, ρ', ?_, by simpa using h6⟩
      have hc : (!L.okb 2 || noL d) = true := by rcases e2 with e2 | e2 <;> simp [e2]
      simp [h2, e1, hc, h5]
/-- a comprehension without effects: filter, then map -/
theorem compF_pure {α : Type} {ks L : Lv} {own : List Nat} {g : GS} {c : BS} {el : ES} {e : α → D} {ρ0 : Slots} (p : α → Bool) (m : α → D) (l : List α)
    (step : ∀ a ∈ l, ∃ ρ1, g ks (e a) ρ0 = some ρ1 ∧ c L ρ1 = .ok (p a, ρ1) ∧ wiS ρ1 own = ρ0 ∧ (p a = true → el L ρ1 = .ok (m a, ρ1) ∧ (L.okb 2 = false ∨ noL (m a) = true))) :
    compF ks L own g c el (l.map e) ρ0 = .ok ((l.filter p).map m, ρ0) := by
  induction l with
  | nil => rfl
  | cons a r ih =>
    obtain ⟨ρ1, h1, h2, h3, h4⟩ := step a (List.mem_cons_self ..)
    have ih := ih fun b hb => step b (List.mem_cons_of_mem _ hb)
    rw [List.map_cons, ev_compF_cons, h1]
    cases hp : p a with
    | false => simp [h2, hp, h3, ih]
    | true =>
      obtain ⟨h5, h6⟩ := h4 hp
      have hc : (!L.okb 2 || noL (m a)) = true := by rcases h6 with e2 | e2 <;> simp [e2]
      simp [h2, hp, h5, hc, h3, ih]
theorem compF_map {α : Type} {ks L : Lv} {own : List Nat} {g : GS} {el : ES} {e : α → D} {ρ0 : Slots} (m : α → D) (l : List α)
    (step : ∀ a ∈ l, ∃ ρ1, g ks (e a) ρ0 = some ρ1 ∧ wiS ρ1 own = ρ0 ∧ el L ρ1 = .ok (m a, ρ1) ∧ (L.okb 2 = false ∨ noL (m a) = true)) :
    compF ks L own g yesT el (l.map e) ρ0 = .ok (l.map m, ρ0) := by
  have := compF_pure (c := yesT) (own := own) (ρ0 := ρ0) (fun _ => true) m l (fun a ha => (step a ha).imp fun ρ1 h => ⟨h.1, rfl, h.2.1, fun _ => h.2.2⟩)
  rw [List.filter_eq_self.mpr (by simp)] at this
  exact this

/-! same text -/
@[simp] theorem eq_str {a b : Str} : eqD (.str a) (.str b) = some (.bool (decide (a = b))) := Eq.trans rfl rfl
@[simp] theorem ne_str {a b : Str} : neD (.str a) (.str b) = some (.bool (!decide (a = b))) := Eq.trans rfl rfl
@[simp] theorem eq_int {a b : Int} : eqD (.int a) (.int b) = some (.bool (a == b)) := Eq.trans rfl rfl
@[simp] theorem ne_int {a b : Int} : neD (.int a) (.int b) = some (.bool (!(a == b))) := Eq.trans rfl rfl

/-! ### how large data is -/
structure Fm (dep blk : Nat) (d : D) : Prop where
  lay : d.canLay0 = true
  dep : d.depth ≤ dep
  blk : d.bulk ≤ blk
  sho : d.leavesShort 80 = true
  shw : d.showable = true
theorem Fm.mono {a b a' b' : Nat} {d : D} (h : Fm a b d) (ha : a ≤ a') (hb : b ≤ b') : Fm a' b' d := ⟨h.lay, Nat.le_trans h.dep ha, Nat.le_trans h.blk hb, h.sho, h.shw⟩
theorem Fm.none {a b : Nat} : Fm a b .none := ⟨rfl, Nat.zero_le _, Nat.zero_le _, rfl, rfl⟩
theorem Fm.bool {a b : Nat} {x : Bool} : Fm a b (.bool x) := ⟨rfl, Nat.zero_le _, Nat.zero_le _, rfl, rfl⟩
theorem tos_len {x : Int} (h : x.natAbs.log2 < 79) : (PySem.Str.ofString (toString x)).length ≤ 80 := by
  have := int_text_length_le (a := x) (by decide) h
  rw [PySem.ofString_length]
  exact this
theorem Fm.int {a b : Nat} {x : Int} (h : x.natAbs.log2 < 79) : Fm a b (.int x) := ⟨rfl, Nat.zero_le _, Nat.zero_le _, by
  simp only [PyData.leavesShort, PyData.shown]
  exact decide_eq_true (tos_len h), by simp only [PyData.showable, decide_eq_true_eq]; omega⟩
theorem fm_all {a b : Nat} : ∀ {l : List D}, (∀ d ∈ l, Fm a b d) → PyData.canLayAll0 l = true ∧ PyData.depthAll l ≤ a ∧ PyData.bulkAll l ≤ l.length * (b + 1) ∧ PyData.leavesShortAll 80 l = true ∧ PyData.showableAll l = true
  | [], _ => ⟨rfl, Nat.zero_le _, Nat.zero_le _, rfl, rfl⟩
  | d :: r, h => by
    have h1 := h d (List.mem_cons_self ..)
    have ⟨t1, t2, t3, t4, t5⟩ := fm_all (l := r) fun x hx => h x (List.mem_cons_of_mem _ hx)
    refine ⟨by simp [PyData.canLayAll0, h1.lay, t1], ?_, ?_, by simp [PyData.leavesShortAll, h1.sho, t4], by simp [PyData.showableAll, h1.shw, t5]⟩
    · have := h1.dep
      simp only [PyData.depthAll]; omega
    · have := h1.blk
      simp only [PyData.bulkAll, List.length_cons, Nat.add_mul, Nat.one_mul]; omega
theorem Fm.list {a b n : Nat} {l : List D} (h : ∀ d ∈ l, Fm a b d) (hn : l.length ≤ n) : Fm (a + 1) (n * (b + 1)) (.list l) := by
  have ⟨t1, t2, t3, t4, t5⟩ := fm_all h
  exact ⟨by simpa [PyData.canLay0] using t1, by simp only [PyData.depth]; omega, by simp only [PyData.bulk]; exact Nat.le_trans t3 (Nat.mul_le_mul_right _ hn), by simpa [PyData.leavesShort] using t4, by simpa [PyData.showable] using t5⟩
theorem Fm.tuple {a b n : Nat} {l : List D} (h : ∀ d ∈ l, Fm a b d) (hn : l.length ≤ n) : Fm (a + 1) (n * (b + 1)) (.tuple l) := by
  have ⟨t1, t2, t3, t4, t5⟩ := fm_all h
  exact ⟨by simpa [PyData.canLay0] using t1, by simp only [PyData.depth]; omega, by simp only [PyData.bulk]; exact Nat.le_trans t3 (Nat.mul_le_mul_right _ hn), by simpa [PyData.leavesShort] using t4, by simpa [PyData.showable] using t5⟩
theorem Fm.shown {a : Nat} {d : D} (h : Fm a 200000 d) : d.shown.length ≤ sizeLine := by
  have := PyData.shown_le_bulk 80 (by decide) d h.sho
  have h2 := h.blk
  have e : sizeLine = 16777216 := Eq.trans rfl rfl
  omega
theorem Fm.noDict {a b : Nat} {d : D} (h : Fm a b d) : noDict d = true := by
  unfold Dm.noDict
  rw [PyData.hasDict_of_canLay d h.lay]; rfl
theorem Fm.repr {d : D} (h : Fm 64 200000 d) (hd : isDisp d = true) : reprOk d = true := by
  unfold reprOk
  rw [hd, h.shw, h.noDict, decide_eq_true h.dep, decide_eq_true h.shown]; rfl
theorem Fm.reprL {l : List D} (h : Fm 64 200000 (.list l)) : reprG [.list l] = some (.str (PyData.shown (.list l))) := by
  show (if reprOk (.list l) then _ else _) = _
  rw [if_pos (h.repr rfl)]
theorem Fm.reprT {l : List D} (h : Fm 64 200000 (.tuple l)) : reprG [.tuple l] = some (.str (PyData.shown (.tuple l))) := by
  show (if reprOk (.tuple l) then _ else _) = _
  rw [if_pos (h.repr rfl)]
def isStr : D → Bool
  | .str _ => true
  | _ => false
theorem Fm.eqX {b b' : Nat} {d e : D} {f : Bool → Bool} (h : Fm 64 b d) (h' : Fm 64 b' e) (hd : isStr d = false) : eqX f d e = some (.bool (f (PyData.eqv d e))) := by
  have h0 : eqS0 f d e = Option.none := by
    cases d <;> first
      | rfl
      | simp [isStr] at hd
  unfold Dm.eqX SeqAt.shaped
  rw [h0, h.lay, h'.lay, decide_eq_true h.dep, decide_eq_true h'.dep]; rfl
theorem Fm.eq {b b' : Nat} {d e : D} (h : Fm 64 b d) (h' : Fm 64 b' e) (hd : isStr d = false := by rfl) : eqD d e = some (.bool (PyData.eqv d e)) := Fm.eqX (f := fun b => b) h h' hd
theorem Fm.ne {b b' : Nat} {d e : D} (h : Fm 64 b d) (h' : Fm 64 b' e) (hd : isStr d = false := by rfl) : neD d e = some (.bool (!PyData.eqv d e)) := Fm.eqX (f := fun b => !b) h h' hd
theorem Fm.eq_self {b : Nat} {d : D} (h : Fm 64 b d) (hd : isStr d = false := by rfl) : eqD d d = some (.bool true) := by rw [h.eq h hd, SeqAt.eqv_refl d h.lay]
theorem Fm.ne_self {b : Nat} {d : D} (h : Fm 64 b d) (hd : isStr d = false := by rfl) : neD d d = some (.bool false) := by rw [h.ne h hd, SeqAt.eqv_refl d h.lay]; rfl
end
end Dm

namespace Dm
noncomputable section
open PySem PySem.Spec PyProof.Rows L2
@[simp] theorem pw_6 : powD (.int 10) (.int 6) = some (.int 1000000) := Eq.trans rfl rfl
@[simp] theorem pw_7 : powD (.int 10) (.int 7) = some (.int 10000000) := Eq.trans rfl rfl
@[simp] theorem pw_8 : powD (.int 10) (.int 8) = some (.int 100000000) := Eq.trans rfl rfl
@[simp] theorem pw_9 : powD (.int 10) (.int 9) = some (.int 1000000000) := Eq.trans rfl rfl
@[simp] theorem pw_10 : powD (.int 10) (.int 10) = some (.int 10000000000) := Eq.trans rfl rfl
@[simp] theorem pw_11 : powD (.int 10) (.int 11) = some (.int 100000000000) := Eq.trans rfl rfl
@[simp] theorem pw_12 : powD (.int 10) (.int 12) = some (.int 1000000000000) := Eq.trans rfl rfl
@[simp] theorem pw_13 : powD (.int 10) (.int 13) = some (.int 10000000000000) := Eq.trans rfl rfl
@[simp] theorem pw_14 : powD (.int 10) (.int 14) = some (.int 100000000000000) := Eq.trans rfl rfl
@[simp] theorem pw_15 : powD (.int 10) (.int 15) = some (.int 1000000000000000) := Eq.trans rfl rfl
@[simp] theorem pw_16 : powD (.int 10) (.int 16) = some (.int 10000000000000000) := Eq.trans rfl rfl
@[simp] theorem pw_17 : powD (.int 10) (.int 17) = some (.int 100000000000000000) := Eq.trans rfl rfl
@[simp] theorem pw_18 : powD (.int 10) (.int 18) = some (.int 1000000000000000000) := Eq.trans rfl rfl
@[simp] theorem pw_19 : powD (.int 10) (.int 19) = some (.int 10000000000000000000) := Eq.trans rfl rfl
@[simp] theorem pw_20 : powD (.int 10) (.int 20) = some (.int 100000000000000000000) := Eq.trans rfl rfl
@[simp] theorem pw_21 : powD (.int 10) (.int 21) = some (.int 1000000000000000000000) := Eq.trans rfl rfl
@[simp] theorem pw_22 : powD (.int 10) (.int 22) = some (.int 10000000000000000000000) := Eq.trans rfl rfl
@[simp] theorem pw_23 : powD (.int 10) (.int 23) = some (.int 100000000000000000000000) := Eq.trans rfl rfl
@[simp] theorem pw_24 : powD (.int 10) (.int 24) = some (.int 1000000000000000000000000) := Eq.trans rfl rfl
@[simp] theorem pw_25 : powD (.int 10) (.int 25) = some (.int 10000000000000000000000000) := Eq.trans rfl rfl
@[simp] theorem pw_26 : powD (.int 10) (.int 26) = some (.int 100000000000000000000000000) := Eq.trans rfl rfl
@[simp] theorem pw_27 : powD (.int 10) (.int 27) = some (.int 1000000000000000000000000000) := Eq.trans rfl rfl
@[simp] theorem pw_28 : powD (.int 10) (.int 28) = some (.int 10000000000000000000000000000) := Eq.trans rfl rfl
@[simp] theorem pw_29 : powD (.int 10) (.int 29) = some (.int 100000000000000000000000000000) := Eq.trans rfl rfl
@[simp] theorem pw_30 : powD (.int 10) (.int 30) = some (.int 1000000000000000000000000000000) := Eq.trans rfl rfl
@[simp] theorem pw_31 : powD (.int 10) (.int 31) = some (.int 10000000000000000000000000000000) := Eq.trans rfl rfl
@[simp] theorem pw_32 : powD (.int 10) (.int 32) = some (.int 100000000000000000000000000000000) := Eq.trans rfl rfl
@[simp] theorem pw_33 : powD (.int 10) (.int 33) = some (.int 1000000000000000000000000000000000) := Eq.trans rfl rfl
@[simp] theorem pw_34 : powD (.int 10) (.int 34) = some (.int 10000000000000000000000000000000000) := Eq.trans rfl rfl
@[simp] theorem pw_35 : powD (.int 10) (.int 35) = some (.int 100000000000000000000000000000000000) := Eq.trans rfl rfl
@[simp] theorem pw_36 : powD (.int 10) (.int 36) = some (.int 1000000000000000000000000000000000000) := Eq.trans rfl rfl
@[simp] theorem pw_37 : powD (.int 10) (.int 37) = some (.int 10000000000000000000000000000000000000) := Eq.trans rfl rfl
@[simp] theorem pw_38 : powD (.int 10) (.int 38) = some (.int 100000000000000000000000000000000000000) := Eq.trans rfl rfl
@[simp] theorem pw_39 : powD (.int 10) (.int 39) = some (.int 1000000000000000000000000000000000000000) := Eq.trans rfl rfl
@[simp] theorem pw_40 : powD (.int 10) (.int 40) = some (.int 10000000000000000000000000000000000000000) := Eq.trans rfl rfl
@[simp] theorem pw_41 : powD (.int 10) (.int 41) = some (.int 100000000000000000000000000000000000000000) := Eq.trans rfl rfl
@[simp] theorem pw_42 : powD (.int 10) (.int 42) = some (.int 1000000000000000000000000000000000000000000) := Eq.trans rfl rfl
@[simp] theorem pw_43 : powD (.int 10) (.int 43) = some (.int 10000000000000000000000000000000000000000000) := Eq.trans rfl rfl
@[simp] theorem pw_44 : powD (.int 10) (.int 44) = some (.int 100000000000000000000000000000000000000000000) := Eq.trans rfl rfl
@[simp] theorem pw_45 : powD (.int 10) (.int 45) = some (.int 1000000000000000000000000000000000000000000000) := Eq.trans rfl rfl
@[simp] theorem pw_46 : powD (.int 10) (.int 46) = some (.int 10000000000000000000000000000000000000000000000) := Eq.trans rfl rfl
@[simp] theorem pw_47 : powD (.int 10) (.int 47) = some (.int 100000000000000000000000000000000000000000000000) := Eq.trans rfl rfl
@[simp] theorem pw_48 : powD (.int 10) (.int 48) = some (.int 1000000000000000000000000000000000000000000000000) := Eq.trans rfl rfl
@[simp] theorem pw_49 : powD (.int 10) (.int 49) = some (.int 10000000000000000000000000000000000000000000000000) := Eq.trans rfl rfl
@[simp] theorem pw_50 : powD (.int 10) (.int 50) = some (.int 100000000000000000000000000000000000000000000000000) := Eq.trans rfl rfl
@[simp] theorem pw_51 : powD (.int 10) (.int 51) = some (.int 1000000000000000000000000000000000000000000000000000) := Eq.trans rfl rfl
@[simp] theorem pw_52 : powD (.int 10) (.int 52) = some (.int 10000000000000000000000000000000000000000000000000000) := Eq.trans rfl rfl
@[simp] theorem pw_53 : powD (.int 10) (.int 53) = some (.int 100000000000000000000000000000000000000000000000000000) := Eq.trans rfl rfl
@[simp] theorem pw_54 : powD (.int 10) (.int 54) = some (.int 1000000000000000000000000000000000000000000000000000000) := Eq.trans rfl rfl
@[simp] theorem pw_55 : powD (.int 10) (.int 55) = some (.int 10000000000000000000000000000000000000000000000000000000) := Eq.trans rfl rfl
@[simp] theorem pw_56 : powD (.int 10) (.int 56) = some (.int 100000000000000000000000000000000000000000000000000000000) := Eq.trans rfl rfl
@[simp] theorem pw_57 : powD (.int 10) (.int 57) = some (.int 1000000000000000000000000000000000000000000000000000000000) := Eq.trans rfl rfl
@[simp] theorem pw_58 : powD (.int 10) (.int 58) = some (.int 10000000000000000000000000000000000000000000000000000000000) := Eq.trans rfl rfl
@[simp] theorem pw_59 : powD (.int 10) (.int 59) = some (.int 100000000000000000000000000000000000000000000000000000000000) := Eq.trans rfl rfl
@[simp] theorem pw_60 : powD (.int 10) (.int 60) = some (.int 1000000000000000000000000000000000000000000000000000000000000) := Eq.trans rfl rfl
theorem bits_le {i : Int} {n : Nat} (h0 : 0 ≤ i) (h : i < 2 ^ n) : Builtin.Int.intBits i ≤ n := by
  unfold Builtin.Int.intBits
  by_cases e : i = 0
  · subst e; simp
  · have e2 : (i == 0) = false := by simpa using e
    rw [e2]
    have h1 : i.natAbs < 2 ^ n := by
      have : ((i.natAbs : Nat) : Int) < ((2 ^ n : Nat) : Int) := by rw [Int.natAbs_of_nonneg h0]; simpa using h
      exact_mod_cast this
    have := (Nat.log2_lt (by omega : i.natAbs ≠ 0)).mpr h1
    simp; omega
theorem pow_3 {i : Int} (h0 : 0 ≤ i) (h : i < 2 ^ 1000) : powD (.int i) (.int 3) = some (.int (i ^ 3)) := by
  have := bits_le h0 h
  unfold powD gI2c
  simp
  omega
theorem mod_p {i j : Int} (h : 0 < j) : modD (.int i) (.int j) = some (.int (i % j)) := by simp [modD, gI2c, h]
theorem div_p {i j : Int} (h : 0 < j) (h2 : j.natAbs.log2 < 9000) : divD (.int i) (.int j) = some (.int (i / j)) := by simp [divD, gI2c, h, h2]
theorem log_lt {i : Int} {n : Nat} (h0 : 0 ≤ i) (h : i < 2 ^ n) (hn : 0 < n) : i.natAbs.log2 < n := by
  by_cases e : i.natAbs = 0
  · rw [e]; simpa using hn
  · refine (Nat.log2_lt e).mpr ?_
    have : ((i.natAbs : Nat) : Int) < ((2 ^ n : Nat) : Int) := by rw [Int.natAbs_of_nonneg h0]; simpa using h
    exact_mod_cast this
theorem mul_p {i j : Int} (hi : 0 ≤ i) (hi2 : i < 2 ^ 1000) (hj : 0 ≤ j) (hj2 : j < 2 ^ 1000) : mulD (.int i) (.int j) = some (.int (i * j)) := by
  have := log_lt hi hi2 (by decide)
  have := log_lt hj hj2 (by decide)
  show (if _ then _ else _) = _
  rw [if_pos (by omega)]
@[simp] theorem abs_int {i : Int} : absG [.int i] = some (.int (if i < 0 then -i else i)) := Eq.trans rfl rfl
@[simp] theorem max_int {i j : Int} : maxG [.int i, .int j] = some (.int (if j > i then j else i)) := Eq.trans rfl rfl
@[simp] theorem min_int {i j : Int} : minG [.int i, .int j] = some (.int (if j < i then j else i)) := Eq.trans rfl rfl
@[simp] theorem tup_lst {a : List D} : tupG [.list a] = some (.tuple a) := Eq.trans rfl rfl
theorem rg1_nat {n : Nat} (h : n < 4611686018427387904) : rg1D [.int (n : Int)] = some ((List.range n).map fun i => PyData.int (i : Nat)) := by
  unfold rg1D fit62
  have h1 : -(2 ^ 62 : Int) ≤ (n : Int) := by omega
  have h2 : (n : Int) < 2 ^ 62 := by omega
  simp only [inB_t h1 h2, if_true, Int.toNat_natCast, rgD_nat]
theorem rg1_int {n : Int} (h0 : 0 ≤ n) (h : n < 4611686018427387904) : rg1D [.int n] = some ((List.range n.toNat).map fun i => PyData.int (i : Nat)) := by
  have := rg1_nat (n := n.toNat) (by omega)
  rwa [Int.toNat_of_nonneg h0] at this
@[simp] theorem rg1_2 : rg1D [.int 2] = some ((List.range 2).map fun i => PyData.int (i : Nat)) := rg1_nat (n := 2) (by decide)
@[simp] theorem rg1_3 : rg1D [.int 3] = some ((List.range 3).map fun i => PyData.int (i : Nat)) := rg1_nat (n := 3) (by decide)
/-- what a draw's mixing needs -/
theorem mix1 {b c q : Int} (h1 : 0 ≤ b) (h2 : b < 2 ^ 200) (h3 : 0 ≤ c) (h4 : c ≤ 2 ^ 40) (hq : 0 ≤ q) (hq2 : q < 2 ^ 200) : powD (.int (b + q * c)) (.int 3) = some (.int ((b + q * c) ^ 3)) := by
  have h5 : 0 ≤ q * c := Int.mul_nonneg hq h3
  have h6 : q * c < 2 ^ 250 := Int.lt_of_le_of_lt (Int.mul_le_mul (Int.le_of_lt hq2) h4 h3 (by decide)) (by decide)
  exact pow_3 (by omega) (Int.lt_trans (Int.add_lt_add h2 h6) (by decide))
theorem mix2 {x m c q : Int} (hm : 0 < m) (hm2 : m ≤ 2 ^ 200) (h3 : 0 ≤ c) (h4 : c ≤ 2 ^ 40) (hq : 0 ≤ q) (hq2 : q < 2 ^ 200) : powD (.int (x % m + q * c)) (.int 3) = some (.int ((x % m + q * c) ^ 3)) :=
  mix1 (Int.emod_nonneg _ (by omega)) (Int.lt_of_lt_of_le (Int.emod_lt_of_pos _ hm) hm2) h3 h4 hq hq2
theorem mix3 {c q : Int} (h3 : 0 ≤ c) (h4 : c ≤ 2 ^ 40) (hq : 0 ≤ q) (hq2 : q < 2 ^ 200) : mulD (.int q) (.int c) = some (.int (q * c)) :=
  mul_p hq (Int.lt_trans hq2 (by decide)) h3 (Int.lt_of_le_of_lt h4 (by decide))
end
end Dm

namespace Dm
noncomputable section
open PySem PySem.Spec PyProof.Rows L2
@[simp] theorem itD_lst {l : List D} : itD (.list l) = some l := Eq.trans rfl rfl
@[simp] theorem itD_tup {l : List D} : itD (.tuple l) = some l := Eq.trans rfl rfl
/-! ### sum of a tuple -/
def rSumT (K : PySem.W.Frag) : List V → Hp → VK → Prop := fun vs H Q => ∃ (a : Addr) (ns : List Int), vs = [V.ref a] ∧ SqT K H a (ns.map V.int) ∧ Q (.int ns.sum) H
theorem cr_sumT {X : Cx} (hc : X.calm = true) : CallR X (.builtin "sum") (rSumT X.K) := by
  intro pins s σ H vs us Q I r h
  obtain ⟨a, ns, rfl, hT, q⟩ := h
  obtain ⟨its, rv, ht, _⟩ := I.tuple hT
  rw [Vals.ref1 r]
  have hi := rv.ints
  obtain ⟨xs, e⟩ := hi.allInts.items
  have hn : numsOf (intItems xs).toList = ns := by rw [← e]; exact hi.numsOf
  rw [nums_intItems] at hn
  rw [e] at ht
  refine PySem.W.ktm_sumG (I.ok.hd hc) ht fun h' tk t' hk => ?_
  rw [preSum_eq, List.take_of_length_le (by simp), hn]
  exact ⟨.int _, H, I.kept hk, ⟨_, rfl⟩, q⟩
def sumA : List D → Option D
  | [.list ds] => (ints? ds).map fun ns => .int ns.sum
  | [.tuple ds] => (ints? ds).map fun ns => .int ns.sum
  | _ => none
theorem cs_sumA {K : PySem.W.Frag} : CallS K (fun vs H Q => rSum K vs H Q ∨ rSumT K vs H Q) sumA := by
  intro H C L vs ds d Q r e q
  unfold sumA at e
  split at e
  · rename_i ds
    cases e2 : ints? ds with
    | none => rw [e2] at e; cases e
    | some ns =>
      rw [e2] at e; cases e
      obtain ⟨v, rfl, rv⟩ := r.one
      obtain ⟨a, us, rfl, ha, _, rr⟩ := rv.lst_inv
      have := ints?_some e2
      subst this
      have eu := rr.ints
      subst eu
      exact .inl ⟨_, ns, rfl, .of ha, q _ H C .refl (.int _)⟩
  · rename_i ds
    cases e2 : ints? ds with
    | none => rw [e2] at e; cases e
    | some ns =>
      rw [e2] at e; cases e
      obtain ⟨v, rfl, rv⟩ := r.one
      obtain ⟨a, us, rfl, ha, rr⟩ := rv.tup_inv
      have := ints?_some e2
      subst this
      have eu := rr.ints
      subst eu
      exact .inr ⟨_, ns, rfl, ha, q _ H C .refl (.int _)⟩
  · cases e
theorem cr_sumA {X : Cx} (hc : X.calm = true) : CallR X (.builtin "sum") (fun vs H Q => rSum X.K vs H Q ∨ rSumT X.K vs H Q) := (cr_sum hc).or (cr_sumT hc)
@[simp] theorem sum_lst {l : List Int} : sumA [.list (l.map PyData.int)] = some (.int l.sum) := by simp [sumA]
@[simp] theorem sum_tup {l : List Int} : sumA [.tuple (l.map PyData.int)] = some (.int l.sum) := by simp [sumA]
/-! ### x in l, x not in l -/
def inF (f : Bool → Bool) (x y : D) : Option D := match y with
  | .list ds => if SeqAt.shaped x && SeqAt.shaped (.list ds) then some (.bool (f (ds.any fun z => PyData.eqv z x))) else none
  | _ => none
def inD : D → D → Option D := inF fun b => b
def notInD : D → D → Option D := inF fun b => !b
theorem os_inF {K : PySem.W.Frag} {f : Bool → Bool} {r : R2} (h : ∀ x y H Q d ds, Dp K H x d → Dp K H y (.list ds) → SeqAt.shaped d = true → SeqAt.shaped (.list ds) = true → Q (.bl (f (ds.any fun z => PyData.eqv z d))) H → r x y H Q) : OpS K r (inF f) := by
  intro H C L x y dx dy d Q q1 q2 e q
  cases dy <;> simp only [inF, reduceCtorEq] at e
  rename_i ds
  by_cases hz : (SeqAt.shaped dx && SeqAt.shaped (.list ds)) = true
  · rw [if_pos hz] at e; cases e
    rw [Bool.and_eq_true] at hz
    exact h _ _ _ _ _ _ q1.dp q2.dp hz.1 hz.2 (q _ H C .refl (.bl _))
  · rw [if_neg hz] at e; cases e
theorem os_in {K : PySem.W.Frag} : OpS K (rInD K) inD := os_inF fun x y H Q d ds h1 h2 h3 h4 h5 => ⟨d, ds, h1, h2, h3, h4, h5⟩
theorem os_notin {K : PySem.W.Frag} : OpS K (rNotInD K) notInD := os_inF fun x y H Q d ds h1 h2 h3 h4 h5 => ⟨d, ds, h1, h2, h3, h4, h5⟩
section
variable {X : Cx} {np : Fp} {EW : XW} {a b : Expr} {fa fb : ES} {pos : Pos}
theorem de_in {k : Nat} (hr : Room k X.A) (ha : DE X np EW a fa) (hb : DE X np EW b fb) (hm : behindInMarks .In b = false := by rfl) : DE X np EW (.Compare a [.In] [b] pos) (opE inD fa fb) := de_cmp (op_inD (room65 hr)) os_in ha hb hm
theorem de_notin {k : Nat} (hr : Room k X.A) (ha : DE X np EW a fa) (hb : DE X np EW b fb) (hm : behindInMarks .NotIn b = false := by rfl) : DE X np EW (.Compare a [.NotIn] [b] pos) (opE notInD fa fb) := de_cmp (op_notInD (room65 hr)) os_notin ha hb hm
theorem dt_in {k : Nat} (hr : Room k X.A) (ha : DE X np EW a fa) (hb : DE X np EW b fb) (hm : behindInMarks .In b = false := by rfl) : DT X np EW (.Compare a [.In] [b] pos) (asT (opE inD fa fb)) := dt_cmp (op_inD (room65 hr)) os_in ha hb hm
theorem dt_notin {k : Nat} (hr : Room k X.A) (ha : DE X np EW a fa) (hb : DE X np EW b fb) (hm : behindInMarks .NotIn b = false := by rfl) : DT X np EW (.Compare a [.NotIn] [b] pos) (asT (opE notInD fa fb)) := dt_cmp (op_notInD (room65 hr)) os_notin ha hb hm
end
theorem inF_int {f : Bool → Bool} {i : Int} {l : List Int} : inF f (.int i) (.list (l.map PyData.int)) = some (.bool (f (decide (i ∈ l)))) := by
  have h1 : SeqAt.shaped (.int i) = true := rfl
  have h2 : SeqAt.shaped (.list (l.map PyData.int)) = true := by
    have h3 : ∀ l : List Int, PyData.canLayAll0 (l.map PyData.int) = true ∧ PyData.depthAll (l.map PyData.int) = 0 := fun l => by
      induction l with
      | nil => exact ⟨rfl, rfl⟩
      | cons a r ih => exact ⟨by simp [PyData.canLayAll0, PyData.canLay0, ih.1], by simp [PyData.depthAll, PyData.depth, ih.2]⟩
    unfold SeqAt.shaped
    simp [PyData.canLay0, PyData.depth, (h3 l).1, (h3 l).2]
  unfold inF
  simp only [h1, h2, Bool.and_self, if_true]
  congr 3
  rw [Bool.eq_iff_iff]
  simp [PyData.eqv]
theorem in_int {i : Int} {l : List Int} : inD (.int i) (.list (l.map PyData.int)) = some (.bool (decide (i ∈ l))) := inF_int
theorem notin_int {i : Int} {l : List Int} : notInD (.int i) (.list (l.map PyData.int)) = some (.bool (!decide (i ∈ l))) := inF_int
end
end Dm

namespace Dm
noncomputable section
open PySem PySem.Spec PyProof.Rows L2
/-! ### a tuple times an int -/
theorem tuple_mul1 (l : Addr) (items : Array Value) (n : Nat) (dd : Option Addr) (sl : Array (Option Value)) (u : Tok) :
    Meets (Builtin.«tuple.__mul__» ⟨[.ref l, .int 1 u], []⟩) (fun _ R s => s.heap.get? l = some { cls := .type "tuple", dict := dd, data := .seq items n, slots := sl } ∧
      R (.ok (.ret (Value.ref l))) s) :=
  .of_wp fun prog w A R s h => by
    obtain ⟨hp, g, d, tk, os⟩ := s
    obtain ⟨hl, h⟩ := h
    have f1 := AutoSeq1.idx_int
    have c1 : (items.isEmpty || (1 : Int) == 1) = true := by simp
    wp_walk using wpAny_loadPart' hl
    exact ⟨_, rfl, h⟩
def rRep1 (K : PySem.W.Frag) : R2 := fun x y H Q => ∃ l xs, x = .ref l ∧ y = .int 1 ∧ SqT K H l xs ∧ Q (.ref l) H
theorem op_rep1 {X : Cx} : OpR X (binaryOp .Mult) (rRep1 X.K) := by
  intro pins s σ H x y v u Q I rx ry h
  obtain ⟨l, xs, rfl, rfl, hT, q⟩ := h
  cases rx
  obtain ⟨t, rfl⟩ := ry
  obtain ⟨its, r, ⟨⟨cls, dd, data, sl⟩, ho, hc, n, hd⟩, hs⟩ := I.tuple hT
  simp only at hc hd
  subst hc hd
  refine wpAny_binaryOp_repeat_ref (T := "tuple") (U := "int") (by decide) ⟨_, ho, rfl⟩ (fun s' => typeIs_int s' 1 t) noFill_tuple_mul F.fills_int_mul F.slot_int_rmul repeat_tuple F.slot_int_index.lookup
    (call_meets F.slot_int_rmul (typeIs_int s 1 t) F.entry_int_rmul (F.args_int_rmul_2 _ _) (int_rmul_tuple 1 t l its.toArray n dd sl)
      ⟨ho, rfl, ⟨_, ho, rfl⟩, call_meets F.slot_tuple_mul ⟨_, ho, rfl⟩ F.entry_tuple_mul (F.args_tuple_mul_2 _ _) (tuple_mul1 l its.toArray n dd sl t) ⟨ho, ?_⟩⟩)
  exact ⟨.ref l, H, I, rfl, q⟩
def rRepX (K : PySem.W.Frag) : R2 := fun x y H Q => ∃ l k xs, x = .ref l ∧ y = .int k ∧ SqT K H l xs ∧ xs ≠ [] ∧ 2 ≤ k ∧ k ≤ 1000 ∧ xs.length ≤ 1000 ∧ ∀ p ob, H p = none → ob.dict = none → Q (.ref p) (upd H p (.frz ob (.tup (List.replicate k.toNat xs).flatten)))
theorem op_repX {X : Cx} : OpR X (binaryOp .Mult) (rRepX X.K) := by
  intro pins s σ H x y v u Q I rx ry h
  obtain ⟨l, k, xs, rfl, rfl, hT, hne, h1, h2, hz, q⟩ := h
  cases rx
  obtain ⟨t, rfl⟩ := ry
  obtain ⟨its, r, ⟨⟨cls, dd, data, sl⟩, ho, hc, n, hd⟩, hs⟩ := I.tuple hT
  simp only at hc hd
  subst hc hd
  have ln := r.length
  have hn : its ≠ [] := fun e => hne (List.eq_nil_of_length_eq_zero (by rw [ln, e]; rfl))
  have hi : its.toArray.isEmpty = false := by cases its with | nil => exact absurd rfl hn | cons a b => rfl
  have sz : its.toArray.size = xs.length := by rw [List.size_toArray, ln]
  have hm : ((its.toArray.size : Nat) : Int) * k ≤ 1000000 := by
    have a1 : ((xs.length : Nat) : Int) * k ≤ 1000 * k := Int.mul_le_mul_of_nonneg_right (by omega) (by omega)
    rw [sz]; omega
  have k1 : k.toNat * xs.length ≤ 1000 * 1000 := Nat.mul_le_mul (by omega) hz
  have fl : (List.replicate k.toNat its).flatten.length ≤ sizeLine := by
    rw [PyProof.Rows.lm_len_rep_flat, ← ln, sizeLine_eq]; omega
  have w0 : (decide (k < -(2 ^ 63)) || decide (k ≥ 2 ^ 63)) = false := by simp; omega
  have w1 : (its.toArray.isEmpty || k == 1) = false := by rw [hi]; simp; omega
  have w2 : (decide (k ≤ 0) || its.toArray.isEmpty) = false := by rw [hi]; simp; omega
  have w3 : Builtin.Tuple.tupleTooMany (((its.toArray.size : Nat) : Int) * k) = false := by
    unfold Builtin.Tuple.tupleTooMany
    rw [sizeLine_eq]
    exact decide_eq_false (by omega)
  refine wpAny_binaryOp_repeat_ref (T := "tuple") (U := "int") (by decide) ⟨_, ho, rfl⟩ (fun s' => typeIs_int s' k t) noFill_tuple_mul F.fills_int_mul F.slot_int_rmul repeat_tuple F.slot_int_index.lookup
    (call_meets F.slot_int_rmul (typeIs_int s k t) F.entry_int_rmul (F.args_int_rmul_2 _ _) (int_rmul_tuple k t l its.toArray n dd sl)
      ⟨ho, rfl, ⟨_, ho, rfl⟩, call_meets F.slot_tuple_mul ⟨_, ho, rfl⟩ F.entry_tuple_mul (F.args_tuple_mul_2 _ _) (tuple_mulW l its.toArray n dd sl k t w0 w1 w2 (by omega) w3 (by rw [size_rep, List.size_toArray]; exact fl)) ⟨ho, ?_⟩⟩)
  rw [size_rep]
  exact laid_tupX I (r.rep k.toNat) (by rw [PyProof.Rows.lm_len_rep_flat, sizeLine_eq]; omega) q
def mulT : D → D → Option D
  | .tuple xs, .int k => if k = 1 then some (.tuple xs) else if xs ≠ [] ∧ inB 2 1001 k = true ∧ xs.length ≤ 1000 then some (.tuple (List.replicate k.toNat xs).flatten) else none
  | _, _ => none
theorem os_mulT {K : PySem.W.Frag} : OpS K (fun x y H Q => rRep1 K x y H Q ∨ rRepX K x y H Q) mulT := by
  intro H C L x y dx dy d Q r1 r2 e q
  cases dx <;> cases dy <;> simp only [mulT, reduceCtorEq] at e
  obtain ⟨p, us, rfl, hp, rp⟩ := r1.tup_invX
  obtain rfl := r2.int_inv
  rename_i xs k
  by_cases h1 : k = 1
  · subst h1
    rw [if_pos rfl] at e; cases e
    exact .inl ⟨_, _, rfl, rfl, hp.sq, q _ H C .refl (.tup hp rp)⟩
  · rw [if_neg h1] at e
    by_cases hz : xs ≠ [] ∧ inB 2 1001 k = true ∧ xs.length ≤ 1000
    · rw [if_pos hz] at e; cases e
      obtain ⟨z1, z2, z3⟩ := hz
      rw [inB_eq, Bool.and_eq_true, decide_eq_true_eq, decide_eq_true_eq] at z2
      refine .inr ⟨_, _, _, rfl, rfl, hp.sq, fun h => z1 (rp.nil_iff.mp h), z2.1, by omega, by rw [rp.len]; exact z3, fun t ob ht hd => ?_⟩
      have S := pstp_id (C := C) (o := .frz ob (.tup (List.replicate k.toNat us).flatten)) ht
      exact q _ _ _ S (.tup (newX hd) ((rep_rp rp k.toNat).same S.same))
    · rw [if_neg hz] at e; cases e
section
variable {X : Cx} {np : Fp} {EW : XW} {a b o e : Expr} {fa fb fo fe : ES} {pos apos cpos : Pos}
theorem de_mulT (ha : DE X np EW a fa) (hb : DE X np EW b fb) : DE X np EW (.BinOp a .Mult b pos) (opE mulT fa fb) := de_op (OpR.or op_rep1 op_repX) os_mulT ha hb
/-! ### l.index(x) -/
def idxE (fo fe : ES) : ES := fun L ρ => (fo L ρ).bind fun p => match p.1 with
  | .list ds => (fe L p.2).bind fun q => if SeqAt.shaped (.list ds) && SeqAt.shaped q.1 then (match ds.findIdx? (fun z => PyData.eqv z q.1) with
    | some j => .ok (.int (j : Nat), q.2)
    | none => .bad) else .bad
  | _ => .bad
theorem de_index {k : Nat} (hr : Room k X.A) (ho : DE X np EW o fo) (he : DE X np EW e fe)
    (hpe : ∀ {to t : TE}, MtR X "list.index" (rIndexD X.K) → PE X o to → PE X e t → PE X (.Call (.Attribute o "index" apos) [e] [] cpos) (tBM X.K "list" (rIndexD X.K) to (tCons t tNil))) : DE X np EW (.Call (.Attribute o "index" apos) [e] [] cpos) (idxE fo fe) :=
  PE.weak (hpe (mt_indexD (room65 hr)) ho he) fun σ H Q ⟨L, C, ρ, R, h⟩ => by
    refine tE_of R h fun p x H1 C1 A1 R1 r1 h1 => ?_
    obtain ⟨d1, ρ1⟩ := p
    cases d1 with
    | list ds =>
      obtain ⟨a, us, rfl, ha, ca, rr⟩ := r1.lst_inv
      refine ⟨.inl ⟨rfl, _, .inl (.inl ha)⟩, tE_of R1 h1 fun q y H2 C2 A2 R2 r2 h2 => ?_⟩
      obtain ⟨d2, ρ2⟩ := q
      by_cases hz : (SeqAt.shaped (.list ds) && SeqAt.shaped d2) = true
      · simp only [hz, if_true] at h2
        rw [Bool.and_eq_true] at hz
        cases ej : ds.findIdx? (fun z => PyData.eqv z d2) with
        | none => simp only [ej] at h2; exact h2.elim
        | some j =>
          simp only [ej] at h2
          obtain ⟨hj, hj1, hj2⟩ := List.findIdx?_eq_some_iff_getElem.mp ej
          refine ⟨a, y, d2, ds, j, ds[j], rfl, rfl, (A2.rp r1).dp, r2.dp, hz.1, hz.2, List.getElem?_eq_getElem hj, hj1, fun m z' hm hz' => ?_, h2 _ H2 C2 (A1.trans A2) R2 (.int _)⟩
          obtain ⟨hm1, hm2⟩ := List.getElem?_eq_some_iff.mp hz'
          subst hm2
          simpa using hj2 m hm
      · simp only [hz] at h2; exact h2.elim
    | _ => exact h1.elim
end
end
end Dm

namespace Dm
noncomputable section
open PySem PySem.Spec PyProof.Rows L2
section
variable {X : Cx} {np : Fp} {EW : XW} {a b e : Expr} {fa fb fe : ES} {p pos : Pos}
/-! ### lists made anew of lists that others hold -/
def flL : D → Re (List D)
  | .list l => if noLs l then .ok l else .bad
  | _ => .bad
/-- a new list by an operator, of what others hold: flat items alone -/
def nopA (g : D → D → Option D) (fa fb : ES) : AS := fun L ρ => (opE g fa fb .an ρ).bind fun p => (flL p.1).bind fun l => .ok (l, p.2)
theorem flL_ok {d : D} {α : Type} {k : List D → Re α} {Q : α → Prop} {E : Exn → Prop} (h : wp ((flL d).bind k) Q E) : ∃ l, d = .list l ∧ noLs l = true ∧ wp (k l) Q E := by
  cases d with
  | list l =>
    by_cases hz : noLs l = true
    · rw [show flL (.list l) = .ok l by simp [flL, hz]] at h
      exact ⟨l, rfl, hz, h⟩
    · rw [show flL (.list l) = .bad by simp [flL, hz]] at h
      exact h.elim
  | _ => exact h.elim
theorem an_pu {L : Lv} : (Lv.an.pure || !L.pure) = true := rfl
theorem dn_add (ha : DE X np EW a fa) (hb : DE X np EW b fb) : DN X np EW (.BinOp a .Add b pos) (nopA addD fa fb) :=
  PE.weak (pe_op op_addAll ha hb) fun σ H Q ⟨L, C, ρ, R, h⟩ => tE_of (L := .an) R (wp_bind.mp h) fun u x H1 C1 A1 R1 r1 h1 => tE_of R1 h1 fun v y H2 C2 A2 R2 r2 h2 => by
    obtain ⟨d, e, h3⟩ := wp_ofO (wp_bind.mp h2)
    obtain ⟨l, rfl, hl, h4⟩ := flL_ok h3
    have A := (A1.trans A2).lev (K := X.K) (L := L) an_pu
    replace r1 := A2.rp r1
    obtain ⟨du, ρ1⟩ := u
    obtain ⟨dv, ρ2⟩ := v
    cases du <;> cases dv <;> simp only [addD, reduceCtorEq] at e
    · cases e
    · split at e <;> cases e
    · obtain ⟨p, us, rfl, hp, cp, rp⟩ := r1.lst_inv
      obtain ⟨p2, us2, rfl, hp2, cp2, rp2⟩ := r2.lst_inv
      rename_i xs ys
      by_cases hz : xs.length + ys.length ≤ sizeLine
      · rw [if_pos hz] at e; cases e
        exact .inr (.inr (.inl ⟨_, _, _, _, rfl, rfl, hp, hp2, by rw [rp.len, rp2.len]; exact hz, fun t ht => h4 t _ H2 C2 A R2 ht (RpA.free hl (rp.app rp2))⟩))
      · rw [if_neg hz] at e; cases e
    · split at e <;> cases e
theorem dn_mul (ha : DE X np EW a fa) (hb : DE X np EW b fb) : DN X np EW (.BinOp a .Mult b pos) (nopA mulD fa fb) :=
  PE.weak (pe_op op_mulAll ha hb) fun σ H Q ⟨L, C, ρ, R, h⟩ => tE_of (L := .an) R (wp_bind.mp h) fun u x H1 C1 A1 R1 r1 h1 => tE_of R1 h1 fun v y H2 C2 A2 R2 r2 h2 => by
    obtain ⟨d, e, h3⟩ := wp_ofO (wp_bind.mp h2)
    obtain ⟨l, rfl, hl, h4⟩ := flL_ok h3
    have A := (A1.trans A2).lev (K := X.K) (L := L) an_pu
    replace r1 := A2.rp r1
    obtain ⟨du, ρ1⟩ := u
    obtain ⟨dv, ρ2⟩ := v
    cases du <;> cases dv <;> simp only [mulD, reduceCtorEq] at e
    · split at e <;> cases e
    · obtain ⟨p, us, rfl, hp, cp, rp⟩ := r1.lst_inv
      obtain rfl := r2.int_inv
      rename_i xs k
      by_cases hz : (fitI k && decide (xs.length * k.toNat ≤ sizeLine)) = true
      · rw [if_pos hz] at e; cases e
        simp only [fitI, inB_eq, Bool.and_eq_true, decide_eq_true_eq] at hz
        exact .inr ⟨_, _, _, rfl, rfl, hp, hz.1.1, hz.1.2, by rw [rp.len]; exact hz.2, fun t ht => h4 t _ H2 C2 A R2 ht (RpA.free hl (rep_rp rp k.toNat))⟩
      · rw [if_neg hz] at e; cases e
def nslA (fa : ES) (lo hi : OS) : AS := fun L ρ => (slE fa lo hi .an ρ).bind fun p => (flL p.1).bind fun l => .ok (l, p.2)
theorem dn_sl {lo hi : Option Expr} {fl fh : OS} {p2 : Pos} (ha : DE X np EW a fa) (hl : DO X np EW lo fl) (hh : DO X np EW hi fh) : DN X np EW (.Subscript a (.Slice lo hi none p2) pos) (nslA fa fl fh) :=
  PE.weak (pe_slice sl_all ha hl hh) fun σ H Q ⟨L, C, ρ, R, h⟩ => tE_of (L := .an) R (wp_bind.mp h) fun p v H1 C1 A1 R1 r1 h1 => tO_of R1 h1 fun q H2 C2 A2 R2 h2 => tO_of R2 h2 fun r H3 C3 A3 R3 h3 => by
    obtain ⟨d, e, h4⟩ := wp_ofO (wp_bind.mp h3)
    obtain ⟨l, rfl, hl, h5⟩ := flL_ok h4
    obtain ⟨dp, ρ1⟩ := p
    have A := ((A1.trans A2).trans A3).lev (K := X.K) (L := L) an_pu
    have rp := A3.rp (A2.rp r1)
    cases dp <;> simp only [slD2, reduceCtorEq] at e
    · cases e
      obtain ⟨t, us, rfl, ht, ct, ru⟩ := rp.lst_inv
      exact .inl ⟨_, _, rfl, .of ht, fun z hz => h5 z _ H3 C3 A R3 hz (RpA.free hl (cut_rp ru _ _))⟩
    · cases e
/-! ### sorted, ints -/
def insT (x : Int) : List Int → List Int
  | [] => [x]
  | y :: r => if x ≤ y then x :: y :: r else y :: insT x r
def srtT : List Int → List Int
  | [] => []
  | x :: r => insT x (srtT r)
theorem ins_perm {x : Int} : ∀ {l : List Int}, (insT x l).Perm (x :: l)
  | [] => .refl _
  | y :: r => by
    unfold insT
    split
    · exact .refl _
    · exact (List.Perm.cons y ins_perm).trans (List.Perm.swap x y r)
theorem srt_perm : ∀ {l : List Int}, (srtT l).Perm l
  | [] => .refl _
  | x :: r => ins_perm.trans (List.Perm.cons x srt_perm)
theorem ins_srt {x : Int} : ∀ {l : List Int}, l.Pairwise (· ≤ ·) → (insT x l).Pairwise (· ≤ ·)
  | [], _ => by simp [insT]
  | y :: r, h => by
    unfold insT
    have h1 := List.pairwise_cons.mp h
    split
    · rename_i hx
      exact List.pairwise_cons.mpr ⟨fun z hz => by
        rcases List.mem_cons.mp hz with rfl | hz
        · exact hx
        · have := h1.1 z hz; omega, h⟩
    · rename_i hx
      exact List.pairwise_cons.mpr ⟨fun z hz => by
        rcases List.mem_cons.mp (ins_perm.mem_iff.mp hz) with rfl | hz
        · omega
        · exact h1.1 z hz, ins_srt h1.2⟩
theorem srt_srt : ∀ {l : List Int}, (srtT l).Pairwise (· ≤ ·)
  | [] => .nil
  | x :: r => ins_srt srt_srt
theorem srt_uni : ∀ {a b : List Int}, a.Perm b → a.Pairwise (· ≤ ·) → b.Pairwise (· ≤ ·) → a = b
  | [], b, h, _, _ => h.nil_eq
  | x :: a, [], h, _, _ => (h.length_eq ▸ rfl : (x :: a).length = 0) |> fun z => absurd z (by simp)
  | x :: a, y :: b, h, h1, h2 => by
    have e1 := List.pairwise_cons.mp h1
    have e2 := List.pairwise_cons.mp h2
    have hx : x = y := by
      have m1 : x ∈ y :: b := h.mem_iff.mp (List.mem_cons_self ..)
      have m2 : y ∈ x :: a := h.mem_iff.mpr (List.mem_cons_self ..)
      rcases List.mem_cons.mp m1 with z | z
      · exact z
      · rcases List.mem_cons.mp m2 with w | w
        · exact w.symm
        · have := e2.1 x z
          have := e1.1 y w
          omega
    subst hx
    rw [srt_uni (List.Perm.cons_inv h) e1.2 e2.2]
theorem srt_of {a b : List Int} (h : a.Perm b) (h1 : a.Pairwise (· ≤ ·)) : a = srtT b := srt_uni (h.trans srt_perm.symm) h1 srt_srt
def intsD : D → Option (List Int)
  | .list l => ints? l
  | _ => none
def soA (fe : ES) : AS := fun L ρ => (fe L ρ).bind fun p => (ofO (intsD p.1)).bind fun ns => .ok ((srtT ns).map PyData.int, p.2)
theorem rp_ints {K : PySem.W.Frag} {H : Hp} {P : Addr → Prop} : ∀ {l : List Int}, RpA K H P (l.map V.int) (l.map PyData.int)
  | [] => .nil
  | _ :: _ => .cons (.int _) rp_ints
theorem dn_sorted {x : Str} (hg : Gl X x) (hm : X.mg x = none) (hv : bootBuiltins x = some (.builtin "sorted")) (ha : DE X np EW e fe) (hn : x ≠ "__name__" := by decide) (hdb : (x == ("__debug__" : Str)) = false := by decide)
    (he : starEach [e] X.env = (false, eval e X.env) :: starEach [] X.env := by rfl) : DN X np EW (.Call (.Name x p) [e] [] pos) (soA fe) :=
  PE.weak (pe_callB cr_sortedI hg hm hv (pa_cons ha pa_nil he) hn hdb he rfl) fun σ H Q ⟨L, C, ρ, R, h⟩ => tE_of R h fun q v H1 C1 A1 R1 r1 h1 => by
    obtain ⟨ns, e, h2⟩ := wp_ofO (wp_bind.mp h1)
    obtain ⟨dq, ρ1⟩ := q
    cases dq <;> simp only [intsD, reduceCtorEq] at e
    have := ints?_some e
    subst this
    obtain ⟨a, us, rfl, ha, _, rr⟩ := r1.lst_inv
    have eu := rr.ints
    subst eu
    refine ⟨_, ns, rfl, .of ha, fun ns' t k1 k2 ht => ?_⟩
    have := srt_of k1 k2
    subst this
    exact h2 t _ H1 C1 A1 R1 ht rp_ints
end
variable {fa fb fe : ES} {L : Lv} {ρ : Slots} {g : D → D → Option D} {lo hi : OS}
@[simp] theorem ev_nopA : nopA g fa fb L ρ = (opE g fa fb .an ρ).bind fun p => (flL p.1).bind fun l => .ok (l, p.2) := Eq.trans rfl rfl
@[simp] theorem ev_nslA : nslA fa lo hi L ρ = (slE fa lo hi .an ρ).bind fun p => (flL p.1).bind fun l => .ok (l, p.2) := Eq.trans rfl rfl
@[simp] theorem ev_soA : soA fe L ρ = (fe L ρ).bind fun p => (ofO (intsD p.1)).bind fun ns => .ok ((srtT ns).map PyData.int, p.2) := Eq.trans rfl rfl
@[simp] theorem flL_list {l : List D} : flL (.list l) = if noLs l then .ok l else .bad := Eq.trans rfl rfl
@[simp] theorem intsD_map {l : List Int} : intsD (.list (l.map PyData.int)) = some l := by
  show ints? (l.map PyData.int) = some l
  exact ints?_map l
end
end Dm

namespace Dm
noncomputable section
open PySem PySem.Spec PyProof.Rows L2
section
variable {X : Cx} {np : Fp} {EW : XW} {a b e : Expr} {fa fb fe : ES} {p pos : Pos}
/-! ### a, b, .. = a list -/
def luG (n : Nat) (gs : GSs) : GS := fun L d ρ => match d with
  | .list ds => if ds.length = n then gs L ds ρ else none
  | _ => none
theorem dg_lst {es : List Expr} {is : List Nat} {gs : GSs} {kk n : Nat} (hc : X.calm = true) (h : DGs X np es is gs) (hn : (assignEach es X.env).length = n := by rfl) (hst : (assignEach es X.env).findIdx? (·.1) = none := by rfl) : DG X np (.Tuple es kk pos) is (luG n gs) :=
  PG.weak (pg_lst hc h hn hst) fun v σ H Q ⟨L, C, ρ, d, ρ', R, r, e, q⟩ => by
    cases d <;> simp only [luG, reduceCtorEq] at e
    rename_i ds
    obtain ⟨a, us, rfl, ha, _, rr⟩ : ∃ a us, v = .ref a ∧ H a = some (.lst us) ∧ Cof C L a ∧ RpA X.K H (Cof C L) us ds := by
      rcases r with r | ⟨_, _, _, _, _, e0, _⟩
      · exact r.lst_inv
      · cases e0
    by_cases hl : ds.length = n
    · rw [if_pos hl] at e
      exact ⟨a, us, rfl, .of ha, by rw [rr.len, hl], L, C, ρ, ds, ρ', R, rr, e, q⟩
    · rw [if_neg hl] at e; cases e
/-! ### sorted(xs, reverse=True), ints -/
def soRA (fe : ES) : AS := fun L ρ => (fe L ρ).bind fun p => (ofO (intsD p.1)).bind fun ns => .ok ((srtT ns).reverse.map PyData.int, p.2)
theorem srt_rev {a b : List Int} (h : a.Perm b) (h1 : a.Pairwise (· ≥ ·)) : a = (srtT b).reverse := by
  have h2 : a.reverse.Pairwise (· ≤ ·) := List.pairwise_reverse.mpr h1
  have := srt_of ((List.reverse_perm a).trans h) h2
  rw [← this, List.reverse_reverse]
theorem dn_sortedRev {x : Str} {j : Nat} {p1 p2 : Pos} (hg : Gl X x) (hm : X.mg x = none) (hv : bootBuiltins x = some (.builtin "sorted")) (ha : DE X np EW e fe) (hn : x ≠ "__name__" := by decide) (hdb : (x == ("__debug__" : Str)) = false := by decide)
    (he : starEach [e] X.env = (false, eval e X.env) :: starEach [] X.env := by rfl) (he2 : backTo pos (starEach [e] X.env) = (false, eval e X.env) :: backTo pos (starEach [] X.env) := by rfl) (hpl : (backTo pos (starEach [e] X.env)).any (·.1) = false := by rfl) : DN X np EW (.Call (.Name x p) [e] [⟨some "reverse", .Constant (.bool true) j p1, p2⟩] pos) (soRA fe) :=
  PE.weak (pe_callBK (cr_sortedRev (b := true)) hg hm hv (pa_cons ha pa_nil he) (pk_cons pe_bl pk_nil) hn hdb he2 hpl) fun σ H Q ⟨L, C, ρ, R, h⟩ => tE_of R h fun q v H1 C1 A1 R1 r1 h1 => by
    obtain ⟨ns, e, h2⟩ := wp_ofO (wp_bind.mp h1)
    obtain ⟨dq, ρ1⟩ := q
    cases dq <;> simp only [intsD, reduceCtorEq] at e
    have := ints?_some e
    subst this
    obtain ⟨a, us, rfl, ha, _, rr⟩ := r1.lst_inv
    have eu := rr.ints
    subst eu
    refine ⟨_, ns, rfl, rfl, .of ha, fun ns' t k1 k2 ht => ?_⟩
    have := srt_rev k1 k2
    subst this
    exact h2 t _ H1 C1 A1 R1 ht rp_ints
/-! ### xs[::-1] -/
def nrvA (fe : ES) : AS := fun L ρ => (fe .an ρ).bind fun p => (flL p.1).bind fun l => .ok (l.reverse, p.2)
theorem noLs_rev {l : List D} (h : noLs l = true) : noLs l.reverse = true := noLs_iff.mpr fun d hd => noLs_iff.mp h d (List.mem_reverse.mp hd)
theorem dn_rev {k : Nat} {p1 p2 p3 : Pos} (ha : DE X np EW e fe) : DN X np EW (.Subscript e (.Slice none none (some (.UnaryOp .USub (.Constant (.int 1) k p1) p2)) p3) pos) (nrvA fe) :=
  PE.weak (pe_revL ha) fun σ H Q ⟨L, C, ρ, R, h⟩ => tE_of (L := .an) R h fun u x H1 C1 A1 R1 r1 h1 => by
    obtain ⟨l, e, hl, h4⟩ := flL_ok h1
    obtain ⟨du, ρ1⟩ := u
    have e : du = .list l := e
    subst e
    obtain ⟨t, us, rfl, ht, _, rr⟩ := r1.lst_inv
    exact ⟨t, us, rfl, .of ht, fun z hz => h4 z _ H1 C1 (A1.lev (K := X.K) (L := L) an_pu) R1 hz (RpA.free (noLs_rev hl) rr.rev)⟩
end
section
variable {X : Cx} {np : Fp} {EW : XW} {Xc : CXT} {k : Nat} {f : Addr} {fd : FuncData} {ps ks : List Str} {sp : Sp} {E : XK} {x : Str} {p pos kpos : Pos} {e : Expr} {fe : ES}
/-! ### f(a new list that nobody else holds), f changes it -/
def colU (H : Hp) (C : Col) : Col := fun b => match H b with | none => 0 | some _ => if C b = 0 then 1 else C b
theorem colU_some {H : Hp} {C : Col} {b : Addr} (hb : H b ≠ none) : colU H C b = if C b = 0 then 1 else C b := by
  obtain ⟨o, ho⟩ := ne_some hb
  unfold colU
  rw [ho]
theorem rel_boU {K : PySem.W.Frag} {H : Hp} {C : Col} {σ : L2.St} {ρ : Slots} (R : Rel K np H C σ ρ) : Rel K np H (colU H C) σ (boAll ρ) := rel_boAll R
def clF (m : OF) (fe : ES) : ES := fun L ρ => (fe .fr (boAll ρ)).bind fun p => match p.1 with
  | .list cs => if noLs cs then (m cs []).bind fun q => if noLs q.2 && noL q.1 then .ok (q.1, ρ) else .bad else .bad
  | _ => .bad
theorem de_callF {xo : XO} {m : OF} (F : GFn X.prog X.w X.K X.mg X.base Xc k f fd ps (spG X.K xo 1 (ofO1 m))) (hr : Room k X.A) (hgd : X.A.guards = some []) (hg : Gl X x) (hm : X.mg x = some (.ref f))
    (hk : PySem.W.keepIn X.K (.ref f) = true) (hb : Binds X.K fd ps []) (hx : Passes Xc X E) (hE : ∀ c H', EW c H' → xo E c H') (ha : DE X np EW e fe) (hdb : (x == ("__debug__" : Str)) = false := by decide)
    (he : starEach [e] X.env = (false, eval e X.env) :: starEach [] X.env := by rfl) (hpl : (backTo pos (starEach [] X.env)).any (·.1) = false := by rfl) : DE X np EW (.Call (.Name x p) [e] [] pos) (clF m fe) :=
  PE.weak (gpe_call F hr hgd hg hm hk hb hx (pa_cons ha pa_nil he) hdb he hpl) fun σ H Q ⟨L, C, ρ, R, h⟩ => by
    unfold clF at h
    have tr : ∀ b, H b ≠ none → colU H C b = (if C b = 0 then 1 else C b) := fun b hb => colU_some hb
    refine ⟨.fr, _, boAll ρ, rel_boU R, ?_⟩
    cases e : fe .fr (boAll ρ) with
    | bad => rw [e] at h; exact h.elim
    | ex c =>
      rw [e] at h
      intro H' C' S
      refine h H' (fun b => match H b with | none => 0 | some _ => if C b = 0 then 0 else C' b) ⟨fun b x hb k => S.keep b x hb ?_, S.there, fun b hb hc => ?_, fun b hb hc => ?_⟩
      · rcases k with k | k
        · left; rw [tr b (by rw [hb]; simp)]; split <;> omega
        · exact .inr k
      · obtain ⟨o, ho⟩ := ne_some hb
        simp only [ho]
        by_cases z : C b = 0
        · rw [if_pos z, z]
        · rw [if_neg z]
          have := S.colo b hb (by rw [tr b hb, if_neg z]; exact hc)
          rw [this, tr b hb, if_neg z]
      · obtain ⟨o, ho⟩ := ne_some hb
        simp only [ho]
        have z : ¬ C b = 0 := by omega
        rw [if_neg z]
        exact S.colh b hb (by rw [tr b hb, if_neg z]; exact hc)
    | ok q =>
      rw [e] at h
      intro v H' C' A _ r
      obtain ⟨_, P⟩ := A.pu rfl
      have old : ∀ b, C' b = 0 → H b = none := fun b hb => by
        cases q : H b with
        | none => rfl
        | some o =>
          have h1 := P.col b (by rw [q]; simp)
          rw [tr b (by rw [q]; simp)] at h1
          split at h1 <;> omega
      obtain ⟨dq, ρ1⟩ := q
      cases dq with
      | list cs =>
        by_cases hn : noLs cs = true
        · obtain ⟨t, us, rfl, ht, ct, rr⟩ := r.lst_inv
          have ct' : Lv.fr.okb (C' t) = true := ct
          have ct2 : C' t = 0 := by simpa [Lv.okb] using ct'
          have hto := old t ct2
          have h' : wp ((m cs []).bind fun q => if noLs q.2 && noL q.1 then Re.ok (q.1, ρ) else .bad) (fun p => ∀ v H' C', Aft np L ρ H C p.2 H' C' → Rel X.K np H' C' σ p.2 → Rp X.K H' (Cof C' L) v p.1 → Q v H') (fun c => ∀ H' C', Stp np H C H' C' → EW c H') := by
            have h2 := h
            simp only [bind_ok, hn, if_true] at h2
            exact h2
          have step : ∀ {H'' : Hp}, (∀ b o, b ≠ t → H' b = some o → H'' b = some o) → PStp H C H'' C := fun hs => ⟨fun b o ho => hs b o (fun z => by rw [z, hto] at ho; cases ho) (P.same b o ho), fun b _ => rfl⟩
          have h3 := wp_bind.mp h'
          refine spG_own (ds := []) (vs := []) ht (RpA.free hn rr) .nil rfl (wp_mono h3 (fun q _ hq => ?_) fun c hc H'' hs _ => hE _ _ (hc H'' C (step hs).stp))
          by_cases h2 : (noLs q.2 && noL q.1) = true
          · rw [if_pos h2] at hq
            rw [Bool.and_eq_true] at h2
            exact ⟨h2.1, fun v H'' C'' us' hs _ _ _ rv => hq v H'' C (.of (step hs)) (R.pstp (step hs)) (rv.free h2.2)⟩
          · rw [if_neg h2] at hq; exact hq.elim
        · have h2 := h
          simp only [bind_ok, hn] at h2
          exact h2.elim
      | _ => exact h.elim
/-! ### a def that calls itself: so many times at most -/
theorem g_none {P : Program} {w : World} {K : PySem.W.Frag} {mg : Str → Option Value} {base : Heap} {Xc : CXT} {k n : Nat} {f : Addr} {fd : FuncData} {ps : List Str} {xo : XO} (hl : ps.length = n) : GFn P w K mg base Xc k f fd ps (spG K xo n (ofP fun _ => .bad)) where
  len := fun vs H Q E h => by rw [h.1, hl]
  run := fun A outer s H args us vs Q E _ _ _ _ _ h => by
    obtain ⟨_, C, np, as, _, _, _, h⟩ := h
    unfold ofP at h
    cases e : as.mapM unbo with
    | none => rw [e] at h; exact h.elim
    | some ds => rw [e] at h; exact h.elim
end
section
variable {fa fb fe : ES} {L : Lv} {ρ : Slots} {gs : GSs} {n : Nat} {m : OF}
@[simp] theorem ev_luG {ds : List D} : luG n gs L (.list ds) ρ = if ds.length = n then gs L ds ρ else none := Eq.trans rfl rfl
@[simp] theorem ev_soRA : soRA fe L ρ = (fe L ρ).bind fun p => (ofO (intsD p.1)).bind fun ns => .ok ((srtT ns).reverse.map PyData.int, p.2) := Eq.trans rfl rfl
@[simp] theorem ev_nrvA : nrvA fe L ρ = (fe .an ρ).bind fun p => (flL p.1).bind fun l => .ok (l.reverse, p.2) := Eq.trans rfl rfl
@[simp] theorem ev_clF : clF m fe L ρ = (fe .fr (boAll ρ)).bind fun p => match p.1 with
  | .list cs => if noLs cs then (m cs []).bind fun q => if noLs q.2 && noL q.1 then .ok (q.1, ρ) else .bad else .bad
  | _ => .bad := Eq.trans rfl rfl
end
end
end Dm

namespace Dm
noncomputable section
open PySem PySem.Spec PyProof.Rows L2
section
variable {X : Cx} {np : Fp} {EW : XW} {a b e : Expr} {fa fb fe : ES} {p pos : Pos}
/-! ### len(set(xs)), xs a list of unlike ints -/
def lsetL : D → Option D
  | .list ds => match ints? ds with
    | some ns => if ns.Nodup ∧ ns.length ≤ 4000 then some (.int ns.length) else none
    | none => none
  | _ => none
theorem de_lsetL {p2 q : Pos} (hg : Gl X "len") (hm : X.mg "len" = none) (hg2 : Gl X "set") (hm2 : X.mg "set" = none) (ha : DE X np EW e fe) (hc : X.calm = true := by rfl)
    (na : starEach [e] X.env = (false, eval e X.env) :: starEach [] X.env := by rfl) : DE X np EW (.Call (.Name "len" p) [.Call (.Name "set" p2) [e] [] q] [] pos) (unE lsetL fe) :=
  PE.weak (RZ.pe_lenSetI hg hm hg2 hm2 ha hc na) fun σ H Q ⟨L, C, ρ, R, h⟩ => tE_of R h fun u v H1 C1 A1 R1 r1 h1 => by
    obtain ⟨d, e, h2⟩ := wp_ofO (wp_bind.mp h1)
    obtain ⟨du, ρ1⟩ := u
    cases du <;> simp only [lsetL, reduceCtorEq] at e
    rename_i ds
    cases e2 : ints? ds with
    | none => rw [e2] at e; cases e
    | some ns =>
      rw [e2] at e
      by_cases hz : ns.Nodup ∧ ns.length ≤ 4000
      · simp only [hz, if_true] at e
        obtain ⟨a, us, rfl, hat, _, rr⟩ := r1.lst_inv
        have := ints?_some e2
        subst this
        have eu := rr.ints
        subst eu
        have e : some (PyData.int ns.length) = some d := by simpa using e
        cases e
        exact ⟨a, ns, rfl, .of hat, hz.1, hz.2, h2 _ H1 C1 A1 R1 (.int _)⟩
      · simp only [hz, if_false] at e; cases e
theorem lsetL_map {ns : List Int} (h : ns.Nodup) (hl : ns.length ≤ 4000) : lsetL (.list (ns.map PyData.int)) = some (.int ns.length) := by
  show (match ints? (ns.map PyData.int) with
    | some ns => if ns.Nodup ∧ ns.length ≤ 4000 then some (PyData.int ns.length) else none
    | none => none) = _
  rw [ints?_map]
  exact if_pos ⟨h, hl⟩
/-! ### x, y = a, b of plain names: no tuple is made -/
theorem tg_two {L : Lv} {i j : Nat} {ds : List D} {ρ ρ' : Slots} (h : tuG 2 (consG (nmG i) (consG (nmG j) nilG)) L (.tuple ds) ρ = some ρ') : ∃ d1 d2 s1 s2, ds = [d1, d2] ∧ itS L d1 = some s1 ∧ itS L d2 = some s2 ∧ ρ' = (ρ.set i s1).set j s2 := by
  unfold tuG at h
  match ds, h with
  | [d1, d2], h =>
    have h : ((itS L d1).map fun s => ρ.set i s).bind (fun ρ1 => ((itS L d2).map fun s => ρ1.set j s).bind fun ρ2 => some ρ2) = some ρ' := h
    cases e1 : itS L d1 with
    | none => rw [e1] at h; cases h
    | some s1 =>
      rw [e1] at h
      cases e2 : itS L d2 with
      | none => rw [e2] at h; cases h
      | some s2 =>
        rw [e2] at h
        exact ⟨d1, d2, s1, s2, rfl, e1, e2, (Option.some.inj h).symm⟩
  | [], h => cases h
  | [_], h => cases h
  | _ :: _ :: _ :: _, h => simp at h
theorem to_tup {L : Lv} {fs : AS} {ρ : Slots} {k : D × Slots → Fl} : (tuE fs L ρ).to k = (fs L ρ).to fun p => if p.1.length ≤ sizeLine then k (.tuple p.1, p.2) else .bad := by
  unfold tuE
  cases fs L ρ with
  | ok p =>
    show ((if p.1.length ≤ sizeLine then Re.ok (PyData.tuple p.1, p.2) else .bad : Re (D × Slots)).to k) = if p.1.length ≤ sizeLine then k (.tuple p.1, p.2) else .bad
    by_cases h : p.1.length ≤ sizeLine
    · rw [if_pos h, if_pos h]; rfl
    · rw [if_neg h, if_neg h]; rfl
  | bad => rfl
  | ex c => rfl
theorem ds_par (L : Lv) {i j : Nat} {x y : Str} {fs : AS} {px py pt : Pos} {kt k2 pt2} (hc : X.calm = true) (hN : X.N.Nodup) (hi : X.N[i]? = some x) (hj : X.N[j]? = some y) (hij : i ≠ j)
    (hx : X.env.scope.names.lookup x = some .local) (hy : X.env.scope.names.lookup y = some .local) (ha : DA X np EW [a, b] fs)
    (hw : swappedStores [.Tuple [.Name x px, .Name y py] kt pt] (.Tuple [a, b] k2 pt2) X.env = pure (some [x, y]))
    (hs : swapsWithSole [.Tuple [.Name x px, .Name y py] kt pt] (.Tuple [a, b] k2 pt2) pos.line X.env = pure false := by rfl) :
    DS X np EW (.Assign [.Tuple [.Name x px, .Name y py] kt pt] (.Tuple [a, b] k2 pt2) pos) (tgS L (tuG 2 (consG (nmG i) (consG (nmG j) nilG))) (tuE fs)) :=
  PS.weak (ps_par hc hN hi hj hij hx hy ha hw hs) fun Dn σ H ⟨C, ρ, R, h⟩ => by
    unfold tgS at h
    rw [to_tup] at h
    refine toA_of (L := L) R h fun p vs H' C' A R' r q => ?_
    by_cases hz : p.1.length ≤ sizeLine
    · rw [if_pos hz] at q
      cases e : tuG 2 (consG (nmG i) (consG (nmG j) nilG)) L (.tuple p.1) p.2 with
      | none => simp only [e] at q; exact q.elim
      | some ρ' =>
        simp only [e] at q
        obtain ⟨d1, d2, s1, s2, e0, e1, e2, rfl⟩ := tg_two e
        rw [e0] at r
        obtain ⟨v, w, rfl, r1, r2⟩ := r.two
        exact ⟨v, w, rfl, q _ H' C' .refl ((R'.set (itS_ok r1 e1)).set (itS_ok r2 e2))⟩
    · rw [if_neg hz] at q; exact q.elim
end
end
end Dm

namespace Dm
noncomputable section
open PySem PySem.Spec PyProof.Rows L2
section
variable {X : Cx} {np : Fp} {EW : XW} {a b e : Expr} {fa fb fe : ES} {p pos : Pos}
/-! ### in, not in: a tuple of ints -/
def inTF (neg : Bool) (x y : D) : Option D := match x, y with
  | .int i, .tuple ds => (ints? ds).map fun ns => .bool (if neg then !decide (i ∈ ns) else decide (i ∈ ns))
  | .none, .tuple ds => (ints? ds).map fun _ => .bool neg
  | _, _ => none
def inTD : D → D → Option D := inTF false
def notInTD : D → D → Option D := inTF true
theorem flat_ints : ∀ {ns : List Int}, (ns.map V.int).all flatV = true
  | [] => rfl
  | _ :: _ => by rw [List.map_cons, List.all_cons, flat_ints]; rfl
theorem inV_ints {i : Int} : ∀ {ns : List Int}, inV (.int i) (ns.map V.int) = decide (i ∈ ns)
  | [] => rfl
  | n :: ns => by
    have ih := inV_ints (i := i) (ns := ns)
    unfold inV at ih ⊢
    rw [List.map_cons, List.any_cons, ih]
    have e : eqV (.int n) (.int i) = decide (n = i) := by
      show (n == i) = decide (n = i)
      by_cases h : n = i <;> simp [h]
    rw [e]
    by_cases h1 : n = i <;> by_cases h2 : i ∈ ns <;> simp [h1, h2, eq_comm]
    exact fun h => absurd h.symm h1
theorem inV_none : ∀ {ns : List Int}, inV .non (ns.map V.int) = false
  | [] => rfl
  | n :: ns => by
    have ih := inV_none (ns := ns)
    unfold inV at ih ⊢
    rw [List.map_cons, List.any_cons, ih]
    rfl
theorem os_inT {K : PySem.W.Frag} {neg : Bool} : OpS K (rIn K neg) (inTF neg) := by
  intro H C L x y dx dy d Q r1 r2 e q
  cases dx <;> cases dy <;> simp only [inTF, reduceCtorEq] at e
  · rename_i ds
    cases e2 : ints? ds with
    | none => rw [e2] at e; cases e
    | some ns =>
      rw [e2] at e; cases e
      obtain ⟨t, us, rfl, ht, rr⟩ := r2.tup_inv
      have := ints?_some e2
      subst this
      have eu := rr.ints
      subst eu
      cases r1
      refine ⟨t, _, rfl, .inr ht, rfl, flat_ints, ?_⟩
      rw [inV_none]
      have : (if neg = true then !false else false) = neg := by cases neg <;> rfl
      rw [this]
      exact q _ H C .refl (.bl _)
  · rename_i i ds
    cases e2 : ints? ds with
    | none => rw [e2] at e; cases e
    | some ns =>
      rw [e2] at e; cases e
      obtain ⟨t, us, rfl, ht, rr⟩ := r2.tup_inv
      have := ints?_some e2
      subst this
      have eu := rr.ints
      subst eu
      obtain rfl := r1.int_inv
      refine ⟨t, _, rfl, .inr ht, rfl, flat_ints, ?_⟩
      rw [inV_ints]
      exact q _ H C .refl (.bl _)
theorem de_inT (ha : DE X np EW a fa) (hb : DE X np EW b fb) (hm : behindInMarks .In b = false := by rfl) : DE X np EW (.Compare a [.In] [b] pos) (opE inTD fa fb) := de_cmp op_in_seq os_inT ha hb hm
theorem de_notinT (ha : DE X np EW a fa) (hb : DE X np EW b fb) (hm : behindInMarks .NotIn b = false := by rfl) : DE X np EW (.Compare a [.NotIn] [b] pos) (opE notInTD fa fb) := de_cmp op_notIn_seq os_inT ha hb hm
theorem dt_inT (ha : DE X np EW a fa) (hb : DE X np EW b fb) (hm : behindInMarks .In b = false := by rfl) : DT X np EW (.Compare a [.In] [b] pos) (asT (opE inTD fa fb)) := dt_cmp op_in_seq os_inT ha hb hm
theorem dt_notinT (ha : DE X np EW a fa) (hb : DE X np EW b fb) (hm : behindInMarks .NotIn b = false := by rfl) : DT X np EW (.Compare a [.NotIn] [b] pos) (asT (opE notInTD fa fb)) := dt_cmp op_notIn_seq os_inT ha hb hm
theorem inT_int {i : Int} {ns : List Int} : inTD (.int i) (.tuple (ns.map PyData.int)) = some (.bool (decide (i ∈ ns))) := by simp [inTD, inTF]
theorem notinT_int {i : Int} {ns : List Int} : notInTD (.int i) (.tuple (ns.map PyData.int)) = some (.bool (!decide (i ∈ ns))) := by simp [notInTD, inTF]
end
end
end Dm

namespace Dm
noncomputable section
open PySem PySem.Spec PyProof.Rows L2
/-! ### sorted(t), t a tuple of ints -/
def rSortedTI (K : PySem.W.Frag) : List V → Hp → VK → Prop := fun vs H Q => ∃ (a : Addr) (ns : List Int), vs = [V.ref a] ∧ SqT K H a (ns.map V.int) ∧
  ∀ (ns' : List Int) (p : Addr), ns'.Perm ns → ns'.Pairwise (· ≤ ·) → H p = none → Q (.ref p) (upd H p (.lst (ns'.map V.int)))
section
variable {X : Cx}
theorem cr_sortedTI : CallR X (.builtin "sorted") (rSortedTI X.K) := by
  intro pins s σ H vs us Q I r h
  obtain ⟨a, ns, rfl, hs, q⟩ := h
  obtain ⟨its, rv, ht, hz⟩ := I.tuple hs
  rw [Vals.ref1 r]
  have hi := rv.ints
  obtain ⟨o, ho, hc, n, hd⟩ := ht
  have hz2 : its.length ≤ sizeLine := by rw [← rv.length]; exact hz
  refine Calls.call_function_entry (kind_sorted) (plain_sorted) (entry_sorted) (args_sorted1 _) ?_
  show wpAny _ _ (Builtin.«sorted» _) _ _ _
  unfold Builtin.«sorted»
  refine wpAny_bind (m := checkCount "sorted" 1 1 _) (wpAny_pure ?_)
  refine wpAny_bind (wpAny_collect_seq a (.inr rfl) ho hc hd (fun h' hk => ?_) (by rw [List.size_toArray]; exact hz2))
  refine wpAny_bind (wpAny_newList ?_ (by simpa using hz2))
  have I1 : Inv X pins σ H { s with heap := h' } := I.kept (t' := s.toks) hk
  have hoL : (h'.push { cls := .type "list", data := .seq its.toArray.toList.toArray }).get? h'.objs.size = some (seqObj "list" its.toArray 0) := by
    have := Heap.get?_push_size h' (o := seqObj "list" its.toArray 0) rfl
    simpa [seqObj] using this
  refine wpAny_bind (wpAny_holding (wpAny_call_entry slot_list_sort ⟨_, hoL, rfl⟩ entry_list_sort (SrtO.list_sort_ord SrtO.swo_int hoL hz2 (fun h2 => SrtO.ints_sortable hi h2) fun out h1 h2 => ⟨_, rfl, ?_⟩) (args_list_sort _)))
  obtain ⟨k1, k2, k3⟩ := SrtO.ints_out hi h1 h2
  obtain ⟨ep, he'⟩ := PyProof.Rows.sortedHeap_at (vs := its) (out := out.toArray) hoL
  have hlen : ((out.map SrtO.iv).map V.int).length ≤ sizeLine := by
    rw [List.length_map, k2.length_eq]
    rw [List.length_map] at hz
    exact hz
  have old : ∀ b ob, h'.get? b = some ob → (sortedHeap (h'.push { cls := .type "list", data := .seq its.toArray.toList.toArray }) h'.objs.size its out.toArray).get? b = some ob := fun b ob hb => by
    have hlt : b < h'.objs.size := Heap.lt_size hb
    rw [PyProof.Rows.sortedHeap_old (Nat.ne_of_lt hlt) (by rw [size_push']; exact Nat.lt_succ_of_lt hlt)]
    exact Heap.get?_push_of_some _ hb
  have new : ObjOk X.prog X.w (upd H h'.objs.size (.lst ((out.map SrtO.iv).map V.int))) (sortedHeap (h'.push { cls := .type "list", data := .seq its.toArray.toList.toArray }) h'.objs.size its out.toArray) h'.objs.size (.lst ((out.map SrtO.iv).map V.int)) := ⟨hlen, out, ep, vals_of_ints k1, he'⟩
  exact wpAny_pure ⟨_, rfl, .ref h'.objs.size, upd H h'.objs.size (.lst ((out.map SrtO.iv).map V.int)), I1.laid (t' := s.toks) old (Nat.le_refl _) new, rfl, q _ _ k2 k3 (I1.hok.fresh (Nat.le_refl _))⟩
variable {np : Fp} {EW : XW} {e : Expr} {fe : ES} {p pos : Pos}
def intsT : D → Option (List Int)
  | .tuple l => ints? l
  | _ => none
def soTA (fe : ES) : AS := fun L ρ => (fe L ρ).bind fun p => (ofO (intsT p.1)).bind fun ns => .ok ((srtT ns).map PyData.int, p.2)
theorem dn_sortedT {x : Str} (hg : Gl X x) (hm : X.mg x = none) (hv : bootBuiltins x = some (.builtin "sorted")) (ha : DE X np EW e fe) (hn : x ≠ "__name__" := by decide) (hdb : (x == ("__debug__" : Str)) = false := by decide)
    (he : starEach [e] X.env = (false, eval e X.env) :: starEach [] X.env := by rfl) : DN X np EW (.Call (.Name x p) [e] [] pos) (soTA fe) :=
  PE.weak (pe_callB cr_sortedTI hg hm hv (pa_cons ha pa_nil he) hn hdb he rfl) fun σ H Q ⟨L, C, ρ, R, h⟩ => tE_of R h fun q v H1 C1 A1 R1 r1 h1 => by
    obtain ⟨ns, e, h2⟩ := wp_ofO (wp_bind.mp h1)
    obtain ⟨dq, ρ1⟩ := q
    cases dq <;> simp only [intsT, reduceCtorEq] at e
    have := ints?_some e
    subst this
    obtain ⟨a, us, rfl, ha, rr⟩ := r1.tup_inv
    have eu := rr.ints
    subst eu
    refine ⟨_, ns, rfl, ha, fun ns' t k1 k2 ht => ?_⟩
    have := srt_of k1 k2
    subst this
    exact h2 t _ H1 C1 A1 R1 ht rp_ints
end
@[simp] theorem ev_soTA {fe : ES} {L : Lv} {ρ : Slots} : soTA fe L ρ = (fe L ρ).bind fun p => (ofO (intsT p.1)).bind fun ns => .ok ((srtT ns).map PyData.int, p.2) := Eq.trans rfl rfl
@[simp] theorem intsT_map {l : List Int} : intsT (.tuple (l.map PyData.int)) = some l := by
  show ints? (l.map PyData.int) = some l
  exact ints?_map l
end
end Dm

/-! zip of two, whatever has become of the pair handed out ahead; enumerate(zip(a, b)). -/
namespace Zh
open PySem
open PySem.Sem (wp)

/-- handed out: T -/
abbrev ZipO (h : Heap) (z TI TO T : Addr) (fl : Bool) : Prop :=
  h.get? z = some { cls := .type "zip", dict := none, data := .fields #[rawInt T, .bool fl, .bool false, .ref TI, .ref TO], slots := #[] }

/-- an inner iterator at it, over what stands at l -/
structure Inn (it l : Addr) (xs : Array Value) (I : Heap → Nat → Prop) : Prop where
  at' : ∀ {h h' : Heap} {k : Nat}, I h k → (∀ b o, b = it ∨ b = l → h.get? b = some o → h'.get? b = some o) → I h' k
  live : ∀ {h : Heap} {k : Nat}, I h k → it < h.objs.size
  next : ∀ {prog : Program} {w : World} {A : Around} {E : Value → Shared → Prop} {s : Shared} {k : Nat} {x : Value} {Q : Value → Shared → Prop}, I s.heap k → xs[k]? = some x → it ≠ l →
    (∀ h', I h' (k + 1) → Heap.SameBut it s.heap h' → Q x { s with heap := h' }) → wpAny (model prog w) A (Builtin.SmallTypes.nextOf (.ref it)) Q E s
  stop : ∀ {prog : Program} {w : World} {A : Around} {E : Value → Shared → Prop} {s : Shared} {k : Nat} {Q : Value → Shared → Prop}, A.handled = none → I s.heap k → xs[k]? = none →
    (∀ h' e, Heap.ExtBut it s.heap h' → (∃ o, h'.get? e = some o ∧ o.cls = .type "StopIteration") → E (.ref e) { s with heap := h' }) → wpAny (model prog w) A (Builtin.SmallTypes.nextOf (.ref it)) Q E s

theorem inn_list (it l : Addr) (xs : Array Value) : Inn it l xs (fun h k => h.IsListIter it l k ∧ h.IsList l xs) where
  at' := fun ⟨a, b⟩ f => ⟨a.at fun o => f it o (.inl rfl), b.at fun o => f l o (.inr rfl)⟩
  live := fun ⟨⟨_, e, _⟩, _⟩ => Heap.lt_size e
  next := fun ⟨a, b⟩ hx ne q => wpAny_nextOf_list_item a b hx fun h' a' sb => q h' ⟨a', b.extBut sb.extBut (Ne.symm ne)⟩ sb
  stop := fun hh ⟨a, b⟩ hx q => wpAny_nextOf_list_end hh a b hx fun h' e x y => q h' e x y

theorem inn_tup (it l : Addr) (xs : Array Value) : Inn it l xs (fun h k => h.IsTupleIter it l k ∧ h.IsTuple l xs) where
  at' := fun ⟨a, b⟩ f => ⟨a.at fun o => f it o (.inl rfl), b.at fun o => f l o (.inr rfl)⟩
  live := fun ⟨⟨_, e, _⟩, _⟩ => Heap.lt_size e
  next := fun ⟨a, b⟩ hx ne q => RZ.nextOf_tuple_item a b hx fun h' a' sb => q h' ⟨a', b.extBut sb.extBut (Ne.symm ne)⟩ sb
  stop := fun hh ⟨a, b⟩ hx q => RZ.nextOf_tuple_end hh a b hx fun h' e x y => q h' e x y

theorem wp_alive {prog : Program} {w : World} {A : Around} {E : Value → Shared → Prop} {s : Shared} {a : Addr} {Q : Option Obj → Shared → Prop} (h : Q (s.heap.get? a) s) : wpAny (model prog w) A (loadIfAlive a) Q E s :=
  fun Γ p _ => by unfold loadIfAlive; rw [Sem.wp_loadIfAlive]; simpa using h

section
variable {prog : Program} {w : World} {A : Around} {E : Value → Shared → Prop} {s : Shared}

/-- held: told so, and marked -/
theorem held {z TI TO T : Addr} {fl : Bool} {Q : Bool → Shared → Prop} (hz : ZipO s.heap z TI TO T fl) (hT : ∃ o, s.heap.get? T = some o)
    (h : ∀ h', ZipO h' z TI TO T true → Heap.SameBut z s.heap h' → Q false { s with heap := h' }) : wpAny (model prog w) A (Builtin.SmallTypes.ownedTupleIsFree (.ref z)) Q E s := by
  unfold Builtin.SmallTypes.ownedTupleIsFree
  refine wpAny_bind (wpAny_field hz rfl (x := .int (T : Nat) 0) rfl ?_)
  show wpAny _ _ (loadIfAlive ((T : Nat) : Int).toNat >>= _) _ _ _
  rw [Int.toNat_natCast]
  refine wpAny_bind (wp_alive ?_)
  obtain ⟨o, ho⟩ := hT
  rw [ho]
  simp only [Option.isNone_some, Bool.false_eq_true, if_false]
  refine wpAny_bind (wpAny_field hz rfl (x := .bool fl) rfl ?_)
  cases fl with
  | true =>
    show wpAny _ _ (if ((Value.bool true) != .bool true) = true then _ else _) _ _ _
    rw [if_neg (by decide)]
    exact wpAny_pure (h s.heap hz ⟨rfl, fun _ _ => rfl⟩)
  | false =>
    show wpAny _ _ (if ((Value.bool false) != .bool true) = true then _ else _) _ _ _
    rw [if_pos (by decide)]
    exact wpAny_bind (wpAny_setField_rec hz (by simp) fun h1 hz1 sb => wpAny_pure (h h1 hz1 sb))

theorem held_item {z TI TO T i1 i2 l1 l2 : Addr} {fl : Bool} {k1 k2 : Nat} {xs ys : Array Value} {x y : Value} {I1 I2 : Heap → Nat → Prop} {Q : Value → Shared → Prop} (D : ZipApart z TI TO i1 i2 l1 l2)
    (J1 : Inn i1 l1 xs I1) (J2 : Inn i2 l2 ys I2) (hz : ZipO s.heap z TI TO T fl) (hT : ∃ o, s.heap.get? T = some o) (hTI : IsPair s.heap TI (.ref i1) (.ref i2))
    (h1 : I1 s.heap k1) (h2 : I2 s.heap k2) (hx : xs[k1]? = some x) (hy : ys[k2]? = some y)
    (hQ : ∀ h', ZipO h' z TI TO T true → I1 h' (k1 + 1) → I2 h' (k2 + 1) → IsPair h' s.heap.objs.size x y → h'.objs.size = s.heap.objs.size + 1 →
      (∀ c o, c ≠ z → c ≠ i1 → c ≠ i2 → s.heap.get? c = some o → h'.get? c = some o) → Q (.ref s.heap.objs.size) { s with heap := h' }) :
    wpAny (model prog w) A (Builtin.«zip.__next__» ⟨[.ref z], []⟩) (fun fin s' => ∃ v, fin = .done (.ret v) ∧ Q v s') E s := by
  show wpAny _ _ (field (.ref z) 2 >>= fun _ => _) _ _ _
  refine wpAny_bind (wpAny_field hz rfl (x := .bool false) rfl ?_)
  show wpAny _ _ (field (.ref z) 3 >>= fun _ => _) _ _ _
  refine wpAny_bind (wpAny_field hz rfl (x := .ref TI) rfl ?_)
  refine wpAny_bind (wpAny_seqItems hTI rfl ?_)
  show wpAny _ _ (Builtin.SmallTypes.ownedTupleIsFree (.ref z) >>= fun _ => _) _ _ _
  refine wpAny_bind (held hz hT fun ha za sa => ?_)
  simp only [Bool.false_eq_true, if_false]
  refine wpAny_bind ?_
  rw [← Array.forIn_toList]
  simp only [List.forIn_cons, List.forIn_nil]
  refine wpAny_bind (wpAny_bind (wpAny_holding ?_))
  show wpAny _ _ (Builtin.SmallTypes.nextOf (.ref i1) >>= fun _ => _) _ _ _
  refine wpAny_bind (J1.next (J1.at' h1 fun b o q => sa.extBut b o (by rcases q with q | q <;> subst q <;> first | exact D.i1z | exact D.l1z)) hx D.l1i1.symm fun hb n1 sb => wpAny_pure (wpAny_pure ?_))
  refine wpAny_bind (wpAny_bind (wpAny_holding ?_))
  show wpAny _ _ (Builtin.SmallTypes.nextOf (.ref i2) >>= fun _ => _) _ _ _
  have h2a : I2 ha k2 := J2.at' h2 fun b o q => sa.extBut b o (by rcases q with q | q <;> subst q <;> first | exact D.i2z | exact D.l2z)
  have h2b : I2 hb k2 := J2.at' h2a fun b o q => sb.extBut b o (by rcases q with q | q <;> subst q <;> first | exact D.i12.symm | exact D.l2i1)
  refine wpAny_bind (J2.next h2b hy D.l2i2.symm fun hc n2 sc => wpAny_pure (wpAny_pure (wpAny_pure ?_)))
  refine wpAny_bind (wpAny_newTuple ?_ (by show 2 ≤ sizeLine; decide))
  have n1c : I1 hc (k1 + 1) := J1.at' n1 fun b o q => sc.extBut b o (by rcases q with q | q <;> subst q <;> first | exact D.i12 | exact D.l1i2)
  have zc : ZipO hc z TI TO T true := sc.extBut _ _ D.i2z.symm (sb.extBut _ _ D.i1z.symm za)
  have zs : hc.objs.size = s.heap.objs.size := by rw [sc.1, sb.1, sa.1]
  have up : ∀ c o, hc.get? c = some o → (hc.push { cls := .type "tuple", data := .seq #[x, y] }).get? c = some o := fun c o e => Heap.get?_push_of_some _ e
  refine wpAny_pure ⟨_, rfl, ?_⟩
  show Q (.ref hc.objs.size) _
  have new : IsPair (hc.push { cls := .type "tuple", data := .seq #[x, y] }) hc.objs.size x y := Heap.get?_push_size _ rfl
  have z1 : (hc.push { cls := .type "tuple", data := .seq #[x, y] }).objs.size = s.heap.objs.size + 1 := by rw [Heap.size_push, zs]
  rw [zs] at new
  rw [zs]
  exact hQ _ (up _ _ zc) (J1.at' n1c fun b o _ => up b o) (J2.at' n2 fun b o _ => up b o) new z1 fun c o c1 c2 c3 e => up c o (sc.extBut c o c3 (sb.extBut c o c2 (sa.extBut c o c1 e)))

theorem held_stop {z TI TO T i1 i2 l1 l2 : Addr} {fl : Bool} {k1 k2 : Nat} {xs ys : Array Value} {I1 I2 : Heap → Nat → Prop} {Q : Fin → Shared → Prop} (hh : A.handled = none) (D : ZipApart z TI TO i1 i2 l1 l2)
    (J1 : Inn i1 l1 xs I1) (J2 : Inn i2 l2 ys I2) (hz : ZipO s.heap z TI TO T fl) (hT : ∃ o, s.heap.get? T = some o) (hTI : IsPair s.heap TI (.ref i1) (.ref i2))
    (h1 : I1 s.heap k1) (h2 : I2 s.heap k2) (hend : xs[k1]? = none ∨ ys[k2]? = none)
    (hE : ∀ h' e, (∀ c o, c ≠ z → c ≠ i1 → c ≠ i2 → s.heap.get? c = some o → h'.get? c = some o) → (∃ o, h'.get? e = some o ∧ o.cls = .type "StopIteration") → E (.ref e) { s with heap := h' }) :
    wpAny (model prog w) A (Builtin.«zip.__next__» ⟨[.ref z], []⟩) Q E s := by
  show wpAny _ _ (field (.ref z) 2 >>= fun _ => _) _ _ _
  refine wpAny_bind (wpAny_field hz rfl (x := .bool false) rfl ?_)
  show wpAny _ _ (field (.ref z) 3 >>= fun _ => _) _ _ _
  refine wpAny_bind (wpAny_field hz rfl (x := .ref TI) rfl ?_)
  refine wpAny_bind (wpAny_seqItems hTI rfl ?_)
  show wpAny _ _ (Builtin.SmallTypes.ownedTupleIsFree (.ref z) >>= fun _ => _) _ _ _
  refine wpAny_bind (held hz hT fun ha za sa => ?_)
  simp only [Bool.false_eq_true, if_false]
  refine wpAny_bind ?_
  rw [← Array.forIn_toList]
  simp only [List.forIn_cons, List.forIn_nil]
  refine wpAny_bind (wpAny_bind (wpAny_holding ?_))
  show wpAny _ _ (Builtin.SmallTypes.nextOf (.ref i1) >>= fun _ => _) _ _ _
  have h1a : I1 ha k1 := J1.at' h1 fun b o q => sa.extBut b o (by rcases q with q | q <;> subst q <;> first | exact D.i1z | exact D.l1z)
  cases hx : xs[k1]? with
  | none => exact wpAny_bind (J1.stop hh h1a hx fun hb e eb he => hE hb e (fun c o c1 c2 _ q => eb c o c2 (sa.extBut c o c1 q)) he)
  | some x =>
    have hy : ys[k2]? = none := by
      rcases hend with q | q
      · rw [hx] at q; cases q
      · exact q
    refine wpAny_bind (J1.next h1a hx D.l1i1.symm fun hb n1 sb => wpAny_pure (wpAny_pure ?_))
    refine wpAny_bind (wpAny_bind (wpAny_holding ?_))
    show wpAny _ _ (Builtin.SmallTypes.nextOf (.ref i2) >>= fun _ => _) _ _ _
    have h2a : I2 ha k2 := J2.at' h2 fun b o q => sa.extBut b o (by rcases q with q | q <;> subst q <;> first | exact D.i2z | exact D.l2z)
    have h2b : I2 hb k2 := J2.at' h2a fun b o q => sb.extBut b o (by rcases q with q | q <;> subst q <;> first | exact D.i12.symm | exact D.l2i1)
    exact wpAny_bind (J2.stop hh h2b hy fun hc e ec he => hE hc e (fun c o c1 c2 c3 q => ec c o c3 (sb.extBut c o c2 (sa.extBut c o c1 q))) he)

/-- any state of the zip's record -/
abbrev ZipA (h : Heap) (z TI TO : Addr) (f0 : Value) (fl : Bool) : Prop :=
  h.get? z = some { cls := .type "zip", dict := none, data := .fields #[f0, .bool fl, .bool false, .ref TI, .ref TO], slots := #[] }

theorem free_item {z TI TO i1 i2 l1 l2 : Addr} {f0 : Value} {fl : Bool} {k1 k2 : Nat} {xs ys : Array Value} {x y a b : Value} {I1 I2 : Heap → Nat → Prop} {Q : Value → Shared → Prop} (D : ZipApart z TI TO i1 i2 l1 l2)
    (J1 : Inn i1 l1 xs I1) (J2 : Inn i2 l2 ys I2) (hz : ZipA s.heap z TI TO f0 fl) (hf : ∀ {E : Value → Shared → Prop} {Q : Bool → Shared → Prop}, Q true s → wpAny (model prog w) A (Builtin.SmallTypes.ownedTupleIsFree (.ref z)) Q E s)
    (hTI : IsPair s.heap TI (.ref i1) (.ref i2)) (hTO : IsPair s.heap TO a b)
    (h1 : I1 s.heap k1) (h2 : I2 s.heap k2) (hx : xs[k1]? = some x) (hy : ys[k2]? = some y)
    (hQ : ∀ h', ZipO h' z TI TO s.heap.objs.size false → IsPair h' TO x y → I1 h' (k1 + 1) → I2 h' (k2 + 1) → IsPair h' s.heap.objs.size x y → h'.objs.size = s.heap.objs.size + 1 →
      (∀ c o, c ≠ z → c ≠ TO → c ≠ i1 → c ≠ i2 → s.heap.get? c = some o → h'.get? c = some o) → Q (.ref s.heap.objs.size) { s with heap := h' }) :
    wpAny (model prog w) A (Builtin.«zip.__next__» ⟨[.ref z], []⟩) (fun fin s' => ∃ v, fin = .done (.ret v) ∧ Q v s') E s := by
  show wpAny _ _ (field (.ref z) 2 >>= fun _ => _) _ _ _
  refine wpAny_bind (wpAny_field hz rfl (x := .bool false) rfl ?_)
  show wpAny _ _ (field (.ref z) 3 >>= fun _ => _) _ _ _
  refine wpAny_bind (wpAny_field hz rfl (x := .ref TI) rfl ?_)
  refine wpAny_bind (wpAny_seqItems hTI rfl ?_)
  show wpAny _ _ (Builtin.SmallTypes.ownedTupleIsFree (.ref z) >>= fun _ => _) _ _ _
  refine wpAny_bind (hf ?_)
  simp only [if_true]
  refine wpAny_bind (wpAny_rule (wpAny_bind (wpAny_field hz rfl (x := .ref TO) rfl ?_)))
  refine wpAny_bind (wpAny_setField_rec hz (by simp) fun ha za sa => ?_)
  replace za : ZipA ha z TI TO .ellipsis fl := za
  refine wpAny_bind ?_
  simp only [List.zipIdx_cons, List.zipIdx_nil, List.forIn_cons, List.forIn_nil]
  refine wpAny_bind (wpAny_bind (wpAny_onRaise ?_))
  show wpAny _ _ (Builtin.SmallTypes.nextOf (.ref i1) >>= fun _ => _) _ _ _
  have h1a : I1 ha k1 := J1.at' h1 fun b o q => sa.extBut b o (by rcases q with q | q <;> subst q <;> first | exact D.i1z | exact D.l1z)
  have h2a : I2 ha k2 := J2.at' h2 fun b o q => sa.extBut b o (by rcases q with q | q <;> subst q <;> first | exact D.i2z | exact D.l2z)
  have oa : IsPair ha TO a b := sa.extBut _ _ D.TOz hTO
  refine wpAny_bind (J1.next h1a hx D.l1i1.symm fun hb n1 sb => wpAny_pure ?_)
  have ob : IsPair hb TO a b := sb.extBut _ _ D.TOi1 oa
  have h2b : I2 hb k2 := J2.at' h2a fun b o q => sb.extBut b o (by rcases q with q | q <;> subst q <;> first | exact D.i12.symm | exact D.l2i1)
  refine wpAny_bind (wpAny_seqItems ob rfl ?_)
  refine wpAny_bind (wpAny_updateSeq_pair ob fun hc oc sc => ?_)
  replace oc : IsPair hc TO x b := oc
  have n1c : I1 hc (k1 + 1) := J1.at' n1 fun b o q => sc.extBut b o (by rcases q with q | q <;> subst q <;> first | exact D.TOi1.symm | exact D.l1TO)
  have h2c : I2 hc k2 := J2.at' h2b fun b o q => sc.extBut b o (by rcases q with q | q <;> subst q <;> first | exact D.TOi2.symm | exact D.l2TO)
  refine wpAny_bind (wpAny_letGo (wpAny_pure ?_))
  refine wpAny_bind (wpAny_bind (wpAny_onRaise ?_))
  show wpAny _ _ (Builtin.SmallTypes.nextOf (.ref i2) >>= fun _ => _) _ _ _
  refine wpAny_bind (J2.next h2c hy D.l2i2.symm fun hd n2 sd => wpAny_pure ?_)
  have od : IsPair hd TO x b := sd.extBut _ _ D.TOi2 oc
  have n1d : I1 hd (k1 + 1) := J1.at' n1c fun b o q => sd.extBut b o (by rcases q with q | q <;> subst q <;> first | exact D.i12 | exact D.l1i2)
  refine wpAny_bind (wpAny_seqItems od rfl ?_)
  refine wpAny_bind (wpAny_updateSeq_pair od fun he oe se => ?_)
  replace oe : IsPair he TO x y := oe
  have n1e : I1 he (k1 + 1) := J1.at' n1d fun b o q => se.extBut b o (by rcases q with q | q <;> subst q <;> first | exact D.TOi1.symm | exact D.l1TO)
  have n2e : I2 he (k2 + 1) := J2.at' n2 fun b o q => se.extBut b o (by rcases q with q | q <;> subst q <;> first | exact D.TOi2.symm | exact D.l2TO)
  have ze : ZipA he z TI TO .ellipsis fl := se.extBut _ _ D.TOz.symm (sd.extBut _ _ D.i2z.symm (sc.extBut _ _ D.TOz.symm (sb.extBut _ _ D.i1z.symm za)))
  have sz : he.objs.size = s.heap.objs.size := by rw [se.1, sd.1, sc.1, sb.1, sa.1]
  have ke : ∀ c o, c ≠ z → c ≠ TO → c ≠ i1 → c ≠ i2 → s.heap.get? c = some o → he.get? c = some o := fun c o c1 c2 c3 c4 q =>
    se.extBut c o c2 (sd.extBut c o c4 (sc.extBut c o c2 (sb.extBut c o c3 (sa.extBut c o c1 q))))
  refine wpAny_bind (wpAny_letGo (wpAny_pure (wpAny_pure ?_)))
  refine wpAny_bind (wpAny_seqItems oe rfl ?_)
  refine wpAny_bind (wpAny_newTuple ?_)
  show wpAny _ _ (Builtin.SmallTypes.ownedTupleHandOut (.ref z) (.ref he.objs.size) >>= fun _ => _) _ _ _
  refine wpAny_bind ?_
  unfold Builtin.SmallTypes.ownedTupleHandOut
  have up0 : ∀ c o, he.get? c = some o → (he.push { cls := .type "tuple", data := .seq #[x, y] }).get? c = some o := fun c o q => Heap.get?_push_of_some _ q
  have new : IsPair (he.push { cls := .type "tuple", data := .seq #[x, y] }) he.objs.size x y := Heap.get?_push_size _ rfl
  have zl : z < he.objs.size := Heap.lt_size ze
  refine wpAny_bind (wpAny_setField_rec (up0 _ _ ze) (by simp) fun hg zg sg => ?_)
  refine wpAny_setField_rec zg (by simp) fun hi zi si => ?_
  replace zi : ZipO hi z TI TO he.objs.size false := zi
  have up : ∀ c o, c ≠ z → he.get? c = some o → hi.get? c = some o := fun c o c1 q => si.extBut c o c1 (sg.extBut c o c1 (up0 c o q))
  have newi : IsPair hi he.objs.size x y := si.extBut _ _ (Nat.ne_of_gt zl) (sg.extBut _ _ (Nat.ne_of_gt zl) new)
  have szi : hi.objs.size = he.objs.size + 1 := by rw [si.1, sg.1, Heap.size_push]
  refine wpAny_pure ⟨_, rfl, ?_⟩
  show Q (.ref he.objs.size) _
  rw [sz] at zi newi szi
  rw [sz]
  have a1 : I1 hi (k1 + 1) := J1.at' n1e fun b o q => up b o (by rcases q with q | q <;> subst q <;> first | exact D.i1z | exact D.l1z)
  have a2 : I2 hi (k2 + 1) := J2.at' n2e fun b o q => up b o (by rcases q with q | q <;> subst q <;> first | exact D.i2z | exact D.l2z)
  exact hQ hi zi (up _ _ D.TOz oe) a1 a2 newi szi fun c o c1 c2 c3 c4 q => up c o c1 (ke c o c1 c2 c3 c4 q)

theorem free_stop {z TI TO i1 i2 l1 l2 : Addr} {f0 : Value} {fl : Bool} {k1 k2 : Nat} {xs ys : Array Value} {a b : Value} {I1 I2 : Heap → Nat → Prop} {Q : Fin → Shared → Prop} (hh : A.handled = none) (D : ZipApart z TI TO i1 i2 l1 l2)
    (J1 : Inn i1 l1 xs I1) (J2 : Inn i2 l2 ys I2) (hz : ZipA s.heap z TI TO f0 fl) (hf : ∀ {E : Value → Shared → Prop} {Q : Bool → Shared → Prop}, Q true s → wpAny (model prog w) A (Builtin.SmallTypes.ownedTupleIsFree (.ref z)) Q E s)
    (hTI : IsPair s.heap TI (.ref i1) (.ref i2)) (hTO : IsPair s.heap TO a b)
    (h1 : I1 s.heap k1) (h2 : I2 s.heap k2) (hend : xs[k1]? = none ∨ ys[k2]? = none)
    (hE : ∀ h' e, (∀ c o, c ≠ z → c ≠ TO → c ≠ i1 → c ≠ i2 → s.heap.get? c = some o → h'.get? c = some o) → (∃ o, h'.get? e = some o ∧ o.cls = .type "StopIteration") → E (.ref e) { s with heap := h' }) :
    wpAny (model prog w) A (Builtin.«zip.__next__» ⟨[.ref z], []⟩) Q E s := by
  show wpAny _ _ (field (.ref z) 2 >>= fun _ => _) _ _ _
  refine wpAny_bind (wpAny_field hz rfl (x := .bool false) rfl ?_)
  show wpAny _ _ (field (.ref z) 3 >>= fun _ => _) _ _ _
  refine wpAny_bind (wpAny_field hz rfl (x := .ref TI) rfl ?_)
  refine wpAny_bind (wpAny_seqItems hTI rfl ?_)
  show wpAny _ _ (Builtin.SmallTypes.ownedTupleIsFree (.ref z) >>= fun _ => _) _ _ _
  refine wpAny_bind (hf ?_)
  simp only [if_true]
  refine wpAny_bind (wpAny_rule (wpAny_bind (wpAny_field hz rfl (x := .ref TO) rfl ?_)))
  refine wpAny_bind (wpAny_setField_rec hz (by simp) fun ha za sa => ?_)
  replace za : ZipA ha z TI TO .ellipsis fl := za
  refine wpAny_bind ?_
  simp only [List.zipIdx_cons, List.zipIdx_nil, List.forIn_cons, List.forIn_nil]
  refine wpAny_bind (wpAny_bind (wpAny_onRaise ?_))
  show wpAny _ _ (Builtin.SmallTypes.nextOf (.ref i1) >>= fun _ => _) _ _ _
  have h1a : I1 ha k1 := J1.at' h1 fun b o q => sa.extBut b o (by rcases q with q | q <;> subst q <;> first | exact D.i1z | exact D.l1z)
  have h2a : I2 ha k2 := J2.at' h2 fun b o q => sa.extBut b o (by rcases q with q | q <;> subst q <;> first | exact D.i2z | exact D.l2z)
  have oa : IsPair ha TO a b := sa.extBut _ _ D.TOz hTO
  cases hx : xs[k1]? with
  | none =>
    refine wpAny_bind (J1.stop hh h1a hx fun hb e eb he => ?_)
    obtain ⟨o1, q1, q2⟩ := he
    have zb : ZipA hb z TI TO .ellipsis fl := eb _ _ D.i1z.symm za
    have ne : e ≠ z := fun q => by subst q; rw [zb] at q1; cases q1; simp at q2
    exact wpAny_setField_rec zb (by simp) fun hc _ sc => hE hc e (fun c o c1 _ c3 _ q => sc.extBut c o c1 (eb c o c3 (sa.extBut c o c1 q))) ⟨o1, sc.extBut e o1 ne q1, q2⟩
  | some x =>
    have hy : ys[k2]? = none := by
      rcases hend with q | q
      · rw [hx] at q; cases q
      · exact q
    refine wpAny_bind (J1.next h1a hx D.l1i1.symm fun hb n1 sb => wpAny_pure ?_)
    have ob : IsPair hb TO a b := sb.extBut _ _ D.TOi1 oa
    have h2b : I2 hb k2 := J2.at' h2a fun b o q => sb.extBut b o (by rcases q with q | q <;> subst q <;> first | exact D.i12.symm | exact D.l2i1)
    refine wpAny_bind (wpAny_seqItems ob rfl ?_)
    refine wpAny_bind (wpAny_updateSeq_pair ob fun hc oc sc => ?_)
    have h2c : I2 hc k2 := J2.at' h2b fun b o q => sc.extBut b o (by rcases q with q | q <;> subst q <;> first | exact D.TOi2.symm | exact D.l2TO)
    refine wpAny_bind (wpAny_letGo (wpAny_pure ?_))
    refine wpAny_bind (wpAny_bind (wpAny_onRaise ?_))
    show wpAny _ _ (Builtin.SmallTypes.nextOf (.ref i2) >>= fun _ => _) _ _ _
    refine wpAny_bind (J2.stop hh h2c hy fun hd e ed he => ?_)
    obtain ⟨o1, q1, q2⟩ := he
    have zd : ZipA hd z TI TO .ellipsis fl := ed _ _ D.i2z.symm (sc.extBut _ _ D.TOz.symm (sb.extBut _ _ D.i1z.symm za))
    have ne : e ≠ z := fun q => by subst q; rw [zd] at q1; cases q1; simp at q2
    exact wpAny_setField_rec zd (by simp) fun hg _ sg => hE hg e (fun c o c1 c2 c3 c4 q => sg.extBut c o c1 (ed c o c4 (sc.extBut c o c2 (sb.extBut c o c3 (sa.extBut c o c1 q))))) ⟨o1, sg.extBut e o1 ne q1, q2⟩

/-- none, or handed out -/
def F0 (f0 : Value) : Prop := f0 = .none ∨ ∃ T : Addr, f0 = rawInt T
theorem free_none {z TI TO : Addr} {fl : Bool} {E : Value → Shared → Prop} {Q : Bool → Shared → Prop} (hz : ZipA s.heap z TI TO .none fl) (q : Q true s) : wpAny (model prog w) A (Builtin.SmallTypes.ownedTupleIsFree (.ref z)) Q E s := by
  unfold Builtin.SmallTypes.ownedTupleIsFree
  exact wpAny_bind (wpAny_field hz rfl (x := .none) rfl (wpAny_pure q))
theorem free_dead {z TI TO T : Addr} {fl : Bool} {E : Value → Shared → Prop} {Q : Bool → Shared → Prop} (hz : ZipO s.heap z TI TO T fl) (hT : s.heap.get? T = none) (q : Q true s) : wpAny (model prog w) A (Builtin.SmallTypes.ownedTupleIsFree (.ref z)) Q E s := by
  unfold Builtin.SmallTypes.ownedTupleIsFree
  refine wpAny_bind (wpAny_field hz rfl (x := .int (T : Nat) 0) rfl ?_)
  show wpAny _ _ (loadIfAlive ((T : Nat) : Int).toNat >>= _) _ _ _
  rw [Int.toNat_natCast]
  refine wpAny_bind (wp_alive ?_)
  rw [hT]
  exact wpAny_pure q

/-- the zip, whatever was handed out -/
theorem zip_item {z TI TO i1 i2 l1 l2 : Addr} {f0 : Value} {fl : Bool} {k1 k2 : Nat} {xs ys : Array Value} {x y a b : Value} {I1 I2 : Heap → Nat → Prop} {Q : Value → Shared → Prop} (D : ZipApart z TI TO i1 i2 l1 l2)
    (J1 : Inn i1 l1 xs I1) (J2 : Inn i2 l2 ys I2) (hz : ZipA s.heap z TI TO f0 fl) (h0 : F0 f0)
    (hTI : IsPair s.heap TI (.ref i1) (.ref i2)) (hTO : IsPair s.heap TO a b)
    (h1 : I1 s.heap k1) (h2 : I2 s.heap k2) (hx : xs[k1]? = some x) (hy : ys[k2]? = some y)
    (hQ : ∀ h', (∃ T fl, ZipO h' z TI TO T fl) → (∃ a b, IsPair h' TO a b) → I1 h' (k1 + 1) → I2 h' (k2 + 1) → IsPair h' s.heap.objs.size x y → h'.objs.size = s.heap.objs.size + 1 →
      (∀ c o, c ≠ z → c ≠ TO → c ≠ i1 → c ≠ i2 → s.heap.get? c = some o → h'.get? c = some o) → Q (.ref s.heap.objs.size) { s with heap := h' }) :
    wpAny (model prog w) A (Builtin.«zip.__next__» ⟨[.ref z], []⟩) (fun fin s' => ∃ v, fin = .done (.ret v) ∧ Q v s') E s := by
  rcases h0 with rfl | ⟨T, rfl⟩
  · exact free_item D J1 J2 hz (free_none hz) hTI hTO h1 h2 hx hy fun h' q1 q2 q3 q4 q5 q6 q7 => hQ h' ⟨_, _, q1⟩ ⟨_, _, q2⟩ q3 q4 q5 q6 q7
  · cases hT : s.heap.get? T with
    | none => exact free_item D J1 J2 hz (free_dead hz hT) hTI hTO h1 h2 hx hy fun h' q1 q2 q3 q4 q5 q6 q7 => hQ h' ⟨_, _, q1⟩ ⟨_, _, q2⟩ q3 q4 q5 q6 q7
    | some o => exact held_item D J1 J2 hz ⟨o, hT⟩ hTI h1 h2 hx hy fun h' q1 q3 q4 q5 q6 q7 => hQ h' ⟨_, _, q1⟩ ⟨a, b, q7 _ _ D.TOz D.TOi1 D.TOi2 hTO⟩ q3 q4 q5 q6 fun c o c1 _ c3 c4 => q7 c o c1 c3 c4
theorem zip_stop {z TI TO i1 i2 l1 l2 : Addr} {f0 : Value} {fl : Bool} {k1 k2 : Nat} {xs ys : Array Value} {a b : Value} {I1 I2 : Heap → Nat → Prop} {Q : Fin → Shared → Prop} (hh : A.handled = none) (D : ZipApart z TI TO i1 i2 l1 l2)
    (J1 : Inn i1 l1 xs I1) (J2 : Inn i2 l2 ys I2) (hz : ZipA s.heap z TI TO f0 fl) (h0 : F0 f0)
    (hTI : IsPair s.heap TI (.ref i1) (.ref i2)) (hTO : IsPair s.heap TO a b)
    (h1 : I1 s.heap k1) (h2 : I2 s.heap k2) (hend : xs[k1]? = none ∨ ys[k2]? = none)
    (hE : ∀ h' e, (∀ c o, c ≠ z → c ≠ TO → c ≠ i1 → c ≠ i2 → s.heap.get? c = some o → h'.get? c = some o) → (∃ o, h'.get? e = some o ∧ o.cls = .type "StopIteration") → E (.ref e) { s with heap := h' }) :
    wpAny (model prog w) A (Builtin.«zip.__next__» ⟨[.ref z], []⟩) Q E s := by
  rcases h0 with rfl | ⟨T, rfl⟩
  · exact free_stop hh D J1 J2 hz (free_none hz) hTI hTO h1 h2 hend hE
  · cases hT : s.heap.get? T with
    | none => exact free_stop hh D J1 J2 hz (free_dead hz hT) hTI hTO h1 h2 hend hE
    | some o => exact held_stop hh D J1 J2 hz ⟨o, hT⟩ hTI h1 h2 hend fun h' e q => hE h' e fun c o c1 _ c3 c4 => q c o c1 c3 c4
end
end Zh
namespace Zh
open PySem
open PySem.Sem (wp)
section
variable {prog : Program} {w : World} {A : Around} {E : Value → Shared → Prop} {s : Shared}

/-- the zip's record, its two tuples, its iterators -/
structure ZS (h : Heap) (z TI TO i1 i2 : Addr) : Prop where
  rc : ∃ f0 fl, ZipA h z TI TO f0 fl ∧ F0 f0
  ti : IsPair h TI (.ref i1) (.ref i2)
  to : ∃ a b, IsPair h TO a b
theorem ZS.keep {h h' : Heap} {z TI TO i1 i2 : Addr} (S : ZS h z TI TO i1 i2) (k : ∀ b ∈ [z, TI, TO], ∀ o, h.get? b = some o → h'.get? b = some o) : ZS h' z TI TO i1 i2 := by
  obtain ⟨⟨f0, fl, a, b⟩, c, x, y, d⟩ := S
  exact ⟨⟨f0, fl, k z (by simp) _ a, b⟩, k TI (by simp) _ c, x, y, k TO (by simp) _ d⟩
theorem ZS.ty {h : Heap} {z TI TO i1 i2 : Addr} (S : ZS h z TI TO i1 i2) : ∃ o, h.get? z = some o ∧ o.cls = .type "zip" := by
  obtain ⟨⟨f0, fl, a, b⟩, _, _⟩ := S
  exact ⟨_, a, rfl⟩
def Kp (fp : List Addr) (h h' : Heap) : Prop := ∀ c o, c ∉ fp → h.get? c = some o → h'.get? c = some o

theorem znext_item {z TI TO i1 i2 l1 l2 : Addr} {k : Nat} {xs ys : Array Value} {x y : Value} {I1 I2 : Heap → Nat → Prop} {Q : Value → Shared → Prop} (D : ZipApart z TI TO i1 i2 l1 l2)
    (J1 : Inn i1 l1 xs I1) (J2 : Inn i2 l2 ys I2) (S : ZS s.heap z TI TO i1 i2) (h1 : I1 s.heap k) (h2 : I2 s.heap k) (hx : xs[k]? = some x) (hy : ys[k]? = some y)
    (hQ : ∀ h', ZS h' z TI TO i1 i2 → I1 h' (k + 1) → I2 h' (k + 1) → IsPair h' s.heap.objs.size x y → h'.objs.size = s.heap.objs.size + 1 →
      Kp [z, TI, TO, i1, i2] s.heap h' → Q (.ref s.heap.objs.size) { s with heap := h' }) :
    wpAny (model prog w) A (Builtin.SmallTypes.nextOf (.ref z)) Q E s := by
  have hT : s.TypeIs (.ref z) "zip" := S.ty
  obtain ⟨⟨f0, fl, hz, h0⟩, hTI, a, b, hTO⟩ := S
  unfold Builtin.SmallTypes.nextOf
  refine wpAny_bind (wpAny_callSpecial?_slot (name := Str.ofString "__next__") hT F.slot_zip_next (wpAny_call_entry F.slot_zip_next hT F.entry_zip_next
    (zip_item D J1 J2 hz h0 hTI hTO h1 h2 hx hy fun h' q1 q2 q3 q4 q5 q6 q7 => wpAny_pure (hQ h' ?_ q3 q4 q5 q6 fun c o hc e => ?_)) (F.args_zip_next_1 _)))
  · obtain ⟨T, fl', q⟩ := q1
    exact ⟨⟨_, _, q, .inr ⟨T, rfl⟩⟩, q7 _ _ D.TIz D.TITO D.TIi1 D.TIi2 hTI, q2⟩
  · simp at hc
    exact q7 c o hc.1 hc.2.2.1 hc.2.2.2.1 hc.2.2.2.2 e
theorem znext_stop {z TI TO i1 i2 l1 l2 : Addr} {k : Nat} {xs ys : Array Value} {I1 I2 : Heap → Nat → Prop} {Q : Value → Shared → Prop} (hh : A.handled = none) (D : ZipApart z TI TO i1 i2 l1 l2)
    (J1 : Inn i1 l1 xs I1) (J2 : Inn i2 l2 ys I2) (S : ZS s.heap z TI TO i1 i2) (h1 : I1 s.heap k) (h2 : I2 s.heap k) (hend : xs[k]? = none ∨ ys[k]? = none)
    (hE : ∀ h' e, Kp [z, TI, TO, i1, i2] s.heap h' → (∃ o, h'.get? e = some o ∧ o.cls = .type "StopIteration") → E (.ref e) { s with heap := h' }) :
    wpAny (model prog w) A (Builtin.SmallTypes.nextOf (.ref z)) Q E s := by
  have hT : s.TypeIs (.ref z) "zip" := S.ty
  obtain ⟨⟨f0, fl, hz, h0⟩, hTI, a, b, hTO⟩ := S
  unfold Builtin.SmallTypes.nextOf
  refine wpAny_bind (wpAny_callSpecial?_slot (name := Str.ofString "__next__") hT F.slot_zip_next (wpAny_call_entry F.slot_zip_next hT F.entry_zip_next
    (zip_stop hh D J1 J2 hz h0 hTI hTO h1 h2 hend fun h' e q1 q2 => hE h' e (fun c o hc q => ?_) q2) (F.args_zip_next_1 _)))
  simp at hc
  exact q1 c o hc.1 hc.2.2.1 hc.2.2.2.1 hc.2.2.2.2 q

/-- enumerate's turn, of any inner iterator -/
theorem enum_item {e it : Addr} {c : Int} {old : Value} {P : Value → Heap → Prop} {Q : Value → Shared → Prop} (he : IsEnum s.heap e it c old)
    (hN : ∀ {Q : Value → Shared → Prop}, (∀ x h1, P x h1 → Q x { s with heap := h1 }) → wpAny (model prog w) A (Builtin.SmallTypes.nextOf (.ref it)) Q E s) (hP : ∀ x h1, P x h1 → IsEnum h1 e it c old)
    (hQ : ∀ x h1 h', P x h1 → IsEnumOut h' e it (c + 1) x h1.objs.size → h'.get? h1.objs.size = some { cls := .type "tuple", data := .seq #[.int c s.toks, x] } → h'.objs.size = h1.objs.size + 1 → Kp [e] h1 h' →
      Q (.ref h1.objs.size) { s with heap := h', toks := s.toks + 1 }) :
    wpAny (model prog w) A (Builtin.«enumerate.__next__» ⟨[.ref e], []⟩) (fun fin s' => ∃ v, fin = .done (.ret v) ∧ Q v s') E s := by
  show wpAny _ _ (field (.ref e) 2 >>= fun _ => _) _ _ _
  refine wpAny_bind (wpAny_field he rfl (x := .ref it) rfl (wpAny_bind (hN fun x ha p => ?_)))
  have ea := hP x ha p
  have el : e < ha.objs.size := Heap.lt_size ea
  show wpAny _ _ (field (.ref e) 3 >>= fun _ => _) _ _ _
  refine wpAny_bind (wpAny_field ea rfl (x := rawInt c) rfl ?_)
  show wpAny _ _ (field (.ref e) 4 >>= fun _ => _) _ _ _
  refine wpAny_bind (wpAny_field ea rfl (x := .none) rfl ?_)
  show wpAny _ _ (mkInt c >>= fun _ => _) _ _ _
  refine wpAny_bind (wpAny_mkInt ?_)
  show wpAny _ _ (setField (.ref e) 3 (rawInt (c + 1)) >>= fun _ => _) _ _ _
  refine wpAny_bind (wpAny_setField_rec ea (by simp) fun hb eb sb => ?_)
  replace eb : IsEnum hb e it (c + 1) old := eb
  show wpAny _ _ (setField (.ref e) 4 .none >>= fun _ => _) _ _ _
  refine wpAny_bind (wpAny_setField_rec eb (by simp) fun hc ec sc => ?_)
  replace ec : IsEnum hc e it (c + 1) old := ec
  show wpAny _ _ (newTuple [.int c s.toks, x] >>= fun _ => _) _ _ _
  refine wpAny_bind (wpAny_newTuple ?_)
  have sz : hc.objs.size = ha.objs.size := by rw [sc.1, sb.1]
  have ed : IsEnum (hc.push { cls := .type "tuple", data := .seq #[.int c s.toks, x] }) e it (c + 1) old := Heap.get?_push_of_some _ ec
  have td : (hc.push { cls := .type "tuple", data := .seq #[.int c s.toks, x] }).get? hc.objs.size = some { cls := .type "tuple", data := .seq #[.int c s.toks, x] } := Heap.get?_push_size _ rfl
  have kd : ∀ b o, b ≠ e → ha.get? b = some o → (hc.push { cls := .type "tuple", data := .seq #[.int c s.toks, x] }).get? b = some o := fun b o ne q => Heap.get?_push_of_some _ (sc.extBut b o ne (sb.extBut b o ne q))
  have zd : (hc.push { cls := .type "tuple", data := .seq #[.int c s.toks, x] }).objs.size = ha.objs.size + 1 := by rw [Heap.size_push, sz]
  show wpAny _ _ (Builtin.SmallTypes.ownedTupleIsFree (.ref e) >>= fun _ => _) _ _ _
  show wpAny _ _ _ _ _ { s with heap := hc.push { cls := .type "tuple", data := .seq #[.int c s.toks, x] }, toks := s.toks + 1 }
  rw [sz] at td ⊢
  generalize hc.push { cls := .type "tuple", data := .seq #[.int c s.toks, x] } = hd at ed td kd zd ⊢
  refine wpAny_bind ?_
  unfold Builtin.SmallTypes.ownedTupleIsFree
  refine wpAny_bind (wpAny_field ed rfl (x := .none) rfl (wpAny_pure ?_))
  simp only [if_true]
  refine wpAny_bind (wpAny_rule (wpAny_bind (wpAny_field ed rfl (x := old) rfl ?_)))
  refine wpAny_bind (wpAny_setField_rec ed (by simp) fun hf ef sf => ?_)
  replace ef : IsEnum hf e it (c + 1) x := ef
  show wpAny _ _ (Builtin.SmallTypes.ownedTupleHandOut (.ref e) (.ref ha.objs.size) >>= fun _ => _) _ _ _
  refine wpAny_bind ?_
  unfold Builtin.SmallTypes.ownedTupleHandOut
  refine wpAny_bind (wpAny_setField_rec ef (by simp) fun hg eg sg => ?_)
  replace eg : IsEnumOut hg e it (c + 1) x ha.objs.size := eg
  refine wpAny_setField_rec eg (by simp) fun hi ei si => ?_
  replace ei : IsEnumOut hi e it (c + 1) x ha.objs.size := ei
  have ki : ∀ b o, b ≠ e → hd.get? b = some o → hi.get? b = some o := fun b o ne q => si.extBut b o ne (sg.extBut b o ne (sf.extBut b o ne q))
  refine wpAny_bind (wpAny_letGo (wpAny_pure ⟨_, rfl, hQ x ha hi p ei (ki _ _ (Nat.ne_of_gt el) td) ?_ fun b o hb q => ?_⟩))
  · rw [si.1, sg.1, sf.1, zd]
  · have ne : b ≠ e := by simpa using hb
    exact ki b o ne (kd b o ne q)
theorem enum_next {e it : Addr} {c : Int} {old : Value} {P : Value → Heap → Prop} {Q : Option Value → Shared → Prop} (he : IsEnum s.heap e it c old)
    (hN : ∀ {A : Around} {E Q : Value → Shared → Prop}, (∀ x h1, P x h1 → Q x { s with heap := h1 }) → wpAny (model prog w) A (Builtin.SmallTypes.nextOf (.ref it)) Q E s) (hP : ∀ x h1, P x h1 → IsEnum h1 e it c old)
    (hQ : ∀ x h1 h', P x h1 → IsEnumOut h' e it (c + 1) x h1.objs.size → h'.get? h1.objs.size = some { cls := .type "tuple", data := .seq #[.int c s.toks, x] } → h'.objs.size = h1.objs.size + 1 → Kp [e] h1 h' →
      Q (some (.ref h1.objs.size)) { s with heap := h', toks := s.toks + 1 }) : wpAny (model prog w) A (pyNext (.ref e)) Q E s := by
  have hT : s.TypeIs (.ref e) "enumerate" := ⟨_, he, rfl⟩
  unfold pyNext
  exact wpAny_bind (wpAny_attempt (wpAny_callSpecial?_slot (name := Str.ofString "__next__") hT F.slot_enumerate_next (wpAny_call_entry F.slot_enumerate_next hT F.entry_enumerate_next
    (enum_item he hN hP fun x h1 h' a b c d k => wpAny_pure (hQ x h1 h' a b c d k)) (F.args_enumerate_next_1 _))))
theorem enum_stop {e it : Addr} {c : Int} {old : Value} {fp : List Addr} {Q : Option Value → Shared → Prop} (he : IsEnum s.heap e it c old) (hh : A.handled = none)
    (hN : ∀ {A : Around} {E Q : Value → Shared → Prop}, A.handled = none → (∀ h' x, Kp fp s.heap h' → (∃ o, h'.get? x = some o ∧ o.cls = .type "StopIteration") → E (.ref x) { s with heap := h' }) →
      wpAny (model prog w) A (Builtin.SmallTypes.nextOf (.ref it)) Q E s)
    (hQ : ∀ h', Kp fp s.heap h' → Q none { s with heap := h' }) : wpAny (model prog w) A (pyNext (.ref e)) Q E s := by
  have hT : s.TypeIs (.ref e) "enumerate" := ⟨_, he, rfl⟩
  unfold pyNext
  refine wpAny_bind (wpAny_attempt (wpAny_callSpecial?_slot (name := Str.ofString "__next__") hT F.slot_enumerate_next (wpAny_call_entry F.slot_enumerate_next hT F.entry_enumerate_next ?_ (F.args_enumerate_next_1 _))))
  show wpAny _ _ (field (.ref e) 2 >>= fun _ => _) _ _ _
  refine wpAny_bind (wpAny_field he rfl (x := .ref it) rfl (wpAny_bind (hN hh fun h' x k hx => ?_)))
  obtain ⟨o, ho, hc⟩ := hx
  exact wpAny_bind (wpAny_isInstance (T := "StopIteration") (b := true) ⟨o, ho, hc⟩ isSubtype_stop (wpAny_pure (hQ _ k)))
end

/-- enumerate(z) of a zip z: z itself is gone through -/
theorem new_zip (z TI TO : Addr) (f0 : Value) :
    Meets (Builtin.«enumerate.__new__» ⟨[.type "enumerate", .ref z], []⟩) (fun _ R s => IsZip s.heap z TI TO f0 ∧
      R (.ok (.ret (.ref s.heap.objs.size))) { s with heap := s.heap.push { cls := .type "enumerate", data := .fields #[.none, .bool false, .ref z, rawInt 0, .none, .none] } }) :=
  .of_wp fun prog w A R s h => by
    obtain ⟨hp, g, d, tk, os⟩ := s; obtain ⟨hz, h⟩ := h
    have hsub := sub_enumerate
    have hZ : IsZip (Shared.heap ⟨hp, g, d, tk, os⟩) z TI TO f0 := hz
    wp_walk using wpAny_loadPart' hz
    refine wpAny_stack_any fun st => wpAny_pure ?_
    split
    · rename_i c _ _ _ _ _
      cases (c == Value.type "enumerate")
      · wp_walk using wpAny_loadPart' hz, wpAny_pyIter_zip hZ
        exact ⟨_, rfl, h⟩
      · wp_walk using wpAny_loadPart' hz, wpAny_pyIter_zip hZ
        exact ⟨_, rfl, h⟩
    · wp_walk using wpAny_loadPart' hz, wpAny_pyIter_zip hZ
      exact ⟨_, rfl, h⟩
theorem call_enum_zip {prog : Program} {w : World} {A : Around} {E : Value → Shared → Prop} {s : Shared} {z TI TO : Addr} {f0 : Value} {Q : Value → Shared → Prop} (hz : IsZip s.heap z TI TO f0)
    (h : ∀ h', IsEnum h' s.heap.objs.size z 0 .none → (∀ b o, s.heap.get? b = some o → h'.get? b = some o) → Q (.ref s.heap.objs.size) { s with heap := h' }) :
    wpAny (model prog w) A (call (.type "enumerate") [.ref z]) Q E s := by
  refine callType_new F.called_enumerate (by decide) (F.typeCall_enumerate_1 _) (F.newCall_enumerate_1 _) (fun obj => F.args_object_init_2 obj _) F.entry_enumerate_new (new_zip z TI TO f0) ⟨hz, ?_⟩
  have he : IsEnum (s.heap.push { cls := .type "enumerate", data := .fields #[.none, .bool false, .ref z, rawInt 0, .none, .none] }) s.heap.objs.size z 0 .none := Heap.get?_push_size _ rfl
  exact ⟨⟨_, he, rfl⟩, h _ he fun b o x => Heap.get?_push_of_some _ x⟩
end Zh

namespace Dm
noncomputable section
open PySem PySem.Spec PyProof.Rows L2 Zh

def ItEz (K : PySem.W.Frag) (a b : Addr) : It :=
  ⟨(Itz K a b).go,
    fun i H v H' => ∃ T U x y ob, v = .ref U ∧ H T = none ∧ upd H T (.frz ob (.tup [x, y])) U = none ∧ ob.dict = none ∧ H' = upd (upd H T (.frz ob (.tup [x, y]))) U (.tup [.int (i : Nat), .ref T]) ∧
      (∀ xs, SqL K H a xs → xs[i]? = some x) ∧ ∀ ys, SqL K H b ys → ys[i]? = some y,
    (Itz K a b).stop⟩
theorem turn_ez {P : Program} {w : World} {K : PySem.W.Frag} {elts : List Expr} {kk : Nat} {tpos : Pos} {a b e z TI TO i1 i2 : Addr} (S : ZipApart z TI TO i1 i2 a b) (he : e ∉ [z, TI, TO, i1, i2]) :
    Turn P w K (.Tuple elts kk tpos) (ItEz K a b) [e, z, TI, TO, i1, i2] e (fun i h => (∃ old, IsEnum h e z ((i : Nat) : Int) old) ∧ ZS h z TI TO i1 i2 ∧ h.IsListIter i1 a i ∧ h.IsListIter i2 b i) where
  mem := by simp
  obj := fun i h ⟨⟨old, q0⟩, ⟨⟨f0, fl, q1, _⟩, q2, x, y, q3⟩, ⟨o1, q4, _, d1⟩, ⟨o2, q5, _, d2⟩⟩ c hc => by
    have hc' : c = e ∨ c = z ∨ c = TI ∨ c = TO ∨ c = i1 ∨ c = i2 := by simpa using hc
    rcases hc' with q | q | q | q | q | q <;> rw [q]
    · exact ⟨_, q0, fun v q => nomatch q⟩
    · exact ⟨_, q1, fun v q => nomatch q⟩
    · exact ⟨_, q2, fun v q => nomatch q⟩
    · exact ⟨_, q3, fun v q => nomatch q⟩
    · exact ⟨o1, q4, fun v q => by rw [d1] at q; cases q⟩
    · exact ⟨o2, q5, fun v q => by rw [d2] at q; cases q⟩
  keep := fun i h h' ⟨⟨old, q0⟩, q1, q2, q3⟩ k => ⟨⟨old, k e (by simp) _ q0⟩, q1.keep fun c hc o q => k c (by simp at hc ⊢; rcases hc with q | q | q <;> simp [q]) o q, q2.at fun o q => k i1 (by simp) o q, q3.at fun o q => k i2 (by simp) o q⟩
  item := by
    intro X hP hw hK hc i pins s σ H E I hf st hg
    subst hP hw hK
    obtain ⟨⟨old, q0⟩, zs, q2, q3⟩ := st
    obtain ⟨xs, ys, x, y, hqx, hqy, hx, hy⟩ := hg
    obtain ⟨its, rv, p, _⟩ := I.list hqx
    obtain ⟨its2, rv2, p2, _⟩ := I.list hqy
    obtain ⟨u, hu, ru⟩ := rv.get hx
    obtain ⟨u2, hu2, ru2⟩ := rv2.get hy
    refine enum_next (P := fun v h1 => v = .ref s.heap.objs.size ∧ ZS h1 z TI TO i1 i2 ∧ h1.IsListIter i1 a (i + 1) ∧ h1.IsListIter i2 b (i + 1) ∧ IsPair h1 s.heap.objs.size u u2 ∧ h1.objs.size = s.heap.objs.size + 1 ∧ Kp [z, TI, TO, i1, i2] s.heap h1) q0 ?_ ?_ ?_
    · intro A E Q hQ
      exact znext_item S (inn_list i1 a its.toArray) (inn_list i2 b its2.toArray) zs ⟨q2, p.isList⟩ ⟨q3, p2.isList⟩ (by simpa using hu) (by simpa using hu2) fun h' r1 r2 r3 r4 r5 r6 => hQ _ h' ⟨rfl, r1, r2.1, r3.1, r4, r5, r6⟩
    · intro v h1 ⟨_, _, _, _, _, _, k⟩
      exact k _ _ he q0
    · intro v h1 h' ⟨ev, zs1, r2, r3, r4, r5, r6⟩ ho hT hz hk
      subst ev
      refine ⟨_, rfl, wpAny_letOwnedTupleGo_enum (s := { s with heap := h', toks := s.toks + 1 }) ho fun h'' he'' sb => ?_⟩
      have el : e < s.heap.objs.size := Heap.lt_size q0
      have new1 : ObjOk X.prog X.w (upd H s.heap.objs.size (.frz { cls := .type "tuple", data := .seq #[u, u2] } (.tup [x, y]))) h1 s.heap.objs.size (.frz { cls := .type "tuple", data := .seq #[u, u2] } (.tup [x, y])) := ⟨r4, by show 2 ≤ sizeLine; decide, [u, u2], .cons ru (.cons ru2 .nil), ⟨_, r4, rfl, _, rfl⟩⟩
      have I1 : Inv X pins σ (upd H s.heap.objs.size (.frz { cls := .type "tuple", data := .seq #[u, u2] } (.tup [x, y]))) { s with heap := h1, toks := s.toks } :=
        I.turnedNew (t' := s.toks) (ch := [z, TI, TO, i1, i2]) (fun c o hb q => r6 c o hb q) (fun c hc => hf c (List.mem_cons_of_mem _ hc)) (Nat.le_refl _) new1
      have el1 : h1.objs.size ≠ e := by rw [r5]; exact Nat.ne_of_gt (Nat.lt_succ_of_lt el)
      have hT2 : h''.get? h1.objs.size = some { cls := .type "tuple", data := .seq #[.int (i : Nat) s.toks, .ref s.heap.objs.size] } := (sb.2 _ el1).trans hT
      have new2 : ObjOk X.prog X.w (upd (upd H s.heap.objs.size (.frz { cls := .type "tuple", data := .seq #[u, u2] } (.tup [x, y]))) h1.objs.size (.tup [.int (i : Nat), .ref s.heap.objs.size])) h'' h1.objs.size (.tup [.int (i : Nat), .ref s.heap.objs.size]) :=
        ⟨by show 2 ≤ sizeLine; decide, [.int (i : Nat) s.toks, .ref s.heap.objs.size], .cons ⟨_, rfl⟩ (.cons rfl .nil), ⟨_, hT2, rfl, _, rfl⟩⟩
      have fe : FpOk X pins (upd H s.heap.objs.size (.frz { cls := .type "tuple", data := .seq #[u, u2] } (.tup [x, y]))) e := by
        obtain ⟨f1, f2⟩ := hf e (by simp)
        exact ⟨by rw [upd_ne (Nat.ne_of_lt el)]; exact f1, f2⟩
      have fes : ∀ c ∈ [e], FpOk X pins (upd H s.heap.objs.size (.frz { cls := .type "tuple", data := .seq #[u, u2] } (.tup [x, y]))) c := fun c hc => by
        have q : c = e := by simpa using hc
        rw [q]; exact fe
      have I2 : Inv X pins σ (upd (upd H s.heap.objs.size (.frz { cls := .type "tuple", data := .seq #[u, u2] } (.tup [x, y]))) h1.objs.size (.tup [.int (i : Nat), .ref s.heap.objs.size])) { s with heap := h'', toks := s.toks + 1 } :=
        I1.turnedNew (s := { s with heap := h1, toks := s.toks }) (t' := s.toks + 1) (ch := [e]) (fun c o hb q => (sb.2 c (by simpa using hb)).trans (hk c o hb q)) fes (Nat.le_refl _) new2
      have up : ∀ c o, c ≠ e → h1.get? c = some o → h''.get? c = some o := fun c o ne q => (sb.2 c ne).trans (hk c o (by simpa using ne) q)
      have e1 : e ≠ z := fun q => he (by simp [q])
      have e2 : e ≠ TI := fun q => he (by simp [q])
      have e3 : e ≠ TO := fun q => he (by simp [q])
      have e4 : e ≠ i1 := fun q => he (by simp [q])
      have e5 : e ≠ i2 := fun q => he (by simp [q])
      refine ⟨.ref h1.objs.size, _, I2, rfl, ⟨_, _, x, y, _, rfl, I.hok.fresh (Nat.le_refl _), I1.hok.fresh (Nat.le_refl _), rfl, rfl, fun l hl => by rw [I.list_inj hl hqx]; exact hx, fun l hl => by rw [I.list_inj hl hqy]; exact hy⟩,
        ⟨⟨.ref s.heap.objs.size, ?_⟩, zs1.keep fun c hc o q => up c o (fun z => ?_) q, r2.at fun o q => up _ o e4.symm q, r3.at fun o q => up _ o e5.symm q⟩, fun c hcm => ?_⟩
      · have e6 : ((i + 1 : Nat) : Int) = (i : Int) + 1 := by omega
        rw [e6]; exact he''
      · subst z
        exact he (by simp at hc ⊢; rcases hc with q | q | q <;> simp [q])
      · have hlt : c < s.heap.objs.size := by
          have hc' : c = e ∨ c = z ∨ c = TI ∨ c = TO ∨ c = i1 ∨ c = i2 := by simpa using hcm
          obtain ⟨⟨f0, fl, w1, _⟩, w2, _, _, w3⟩ := zs
          obtain ⟨_, w4, _⟩ := q2
          obtain ⟨_, w5, _⟩ := q3
          rcases hc' with q | q | q | q | q | q <;> rw [q]
          · exact el
          · exact Heap.lt_size w1
          · exact Heap.lt_size w2
          · exact Heap.lt_size w3
          · exact Heap.lt_size w4
          · exact Heap.lt_size w5
        have hlt1 : c < h1.objs.size := by rw [r5]; exact Nat.lt_succ_of_lt hlt
        rw [upd_ne (Nat.ne_of_lt hlt1), upd_ne (Nat.ne_of_lt hlt)]
        exact (hf c hcm).1
  done := by
    intro X hP hw hK hc i pins s σ H E I hf st hg
    subst hP hw hK
    obtain ⟨⟨old, q0⟩, zs, q2, q3⟩ := st
    obtain ⟨xs, ys, hqx, hqy, hend⟩ := hg
    obtain ⟨its, rv, p, _⟩ := I.list hqx
    obtain ⟨its2, rv2, p2, _⟩ := I.list hqy
    have l1 := rv.length
    have l2 := rv2.length
    have hs : its.toArray[i]? = none ∨ its2.toArray[i]? = none := by
      rcases hend with q | q
      · exact .inl (by simp; omega)
      · exact .inr (by simp; omega)
    refine enum_stop (fp := [z, TI, TO, i1, i2]) q0 (I.ok.hd hc) (fun hh hE => znext_stop hh S (inn_list i1 a its.toArray) (inn_list i2 b its2.toArray) zs ⟨q2, p.isList⟩ ⟨q3, p2.isList⟩ hs hE) fun h' k => ⟨rfl, I.turnedL (t' := s.toks) (ch := [z, TI, TO, i1, i2]) (fun c o hb q => k c o hb q) fun c hc => hf c (List.mem_cons_of_mem _ hc)⟩
  self := fun A i s Q E st h => by
    obtain ⟨⟨old, q0⟩, _⟩ := st
    exact wpAny_pyIter_enum q0 h
def iEz (K : PySem.W.Frag) (ta : TA) : TI := fun σ H R => ta σ H fun vs H1 => ∃ a b xs ys, vs = [.ref a, .ref b] ∧ SqL K H1 a xs ∧ SqL K H1 b ys ∧ R (ItEz K a b) H1
theorem pi_ez {X : Cx} {e e2 : Expr} {ta : TA} {p p2 pos pos2 tpos : Pos} {elts : List Expr} {kk : Nat} (hg : Gl X "enumerate") (hm : X.mg "enumerate" = none) (hgz : Gl X "zip") (hmz : X.mg "zip" = none) (ha : PA X [e, e2] ta)
    (hs : starEach [.Call (.Name "zip" p2) [e, e2] [] pos2] X.env = [(false, eval (.Call (.Name "zip" p2) [e, e2] [] pos2) X.env)] := by rfl)
    (hsz : starEach [e, e2] X.env = (false, eval e X.env) :: starEach [e2] X.env := by rfl) (hpl : (backTo pos2 (starEach [e2] X.env)).any (·.1) = false := by rfl) :
    PI X (.Tuple elts kk tpos) (.Call (.Name "enumerate" p) [.Call (.Name "zip" p2) [e, e2] [] pos2] [] pos) (iEz X.K ta) := by
  refine ⟨fun pins s σ H R I h => ?_⟩
  refine Call_ (ld_blt I hg hm boot_enumerate (PyProof.Rows.callWith_type1 ?_ hs rfl))
  rw [hs]
  show wpAny _ _ (spliced [(false, eval (.Call (.Name "zip" p2) [e, e2] [] pos2) X.env)]) _ _ s
  refine Calls.spliced_cons ?_
  refine Call_ (ld_blt I hgz hmz PyProof.Rows.boot_zip (PyProof.Rows.callWith_type1 (thn (ha.run pos2 pins s σ H _ I h) fun us s1 ⟨vs, H1, I1, r1, q1⟩ => ?_) hsz hpl))
  obtain ⟨a, b, xs, ys, ex, hqx, hqy, q⟩ := q1
  subst ex
  cases r1 with
  | cons r rr =>
    cases rr with
    | cons r' rr =>
      cases rr
      cases r
      cases r'
      obtain ⟨its, rv, p1, _⟩ := I1.list hqx
      obtain ⟨its2, rv2, p2, _⟩ := I1.list hqy
      refine call_zip_2 p1.isList p2.isList fun h' hz hTI hTO h1 h2 hsz hk => Calls.spliced_nil ?_
      refine call_enum_zip (s := { s1 with heap := h' }) hz fun h'' he hk2 => wpAny_pyIter_enum (s := { s1 with heap := h'' }) he ?_
      have I2 : Inv X pins σ H1 { s1 with heap := h'' } := I1.kept (t' := s1.toks) fun c o q => hk2 c o (hk c o q)
      have hsz' : h'.objs.size = s1.heap.objs.size + 5 := hsz
      have hle : ∀ c, c ∈ [h'.objs.size, s1.heap.objs.size + 4, s1.heap.objs.size + 2, s1.heap.objs.size + 3, s1.heap.objs.size, s1.heap.objs.size + 1] → s1.heap.objs.size ≤ c := fun c hc => by
        have hc' : c = h'.objs.size ∨ c = s1.heap.objs.size + 4 ∨ c = s1.heap.objs.size + 2 ∨ c = s1.heap.objs.size + 3 ∨ c = s1.heap.objs.size ∨ c = s1.heap.objs.size + 1 := by simpa using hc
        rcases hc' with q | q | q | q | q | q <;> rw [q]
        · rw [hsz']; exact Nat.le_add_right _ _
        · exact Nat.le_add_right _ _
        · exact Nat.le_add_right _ _
        · exact Nat.le_add_right _ _
        · exact Nat.le_refl _
        · exact Nat.le_add_right _ _
      have ne : h'.objs.size ∉ [s1.heap.objs.size + 4, s1.heap.objs.size + 2, s1.heap.objs.size + 3, s1.heap.objs.size, s1.heap.objs.size + 1] := fun hc => by
        have hc' : h'.objs.size = s1.heap.objs.size + 4 ∨ h'.objs.size = s1.heap.objs.size + 2 ∨ h'.objs.size = s1.heap.objs.size + 3 ∨ h'.objs.size = s1.heap.objs.size ∨ h'.objs.size = s1.heap.objs.size + 1 := by simpa using hc
        rw [hsz'] at hc'
        generalize s1.heap.objs.size = nn at hc'
        clear hle
        have : ∀ n : Nat, ¬ (n + 5 = n + 4 ∨ n + 5 = n + 2 ∨ n + 5 = n + 3 ∨ n + 5 = n ∨ n + 5 = n + 1) := fun n => by omega
        exact this nn hc'
      exact ⟨h'.objs.size, _, _, _, H1, rfl, I2, turn_ez (PySem.W.ktu_apart s1.heap.objs.size a b p1.lt p2.lt) ne,
        ⟨⟨.none, he⟩, ⟨⟨_, _, hk2 _ _ hz, .inl rfl⟩, hk2 _ _ hTI, _, _, hk2 _ _ hTO⟩, h1.at fun o q => hk2 _ o q, h2.at fun o q => hk2 _ o q⟩, fun b hb => I1.fpOk (hle b hb) (I1.hok.fresh (hle b hb)), q⟩

/-! ### in the data layer -/
section
variable {K : PySem.W.Frag} {np : Fp} {L : Lv} {H0 : Hp} {C0 : Col}
theorem enumzip_get {xs ys : List D} {i : Nat} {d : D} (h : (enumD (zipD xs ys))[i]? = some d) : ∃ x y, xs[i]? = some x ∧ ys[i]? = some y ∧ d = .tuple [.int (i : Nat), .tuple [x, y]] := by
  obtain ⟨x, h1, rfl⟩ := enumD_get h
  obtain ⟨x, y, h2, h3, rfl⟩ := zipD_get h1
  exact ⟨x, y, h2, h3, rfl⟩
theorem enumzip_len (xs ys : List D) : (enumD (zipD xs ys)).length = min xs.length ys.length := by simp [enumD, zipD_len]
theorem it_ez {a b : Addr} {us ws : List V} {xs ys : List D} (ha : H0 a = some (.lst us)) (ca : Cof C0 L a) (ra : RpA K H0 (Cof C0 L) us xs) (hb : H0 b = some (.lst ws)) (cb : Cof C0 L b) (rb : RpA K H0 (Cof C0 L) ws ys) : ItOk true K np L (enumD (zipD xs ys)) (ItEz K a b) H0 C0 where
  go := fun i H C ρ A hi => (it_zipL (np := np) ha ca ra hb cb rb).go i H C ρ A (by rw [enumzip_len] at hi; rw [zipD_len]; exact hi)
  stop := fun H C ρ A => by
    have q := (it_zipL (np := np) ha ca ra hb cb rb).stop H C ρ A
    rw [zipD_len] at q; rw [enumzip_len]; exact q
  yld := fun i H C ρ v H' d A e ⟨T, U, x, y, ob, h1, hT, hU, hob, h2, hx, hy⟩ => by
    obtain ⟨dx, dy, e1, e2, rfl⟩ := enumzip_get e
    subst h1 h2
    obtain ⟨vx, g1, r1⟩ := ra.get e1
    obtain ⟨vy, g2, r2⟩ := rb.get e2
    have z1 := hx us (.of (A.moves.1 a us ca ha).1)
    have z2 := hy ws (.of (A.moves.1 b ws cb hb).1)
    rw [z1] at g1; cases g1
    rw [z2] at g2; cases g2
    have S1 := pstp_id (C := C) (o := .frz ob (.tup [x, y])) hT
    have t1 : Rp K (upd H T (.frz ob (.tup [x, y]))) (Cof C L) (.ref T) (.tuple [dx, dy]) := .tup (newX hob) (.cons ((A.rp r1).same S1.same) (.cons ((A.rp r2).same S1.same) .nil))
    obtain ⟨S2, n2, t2⟩ := pair_new (C := C) hU (.int (i : Nat)) t1
    exact ⟨S1.trans S2, fun c hc _ => ne_some hc, t2⟩
end
section
variable {X : Cx} {np : Fp} {EW : XW} {e e2 : Expr} {p p2 pos pos2 tpos : Pos} {fs : AS} {elts : List Expr} {kk : Nat}
def ezG : List D → Option (List D)
  | [.list xs, .list ys] => some (enumD (zipD xs ys))
  | _ => none
theorem ezG_some : ∀ {ds r : List D}, ezG ds = some r → ∃ xs ys, ds = [.list xs, .list ys] ∧ r = enumD (zipD xs ys) := by
  intro ds r h
  unfold ezG at h
  split at h
  · cases h; exact ⟨_, _, rfl, rfl⟩
  · cases h
theorem di_ez (hg : Gl X "enumerate") (hm : X.mg "enumerate" = none) (hgz : Gl X "zip") (hmz : X.mg "zip" = none) (ha : DA X np EW [e, e2] fs)
    (hs : starEach [.Call (.Name "zip" p2) [e, e2] [] pos2] X.env = [(false, eval (.Call (.Name "zip" p2) [e, e2] [] pos2) X.env)] := by rfl)
    (hsz : starEach [e, e2] X.env = (false, eval e X.env) :: starEach [e2] X.env := by rfl) (hpl : (backTo pos2 (starEach [e2] X.env)).any (·.1) = false := by rfl) :
    DI X np EW (.Tuple elts kk tpos) (.Call (.Name "enumerate" p) [.Call (.Name "zip" p2) [e, e2] [] pos2] [] pos) (agA ezG fs) :=
  PI.weak (pi_ez hg hm hgz hmz ha hs hsz hpl) fun σ H R ⟨L, C, ρ, Rl, h⟩ => tA_of Rl h fun q vs H1 C1 A1 R1 r1 h1 => by
    obtain ⟨d, e, h2⟩ := wp_ofO (wp_bind.mp h1)
    obtain ⟨ds, ρ1⟩ := q
    obtain ⟨xs, ys, rfl, rfl⟩ := ezG_some e
    obtain ⟨v, w, rfl, rv, rw⟩ := r1.two
    obtain ⟨a, us, rfl, ha, ca, ra⟩ := rv.lst_inv
    obtain ⟨b, ws, rfl, hb, cb, rb⟩ := rw.lst_inv
    exact ⟨a, b, us, ws, rfl, .of ha, .of hb, h2 _ H1 C1 A1 R1 (it_ez ha ca ra hb cb rb)⟩
end
end
end Dm

/-! enumerate(a) of a tuple -/
namespace Zh
open PySem
theorem new_tup (l : Addr) (items : Array Value) (n : Nat) :
    Meets (Builtin.«enumerate.__new__» ⟨[.type "enumerate", .ref l], []⟩) (fun _ R s => (∃ o, s.heap.get? l = some o ∧ o.cls = .type "tuple" ∧ o.data = .seq items n) ∧
      R (.ok (.ret (.ref (s.heap.push { cls := .type "tuple_iterator", data := .fields #[.ref l, .int 0 0] }).objs.size)))
        { s with heap := (s.heap.push { cls := .type "tuple_iterator", data := .fields #[.ref l, .int 0 0] }).push { cls := .type "enumerate", data := .fields #[.none, .bool false, .ref s.heap.objs.size, rawInt 0, .none, .none] } }) :=
  .of_wp fun prog w A R s h => by
    obtain ⟨hp, g, d, tk, os⟩ := s; obtain ⟨⟨⟨c, dct, dt, sl⟩, hl, hc, hd⟩, h⟩ := h
    replace hc : c = .type "tuple" := hc
    replace hd : dt = .seq items n := hd
    subst hc hd
    have hsub := sub_enumerate
    have hL : Heap.IsTuple (Shared.heap ⟨hp, g, d, tk, os⟩) l items := ⟨_, hl, rfl, n, rfl⟩
    wp_walk using wpAny_loadPart' hl
    refine wpAny_stack_any fun st => wpAny_pure ?_
    split
    · rename_i c _ _ _ _ _
      cases (c == Value.type "enumerate")
      · wp_walk using wpAny_loadPart' hl, wpAny_pyIter_tuple hL
        exact ⟨_, rfl, h⟩
      · wp_walk using wpAny_loadPart' hl, wpAny_pyIter_tuple hL
        exact ⟨_, rfl, h⟩
    · wp_walk using wpAny_loadPart' hl, wpAny_pyIter_tuple hL
      exact ⟨_, rfl, h⟩
theorem call_enum_tup {prog : Program} {w : World} {A : Around} {E : Value → Shared → Prop} {s : Shared} {l : Addr} {items : Array Value} {Q : Value → Shared → Prop} (hl : s.heap.IsTuple l items)
    (h : ∀ h', IsEnum h' (s.heap.objs.size + 1) s.heap.objs.size 0 .none → h'.IsTupleIter s.heap.objs.size l 0 → (∀ b o, s.heap.get? b = some o → h'.get? b = some o) → Q (.ref (s.heap.objs.size + 1)) { s with heap := h' }) :
    wpAny (model prog w) A (call (.type "enumerate") [.ref l]) Q E s := by
  obtain ⟨o, ho, hc, n, hd⟩ := hl
  refine callType_new F.called_enumerate (by decide) (F.typeCall_enumerate_1 _) (F.newCall_enumerate_1 _) (fun obj => F.args_object_init_2 obj _) F.entry_enumerate_new (new_tup l items n) ⟨⟨o, ho, hc, hd⟩, ?_⟩
  have hz : (s.heap.push { cls := .type "tuple_iterator", data := .fields #[.ref l, .int 0 0] }).objs.size = s.heap.objs.size + 1 := Heap.size_push ..
  have he : IsEnum ((s.heap.push { cls := .type "tuple_iterator", data := .fields #[.ref l, .int 0 0] }).push { cls := .type "enumerate", data := .fields #[.none, .bool false, .ref s.heap.objs.size, rawInt 0, .none, .none] }) (s.heap.objs.size + 1) s.heap.objs.size 0 .none := by
    rw [← hz]; exact Heap.get?_push_size _ rfl
  show _ ∧ _
  rw [hz]
  exact ⟨⟨_, he, rfl⟩, h _ he ⟨_, Heap.get?_push_of_some _ (Heap.get?_push_size _ rfl), rfl, rfl⟩ fun b o x => Heap.get?_push_of_some _ (Heap.get?_push_of_some _ x)⟩
end Zh
namespace Dm
noncomputable section
open PySem PySem.Spec PyProof.Rows L2 Zh

/-- the tuple at a, its items numbered -/
def IteT (K : PySem.W.Frag) (a : Addr) : It :=
  ⟨fun i H => ∃ (xs : List V) (x : V), SqT K H a xs ∧ xs[i]? = some x,
    fun i H v H' => ∃ T x, v = .ref T ∧ H T = none ∧ H' = upd H T (.tup [.int (i : Nat), x]) ∧ ∀ xs, SqT K H a xs → xs[i]? = some x,
    fun i H => ∃ xs : List V, SqT K H a xs ∧ xs.length ≤ i⟩
theorem turn_enumT {P : Program} {w : World} {K : PySem.W.Frag} {elts : List Expr} {kk : Nat} {tpos : Pos} (a e it : Addr) :
    Turn P w K (.Tuple elts kk tpos) (IteT K a) [e, it] e (fun i h => (∃ old, IsEnum h e it ((i : Nat) : Int) old) ∧ h.IsTupleIter it a i ∧ e ≠ it ∧ it ≠ a) where
  mem := by simp
  obj := fun i h ⟨⟨old, q0⟩, ⟨o, q1, _, d1⟩, _⟩ c hc => by
    have hc' : c = e ∨ c = it := by simpa using hc
    rcases hc' with q | q <;> rw [q]
    · exact ⟨_, q0, fun v q => nomatch q⟩
    · exact ⟨o, q1, fun v q => by rw [d1] at q; cases q⟩
  keep := fun i h h' ⟨⟨old, q0⟩, q1, ne⟩ k => ⟨⟨old, k e (by simp) _ q0⟩, q1.at fun o q => k it (by simp) o q, ne⟩
  item := by
    intro X hP hw hK hc i pins s σ H E I hf st hg
    subst hP hw hK
    obtain ⟨⟨old, q0⟩, q1, ne, na⟩ := st
    obtain ⟨xs, x, hq, hx⟩ := hg
    obtain ⟨its, rv, p, _⟩ := I.tuple hq
    obtain ⟨u, hu, ru⟩ := rv.get hx
    have el : e < s.heap.objs.size := Heap.lt_size q0
    have il : it < s.heap.objs.size := by obtain ⟨_, q, _⟩ := q1; exact Heap.lt_size q
    refine enum_next (P := fun v h1 => v = u ∧ h1.IsTupleIter it a (i + 1) ∧ h1.objs.size = s.heap.objs.size ∧ Kp [it] s.heap h1) q0 ?_ ?_ ?_
    · intro A E Q hQ
      exact (inn_tup it a its.toArray).next (k := i) (s := s) ⟨q1, p⟩ (by simpa using hu) na fun h' r sb => hQ _ h' ⟨rfl, r.1, sb.1, fun c o hc q => sb.extBut c o (by simpa using hc) q⟩
    · intro v h1 ⟨_, _, _, k⟩
      exact k _ _ (by simpa using ne) q0
    · intro v h1 h' ⟨ev, r1, r2, r3⟩ ho hT hz hk
      subst ev
      refine ⟨_, rfl, wpAny_letOwnedTupleGo_enum (s := { s with heap := h', toks := s.toks + 1 }) ho fun h'' he'' sb => ?_⟩
      rw [r2] at hT hz ⊢
      have hT2 : h''.get? s.heap.objs.size = some { cls := .type "tuple", data := .seq #[.int (i : Nat) s.toks, v] } := (sb.2 _ (Nat.ne_of_gt el)).trans hT
      have new : ObjOk X.prog X.w (upd H s.heap.objs.size (.tup [.int (i : Nat), x])) h'' s.heap.objs.size (.tup [.int (i : Nat), x]) :=
        ⟨by show 2 ≤ sizeLine; decide, [.int (i : Nat) s.toks, v], .cons ⟨_, rfl⟩ (.cons ru .nil), ⟨_, hT2, rfl, _, rfl⟩⟩
      have I1 : Inv X pins σ (upd H s.heap.objs.size (.tup [.int (i : Nat), x])) { s with heap := h'', toks := s.toks + 1 } :=
        I.turnedNew (t' := s.toks + 1) (ch := [e, it]) (fun c o hb q => (sb.2 c (fun z => hb (by simp [z]))).trans (hk c o (fun z => hb (by simp at z; simp [z])) (r3 c o (fun z => hb (by simp at z; simp [z])) q))) hf (Nat.le_refl _) new
      refine ⟨.ref s.heap.objs.size, _, I1, rfl, ⟨_, x, rfl, I.hok.fresh (Nat.le_refl _), rfl, fun ys hy => by rw [I.tuple_inj hy hq]; exact hx⟩, ⟨⟨v, ?_⟩, r1.at fun o q => (sb.2 it (Ne.symm ne)).trans (hk it o (by simpa using Ne.symm ne) q), ne, na⟩, fun b hb => ?_⟩
      · have e1 : ((i + 1 : Nat) : Int) = (i : Int) + 1 := by omega
        rw [e1]; exact he''
      · have hb' : b < s.heap.objs.size := by
          have hc' : b = e ∨ b = it := by simpa using hb
          rcases hc' with z | z <;> rw [z]
          · exact el
          · exact il
        rw [upd_ne (Nat.ne_of_lt hb')]
        exact (hf b hb).1
  done := by
    intro X hP hw hK hc i pins s σ H E I hf st hg
    subst hP hw hK
    obtain ⟨⟨old, q0⟩, q1, ne, na⟩ := st
    obtain ⟨xs, hq, hx⟩ := hg
    obtain ⟨its, rv, p, _⟩ := I.tuple hq
    have hl := rv.length
    exact enum_stop (fp := [it]) q0 (I.ok.hd hc) (fun hh hE => (inn_tup it a its.toArray).stop (k := i) (s := s) hh ⟨q1, p⟩ (by simp; omega) fun h' x k => hE h' x fun c o hc q => k c o (by simpa using hc) q)
      fun h' k => ⟨rfl, I.turnedL (t' := s.toks) (ch := [it]) (fun c o hb q => k c o hb q) fun c hc => hf c (List.mem_cons_of_mem _ hc)⟩
  self := fun A i s Q E ⟨⟨_, q0⟩, _⟩ h => wpAny_pyIter_enum q0 h
def iEnumA (K : PySem.W.Frag) (ta : TA) : TI := fun σ H R => ta σ H fun vs H1 => ∃ a xs, vs = [.ref a] ∧ ((SqL K H1 a xs ∧ R (Ite K a) H1) ∨ (SqT K H1 a xs ∧ R (IteT K a) H1))
theorem pi_enumA {X : Cx} {e : Expr} {ta : TA} {p pos tpos : Pos} {elts : List Expr} {kk : Nat} (hg : Gl X "enumerate") (hm : X.mg "enumerate" = none) (ha : PA X [e] ta) (hs : starEach [e] X.env = [(false, eval e X.env)] := by rfl) :
    PI X (.Tuple elts kk tpos) (.Call (.Name "enumerate" p) [e] [] pos) (iEnumA X.K ta) := by
  refine ⟨fun pins s σ H R I h => ?_⟩
  refine Call_ (ld_blt I hg hm boot_enumerate (PyProof.Rows.callWith_type1 (thn (ha.run pos pins s σ H _ I h) fun us s1 ⟨vs, H1, I1, r1, q1⟩ => ?_) hs rfl))
  obtain ⟨a, xs, ex, q1⟩ := q1
  subst ex
  cases r1 with
  | cons r rr =>
    cases rr
    cases r
    have hle : ∀ b, b ∈ [s1.heap.objs.size + 1, s1.heap.objs.size] → s1.heap.objs.size ≤ b := fun b hb => by
      have hc' : b = s1.heap.objs.size + 1 ∨ b = s1.heap.objs.size := by simpa using hb
      rcases hc' with z | z <;> rw [z]
      · exact Nat.le_add_right _ _
      · exact Nat.le_refl _
    rcases q1 with ⟨hq, q⟩ | ⟨hq, q⟩
    · obtain ⟨its, rv, p', hz⟩ := I1.list hq
      refine call_enumerate_list p'.isList fun h' he hit hsz hk => wpAny_pyIter_enum he ?_
      exact ⟨s1.heap.objs.size + 1, [s1.heap.objs.size + 1, s1.heap.objs.size], _, _, H1, rfl, I1.kept (t' := s1.toks) hk, turn_enum a (s1.heap.objs.size + 1) s1.heap.objs.size, ⟨⟨.none, he⟩, hit, Nat.succ_ne_self _⟩, fun b hb => I1.fpOk (hle b hb) (I1.hok.fresh (hle b hb)), q⟩
    · obtain ⟨its, rv, p', hz⟩ := I1.tuple hq
      have al : a < s1.heap.objs.size := by obtain ⟨_, w, _⟩ := id p'; exact Heap.lt_size w
      refine call_enum_tup (show s1.heap.IsTuple a its.toArray from p') fun h' he hit hk => wpAny_pyIter_enum he ?_
      exact ⟨s1.heap.objs.size + 1, [s1.heap.objs.size + 1, s1.heap.objs.size], _, _, H1, rfl, I1.kept (t' := s1.toks) hk, turn_enumT a (s1.heap.objs.size + 1) s1.heap.objs.size, ⟨⟨.none, he⟩, hit, Nat.succ_ne_self _, Nat.ne_of_gt al⟩, fun b hb => I1.fpOk (hle b hb) (I1.hok.fresh (hle b hb)), q⟩
section
variable {K : PySem.W.Frag} {np : Fp} {L : Lv} {H0 : Hp} {C0 : Col}
theorem it_enumT {a : Addr} {us : List V} {xs : List D} (ha : SqT K H0 a us) (ra : RpA K H0 (Cof C0 L) us xs) : ItOk true K np L (enumD xs) (IteT K a) H0 C0 where
  go := fun i H C ρ A hi => by
    have h1 : i < us.length := by rw [ra.len]; simpa [enumD] using hi
    exact ⟨us, us[i], SqT.keep ha A.moves.2, by simp [h1]⟩
  stop := fun H C ρ A => ⟨us, SqT.keep ha A.moves.2, by rw [ra.len]; simp [enumD]⟩
  yld := fun i H C ρ v H' d A e ⟨T, x, h1, hT, h2, hx⟩ => by
    obtain ⟨dx, e1, rfl⟩ := enumD_get e
    subst h1 h2
    obtain ⟨vx, g1, r1⟩ := ra.get e1
    have z1 := hx us (SqT.keep ha A.moves.2)
    rw [z1] at g1; cases g1
    exact pair_new hT (.int _) (A.rp r1)
end
section
variable {X : Cx} {np : Fp} {EW : XW} {e : Expr} {p pos tpos : Pos} {fs : AS} {elts : List Expr} {kk : Nat}
def enumA : List D → Option (List D)
  | [.list xs] => some (enumD xs)
  | [.tuple xs] => some (enumD xs)
  | _ => none
theorem enumA_some : ∀ {ds r : List D}, enumA ds = some r → ∃ xs, (ds = [.list xs] ∨ ds = [.tuple xs]) ∧ r = enumD xs := by
  intro ds r h
  unfold enumA at h
  split at h
  · cases h; exact ⟨_, .inl rfl, rfl⟩
  · cases h; exact ⟨_, .inr rfl, rfl⟩
  · cases h
theorem di_enumA (hg : Gl X "enumerate") (hm : X.mg "enumerate" = none) (ha : DA X np EW [e] fs) (hs : starEach [e] X.env = [(false, eval e X.env)] := by rfl) : DI X np EW (.Tuple elts kk tpos) (.Call (.Name "enumerate" p) [e] [] pos) (agA enumA fs) :=
  PI.weak (pi_enumA hg hm ha hs) fun σ H R ⟨L, C, ρ, Rl, h⟩ => tA_of Rl h fun q vs H1 C1 A1 R1 r1 h1 => by
    obtain ⟨d, e, h2⟩ := wp_ofO (wp_bind.mp h1)
    obtain ⟨ds, ρ1⟩ := q
    obtain ⟨xs, hds, rfl⟩ := enumA_some e
    rcases hds with rfl | rfl
    · obtain ⟨v, rfl, rv⟩ := r1.one
      obtain ⟨a, us, rfl, ha, ca, ra⟩ := rv.lst_inv
      exact ⟨a, us, rfl, .inl ⟨.of ha, h2 _ H1 C1 A1 R1 (it_enum ha ca ra)⟩⟩
    · obtain ⟨v, rfl, rv⟩ := r1.one
      obtain ⟨a, us, rfl, ha, ra⟩ := rv.tup_inv
      exact ⟨a, us, rfl, .inr ⟨ha, h2 _ H1 C1 A1 R1 (it_enumT ha ra)⟩⟩
@[simp] theorem enumA_lst {xs : List D} : enumA [.list xs] = some (enumD xs) := Eq.trans rfl rfl
@[simp] theorem enumA_tup {xs : List D} : enumA [.tuple xs] = some (enumD xs) := Eq.trans rfl rfl
end
end
end Dm

namespace Dm
noncomputable section
open PySem PySem.Spec PyProof.Rows L2
section
variable {X : Cx} {np : Fp} {EW : XW} {e : Expr} {fe : ES} {p pos : Pos}
/-- list(x) of what others hold: flat items alone -/
def lsFA (fe : ES) : AS := fun L ρ => (fe .an ρ).bind fun p => (ofO (itD p.1)).bind fun ds => (flL (.list ds)).bind fun l => .ok (l, p.2)
theorem dn_listF {x : Str} (hg : Gl X x) (hm : X.mg x = none) (hv : bootBuiltins x = some (.type "list")) (ha : DE X np EW e fe) (hn : x ≠ "__name__" := by decide) (hdb : (x == ("__debug__" : Str)) = false := by decide)
    (he : starEach [e] X.env = (false, eval e X.env) :: starEach [] X.env := by rfl) : DN X np EW (.Call (.Name x p) [e] [] pos) (lsFA fe) :=
  PE.weak (pe_callTy call_list_of hg hm hv (pa_cons ha pa_nil he) hn hdb he rfl) fun σ H Q ⟨L, C, ρ, R, h⟩ => tE_of (L := .an) R h fun q v H1 C1 A1 R1 r1 h1 => by
    obtain ⟨d, e, h2⟩ := wp_ofO (wp_bind.mp h1)
    obtain ⟨l, el, hl, h3⟩ := flL_ok h2
    cases el
    have A := A1.lev (K := X.K) (L := L) an_pu
    obtain ⟨dq, ρ1⟩ := q
    cases dq <;> simp only [itD, reduceCtorEq] at e
    · cases e
      obtain ⟨a, us, rfl, ha, _, rr⟩ := r1.lst_inv
      exact ⟨_, _, rfl, .inl (.of ha), fun t ht => h3 t us H1 C1 A R1 ht (RpA.free hl rr)⟩
    · cases e
      obtain ⟨a, us, rfl, ha, rr⟩ := r1.tup_inv
      exact ⟨_, _, rfl, .inr ha, fun t ht => h3 t us H1 C1 A R1 ht (RpA.free hl rr)⟩
end
@[simp] theorem ev_lsFA {fe : ES} {L : Lv} {ρ : Slots} : lsFA fe L ρ = (fe .an ρ).bind fun p => (ofO (itD p.1)).bind fun ds => (flL (.list ds)).bind fun l => .ok (l, p.2) := Eq.trans rfl rfl
end
end Dm

namespace Dm
noncomputable section
open PySem PySem.Spec PyProof.Rows L2
/-! ### told[k][i].append(c), told[k].clear() of what is this def's own -/
def okE (n : Nat) (y : D) : Bool := noL y || match y with
  | .list es => noLs es && es.length != n
  | _ => false
def u2A (np j k i : Nat) (fe : ES) : SS := fun ρ => if np ≤ j then unA ρ[j]? fun d => match d with
  | .tuple xs => (match xs[k]? with
    | some (.list ys) => (match ys[i]? with
      | some (.list ds) => (fe .an ρ).to fun p => if noLs ds && noL p.1 && noLs (xs.eraseIdx k) && (ys.eraseIdx i).all (okE ds.length) && decide (ds.length < sizeLine) then .nx (ρ.set j (.un (.tuple (xs.set k (.list (ys.set i (.list (ds ++ [p.1])))))))) else .bad
      | _ => .bad)
    | _ => .bad)
  | _ => .bad
  else .bad
theorem rp_all {K : PySem.W.Frag} {H H' : Hp} {P P' : Addr → Prop} {f : D → Bool} (one : ∀ {v : V} {x : D}, Rp K H P v x → f x = true → Rp K H' P' v x) : ∀ {us : List V} {xs : List D}, RpA K H P us xs → xs.all f = true → RpA K H' P' us xs
  | _, _, .nil, _ => .nil
  | _, _, .cons a b, h => by
    rw [List.all_cons, Bool.and_eq_true] at h
    exact .cons (one a h.1) (rp_all one b h.2)
theorem rp_setAt2 {K : PySem.W.Frag} {H H' : Hp} {P P' : Addr → Prop} {n : Nat} (hi : ∀ a o, H a = some o → Imm o → H' a = some o) (hl : ∀ c us, H c = some (.lst us) → us.length ≠ n → H' c = some (.lst us)) (hp : ∀ c, P c → P' c) :
    ∀ {us : List V} {xs : List D} {k : Nat} {v : V} {d' : D}, RpA K H P us xs → us[k]? = some v → (xs.eraseIdx k).all (okE n) = true → Rp K H' P' v d' → RpA K H' P' us (xs.set k d') := by
  have one : ∀ {v : V} {x : D}, Rp K H P v x → okE n x = true → Rp K H' P' v x := fun {v x} r h => by
    unfold okE at h
    rcases Bool.or_eq_true_iff.mp h with h | h
    · exact (r.free (P' := fun _ => False) h).move (fun _ _ p _ => p.elim) hi
    · cases x with
      | list es =>
        simp only [Bool.and_eq_true, bne_iff_ne, ne_eq] at h
        obtain ⟨a, us, rfl, ha, ca, ra⟩ := r.lst_inv
        exact .lst (hl a us ha (by rw [ra.len]; exact h.2)) (hp a ca) (rp_plain ra h.1 hi)
      | _ => cases h
  intro us
  induction us with
  | nil => intro xs k v d' r h; simp at h
  | cons u us ih =>
    intro xs k v d' r h hn r'
    cases r with
    | cons a b =>
      rename_i x xs
      cases k with
      | zero =>
        simp at h; subst h
        refine .cons r' ?_
        have hn' : xs.all (okE n) = true := hn
        exact rp_all one b hn'
      | succ k =>
        have hn' : okE n x = true ∧ (xs.eraseIdx k).all (okE n) = true := by
          have : ((x :: xs.eraseIdx k).all (okE n)) = true := hn
          rwa [List.all_cons, Bool.and_eq_true] at this
        exact .cons (one a hn'.1) (ih b (by simpa using h) hn'.2 r')
section
variable {X : Cx} {np : Fp} {EW : XW} {e : Expr} {fe : ES} {pos : Pos}
theorem lst_tup {pins : List (Addr × Obj)} {σ : L2.St} {H : Hp} {s : Shared} {a : Addr} {us zs : List V} (I : Inv X pins σ H s) (h1 : H a = some (.lst us)) (h2 : SqT X.K H a zs) : False := by
  obtain ⟨its, _, p, _⟩ := I.list (SqL.of h1)
  obtain ⟨its2, _, p2, _⟩ := I.tuple h2
  obtain ⟨o, e1, c1, _⟩ := p.isList
  obtain ⟨o2, e2, c2, _⟩ := p2
  rw [e1] at e2
  cases e2
  rw [c1] at c2
  have q := Value.type.inj c2
  revert q
  decide
theorem ds_uapp2 (j k i : Nat) {o : Expr} {apos cpos : Pos} (h : DE X np EW e fe)
    (hpe : ∀ {t : TE}, PE X e t → PE X (.Call (.Attribute o "append" apos) [e] [] cpos) (tBM X.K "list" rAppend (tOp (rIx X.K) (tOp (rIx X.K) (tVar j) (tC (.int (k : Nat)))) (tC (.int (i : Nat)))) (tCons t tNil))) (hs : swapsWith (.Call (.Attribute o "append" apos) [e] [] cpos) none pos.line X.env = pure false := by rfl) :
    DS X np EW (.Expr (.Call (.Attribute o "append" apos) [e] [] cpos) pos) (u2A np.n j k i fe) := by
  refine ⟨fun pins s σ H Dn I hw => (ps_expr (hpe h) hs).run pins s σ H Dn I ?_⟩
  obtain ⟨C, ρ, R, h⟩ := hw
  unfold u2A at h
  by_cases hn : np.n ≤ j
  · rw [if_pos hn] at h
    obtain ⟨d, e, h⟩ := unA_of h
    have r0 := R.get j _ e
    generalize eo : σ[j]? = ov at r0
    cases r0 with
    | un r0 =>
      cases d with
      | tuple xs =>
        obtain ⟨t, ts, rfl, ht, rt⟩ := r0.tup_invX
        cases ex : xs[k]? with
        | none => simp only [ex] at h; exact h.elim
        | some dk =>
          simp only [ex] at h
          cases dk with
          | list ys =>
            obtain ⟨w, hw, rw⟩ := rt.get ex
            obtain ⟨b, vs, rfl, hb, cb, rv⟩ := rw.lst_inv
            cases ey : ys[i]? with
            | none => simp only [ey] at h; exact h.elim
            | some di =>
              simp only [ey] at h
              cases di with
              | list ds =>
                obtain ⟨w2, hw2, rw2⟩ := rv.get ey
                obtain ⟨a, us, rfl, ha, hc, rr⟩ := rw2.lst_inv
                refine ⟨_, eo, .inr (.inl ⟨t, ts, _, _, rfl, rfl, ht.sq, atI_natD hw, ?_⟩)⟩
                refine .inl ⟨b, vs, _, _, rfl, rfl, .of hb, atI_natD hw2, ?_⟩
                refine ⟨.inl ⟨rfl, _, .inl (.inl ha)⟩, toE_of (L := .an) R h fun p v H' C' A R' rp q => ?_⟩
                obtain ⟨hρ, P⟩ := A.pu rfl
                rw [hρ] at R'
                by_cases hp : (noLs ds && noL p.1 && noLs (xs.eraseIdx k) && (ys.eraseIdx i).all (okE ds.length) && decide (ds.length < sizeLine)) = true
                · rw [if_pos hp] at q
                  simp only [Bool.and_eq_true, decide_eq_true_eq] at hp
                  have hab : b ≠ a := fun z => by
                    subst z
                    rw [ha] at hb
                    cases hb
                    obtain ⟨dd, hdd, rdd⟩ := rr.getV hw2
                    have nd : noL dd = true := noLs_iff.mp hp.1.1.1.1 dd (List.mem_of_getElem? hdd)
                    cases rdd with
                    | lst _ _ _ => simp [noL] at nd
                    | tup h2 _ => exact lst_tup I ha h2.sq
                  have ha' := P.same _ _ ha
                  have hb' := P.same _ _ hb
                  have hc' : C' a = j + 3 := by rw [P.col a (by rw [ha]; simp)]; exact hc
                  have cb' : C' b = j + 3 := by rw [P.col b (by rw [hb]; simp)]; exact cb
                  refine ⟨a, us, v, rfl, rfl, ha', by rw [rr.len]; exact hp.2, ?_⟩
                  have im := upd_imm (ws := us ++ [v]) ha'
                  have hl : ∀ c zs, H' c = some (.lst zs) → zs.length ≠ ds.length → upd H' a (.lst (us ++ [v])) c = some (.lst zs) := fun c zs hz hne => by
                    rw [upd_ne (fun q => by subst q; rw [ha'] at hz; cases hz; exact hne rr.len)]; exact hz
                  have rv' : RpA X.K H' (fun b => C' b = j + 3) vs ys := P.rpA (P := fun c => c = j + 3) rv
                  have new : Rp X.K (upd H' a (.lst (us ++ [v]))) (fun b => C' b = j + 3) (.ref a) (.list (ds ++ [p.1])) :=
                    .lst upd_same hc' (rp_plain (P := fun _ => True) (((rr.imp fun _ _ => trivial).same P.same).app (.cons (rp.imp fun _ _ => trivial) .nil)) (by simp [noLs_app, noLs, hp.1.1.1.1, hp.1.1.1.2]) im)
                  have newb : Rp X.K (upd H' a (.lst (us ++ [v]))) (fun b => C' b = j + 3) (.ref b) (.list (ys.set i (.list (ds ++ [p.1])))) :=
                    .lst (by rw [upd_ne hab]; exact hb') cb' (rp_setAt2 im hl (fun _ z => z) rv' hw2 hp.1.2 new)
                  obtain ⟨S, R2⟩ := un_upd (ws := us ++ [v]) R' ⟨_, e⟩ eo ha' hc' (.tup (SqX.keep (SqX.keep ht fun b o h _ => P.same b o h) im) (rp_setAt (P' := fun b => C' b = j + 3) im (rt.same P.same) hw hp.1.1.2 newb)) hn
                  exact q _ _ _ S R2
                · rw [if_neg hp] at q; exact q.elim
              | _ => exact h.elim
          | _ => exact h.elim
      | _ => exact h.elim
  · rw [if_neg hn] at h; exact h.elim
def u1C (np j k : Nat) : SS := fun ρ => if np ≤ j then unA ρ[j]? fun d => match d with
  | .tuple xs => (match xs[k]? with
    | some (.list _) => if noLs (xs.eraseIdx k) then .nx (ρ.set j (.un (.tuple (xs.set k (.list []))))) else .bad
    | _ => .bad)
  | _ => .bad
  else .bad
theorem ds_uclr1 (j k : Nat) {o : Expr} {m : Str} {apos cpos : Pos} (M : Ml0 X "list.clear" rClear (fun _ => []))
    (hpe : PE X (.Call (.Attribute o m apos) [] [] cpos) (tBM0 X.K "list" rClear (tOp (rIx X.K) (tVar j) (tC (.int (k : Nat)))))) (hs : swapsWith (.Call (.Attribute o m apos) [] [] cpos) none pos.line X.env = pure false := by rfl) :
    DS X np EW (.Expr (.Call (.Attribute o m apos) [] [] cpos) pos) (u1C np.n j k) :=
  PS.weak (ps_expr hpe hs) fun Dn σ H ⟨C, ρ, R, h⟩ => by
    unfold u1C at h
    by_cases hn : np.n ≤ j
    · rw [if_pos hn] at h
      obtain ⟨d, e, h⟩ := unA_of h
      have r0 := R.get j _ e
      generalize eo : σ[j]? = ov at r0
      cases r0 with
      | un r0 =>
        cases d with
        | tuple xs =>
          obtain ⟨t, ts, rfl, ht, rt⟩ := r0.tup_invX
          cases ex : xs[k]? with
          | none => simp only [ex] at h; exact h.elim
          | some dk =>
            simp only [ex] at h
            cases dk with
            | list ds =>
              obtain ⟨w, hw, rw⟩ := rt.get ex
              obtain ⟨a, us, rfl, ha, hc, rr⟩ := rw.lst_inv
              by_cases hp : noLs (xs.eraseIdx k) = true
              · simp only [hp, if_true] at h
                refine ⟨_, eo, .inr (.inl ⟨t, ts, _, _, rfl, rfl, ht.sq, atI_natD hw, ?_⟩)⟩
                refine ⟨.inl ⟨rfl, _, .inl (.inl ha)⟩, M.ok a us H _ ha ?_⟩
                have im := upd_imm (ws := []) ha
                obtain ⟨S, R2⟩ := un_upd (ws := []) R ⟨_, e⟩ eo ha hc (.tup (SqX.keep ht im) (rp_setAt (P' := fun b => C b = j + 3) im rt hw hp (.lst upd_same hc .nil))) hn
                exact h _ _ _ S R2
              · simp only [hp] at h; exact h.elim
            | _ => exact h.elim
        | _ => exact h.elim
    · rw [if_neg hn] at h; exact h.elim
end
end
end Dm

namespace Dm
noncomputable section
open PySem PySem.Spec PyProof.Rows L2
/-! ### objects of the program's classes -/
structure KlF (K : PySem.W.Frag) (kl : Kl) (Cc : Addr) : Prop where
  cl : Cls K Cc
  ns : PySem.W.nsIn K mainGlobals kl.nm = some (some (.ref Cc))
  na : ∀ f ∈ kl.ks, NoAttr K Cc f
  nd : kl.ks.Nodup
  sm : kl.ks.length < 1000
theorem lookup_at {us : List (Str × V)} {f : Str} {v : V} : ∀ {k : Nat}, (us.map (·.1)).Nodup → us[k]? = some (f, v) → us.lookup f = some v := by
  induction us with
  | nil => intro k _ h; simp at h
  | cons a r ih =>
    intro k nd h
    obtain ⟨g, w⟩ := a
    rw [List.map_cons, List.nodup_cons] at nd
    cases k with
    | zero => simp at h; obtain ⟨rfl, rfl⟩ := h; simp [List.lookup]
    | succ k =>
      have h' : r[k]? = some (f, v) := by simpa using h
      have hm : f ∈ r.map (·.1) := List.mem_map.mpr ⟨_, List.mem_of_getElem? h', rfl⟩
      have ne : f ≠ g := fun z => nd.1 (z ▸ hm)
      have hb : (f == g) = false := by simpa using ne
      rw [List.lookup, hb]
      exact ih nd.2 h'
theorem putF_at {us : List (Str × V)} {f : Str} {v w : V} : ∀ {k : Nat}, (us.map (·.1)).Nodup → us[k]? = some (f, w) → putF f v us = us.set k (f, v) := by
  induction us with
  | nil => intro k _ h; simp at h
  | cons a r ih =>
    intro k nd h
    obtain ⟨g, x⟩ := a
    rw [List.map_cons, List.nodup_cons] at nd
    cases k with
    | zero => simp at h; obtain ⟨rfl, rfl⟩ := h; simp [putF]
    | succ k =>
      have h' : r[k]? = some (f, w) := by simpa using h
      have hm : f ∈ r.map (·.1) := List.mem_map.mpr ⟨_, List.mem_of_getElem? h', rfl⟩
      have ne : ¬ g = f := fun z => nd.1 (z ▸ hm)
      rw [putF, if_neg ne, ih nd.2 h', List.set_cons_succ]
theorem putF_new {us : List (Str × V)} {f : Str} {v : V} (h : f ∉ us.map (·.1)) : putF f v us = us ++ [(f, v)] := by
  induction us with
  | nil => rfl
  | cons a r ih =>
    obtain ⟨g, x⟩ := a
    rw [List.map_cons, List.mem_cons, not_or] at h
    rw [putF, if_neg (fun z => h.1 z.symm), ih h.2, List.cons_append]
def putX (k : Nat) (x : Fd) (xs : List Fd) : List Fd := if k < xs.length then xs.set k x else xs ++ [x]
section
variable {K : PySem.W.Frag} {H : Hp} {C : Col} {c : Nat} {ks : List Str} {us : List (Str × V)} {xs : List Fd}
theorem ObR.klen (r : ObR K H C c ks us xs) : us.length = xs.length := by
  have h := congrArg List.length r.keys
  rw [List.length_map, List.length_take] at h
  have := r.le
  omega
theorem ObR.knd (r : ObR K H C c ks us xs) (nd : ks.Nodup) : (us.map (·.1)).Nodup := by
  rw [r.keys]; exact nd.sublist (List.take_sublist _ _)
theorem ObR.key (r : ObR K H C c ks us xs) {k : Nat} {f : Str} {v : V} (h : us[k]? = some (f, v)) : ks[k]? = some f := by
  have h1 : (us.map (·.1))[k]? = some f := by rw [List.getElem?_map, h]; rfl
  rw [r.keys, List.getElem?_take] at h1
  split at h1
  · exact h1
  · cases h1
theorem ObR.at' (r : ObR K H C c ks us xs) (nd : ks.Nodup) {k : Nat} {f : Str} {x : Fd} (hk : ks[k]? = some f) (hx : xs[k]? = some x) : ∃ v, us[k]? = some (f, v) ∧ us.lookup f = some v ∧ FdR K H C c v x := by
  obtain ⟨g, v, hu, rv⟩ := r.get k x hx
  have := r.key hu
  rw [hk] at this; cases this
  exact ⟨v, hu, lookup_at (r.knd nd) hu, rv⟩
/-- an attribute is stored, anew or for the first time -/
theorem ObR.put (r : ObR K H C c ks us xs) (nd : ks.Nodup) {k : Nat} {f : Str} {x : Fd} {v : V} (hk : ks[k]? = some f) (hle : k ≤ xs.length) (rv : FdR K H C c v x)
    (hd : ∀ b es l g fs, x = .ow es → v = .ref b → l ≠ k → xs[l]? = some (.ow fs) → us[l]? = some (g, .ref b) → False) : ObR K H C c ks (putF f v us) (putX k x xs) := by
  have hkl : k < ks.length := (List.getElem?_eq_some_iff.mp hk).1
  have ul := r.klen
  by_cases hlt : k < xs.length
  · obtain ⟨y, hy⟩ : ∃ y, xs[k]? = some y := ⟨xs[k], by simp [hlt]⟩
    obtain ⟨w, hu, _, _⟩ := r.at' nd hk hy
    have e1 := putF_at (v := v) (r.knd nd) hu
    have e2 : putX k x xs = xs.set k x := if_pos hlt
    rw [e1, e2]
    have hul : k < us.length := by omega
    refine ⟨by rw [List.length_set]; exact r.le, ?_, fun l z hz => ?_, fun l m ds es b g g' hne h1 h2 h3 h4 => ?_⟩
    · rw [List.length_set, List.map_set, r.keys]
      apply List.ext_getElem?
      intro i
      by_cases hi : i = k
      · subst hi
        rw [List.getElem?_set_self (by rw [List.length_take]; omega), List.getElem?_take, if_pos hlt, hk]
      · rw [List.getElem?_set_ne (Ne.symm hi)]
    · by_cases hl : l = k
      · subst hl
        rw [List.getElem?_set_self hlt] at hz; cases hz
        exact ⟨f, v, List.getElem?_set_self hul, rv⟩
      · rw [List.getElem?_set_ne (Ne.symm hl)] at hz
        obtain ⟨g, w', a, b⟩ := r.get l z hz
        exact ⟨g, w', by rw [List.getElem?_set_ne (Ne.symm hl)]; exact a, b⟩
    · by_cases hl : l = k
      · subst hl
        rw [List.getElem?_set_self hlt] at h1; cases h1
        rw [List.getElem?_set_self hul] at h3
        rw [List.getElem?_set_ne hne] at h2 h4
        cases h3
        exact hd b ds m g' es rfl rfl (Ne.symm hne) h2 h4
      · rw [List.getElem?_set_ne (Ne.symm hl)] at h1 h3
        by_cases hm : m = k
        · subst hm
          rw [List.getElem?_set_self hlt] at h2; cases h2
          rw [List.getElem?_set_self hul] at h4
          cases h4
          exact hd b es l g ds rfl rfl hne h1 h3
        · rw [List.getElem?_set_ne (Ne.symm hm)] at h2 h4
          exact r.dis l m ds es b g g' hne h1 h2 h3 h4
  · have ek : k = xs.length := by omega
    have hnew : f ∉ us.map (·.1) := by
      intro z
      obtain ⟨i, hi⟩ := List.getElem?_of_mem z
      rw [r.keys, List.getElem?_take] at hi
      split at hi
      · rename_i hil
        obtain ⟨h1, h2⟩ := List.getElem?_eq_some_iff.mp hi
        obtain ⟨h3, h4⟩ := List.getElem?_eq_some_iff.mp hk
        have := (List.getElem_inj nd (h₀ := h1) (h₁ := h3)).mp (by rw [h2, h4])
        omega
      · cases hi
    have e1 := putF_new (v := v) hnew
    have e2 : putX k x xs = xs ++ [x] := if_neg hlt
    rw [e1, e2]
    refine ⟨by rw [List.length_append, List.length_singleton]; omega, ?_, fun l z hz => ?_, fun l m ds es b g g' hne h1 h2 h3 h4 => ?_⟩
    · rw [List.map_append, r.keys, List.length_append, List.length_singleton, ← ek]
      rw [List.take_add_one, hk]
      rfl
    · by_cases hl : l < xs.length
      · rw [List.getElem?_append_left hl] at hz
        obtain ⟨g, w', a, b⟩ := r.get l z hz
        exact ⟨g, w', by rw [List.getElem?_append_left (by omega)]; exact a, b⟩
      · have hb := (List.getElem?_eq_some_iff.mp hz).1
        rw [List.length_append, List.length_singleton] at hb
        have : l = xs.length := by omega
        subst this
        rw [List.getElem?_append_right (Nat.le_refl _), Nat.sub_self] at hz
        cases hz
        exact ⟨f, v, by rw [List.getElem?_append_right (by omega), ul, Nat.sub_self]; rfl, rv⟩
    · have bl : ∀ {q : Nat} {z : Fd}, (xs ++ [x])[q]? = some z → q ≤ xs.length := fun {q z} h => by
        have := (List.getElem?_eq_some_iff.mp h).1
        rw [List.length_append, List.length_singleton] at this; omega
      have b1 := bl h1
      have b2 := bl h2
      by_cases hl : l < xs.length
      · rw [List.getElem?_append_left hl] at h1
        rw [List.getElem?_append_left (by omega)] at h3
        by_cases hm : m < xs.length
        · rw [List.getElem?_append_left hm] at h2
          rw [List.getElem?_append_left (by omega)] at h4
          exact r.dis l m ds es b g g' hne h1 h2 h3 h4
        · have : m = xs.length := by omega
          subst this
          rw [List.getElem?_append_right (Nat.le_refl _), Nat.sub_self] at h2
          rw [List.getElem?_append_right (by omega), ul, Nat.sub_self] at h4
          cases h2; cases h4
          exact hd b es l g ds rfl rfl (by omega) h1 h3
      · have : l = xs.length := by omega
        subst this
        rw [List.getElem?_append_right (Nat.le_refl _), Nat.sub_self] at h1
        rw [List.getElem?_append_right (by omega), ul, Nat.sub_self] at h3
        have hm : m < xs.length := by omega
        rw [List.getElem?_append_left hm] at h2
        rw [List.getElem?_append_left (by omega)] at h4
        cases h1; cases h3
        exact hd b ds m g' es rfl rfl (by omega) h2 h4
/-- the list of an attribute is rewritten -/
theorem ObR.upd {k : Nat} {b : Addr} {f : Str} {ds es : List D} {ws : List V} (r : ObR K H C c ks us xs) (hx : xs[k]? = some (.ow ds)) (hu : us[k]? = some (f, .ref b)) (hb : ∃ vs, H b = some (.lst vs)) (hn : noLs es = true) (rr : RpA K H (fun _ => False) ws es) :
    ObR K (upd H b (.lst ws)) C c ks us (xs.set k (.ow es)) := by
  have hlt : k < xs.length := (List.getElem?_eq_some_iff.mp hx).1
  obtain ⟨vs, hb⟩ := hb
  have im : ∀ a o, H a = some o → Imm o → L2.upd H b (.lst ws) a = some o := fun a o h i => by rw [upd_ne (fun z => by subst z; rw [hb] at h; cases h; exact i)]; exact h
  refine ⟨by rw [List.length_set]; exact r.le, by rw [List.length_set]; exact r.keys, fun l z hz => ?_, fun l m ds' es' b' g g' hne h1 h2 h3 h4 => ?_⟩
  · by_cases hl : l = k
    · subst hl
      rw [List.getElem?_set_self hlt] at hz; cases hz
      obtain ⟨g, v, hu', rv⟩ := r.get l _ hx
      rw [hu] at hu'; cases hu'
      cases rv with
      | ow h e n _ => exact ⟨_, _, hu, .ow upd_same e hn (rr.move (fun _ _ p _ => p.elim) im)⟩
    · rw [List.getElem?_set_ne (Ne.symm hl)] at hz
      obtain ⟨g, v, hu', rv⟩ := r.get l z hz
      refine ⟨g, v, hu', ?_⟩
      cases rv with
      | va n rv => exact .va n (rv.move (fun _ _ p _ => p.elim) im)
      | @ow b' vs' ds' h e n rv =>
        have hne : b' ≠ b := fun z => by subst z; exact r.dis l k _ _ _ _ _ hl hz hx hu' hu
        exact .ow (by rw [upd_ne hne]; exact h) e n (rv.move (fun _ _ p _ => p.elim) im)
  · have tr : ∀ {q : Nat} {ys : List D}, (xs.set k (.ow es))[q]? = some (Fd.ow ys) → ∃ zs, xs[q]? = some (Fd.ow zs) := fun {q ys} h => by
      by_cases hq : q = k
      · subst hq; exact ⟨_, hx⟩
      · rw [List.getElem?_set_ne (Ne.symm hq)] at h; exact ⟨_, h⟩
    obtain ⟨z1, h1⟩ := tr h1
    obtain ⟨z2, h2⟩ := tr h2
    exact r.dis l m _ _ b' g g' hne h1 h2 h3 h4
end
section
variable {K : PySem.W.Frag} {np : Fp} {H : Hp} {C : Col} {σ : L2.St} {ρ : Slots} {j : Nat} {kl : Kl} {xs : List Fd} {Cc : Addr}
theorem ob_slot (F : KlF K kl Cc) (R : Rel K np H C σ ρ) (e : ρ[j]? = some (.ob kl xs)) : ∃ a dx us, σ[j]? = some (some (.ref a)) ∧ H a = some (.ins Cc dx us) ∧ C a = j + 3 ∧ ObR K H C (j + 3) kl.ks us xs ∧ (j < np.n → a = np.pa j) := by
  have r := R.get j _ e
  generalize σ[j]? = o at r
  cases r with
  | @ob a Cc' dx us _ _ h c n r pn =>
    have e2 := F.ns
    rw [n] at e2
    cases e2
    exact ⟨a, dx, us, rfl, h, c, r, pn⟩
/-- the object is rewritten -/
theorem ob_upd {a dx dx' : Addr} {us us' : List (Str × V)} {xs' : List Fd} (F : KlF K kl Cc) (R : Rel K np H C σ ρ) (hj : ρ[j]? = some (.ob kl xs)) (hs : σ[j]? = some (some (.ref a))) (ha : H a = some (.ins Cc dx us)) (hc : C a = j + 3)
    (r : ObR K H C (j + 3) kl.ks us' xs') (pn : j < np.n → a = np.pa j) : Stp np H C (upd H a (.ins Cc dx' us')) C ∧ Rel K np (upd H a (.ins Cc dx' us')) C σ (ρ.set j (.ob kl xs')) := by
  have ne_of_col : ∀ b, C b ≠ j + 3 → b ≠ a := fun b h z => by subst z; exact h hc
  have imm_ne : ∀ {b : Addr} {o : HO}, H b = some o → Imm o → b ≠ a := fun {b o} h i z => by subst z; rw [ha] at h; cases h; exact i
  refine ⟨⟨fun b x h k => ?_, fun b h => ?_, fun _ _ _ => rfl, fun _ _ h => .inr h⟩, ⟨by rw [List.length_set]; exact R.len, fun i s e => ?_⟩⟩
  · rw [upd_ne ?_]; exact h
    rcases k with k | k
    · exact ne_of_col b (by omega)
    · exact imm_ne h k
  · by_cases z : b = a
    · subst z; rw [upd_same]; simp
    · rw [upd_ne z]; exact h
  · by_cases hij : i = j
    · subst hij
      rw [List.getElem?_set_self (List.getElem?_eq_some_iff.mp hj).1] at e
      cases e
      rw [hs]
      exact .ob upd_same hc F.ns (r.move (fun b xs e h => ⟨by rw [upd_ne (fun z => by subst z; rw [ha] at h; cases h)]; exact h, e⟩) fun b o h im => by rw [upd_ne (imm_ne h im)]; exact h) pn
    · rw [List.getElem?_set_ne (Ne.symm hij)] at e
      exact (R.get i s e).off hij (fun b xs hb h => ⟨by rw [upd_ne (ne_of_col b hb)]; exact h, rfl⟩) fun b o h im => by rw [upd_ne (imm_ne h im)]; exact h
/-- a list of the object is rewritten -/
theorem ob_updL {a dx b : Addr} {us : List (Str × V)} {k : Nat} {f : Str} {ds es : List D} {vs ws : List V} (F : KlF K kl Cc) (R : Rel K np H C σ ρ) (hj : ρ[j]? = some (.ob kl xs)) (hs : σ[j]? = some (some (.ref a))) (ha : H a = some (.ins Cc dx us)) (hc : C a = j + 3)
    (r : ObR K H C (j + 3) kl.ks us xs) (pn : j < np.n → a = np.pa j) (hx : xs[k]? = some (.ow ds)) (hu : us[k]? = some (f, .ref b)) (hb : H b = some (.lst vs)) (hcb : C b = j + 3) (hn : noLs es = true) (rr : RpA K H (fun _ => False) ws es) :
    Stp np H C (upd H b (.lst ws)) C ∧ Rel K np (upd H b (.lst ws)) C σ (ρ.set j (.ob kl (xs.set k (.ow es)))) := by
  have ne_of_col : ∀ d, C d ≠ j + 3 → d ≠ b := fun d h z => by subst z; exact h hcb
  have imm_ne : ∀ {d : Addr} {o : HO}, H d = some o → Imm o → d ≠ b := fun {d o} h i z => by subst z; rw [hb] at h; cases h; exact i
  refine ⟨⟨fun d x h k => ?_, fun d h => ?_, fun _ _ _ => rfl, fun _ _ h => .inr h⟩, ⟨by rw [List.length_set]; exact R.len, fun i s e => ?_⟩⟩
  · rw [upd_ne ?_]; exact h
    rcases k with k | k
    · exact ne_of_col d (by omega)
    · exact imm_ne h k
  · by_cases z : d = b
    · subst z; rw [upd_same]; simp
    · rw [upd_ne z]; exact h
  · by_cases hij : i = j
    · subst hij
      rw [List.getElem?_set_self (List.getElem?_eq_some_iff.mp hj).1] at e
      cases e
      rw [hs]
      have hab : a ≠ b := fun z => by subst z; rw [ha] at hb; cases hb
      exact .ob (by rw [upd_ne hab]; exact ha) hc F.ns (r.upd hx hu ⟨_, hb⟩ hn rr) pn
    · rw [List.getElem?_set_ne (Ne.symm hij)] at e
      exact (R.get i s e).off hij (fun d xs hd h => ⟨by rw [upd_ne (ne_of_col d hd)]; exact h, rfl⟩) fun d o h im => by rw [upd_ne (imm_ne h im)]; exact h
end
/-- what stands at an object's slot -/
def obE {α : Type} (kl : Kl) (bad : α) (k : List Fd → α) : Option Sl → α
  | some (.ob kl' xs) => if kl' = kl then k xs else bad
  | _ => bad
def fdG {α : Type} (bad : α) (k : List D → α) : Option Fd → α
  | some (.ow ds) => k ds
  | _ => bad
def fdE (kl : Kl) (j k : Nat) : ES := fun L ρ => obE kl .bad (fun xs => match xs[k]? with
  | some (.va d) => .ok (d, ρ)
  | some (.ow ds) => if L.okb (j + 3) then .ok (.list ds, ρ) else .bad
  | none => .bad) ρ[j]?
theorem obE_wp {α : Type} {kl : Kl} {k : List Fd → Re α} {o : Option Sl} {Q : α → Prop} {E : Exn → Prop} (h : wp (obE kl .bad k o) Q E) : ∃ xs, o = some (.ob kl xs) ∧ wp (k xs) Q E := by
  unfold obE at h
  split at h
  · split at h
    · rename_i e; subst e; exact ⟨_, rfl, h⟩
    · exact h.elim
  · exact h.elim
theorem obE_pst {K : PySem.W.Frag} {np : Fp} {EW : XW} {Dn : Ends} {H : Hp} {C : Col} {kl : Kl} {k : List Fd → Fl} {o : Option Sl} (h : pst K np EW Dn H C (obE kl .bad k o)) : ∃ xs, o = some (.ob kl xs) ∧ pst K np EW Dn H C (k xs) := by
  unfold obE at h
  split at h
  · split at h
    · rename_i e; subst e; exact ⟨_, rfl, h⟩
    · exact h.elim
  · exact h.elim
theorem fdG_pst {K : PySem.W.Frag} {np : Fp} {EW : XW} {Dn : Ends} {H : Hp} {C : Col} {k : List D → Fl} {o : Option Fd} (h : pst K np EW Dn H C (fdG .bad k o)) : ∃ ds, o = some (.ow ds) ∧ pst K np EW Dn H C (k ds) := by
  unfold fdG at h
  split at h
  · exact ⟨_, rfl, h⟩
  · exact h.elim
section
variable {X : Cx} {np : Fp} {EW : XW} {e : Expr} {fe : ES} {y f : Str} {py pos apos cpos : Pos} {kl : Kl} {Cc : Addr}
/-- o.f -/
theorem de_fld (j k : Nat) (F : KlF X.K kl Cc) (hk : kl.ks[k]? = some f) (hj : PE X (.Name y py) (tVar j)) (hb : attributeBase (.Name y py) f X.env (eval (.Name y py) X.env) = eval (.Name y py) X.env := by rfl) : DE X np EW (.Attribute (.Name y py) f pos) (fdE kl j k) :=
  PE.weak (pe_fld hj hb) fun σ H Q ⟨L, C, ρ, R, h⟩ => by
    unfold fdE at h
    obtain ⟨xs, e, h⟩ := obE_wp h
    obtain ⟨a, dx, us, hs, ha, hc, r, pn⟩ := ob_slot F R e
    cases hx : xs[k]? with
    | none => rw [hx] at h; exact h.elim
    | some x =>
      rw [hx] at h
      obtain ⟨v, hu, hl, rv⟩ := r.at' F.nd hk hx
      refine ⟨_, hs, a, Cc, dx, us, v, rfl, ha, F.cl, F.na f (List.mem_of_getElem? hk), hl, ?_⟩
      cases rv with
      | va n rv => exact h _ H C .refl R (rv.imp fun _ z => z.elim)
      | ow hb hcb n rr =>
        have h' : wp (if L.okb (j + 3) = true then Re.ok (_, ρ) else .bad) _ _ := h
        by_cases c1 : L.okb (j + 3) = true
        · rw [if_pos c1] at h'
          exact h' _ H C .refl R (.lst hb (by unfold Cof; rw [hcb]; exact c1) (rr.imp fun _ z => z.elim))
        · rw [if_neg c1] at h'; exact h'.elim
/-- o.f = e, e plain -/
def fsS (kl : Kl) (j k : Nat) (fe : ES) : SS := fun ρ => (fe .an ρ).to fun p => obE kl .bad (fun xs => if noL p.1 && decide (k ≤ xs.length) then .nx (p.2.set j (.ob kl (putX k (.va p.1) xs))) else .bad) p.2[j]?
theorem ds_fld (j k : Nat) {pos' : Pos} (F : KlF X.K kl Cc) (hk : kl.ks[k]? = some f) (hj : PE X (.Name y py) (tVar j)) (h : DE X np EW e fe) (hs : swapsWith e (some (.Attribute (.Name y py) f pos')) pos.line X.env = pure false := by rfl) :
    DS X np EW (.Assign [.Attribute (.Name y py) f pos'] e pos) (fsS kl j k fe) :=
  PS.weak (ps_fld hj h hs) fun Dn σ H ⟨C, ρ, R, h⟩ => toE_of (L := .an) R h fun p v H' C' A R' r q => by
    obtain ⟨xs, e, q⟩ := obE_pst q
    obtain ⟨a, dx, us, hs, ha, hc, ro, pn⟩ := ob_slot F R' e
    by_cases hz : (noL p.1 && decide (k ≤ xs.length)) = true
    · rw [if_pos hz] at q
      rw [Bool.and_eq_true, decide_eq_true_eq] at hz
      have hl := ro.klen
      have := ro.le
      have := F.sm
      refine ⟨_, hs, a, Cc, dx, us, rfl, ha, F.cl, F.na f (List.mem_of_getElem? hk), by omega, ?_⟩
      obtain ⟨S, R2⟩ := ob_upd (dx' := dx) F R' e hs ha hc (ro.put F.nd hk hz.2 (.va hz.1 (r.free hz.1)) fun b es l g fs z => by cases z) pn
      exact q _ _ _ S R2
    · rw [if_neg hz] at q; exact q.elim
/-- o.f = a new list of plain things -/
def flS (kl : Kl) (j k : Nat) (fs : AS) : SS := fun ρ => (fs .an ρ).to fun p => obE kl .bad (fun xs => if noLs p.1 && decide (k ≤ xs.length) then .nx (p.2.set j (.ob kl (putX k (.ow p.1) xs))) else .bad) p.2[j]?
theorem ds_fll (j k : Nat) {pos' : Pos} {fs : AS} (F : KlF X.K kl Cc) (hk : kl.ks[k]? = some f) (hj : PE X (.Name y py) (tVar j)) (h : DN X np EW e fs) (hs : swapsWith e (some (.Attribute (.Name y py) f pos')) pos.line X.env = pure false := by rfl) :
    DS X np EW (.Assign [.Attribute (.Name y py) f pos'] e pos) (flS kl j k fs) :=
  PS.weak (ps_fld hj h hs) fun Dn σ H ⟨C, ρ, R, h⟩ => by
    unfold flS at h
    refine ⟨.an, C, ρ, R, ?_⟩
    cases e : fs .an ρ with
    | bad => rw [e] at h; exact h.elim
    | ex c => rw [e] at h; exact h
    | ok p =>
      rw [e] at h
      intro t vs H' C' A R' ht r
      obtain ⟨xs, e, q⟩ := obE_pst (show pst X.K np EW Dn H C (obE kl .bad (fun xs => if noLs p.1 && decide (k ≤ xs.length) then .nx (p.2.set j (.ob kl (putX k (.ow p.1) xs))) else .bad) p.2[j]?) from h)
      obtain ⟨a, dx, us, hs, ha, hc, ro, pn⟩ := ob_slot F R' e
      have hat : a ≠ t := fun z => by subst z; rw [ht] at ha; cases ha
      by_cases hz : (noLs p.1 && decide (k ≤ xs.length)) = true
      · rw [if_pos hz] at q
        rw [Bool.and_eq_true, decide_eq_true_eq] at hz
        have hl := ro.klen
        have := ro.le
        have := F.sm
        have S0 := pstp_new (C := C') (o := .lst vs) (n := j + 3) ht
        refine ⟨_, hs, a, Cc, dx, us, rfl, by rw [upd_ne hat]; exact ha, F.cl, F.na f (List.mem_of_getElem? hk), by omega, ?_⟩
        have R1 := R'.pstp S0
        have ro1 : ObR X.K (upd H' t (.lst vs)) (setC C' t (j + 3)) (j + 3) kl.ks us xs := ro.move (fun b xs e h => ⟨S0.same _ _ h, by rw [S0.col b (by rw [h]; simp)]; exact e⟩) fun b o h _ => S0.same b o h
        have ha1 : upd H' t (.lst vs) a = some (.ins Cc dx us) := by rw [upd_ne hat]; exact ha
        have hc1 : setC C' t (j + 3) a = j + 3 := by rw [setC_ne hat]; exact hc
        have rw1 : RpA X.K (upd H' t (.lst vs)) (fun _ => False) vs p.1 := (r.free (P' := fun _ => False) hz.1).move (fun _ _ z _ => z.elim) fun b o h _ => S0.same b o h
        obtain ⟨S, R2⟩ := ob_upd (dx' := dx) F R1 e hs ha1 hc1 (ro1.put F.nd hk hz.2 (.ow upd_same setC_same hz.1 rw1) fun b es l g fs z zb hne hx hu => by
          cases zb
          obtain ⟨g', v', hu', rv⟩ := ro.get l _ hx
          rw [hu] at hu'; cases hu'
          cases rv with
          | ow h _ _ _ => rw [ht] at h; cases h) pn
        exact q _ _ _ ((A.stp.trans S0.stp).trans S) R2
      · rw [if_neg hz] at q; exact q.elim
/-- o.f.append(e), e plain -/
def faS (kl : Kl) (j k : Nat) (fe : ES) : SS := fun ρ => obE kl .bad (fun xs => fdG .bad (fun ds => (fe .an ρ).to fun p => if noL p.1 && decide (ds.length < sizeLine) then .nx (ρ.set j (.ob kl (xs.set k (.ow (ds ++ [p.1]))))) else .bad) xs[k]?) ρ[j]?
theorem ds_fapp (j k : Nat) {p2 : Pos} (F : KlF X.K kl Cc) (hk : kl.ks[k]? = some f) (hj : PE X (.Name y py) (tVar j)) (h : DE X np EW e fe) (hb : attributeBase (.Name y py) f X.env (eval (.Name y py) X.env) = eval (.Name y py) X.env := by rfl)
    (hpe : ∀ {to t : TE}, PE X (.Attribute (.Name y py) f p2) to → PE X e t → PE X (.Call (.Attribute (.Attribute (.Name y py) f p2) "append" apos) [e] [] cpos) (tBM X.K "list" rAppend to (tCons t tNil)))
    (hs : swapsWith (.Call (.Attribute (.Attribute (.Name y py) f p2) "append" apos) [e] [] cpos) none pos.line X.env = pure false := by rfl) :
    DS X np EW (.Expr (.Call (.Attribute (.Attribute (.Name y py) f p2) "append" apos) [e] [] cpos) pos) (faS kl j k fe) :=
  PS.weak (ps_expr (hpe (pe_fld hj hb) h) hs) fun Dn σ H ⟨C, ρ, R, h⟩ => by
    unfold faS at h
    obtain ⟨xs, e, h⟩ := obE_pst h
    obtain ⟨ds, hx, h⟩ := fdG_pst h
    obtain ⟨a, dx, us, hs, ha, hc, ro, pn⟩ := ob_slot F R e
    obtain ⟨v, hu, hl, rv⟩ := ro.at' F.nd hk hx
    cases rv with
    | @ow b vs _ hb hcb n rr =>
      refine ⟨_, hs, a, Cc, dx, us, _, rfl, ha, F.cl, F.na f (List.mem_of_getElem? hk), hl, .inl ⟨rfl, _, .inl (.inl hb)⟩, toE_of (L := .an) R h fun p v H' C' A R' rv q => ?_⟩
      obtain ⟨hρ, P⟩ := A.pu rfl
      rw [hρ] at R'
      by_cases hp : (noL p.1 && decide (ds.length < sizeLine)) = true
      · rw [if_pos hp] at q
        rw [Bool.and_eq_true, decide_eq_true_eq] at hp
        have ha' := P.same _ _ ha
        have hb' := P.same _ _ hb
        have hc' : C' a = j + 3 := by rw [P.col a (by rw [ha]; simp)]; exact hc
        have hcb' : C' b = j + 3 := by rw [P.col b (by rw [hb]; simp)]; exact hcb
        have ro' : ObR X.K H' C' (j + 3) kl.ks us xs := ro.move (fun b xs e h => ⟨P.same _ _ h, by rw [P.col b (by rw [h]; simp)]; exact e⟩) fun b o h _ => P.same b o h
        refine ⟨b, vs, v, rfl, rfl, hb', by rw [rr.len]; exact hp.2, ?_⟩
        obtain ⟨S, R2⟩ := ob_updL (ws := vs ++ [v]) (es := ds ++ [p.1]) F R' e hs ha' hc' ro' pn hx hu hb' hcb' (by simp [noLs_append, n, hp.1]) ((rr.move (fun _ _ z _ => z.elim) fun b o h _ => P.same b o h).app (.cons (rv.free hp.1) .nil))
        exact q _ _ _ S R2
      · rw [if_neg hp] at q; exact q.elim
/-- o.f[i] op= e -/
def fuS (kl : Kl) (j k : Nat) (g : Int → Int → Int) (fi fe : ES) : SS := fun ρ => obE kl .bad (fun xs => fdG .bad (fun ds => (fi .an ρ).to fun q => (isI q.1).to fun i => if 0 ≤ i then (match ds[i.toNat]? with
  | some old => (fe .an ρ).to fun p => (match ipAdd g old p.1 with
    | some new => .nx (ρ.set j (.ob kl (xs.set k (.ow (ds.set i.toNat new)))))
    | none => .bad)
  | none => .bad) else .bad) xs[k]?) ρ[j]?
theorem ds_faug (j k : Nat) {p2 tpos : Pos} {op : Operator} {g : Int → Int → Int} {i : Expr} {fi : ES} (F : KlF X.K kl Cc) (hk : kl.ks[k]? = some f) (hp : PIp X op (ipI g)) (hj : PE X (.Name y py) (tVar j)) (hi : DE X np EW i fi) (h : DE X np EW e fe)
    (hb : attributeBase (.Name y py) f X.env (eval (.Name y py) X.env) = eval (.Name y py) X.env := by rfl)
    (ha : ∀ ov iv new, augStore i ov iv new = (do holding [new, ov, iv] (setItem ov iv new); release [new, ov, iv] []; pure .next) := by intros; rfl) : DS X np EW (.AugAssign (.Subscript (.Attribute (.Name y py) f p2) i tpos) op e pos) (fuS kl j k g fi fe) :=
  PS.weak (ps_augS (pe_fld hj hb) hi get_list h hp set_list ha) fun Dn σ H ⟨C, ρ, R, h⟩ => by
    unfold fuS at h
    obtain ⟨xs, e, h⟩ := obE_pst h
    obtain ⟨ds, hx, h⟩ := fdG_pst h
    obtain ⟨a, dx, us, hs, ha, hc, ro, pn⟩ := ob_slot F R e
    obtain ⟨v, hu, hl, rv⟩ := ro.at' F.nd hk hx
    cases rv with
    | @ow b vs _ hb hcb n rr =>
      refine ⟨_, hs, a, Cc, dx, us, _, rfl, ha, F.cl, F.na f (List.mem_of_getElem? hk), hl, toE_of (L := .an) R h fun q w H1 C1 A1 R1 r1 q1 => ?_⟩
      obtain ⟨dq, ρ1⟩ := q
      obtain ⟨hρ, P1⟩ := A1.pu rfl
      have hρ' : ρ1 = ρ := hρ
      subst hρ'
      cases dq with
      | int i =>
        obtain rfl := r1.int_inv
        have q2 : pst X.K np EW Dn H1 C1 (if 0 ≤ i then (match ds[i.toNat]? with
          | some old => (fe .an ρ1).to fun p => (match ipAdd g old p.1 with
            | some new => .nx (ρ1.set j (.ob kl (xs.set k (.ow (ds.set i.toNat new)))))
            | none => .bad)
          | none => .bad) else .bad) := q1
        by_cases h0 : 0 ≤ i
        · rw [if_pos h0] at q2
          cases eo : ds[i.toNat]? with
          | none => simp only [eo] at q2; exact q2.elim
          | some old =>
            simp only [eo] at q2
            obtain ⟨vo, hvo, rvo⟩ := rr.get eo
            have hb1 := P1.same _ _ hb
            refine ⟨b, vs, i, vo, rfl, rfl, .of hb1, h0, hvo, toE_of (L := .an) R1 q2 fun p w2 H2 C2 A2 R2 r2 q3 => ?_⟩
            obtain ⟨hρ2, P2⟩ := A2.pu rfl
            rw [hρ2] at R2
            cases en : ipAdd g old p.1 with
            | none => simp only [en] at q3; exact q3.elim
            | some new =>
              simp only [en] at q3
              obtain ⟨dp, ρ3⟩ := p
              cases old <;> cases dp <;> simp only [ipAdd, reduceCtorEq] at en
              cases en
              obtain rfl := rvo.int_inv
              obtain rfl := r2.int_inv
              have P := P1.trans P2
              have hlt : i.toNat < vs.length := (List.getElem?_eq_some_iff.mp hvo).1
              have ha' := P.same _ _ ha
              have hb' := P.same _ _ hb
              have hc' : C2 a = j + 3 := by rw [P.col a (by rw [ha]; simp)]; exact hc
              have hcb' : C2 b = j + 3 := by rw [P.col b (by rw [hb]; simp)]; exact hcb
              have ro' : ObR X.K H2 C2 (j + 3) kl.ks us xs := ro.move (fun b xs e h => ⟨P.same _ _ h, by rw [P.col b (by rw [h]; simp)]; exact e⟩) fun b o h _ => P.same b o h
              refine ⟨_, _, rfl, rfl, b, vs, i, i.toNat, rfl, rfl, hb', by unfold ixN; rw [if_pos h0, if_pos (by omega)], ?_⟩
              rename_i z1 z2
              have rr2 := (rr.move (P' := fun _ => False) (fun _ _ z _ => z.elim) fun b o h _ => P.same b o h).set i.toNat (Rp.int (K := X.K) (H := H2) (P := fun _ => False) (g z1 z2))
              obtain ⟨S, R4⟩ := ob_updL F R2 e hs ha' hc' ro' pn hx hu hb' hcb' (by
                refine noLs_iff.mpr fun d hd => ?_
                rcases List.mem_or_eq_of_mem_set hd with hd | rfl
                · exact noLs_iff.mp n d hd
                · rfl) rr2
              exact q3 _ _ _ S R4
        · rw [if_neg h0] at q2; exact q2.elim
      | _ => exact q1.elim
end
/-! ### methods -/
abbrev ObF := List Fd → List D → Re (D × List Fd)
def ofOb (kl : Kl) (m : ObF) : Slots → Re (D × Slots)
  | .ob kl' xs :: as => if kl' = kl then (match as.mapM unbo with
    | some ds => (m xs ds).bind fun p => .ok (p.1, .ob kl p.2 :: as.map fun _ => Sl.no)
    | none => .bad) else .bad
  | _ => .bad
def obOf (kl : Kl) (m : Nat) (f : SS) : ObF := fun xs ds => (bodyF m f (.ob kl xs :: ds.map Sl.bo)).bind fun p => match p.2 with
  | .ob kl' xs' :: _ => if kl' = kl then .ok (p.1, xs') else .bad
  | _ => .bad
/-- the colours of a method: the object's own, all else -/
def colM (H : Hp) (C : Col) (c : Nat) : Col := fun b => match H b with
  | none => 0
  | some _ => if C b = c then 3 else 1
theorem colM_some {H : Hp} {C : Col} {c : Nat} {b : Addr} {o : HO} (h : H b = some o) : colM H C c b = if C b = c then 3 else 1 := by unfold colM; rw [h]
theorem spG_ob {K : PySem.W.Frag} {np : Fp} {xo : XO} {n j : Nat} {kl : Kl} {Cc : Addr} {m : ObF} {σ : L2.St} {ρ : Slots} {vs : List V} {xs : List Fd} {ds : List D} {H : Hp} {C : Col} {a : Addr} {Q : VK} {E : XK} (F : KlF K kl Cc) (R : Rel K np H C σ ρ) (hj : ρ[j]? = some (.ob kl xs)) (hs : σ[j]? = some (some (.ref a)))
    (r : RpA K H (fun b => C b ≠ j + 3) vs ds) (hl : ds.length = n)
    (h : wp (m xs ds) (fun p => ∀ (v : V) (H' : Hp) (C' : Col), Stp np H C H' C' → Rel K np H' C' σ (ρ.set j (.ob kl p.2)) → Rp K H' (fun b => C' b = 0) v p.1 → Q v H') (fun c => ∀ H' C', Stp np H C H' C' → xo E c H')) : spG K xo (n + 1) (ofOb kl m) (.ref a :: vs) H Q E := by
  obtain ⟨a0, dx, us, hs0, ha, hc, ro, pn⟩ := ob_slot F R hj
  rw [hs] at hs0; cases hs0
  have cin : ∀ {b o}, H b = some o → C b ≠ j + 3 → colM H C (j + 3) b = 1 := fun {b o} h z => by rw [colM_some h, if_neg z]
  have cin3 : ∀ {b o}, H b = some o → C b = j + 3 → colM H C (j + 3) b = 3 := fun {b o} h z => by rw [colM_some h, if_pos z]
  -- what a step of the method is for the caller
  have caller : ∀ {H' C'}, Stp ⟨n + 1, fun _ => a⟩ H (colM H C (j + 3)) H' C' → Stp np H C H' (fun b => match H b with | some _ => C b | none => if C' b = 3 then j + 3 else 0) := fun {H' C'} S => by
    refine ⟨fun b x h k => S.keep b x h ?_, S.there, fun b hb _ => ?_, fun b hb k => ?_⟩
    · rcases k with k | k
      · exact .inl (by rw [cin h (by omega)]; omega)
      · exact .inr k
    · obtain ⟨o, ho⟩ := ne_some hb
      simp only [ho]
    · obtain ⟨o, ho⟩ := ne_some hb
      simp only [ho]; exact .inr k
  refine ⟨by rw [List.length_cons, r.len, hl], colM H C (j + 3), ⟨n + 1, fun _ => a⟩, .ob kl xs :: ds.map Sl.bo, rfl, ⟨by simp [r.len], fun i s es => ?_⟩, fun b hb => ?_, ?_⟩
  · cases i with
    | zero =>
      cases es
      exact .ob ha (cin3 ha hc) F.ns (ro.move (fun b xs e h => ⟨h, cin3 h e⟩) fun _ _ h _ => h) fun _ => rfl
    | succ i =>
      rw [List.getElem?_cons_succ, List.getElem?_map] at es
      cases e2 : ds[i]? with
      | none => rw [e2] at es; cases es
      | some d =>
        rw [e2] at es; cases es
        obtain ⟨v, hv, rv⟩ := r.get e2
        rw [List.map_cons, List.getElem?_cons_succ, List.getElem?_map, hv]
        exact .bo (rv.move (fun b xs hb h => ⟨h, by rw [cin h hb]; exact Nat.le_refl _⟩) fun _ _ h _ => h)
  · obtain ⟨o, ho⟩ := ne_some hb
    rw [colM_some ho]
    split <;> omega
  · have e1 : ofOb kl m (.ob kl xs :: ds.map Sl.bo) = (m xs ds).bind fun p => .ok (p.1, .ob kl p.2 :: (ds.map Sl.bo).map fun _ => Sl.no) := by
      show (if kl = kl then (match (ds.map Sl.bo).mapM unbo with | some ds' => (m xs ds').bind fun p => Re.ok (p.1, Sl.ob kl p.2 :: (ds.map Sl.bo).map fun _ => Sl.no) | none => .bad) else .bad) = _
      rw [if_pos rfl, mapM_bo]
    rw [e1]
    refine wp_bind.mpr (wp_mono h (fun p _ hp => fun v H' C' S R' rv => ?_) fun c hc H' C' S => hc H' _ (caller S))
    have r0 := R'.get 0 (.ob kl p.2) rfl
    have e0 : (List.map some (V.ref a :: vs))[0]? = some (some (V.ref a)) := rfl
    rw [e0] at r0
    cases r0 with
    | @ob _ Cc' dx' us' _ _ h0 c0 n0 ro0 _ =>
      have hC2 : ∀ b, C' b = 3 → (match H b with | some _ => C b | none => if C' b = 3 then j + 3 else 0) = j + 3 := fun b hb => by
        cases q : H b with
        | none => simp only [hb, if_true]
        | some o =>
          simp only
          have := S.colo b (by rw [q]; simp) (by rw [colM_some q]; show (if _ then 3 else 1) ≤ n + 1 + 2; split <;> omega)
          rw [hb, colM_some q] at this
          by_cases z : C b = j + 3
          · exact z
          · rw [if_neg z] at this; cases this
      refine hp v H' _ (caller S) ⟨by rw [List.length_set]; exact R.len, fun i s es => ?_⟩ (rv.imp fun b hb => ?_)
      · by_cases hij : i = j
        · subst hij
          rw [List.getElem?_set_self (List.getElem?_eq_some_iff.mp hj).1] at es
          cases es
          rw [hs]
          exact .ob h0 (hC2 a c0) n0 (ro0.move (fun b xs e h => ⟨h, hC2 b e⟩) fun _ _ h _ => h) pn
        · rw [List.getElem?_set_ne (Ne.symm hij)] at es
          refine (R.get i s es).off hij (fun b xs hb h => ⟨S.keep b _ h (.inl (by rw [cin h hb]; omega)), by simp only [h]⟩) fun b o h im => S.keep b o h (.inr im)
      · cases q : H b with
        | none => simp only [hb]; rfl
        | some o =>
          have := S.colo b (by rw [q]; simp) (by rw [colM_some q]; show (if _ then 3 else 1) ≤ n + 1 + 2; split <;> omega)
          rw [hb, colM_some q] at this
          split at this <;> cases this
section
variable {X : Cx} {np : Fp} {EW : XW} {Xc : CXT} {k : Nat} {g : Addr} {fd : FuncData} {ps : List Str} {E : XK} {x y m : Str} {p py pos apos : Pos} {e o : Expr} {es : List Expr} {sp : Sp} {ta : TE} {t : TA} {kl : Kl} {Cc : Addr} {fs : AS}
theorem run_gfn {pins : List (Addr × Obj)} {σ : L2.St} {H : Hp} {s : Shared} {Q : VK} {us : List Value} {vs : List V} (F : GFn X.prog X.w X.K X.mg X.base Xc k g fd ps sp) (hr : Room k X.A) (hg : X.A.guards = some []) (hb : Binds X.K fd ps []) (hx : Passes Xc X E)
    (I : Inv X pins σ H s) (r : Vals vs us) (h : sp vs H Q E) : wpAny (model X.prog X.w) X.A (call (.ref g) us) (EP X pins σ Q) X.xe s := by
  refine wpAny_call (codeAny_mono (g_run (args := ⟨us, []⟩) F hr hg (fun hl => ?_) hx I r h) fun rr s' z => ?_)
  · have := hb s us I.kIn (by simpa using hl)
    simpa using this
  · cases rr with
    | error e => exact z
    | ok fl => cases fl <;> exact z
/-- o.m(e, ..) -/
theorem gpe_meth {pl : Sem Bool} (he : PE X o ta) (c : Cls X.K Cc) (hm : Meth X.K Cc m g) (F : GFn X.prog X.w X.K X.mg X.base Xc k g fd ps sp) (hr : Room k X.A) (hgd : X.A.guards = some []) (hb : Binds X.K fd ps []) (hx : Passes Xc X E) (ha : PA X (e :: es) t)
    (hst : starEach (e :: es) X.env = (false, eval e X.env) :: starEach es X.env := by rfl) (hpl : (backTo pos (starEach es X.env)).any (·.1) = false := by rfl)
    (ht : eval (.Call (.Attribute o m apos) (e :: es) [] pos) X.env = (do
      let ov ← eval o X.env
      standAt apos.atName
      let (f, first) ← holding [ov] (getMethod ov m pl)
      callWith pos f first (backTo pos (starEach (e :: es) X.env)) (backToKw pos (keywordEach [] X.env))) := by rfl) :
    PE X (.Call (.Attribute o m apos) (e :: es) [] pos) (tMeth Cc m sp [] E ta t) := by
  refine ⟨fun pins s σ H Q I h => ?_⟩
  refine PySem.W.methodCall_KW (pl := pl) (thn (he.run pins s σ H _ I h) fun u s1 ⟨x, H1, I1, rx, a, dx, fs, ex, ea, l, q⟩ => ?_) ht
  subst ex
  obtain rfl : u = Value.ref a := rx
  refine getmeth_ok I1 ea c hm l ?_
  refine PySem.W.callWith_K (first := [.ref a]) (h₀ := X.base) I.ok.mod.kin hm.kp (thn (ha.run pos pins s1 σ H1 _ I1 q) fun us s2 ⟨vs, H2, I2, r, q2⟩ => ⟨I2.kIn, ?_⟩) hst hpl
  exact run_gfn (us := .ref a :: us) (vs := .ref a :: vs) F hr hgd hb hx I2 (.cons rfl r) (by simpa using q2)
/-- o.m() -/
theorem gpe_meth0 {pl : Sem Bool} (he : PE X o ta) (c : Cls X.K Cc) (hm : Meth X.K Cc m g) (F : GFn X.prog X.w X.K X.mg X.base Xc k g fd ps sp) (hr : Room k X.A) (hgd : X.A.guards = some []) (hb : Binds X.K fd ps []) (hx : Passes Xc X E)
    (ht : eval (.Call (.Attribute o m apos) [] [] pos) X.env = (do
      let ov ← eval o X.env
      standAt apos.atName
      let (f, first) ← holding [ov] (getMethod ov m pl)
      callWith pos f first (backTo pos (starEach [] X.env)) (backToKw pos (keywordEach [] X.env))) := by rfl) :
    PE X (.Call (.Attribute o m apos) [] [] pos) (tMeth Cc m sp [] E ta tNil) := by
  refine ⟨fun pins s σ H Q I h => ?_⟩
  refine PySem.W.methodCall_KW (pl := pl) (thn (he.run pins s σ H _ I h) fun u s1 ⟨x, H1, I1, rx, a, dx, fs, ex, ea, l, q⟩ => ?_) ht
  subst ex
  obtain rfl : u = Value.ref a := rx
  refine getmeth_ok I1 ea c hm l ?_
  exact PySem.W.callWith_K0 (first := [.ref a]) I1.kIn hm.kp (run_gfn (us := [.ref a]) (vs := [.ref a]) F hr hgd hb hx I1 (.cons rfl .nil) q)
theorem run_gmake {pins : List (Addr × Obj)} {σ : L2.St} {H : Hp} {s : Shared} {Q : VK} {us : List Value} {vs : List V} (M : Mk X.K Cc g) (F : GFn X.prog X.w X.K X.mg X.base Xc k g fd ps sp) (hr : Room (k + 1) X.A) (hgd : X.A.guards = some []) (hb : Binds X.K fd ps [])
    (hx : Passes Xc X E) (I : Inv X pins σ H s) (r : Vals vs us)
    (h : ∀ x dx, H x = none → H dx = none → dx ≠ x → sp (.ref x :: vs) (upd (upd H dx (.own x)) x (.ins Cc dx [])) (fun v H2 => v = .non ∧ Q (.ref x) H2) E) :
    wpAny (model X.prog X.w) X.A (call (.ref Cc) us) (EP X pins σ Q) X.xe s := by
  have hq := h (s.heap.objs.size + 1) s.heap.objs.size (I.hok.fresh (Nat.le_succ _)) (I.hok.fresh (Nat.le_refl _)) (Nat.ne_of_lt (Nat.lt_succ_self _))
  have I2 := Inv.made (C := Cc) I
  have r2 : Vals (V.ref (s.heap.objs.size + 1) :: vs) (Value.ref (s.heap.objs.size + 1) :: us) := .cons rfl r
  have hl : (Value.ref (s.heap.objs.size + 1) :: us).length = ps.length := by
    have e := r2.length
    rw [F.len _ _ _ _ hq] at e
    exact e.symm
  have hgd2 : (X.A.under (.builtin "type.__call__" ⟨.ref Cc :: us, []⟩)).guards = some [] := by
    first
      | exact hgd
      | simpa [Around.under, Code.isGuard, Code.isFrame, guardIds] using hgd
  refine wpAny_call (make_map (f := g) I.kIn M.makes M.init (beq_iff_eq.mp M.fn) (codeAny_mono (F.run _ X.stack _ _ ⟨Value.ref (s.heap.objs.size + 1) :: us, []⟩ (Value.ref (s.heap.objs.size + 1) :: us) _ _ E (hr.make Cc us []) hgd2
    (I2.env0.make Cc us []) ?_ r2 hq) fun r s' hq' => ?_))
  · have := hb _ (Value.ref (s.heap.objs.size + 1) :: us) I2.kIn (by simpa using hl)
    simpa using this
  · cases r with
    | error e => exact hx pins σ _ _ e s' I2 hq'
    | ok fl =>
      cases fl with
      | ret u =>
        obtain ⟨v, H', I3, rv, ev, q3⟩ := I2.after hq'
        subst ev
        exact ⟨rv, ⟨V.ref (s.heap.objs.size + 1), H', I3, rfl, q3⟩⟩
      | next => exact False.elim hq'
      | brk => exact False.elim hq'
      | cont => exact False.elim hq'
theorem gpe_make (M : Mk X.K Cc g) (F : GFn X.prog X.w X.K X.mg X.base Xc k g fd ps sp) (hr : Room (k + 1) X.A) (hgd : X.A.guards = some []) (hg : Gl X x) (hm : X.mg x = some (.ref Cc)) (hb : Binds X.K fd ps []) (hx : Passes Xc X E)
    (ha : PA X (e :: es) t) (hdb : (x == ("__debug__" : Str)) = false := by decide) (he : starEach (e :: es) X.env = (false, eval e X.env) :: starEach es X.env := by rfl) (hpl : (backTo pos (starEach es X.env)).any (·.1) = false := by rfl) :
    PE X (.Call (.Name x p) (e :: es) [] pos) (fun σ H Q => t σ H fun vs H1 => ∀ x dx, H1 x = none → H1 dx = none → dx ≠ x → sp (.ref x :: vs) (upd (upd H1 dx (.own x)) x (.ins Cc dx [])) (fun v H2 => v = .non ∧ Q (.ref x) H2) E) := by
  refine ⟨fun pins s σ H Q I h => ?_⟩
  refine wpAny_Call_Name_kw (ld_glob I hg hm ?_ hdb)
  refine PySem.W.callWith_K (h₀ := X.base) I.ok.mod.kin M.kp (thn (ha.run pos pins s σ H _ I h) fun us s1 ⟨vs, H1, I1, r, q⟩ => ⟨I1.kIn, ?_⟩) he hpl
  exact run_gmake M F hr hgd hb hx I1 r q
/-- o.m(e, ..), the object at slot j -/
def clM (kl : Kl) (j n : Nat) (mm : ObF) (fs : AS) : ES := fun L ρ => if !L.pure then obE kl .bad (fun _ => (fs .bo ρ).bind fun p => obE kl .bad (fun xs => if p.1.length = n then (mm xs p.1).bind fun q => .ok (q.1, p.2.set j (.ob kl q.2)) else .bad) p.2[j]?) ρ[j]? else .bad
theorem nk_none {K : PySem.W.Frag} {H : Hp} {C : Col} {c : Nat} {kl : Kl} {us : List (Str × V)} {xs : List Fd} (r : ObR K H C c kl.ks us xs) {m : Str} (h : m ∉ kl.ks) : us.lookup m = none := by
  have h2 : m ∉ us.map (·.1) := by
    rw [r.keys]; exact fun z => h (List.mem_of_mem_take z)
  clear r
  induction us with
  | nil => rfl
  | cons a t ih =>
    obtain ⟨g, w⟩ := a
    rw [List.map_cons, List.mem_cons, not_or] at h2
    have hb : (m == g) = false := by simpa using h2.1
    rw [List.lookup, hb]
    exact ih h2.2
theorem de_callM (j : Nat) {xo : XO} {mm : ObF} {n : Nat} {pl : Sem Bool} (Fk : KlF X.K kl Cc) (hmt : Meth X.K Cc m g) (hmk : m ∉ kl.ks) (F : GFn X.prog X.w X.K X.mg X.base Xc k g fd ps (spG X.K xo (n + 1) (ofOb kl mm))) (hr : Room k X.A) (hgd : X.A.guards = some [])
    (hb : Binds X.K fd ps []) (hx : Passes Xc X E) (hE : ∀ c H', EW c H' → xo E c H') (hj : PE X (.Name y py) (tVar j)) (ha : DA X np EW (e :: es) fs)
    (hst : starEach (e :: es) X.env = (false, eval e X.env) :: starEach es X.env := by rfl) (hpl : (backTo pos (starEach es X.env)).any (·.1) = false := by rfl)
    (ht : eval (.Call (.Attribute (.Name y py) m apos) (e :: es) [] pos) X.env = (do
      let ov ← eval (.Name y py) X.env
      standAt apos.atName
      let (f, first) ← holding [ov] (getMethod ov m pl)
      callWith pos f first (backTo pos (starEach (e :: es) X.env)) (backToKw pos (keywordEach [] X.env))) := by rfl) :
    DE X np EW (.Call (.Attribute (.Name y py) m apos) (e :: es) [] pos) (clM kl j n mm fs) :=
  PE.weak (gpe_meth hj Fk.cl hmt F hr hgd hb hx ha hst hpl ht) fun σ H Q ⟨L, C, ρ, R, h⟩ => by
    unfold clM at h
    by_cases hL : (!L.pure) = true
    · rw [if_pos hL] at h
      have hLp : L.pure = false := by simpa using hL
      obtain ⟨xs0, e0, h⟩ := obE_wp h
      obtain ⟨a, dx, us, hs, hao, hc, ro, pn⟩ := ob_slot Fk R e0
      refine ⟨_, hs, a, dx, us, rfl, hao, nk_none ro hmk, tA_of (L := .bo) R h fun p vs H1 C1 A1 R1 r1 h1 => ?_⟩
      obtain ⟨xs, e1, h1⟩ := obE_wp h1
      by_cases hl : p.1.length = n
      · rw [if_pos hl] at h1
        rw [List.append_nil]
        refine spG_ob Fk R1 e1 hs (r1.imp fun b hb => ?_) hl (wp_mono (wp_bind.mp h1) (fun q _ hq v H' C' S R' rv => ?_) fun c hc H' C' S => hE c H' (hc H' C' S))
        · have hb' : Lv.bo.okb (C1 b) = true := hb
          simp [Lv.okb] at hb'
          omega
        · exact hq v H' C' ⟨A1.stp.trans S, fun z => by rw [hLp] at z; cases z⟩ R' (rv.imp fun b hb => by unfold Cof; rw [hb]; exact L.ok0)
      · rw [if_neg hl] at h1; exact h1.elim
    · rw [if_neg hL] at h; exact h.elim
/-- o.m() -/
theorem de_callM0 (j : Nat) {xo : XO} {mm : ObF} {pl : Sem Bool} (Fk : KlF X.K kl Cc) (hmt : Meth X.K Cc m g) (hmk : m ∉ kl.ks) (F : GFn X.prog X.w X.K X.mg X.base Xc k g fd ps (spG X.K xo 1 (ofOb kl mm))) (hr : Room k X.A) (hgd : X.A.guards = some [])
    (hb : Binds X.K fd ps []) (hx : Passes Xc X E) (hE : ∀ c H', EW c H' → xo E c H') (hj : PE X (.Name y py) (tVar j))
    (ht : eval (.Call (.Attribute (.Name y py) m apos) [] [] pos) X.env = (do
      let ov ← eval (.Name y py) X.env
      standAt apos.atName
      let (f, first) ← holding [ov] (getMethod ov m pl)
      callWith pos f first (backTo pos (starEach [] X.env)) (backToKw pos (keywordEach [] X.env))) := by rfl) :
    DE X np EW (.Call (.Attribute (.Name y py) m apos) [] [] pos) (clM kl j 0 mm nilA) :=
  PE.weak (gpe_meth0 hj Fk.cl hmt F hr hgd hb hx ht) fun σ H Q ⟨L, C, ρ, R, h⟩ => by
    unfold clM at h
    by_cases hL : (!L.pure) = true
    · rw [if_pos hL] at h
      have hLp : L.pure = false := by simpa using hL
      obtain ⟨xs, e0, h⟩ := obE_wp h
      obtain ⟨a, dx, us, hs, hao, hc, ro, pn⟩ := ob_slot Fk R e0
      have h1 : wp (obE kl .bad (fun xs => if ([] : List D).length = 0 then (mm xs []).bind fun q => .ok (q.1, ρ.set j (.ob kl q.2)) else .bad) ρ[j]?) _ _ := h
      obtain ⟨xs', e1, h1⟩ := obE_wp h1
      rw [if_pos (show ([] : List D).length = 0 from rfl)] at h1
      refine ⟨_, hs, a, dx, us, rfl, hao, nk_none ro hmk, ?_⟩
      refine spG_ob Fk R e1 hs .nil rfl (wp_mono (wp_bind.mp h1) (fun q _ hq v H' C' S R' rv => ?_) fun c hc H' C' S => hE c H' (hc H' C' S))
      exact hq v H' C' ⟨S, fun z => by rw [hLp] at z; cases z⟩ R' (rv.imp fun b hb => by unfold Cof; rw [hb]; exact L.ok0)
    · rw [if_neg hL] at h; exact h.elim
/-- x = C(e, ..) -/
def mkS (np i : Nat) (kl : Kl) (n : Nat) (mm : ObF) (fs : AS) : SS := fun ρ => if np ≤ i then (fs .bo ρ).to fun p => if p.1.length = n ∧ i < p.2.length then (mm [] p.1).to fun q => if isNd q.1 then .nx (p.2.set i (.ob kl q.2)) else .bad else .bad else .bad
theorem ds_make {i : Nat} {z : Str} {pos' : Pos} {xo : XO} {mm : ObF} {n : Nat} (Fk : KlF X.K kl Cc) (M : Mk X.K Cc g) (F : GFn X.prog X.w X.K X.mg X.base Xc k g fd ps (spG X.K xo (n + 1) (ofOb kl mm))) (hr : Room (k + 1) X.A) (hgd : X.A.guards = some []) (hg : Gl X x) (hm : X.mg x = some (.ref Cc))
    (hb : Binds X.K fd ps []) (hx : Passes Xc X E) (hE : ∀ c H', EW c H' → xo E c H') (ha : DA X np EW (e :: es) fs) (hN : X.N.Nodup) (hi : X.N[i]? = some z) (hz : Loc X.env.scope z)
    (hdb : (x == ("__debug__" : Str)) = false := by decide) (he : starEach (e :: es) X.env = (false, eval e X.env) :: starEach es X.env := by rfl) (hpl : (backTo apos (starEach es X.env)).any (·.1) = false := by rfl)
    (hs : swapsWith (.Call (.Name x p) (e :: es) [] apos) (some (.Name z pos')) pos.line X.env = pure false := by rfl) (hf : X.fn z = true ∨ X.env.scope.names.lookup z = some .local := by first | exact .inl rfl | exact .inr rfl | assumption) :
    DS X np EW (.Assign [.Name z pos'] (.Call (.Name x p) (e :: es) [] apos) pos) (mkS np.n i kl n mm fs) :=
  PS.weak (ps_set hN hi hz (gpe_make M F hr hgd hg hm hb hx ha hdb he hpl) hs hf) fun Dn σ H ⟨C, ρ, R, h⟩ => by
    unfold mkS at h
    by_cases hn : np.n ≤ i
    · rw [if_pos hn] at h
      refine toA_of (L := .bo) R h fun p vs H1 C1 A1 R1 r1 h1 => ?_
      by_cases hl : p.1.length = n ∧ i < p.2.length
      · rw [if_pos hl] at h1
        obtain ⟨hl, hlt⟩ := hl
        intro x dx hx0 hdx hne
        -- the new instance
        have hx1 : upd H1 dx (.own x) x = none := by rw [upd_ne (Ne.symm hne)]; exact hx0
        have S1 := pstp_new (C := C1) (o := .own x) (n := 0) hdx
        have S2 := pstp_new (C := setC C1 dx 0) (o := .ins Cc dx []) (n := i + 3) hx1
        have S := S1.trans S2
        have R2 := R1.pstp S
        have R3 : Rel X.K np (upd (upd H1 dx (.own x)) x (.ins Cc dx [])) (setC (setC C1 dx 0) x (i + 3)) (σ.set i (some (.ref x))) (p.2.set i (.ob kl [])) :=
          R2.set (.ob upd_same setC_same Fk.ns ⟨Nat.zero_le _, rfl, fun k x h => by simp at h, fun k l ds es b f g _ h => by simp at h⟩ fun z => absurd hn (by omega))
        refine spG_ob Fk R3 (List.getElem?_set_self hlt) (List.getElem?_set_self (by rw [R1.len]; exact hlt)) ((S.rpA (P := fun c => Lv.bo.okb c = true) r1).imp fun b hb => ?_) hl ?_
        · simp [Lv.okb] at hb
          omega
        · cases e : mm [] p.1 with
          | bad => rw [e] at h1; exact h1.elim
          | ex c => rw [e] at h1; exact fun H' C' T => hE c H' (h1 H' C' (S.stp.trans T))
          | ok q =>
            rw [e] at h1
            intro v H' C' T R' rv
            have h2 : pst X.K np EW Dn H1 C1 (if isNd q.1 = true then .nx (p.2.set i (.ob kl q.2)) else .bad) := h1
            by_cases hd : isNd q.1 = true
            · rw [if_pos hd] at h2
              have hv : v = .non := by
                have := isNd_iff rv
                rw [hd] at this
                simpa using this
              rw [List.set_set] at R'
              exact ⟨hv, h2 _ H' C' (S.stp.trans T) R'⟩
            · rw [if_neg hd] at h2; exact h2.elim
      · rw [if_neg hl] at h1; exact h1.elim
    · rw [if_neg hn] at h; exact h.elim
end
section
variable {P : Program} {w : World} {K : PySem.W.Frag} {mg : Str → Option Value} {base : Heap}
theorem spG_ofOb {kl : Kl} {xo : XO} {n m : Nat} {F : SS} {vs : List V} {H : Hp} {Q : VK} {E : XK} (h : spG K xo n (ofOb kl (obOf kl m F)) vs H Q E) : spG K xo n (bodyF m F) vs H Q E := by
  obtain ⟨h1, C, np, as, h2, h3, h4, hw⟩ := h
  refine ⟨h1, C, np, as, h2, h3, h4, ?_⟩
  cases as with
  | nil => exact hw.elim
  | cons a r =>
    cases a with
    | ob kl' xs =>
      unfold ofOb at hw
      by_cases hk : kl' = kl
      · subst hk
        simp only [if_true] at hw
        cases e : r.mapM unbo with
        | none => simp only [e] at hw; exact hw.elim
        | some ds =>
          have ea := mapM_unbo e
          subst ea
          simp only [e] at hw
          unfold obOf at hw
          cases e2 : bodyF m F (.ob kl' xs :: ds.map Sl.bo) with
          | bad => rw [e2] at hw; exact hw.elim
          | ex c => rw [e2] at hw; exact hw
          | ok p =>
            rw [e2] at hw
            have sh : ∃ x, p.2 = outF (.ob kl' xs :: ds.map Sl.bo) x := by
              unfold bodyF at e2
              cases e3 : F (.ob kl' xs :: ds.map Sl.bo ++ List.replicate m .no) <;> rw [e3] at e2 <;> simp [finF] at e2
              · exact ⟨_, by rw [← e2]⟩
              · exact ⟨_, by rw [← e2]⟩
            obtain ⟨x, hx⟩ := sh
            obtain ⟨d, ρ⟩ := p
            have hx' : ρ = outF (.ob kl' xs :: ds.map Sl.bo) x := hx
            subst hx'
            cases x with
            | nil => exact hw.elim
            | cons s t =>
              cases s with
              | ob kl2 xs2 =>
                rw [outF, outF_bo] at hw ⊢
                have hw' : wp ((if kl2 = kl' then Re.ok (d, xs2) else .bad).bind fun p => .ok (p.1, Sl.ob kl' p.2 :: (ds.map Sl.bo).map fun _ => Sl.no)) _ _ := hw
                by_cases hk2 : kl2 = kl'
                · subst hk2
                  rw [if_pos rfl] at hw'
                  exact hw'
                · rw [if_neg hk2] at hw'; exact hw'.elim
              | _ => exact hw.elim
      · simp only [hk, if_false] at hw
        exact hw.elim
    | _ => exact hw.elim
theorem g_ob {kl : Kl} {x qual : Str} {st : Stmt} {f : Addr} {fd : FuncData} {N ps : List Str} {k m : Nat} {F : SS} (Fn : Fun K x qual st f fd) (Sc : FnScope N ps (defScope st)) (hN : N.length = ps.length + m)
    (hbody : ∀ (np : Fp) (cdv : Value) (A : Around) (outer : List PySem.Env) (s : Shared) (H : Hp) (E : XK), np.n = ps.length → Room k (A.deeper (envOfC qual (defScope st) s.heap.objs.size f cdv)) → A.guards = some [] →
      DSs (cxOf CX0 P w K mg base N qual (defScope st) f cdv A outer s H E).nox np (fun _ _ => False) (defBody st) F) : GFn P w K mg base CX0 (k + 1) f fd ps (spG K (fun _ _ _ => False) ps.length (ofOb kl (obOf kl m F))) :=
  (g_fn Fn Sc hN hbody).imp fun _ _ _ _ h => spG_ofOb h
end
end
end Dm

namespace Dm
noncomputable section
open PySem PySem.Spec PyProof.Rows L2
/-! ### t.index(i) of a tuple of ints -/
def rIndexI (K : PySem.W.Frag) : V → List V → Hp → VK → Prop := fun x xs H Q => ∃ (p : Addr) (ns : List Int) (z : Int) (j : Nat), x = .ref p ∧ xs = [.int z] ∧ SqT K H p (ns.map V.int) ∧ ns[j]? = some z ∧ (∀ m, m < j → ns[m]? ≠ some z) ∧ Q (.int (j : Nat)) H
theorem mt_indexI {X : Cx} : MtR X "tuple.index" (rIndexI X.K) := by
  rintro pins s σ H x xs v us Q I rx rs ⟨p, ns, z, j, rfl, rfl, hq, hz, hno, q⟩
  cases rx
  obtain ⟨u, rfl, t, rfl⟩ := vals1 rs
  obtain ⟨its, r, pl, hs⟩ := I.tuple hq
  obtain ⟨⟨cls, dd, dt, sl⟩, ho, hc, n, hd⟩ := pl
  simp only at hc hd
  subst hc hd
  have len : its.toArray.size = ns.length := by
    have := r.length
    rw [List.length_map] at this
    rw [List.size_toArray, this]
  have hjs : j < its.toArray.size := by rw [len]; exact (List.getElem?_eq_some_iff.mp hz).1
  have item : ∀ (m : Nat) (hm : m < its.toArray.size), ∃ y t', ns[m]? = some y ∧ its.toArray[m] = Value.int y t' := fun m hm => by
    have hm2 : m < ns.length := by rw [← len]; exact hm
    obtain ⟨w, hw, t', e⟩ := r.get (i := m) (x := .int ns[m]) (by simp [hm2])
    have e2 := (List.getElem?_eq_some_iff.mp hw).2
    exact ⟨ns[m], t', List.getElem?_eq_getElem hm2, by rw [← e, ← e2]; simp⟩
  refine call_meets PySem.F.slot_tuple_index ⟨_, ho, rfl⟩ PySem.F.entry_tuple_index (PySem.F.args_tuple_index_2 _ _) (TI.tuple_indexAt p its.toArray n dd sl (.int z t) (eqU (.int z)) j hjs ?_ ?_)
    ⟨ho, fun w hw => mem_eqAt (x := .int z) ⟨t, rfl⟩ rfl r flat_ints w (by simpa using hw), ⟨.int (j : Nat), H, I.tok _, ⟨_, rfl⟩, q⟩⟩
  · obtain ⟨y, t', e1, e2⟩ := item j hjs
    rw [hz] at e1
    cases e1
    rw [e2]
    exact beq_self_eq_true z
  · intro m hm hmj
    obtain ⟨y, t', e1, e2⟩ := item m hm
    rw [e2]
    exact beq_eq_false_iff_ne.mpr fun e => hno m hmj (e ▸ e1)
/-- a method of a tuple known by its object -/
def isX (K : PySem.W.Frag) (x : V) (H : Hp) : Prop := ∃ p us, x = .ref p ∧ SqX K H p us
theorem isX_ty {X : Cx} {pins : List (Addr × Obj)} {σ : L2.St} {H : Hp} {s : Shared} {x : V} {v : Value} (I : Inv X pins σ H s) (r : RelV x v) (h : isX X.K x H) : s.TypeIs v "tuple" ∧ ∀ a, v = .ref a → ∃ ob, s.heap.get? a = some ob ∧ ob.dict = none := by
  obtain ⟨p, us, rfl, h⟩ := h
  cases r
  obtain ⟨its, _, pl, _⟩ := I.tuple h.sq
  refine ⟨(show s.heap.IsTuple p its.toArray from pl).typeIs, fun a e => ?_⟩
  cases e
  rcases h with ⟨o, h, hd⟩ | ⟨o, _, _, hk, _, hd, _⟩
  · exact ⟨o, (I.hok p _ h).1, hd⟩
  · exact ⟨o, I.kIn _ _ hk, hd⟩
theorem pe_bmX {X : Cx} {o e : Expr} {es : List Expr} {to : TE} {t : TA} {name : Str} {apos cpos : Pos} {id : String} {r : V → List V → Hp → VK → Prop} (slot : Slot "tuple" name id) (hty : typeOf (.builtin id) = pure (.type "method_descriptor")) (hm : MtR X id r) (ho : PE X o to) (ha : PA X (e :: es) t)
    (hbase : attributeBase o name X.env (eval o X.env) = eval o X.env := by rfl)
    (hfew : ((backTo cpos (starEach (e :: es) X.env)).all (fun x => !x.1) && (backToKw cpos (keywordEach [] X.env)).all (fun x => x.1.isSome)
      && decide ((e :: es).length + ([] : List Keyword).length + (if ([] : List Keyword).isEmpty then 0 else 1) < 30)) = true := by rfl)
    (hline : (apos.endLine == cpos.line) = true := by rfl) (hs : starEach (e :: es) X.env = (false, eval e X.env) :: starEach es X.env := by rfl) (hplain : (backTo cpos (starEach es X.env)).any (·.1) = false := by rfl) :
    PE X (.Call (.Attribute o name apos) (e :: es) [] cpos) (fun σ H Q => to σ H fun x H1 => isX X.K x H1 ∧ t σ H1 fun xs H2 => r x xs H2 Q) := by
  refine ⟨fun pins s σ H Q I h => wpAny_Call_method_late hbase hfew hline rfl (thn (ho.run pins s σ H _ I h) fun v s1 ⟨x, H1, I1, r1, ty, q1⟩ => ?_)⟩
  obtain ⟨h1, h2⟩ := isX_ty I1 r1 ty
  refine ⟨"tuple", id, PySem.F.plainAttrs_tuple, slot, hty, h1, h2, ?_⟩
  have hA := ha.run cpos pins s1 σ H1 _ I1 q1
  rw [hs] at hA ⊢
  exact Calls.callWith_builtin (show (false || (backTo cpos (starEach es X.env)).any (·.1)) = false by rw [hplain] <;> rfl) (Calls.evalArgs_plain (thn hA fun us s2 ⟨vs, H2, I2, r2, q2⟩ => hm pins s2 σ H2 x vs v us Q I2 r1 r2 q2))
def idxTD : D → D → Option D
  | .tuple ds, .int i => (ints? ds).bind fun ns => (ns.findIdx? (fun z => z == i)).map fun j => .int (j : Nat)
  | _, _ => none
def isTu : D → Bool
  | .tuple _ => true
  | _ => false
@[simp] theorem isTu_tup {ds : List D} : isTu (.tuple ds) = true := rfl
def idxTE (fo fe : ES) : ES := fun L ρ => (fo L ρ).bind fun p => if isTu p.1 then (fe L p.2).bind fun q => (ofO (idxTD p.1 q.1)).bind fun d => .ok (d, q.2) else .bad
@[simp] theorem ev_idxTE {fo fe : ES} {L : Lv} {ρ : Slots} : idxTE fo fe L ρ = (fo L ρ).bind fun p => if isTu p.1 then (fe L p.2).bind fun q => (ofO (idxTD p.1 q.1)).bind fun d => .ok (d, q.2) else .bad := Eq.trans rfl rfl
section
variable {X : Cx} {np : Fp} {EW : XW} {o e : Expr} {fo fe : ES} {apos cpos : Pos}
theorem de_indexT (ho : DE X np EW o fo) (he : DE X np EW e fe)
    (hpe : ∀ {to t : TE}, MtR X "tuple.index" (rIndexI X.K) → PE X o to → PE X e t → PE X (.Call (.Attribute o "index" apos) [e] [] cpos) (fun σ H Q => to σ H fun x H1 => isX X.K x H1 ∧ tCons t tNil σ H1 fun xs H2 => rIndexI X.K x xs H2 Q)) : DE X np EW (.Call (.Attribute o "index" apos) [e] [] cpos) (idxTE fo fe) :=
  PE.weak (hpe mt_indexI ho he) fun σ H Q ⟨L, C, ρ, R, h⟩ => by
    refine tE_of R h fun p x H1 C1 A1 R1 r1 h1 => ?_
    obtain ⟨d1, ρ1⟩ := p
    cases d1 with
    | tuple ds =>
      obtain ⟨a, us, rfl, ha, rr⟩ := r1.tup_invX
      refine ⟨⟨a, us, rfl, ha⟩, tE_of R1 h1 fun q y H2 C2 A2 R2 r2 h2 => ?_⟩
      obtain ⟨d2, ρ2⟩ := q
      obtain ⟨d, e, h3⟩ := wp_ofO (wp_bind.mp h2)
      cases d2 with
      | int i =>
        obtain rfl := r2.int_inv
        simp only [idxTD] at e
        cases e2 : ints? ds with
        | none => rw [e2] at e; cases e
        | some ns =>
          rw [e2] at e
          have := ints?_some e2
          subst this
          have eu := (A2.rpA rr).ints
          subst eu
          cases ej : ns.findIdx? (fun z => z == i) with
          | none => simp only [Option.bind, ej] at e; cases e
          | some j =>
            simp only [Option.bind, ej, Option.map] at e
            cases e
            obtain ⟨hj, hj1, hj2⟩ := List.findIdx?_eq_some_iff_getElem.mp ej
            have hji : ns[j] = i := by simpa using hj1
            refine ⟨a, ns, i, j, rfl, rfl, SqT.keep ha.sq A2.moves.2, by rw [List.getElem?_eq_getElem hj, hji], fun m hm z => ?_, h3 _ H2 C2 (A1.trans A2) R2 (.int _)⟩
            obtain ⟨hm1, hm2⟩ := List.getElem?_eq_some_iff.mp z
            have := hj2 m hm
            rw [hm2] at this
            simp at this
      | _ => cases e
    | _ => exact h1.elim
end
@[simp] theorem ev_obE {α : Type} {kl : Kl} {b : α} {k : List Fd → α} {xs : List Fd} : obE kl b k (some (.ob kl xs)) = k xs := if_pos rfl
@[simp] theorem ev_fdG {α : Type} {b : α} {k : List D → α} {ds : List D} : fdG b k (some (.ow ds)) = k ds := Eq.trans rfl rfl
@[simp] theorem ev_fdE {kl : Kl} {j k : Nat} {L : Lv} {ρ : Slots} : fdE kl j k L ρ = obE kl .bad (fun xs => match xs[k]? with
  | some (.va d) => .ok (d, ρ)
  | some (.ow ds) => if L.okb (j + 3) then .ok (.list ds, ρ) else .bad
  | none => .bad) ρ[j]? := Eq.trans rfl rfl
@[simp] theorem ev_fsS {kl : Kl} {j k : Nat} {fe : ES} {ρ : Slots} : fsS kl j k fe ρ = (fe .an ρ).to fun p => obE kl .bad (fun xs => if noL p.1 && decide (k ≤ xs.length) then .nx (p.2.set j (.ob kl (putX k (.va p.1) xs))) else .bad) p.2[j]? := Eq.trans rfl rfl
@[simp] theorem ev_flS {kl : Kl} {j k : Nat} {fs : AS} {ρ : Slots} : flS kl j k fs ρ = (fs .an ρ).to fun p => obE kl .bad (fun xs => if noLs p.1 && decide (k ≤ xs.length) then .nx (p.2.set j (.ob kl (putX k (.ow p.1) xs))) else .bad) p.2[j]? := Eq.trans rfl rfl
@[simp] theorem ev_faS {kl : Kl} {j k : Nat} {fe : ES} {ρ : Slots} : faS kl j k fe ρ = obE kl .bad (fun xs => fdG .bad (fun ds => (fe .an ρ).to fun p => if noL p.1 && decide (ds.length < sizeLine) then .nx (ρ.set j (.ob kl (xs.set k (.ow (ds ++ [p.1]))))) else .bad) xs[k]?) ρ[j]? := Eq.trans rfl rfl
@[simp] theorem ev_fuS {kl : Kl} {j k : Nat} {g : Int → Int → Int} {fi fe : ES} {ρ : Slots} : fuS kl j k g fi fe ρ = obE kl .bad (fun xs => fdG .bad (fun ds => (fi .an ρ).to fun q => (isI q.1).to fun i => if 0 ≤ i then (match ds[i.toNat]? with
  | some old => (fe .an ρ).to fun p => (match ipAdd g old p.1 with
    | some new => .nx (ρ.set j (.ob kl (xs.set k (.ow (ds.set i.toNat new)))))
    | none => .bad)
  | none => .bad) else .bad) xs[k]?) ρ[j]? := Eq.trans rfl rfl
@[simp] theorem ev_clM {kl : Kl} {j n : Nat} {mm : ObF} {fs : AS} {L : Lv} {ρ : Slots} : clM kl j n mm fs L ρ = if !L.pure then obE kl .bad (fun _ => (fs .bo ρ).bind fun p => obE kl .bad (fun xs => if p.1.length = n then (mm xs p.1).bind fun q => .ok (q.1, p.2.set j (.ob kl q.2)) else .bad) p.2[j]?) ρ[j]? else .bad := Eq.trans rfl rfl
@[simp] theorem ev_mkS {np i : Nat} {kl : Kl} {n : Nat} {mm : ObF} {fs : AS} {ρ : Slots} : mkS np i kl n mm fs ρ = if np ≤ i then (fs .bo ρ).to fun p => if p.1.length = n ∧ i < p.2.length then (mm [] p.1).to fun q => if isNd q.1 then .nx (p.2.set i (.ob kl q.2)) else .bad else .bad else .bad := Eq.trans rfl rfl
theorem ob_eq {kl : Kl} {m : Nat} {f : SS} {xs : List Fd} {ds : List D} : obOf kl m f xs ds = (finF (.ob kl xs :: ds.map Sl.bo) (f (.ob kl xs :: ds.map Sl.bo ++ List.replicate m .no))).bind fun p => match p.2 with
  | .ob kl' xs' :: _ => if kl' = kl then .ok (p.1, xs') else .bad
  | _ => .bad := Eq.trans rfl rfl
@[simp] theorem selF_ob {k1 k2 : Kl} {a b : List Fd} : selF (.ob k1 a) (.ob k2 b) = .ob k2 b := Eq.trans rfl rfl
@[simp] theorem putX_lt {k : Nat} {x : Fd} {xs : List Fd} (h : k < xs.length) : putX k x xs = xs.set k x := if_pos h
@[simp] theorem putX_ge {k : Nat} {x : Fd} {xs : List Fd} (h : ¬ k < xs.length) : putX k x xs = xs ++ [x] := if_neg h
end
end Dm

namespace Dm
noncomputable section
open PySem PySem.Spec PyProof.Rows L2
/-! ### xs[i], xs a list of one's own with plain items, i with effects -/
def owR {α : Type} (o : Option Sl) (k : List D → Re α) : Re α := match o with
  | some (.ow ds) => k ds
  | _ => .bad
@[simp] theorem owR_ow {α : Type} {ds : List D} {k : List D → Re α} : owR (some (.ow ds)) k = k ds := Eq.trans rfl rfl
theorem owR_wp {α : Type} {o : Option Sl} {k : List D → Re α} {Q : α → Prop} {E : Exn → Prop} (h : wp (owR o k) Q E) : ∃ ds, o = some (.ow ds) ∧ wp (k ds) Q E := by
  unfold owR at h
  split at h
  · exact ⟨_, rfl, h⟩
  · exact h.elim
def oixE (j : Nat) (fi : ES) : ES := fun L ρ => owR ρ[j]? fun _ => (fi L ρ).bind fun q => owR q.2[j]? fun ds => (ofO (ixD (.list ds) q.1)).bind fun d => if noL d then .ok (d, q.2) else .bad
@[simp] theorem ev_oixE {j : Nat} {fi : ES} {L : Lv} {ρ : Slots} : oixE j fi L ρ = owR ρ[j]? fun _ => (fi L ρ).bind fun q => owR q.2[j]? fun ds => (ofO (ixD (.list ds) q.1)).bind fun d => if noL d then .ok (d, q.2) else .bad := Eq.trans rfl rfl
section
variable {X : Cx} {np : Fp} {EW : XW} {i : Expr} {fi : ES} {x : Str} {px pos : Pos}
theorem de_oix (j : Nat) (hj : PE X (.Name x px) (tVar j)) (hi : DE X np EW i fi) (hs : PlainIx i := by exact fun _ _ => rfl) : DE X np EW (.Subscript (.Name x px) i pos) (oixE j fi) :=
  PE.weak (pe_ix ix_list hj hi hs) fun σ H Q ⟨L, C, ρ, R, h⟩ => by
    unfold oixE at h
    obtain ⟨ds0, e0, h⟩ := owR_wp h
    obtain ⟨a, us0, hs, ha0, _, _⟩ := ow_get R e0
    refine ⟨.ref a, hs, tE_of R h fun q w H2 C2 A2 R2 r2 q2 => ?_⟩
    obtain ⟨ds, e, q2⟩ := owR_wp q2
    obtain ⟨a', us, hs', ha', hc', rr⟩ := ow_get R2 e
    rw [hs] at hs'; cases hs'
    obtain ⟨d, e1, q3⟩ := wp_ofO (wp_bind.mp q2)
    obtain ⟨dq, ρ2⟩ := q
    by_cases hn : noL d = true
    · rw [if_pos hn] at q3
      cases dq <;> simp only [ixD, reduceCtorEq] at e1
      obtain rfl := r2.int_inv
      obtain ⟨v, hv, rv⟩ := atI_rp rr e1
      exact ⟨a, us, _, v, rfl, rfl, .of ha', hv, q3 v H2 C2 A2 R2 (rv.free hn)⟩
    · rw [if_neg hn] at q3; exact q3.elim
end
end
end Dm

namespace Dm
noncomputable section
open PySem PySem.Spec PyProof.Rows L2
/-! ### x, y = ([..], [..]): new lists that the names hold alone -/
/-- values that wait for their names; the new lists among them stand apart -/
inductive PdA (K : PySem.W.Frag) (H0 H : Hp) (C : Col) : List V → List Sl → List Addr → Prop
  | nil : PdA K H0 H C [] [] []
  | va {v : V} {d : D} {vs : List V} {ss : List Sl} {ts : List Addr} : Rp K H (fun b => C b = 0) v d → PdA K H0 H C vs ss ts → PdA K H0 H C (v :: vs) (.va d :: ss) ts
  | ow {t : Addr} {us : List V} {ds : List D} {vs : List V} {ss : List Sl} {ts : List Addr} : H t = some (.lst us) → C t = 2 → H0 t = none → RpA K H (fun b => C b = 0) us ds → t ∉ ts → PdA K H0 H C vs ss ts → PdA K H0 H C (.ref t :: vs) (.ow ds :: ss) (t :: ts)
section
variable {K : PySem.W.Frag} {np : Fp} {H0 H00 H H1 : Hp} {C C1 : Col}
theorem PdA.fresh {vs : List V} {ss : List Sl} {ts : List Addr} (r : PdA K H0 H C vs ss ts) : ∀ t ∈ ts, H0 t = none := by
  induction r with
  | nil => intro t h; simp at h
  | va _ _ ih => exact ih
  | ow _ _ h0 _ _ _ ih =>
    intro t h
    rcases List.mem_cons.mp h with rfl | h
    · exact h0
    · exact ih t h
theorem PdA.start {vs : List V} {ss : List Sl} {ts : List Addr} (h : ∀ b, H0 b = none → H00 b = none) (r : PdA K H0 H C vs ss ts) : PdA K H00 H C vs ss ts := by
  induction r with
  | nil => exact .nil
  | va r _ ih => exact .va r ih
  | ow a b c d e _ ih => exact .ow a b (h _ c) d e ih
theorem PdA.len {vs : List V} {ss : List Sl} {ts : List Addr} (r : PdA K H0 H C vs ss ts) : vs.length = ss.length := by
  induction r with
  | nil => rfl
  | va _ _ ih => simp [ih]
  | ow _ _ _ _ _ _ ih => simp [ih]
theorem Stp.mv0 (S : Stp np H C H1 C1) : (∀ b xs, C b = 0 → H b = some (.lst xs) → H1 b = some (.lst xs) ∧ C1 b = 0) ∧ ∀ b o, H b = some o → Imm o → H1 b = some o :=
  ⟨fun b xs h e => ⟨S.keep b _ e (.inl (by omega)), by rw [S.colo b (by rw [e]; simp) (by omega), h]⟩, fun b o e i => S.keep b o e (.inr i)⟩
theorem PdA.stp {vs : List V} {ss : List Sl} {ts : List Addr} (S : Stp np H C H1 C1) (r : PdA K H0 H C vs ss ts) : PdA K H0 H1 C1 vs ss ts := by
  induction r with
  | nil => exact .nil
  | va r _ ih => exact .va (r.move S.mv0.1 S.mv0.2) ih
  | ow a b c d e _ ih => exact .ow (S.keep _ _ a (.inl (by omega))) (by rw [S.colo _ (by rw [a]; simp) (by omega), b]) c (d.move S.mv0.1 S.mv0.2) e ih
/-- another colour for what nobody holds -/
theorem PdA.col {t : Addr} {n : Nat} {vs : List V} {ss : List Sl} {ts : List Addr} (h2 : C t = 2) (r : PdA K H0 H C vs ss ts) : t ∉ ts → PdA K H0 H (setC C t n) vs ss ts := by
  have e0 : ∀ b, C b = 0 → setC C t n b = 0 := fun b h => by
    rw [setC_ne (by intro z; rw [z] at h; omega)]; exact h
  induction r with
  | nil => exact fun _ => .nil
  | va r _ ih => exact fun h => .va (r.imp e0) (ih h)
  | @ow t' _ _ _ _ _ a b c d e _ ih => exact fun h => .ow a (by rw [setC_ne (fun z => h (by simp [z]))]; exact b) c (d.imp e0) e (ih fun z => h (List.mem_cons_of_mem _ z))
theorem SlotR.col {t : Addr} {n i : Nat} {o : Option (Option V)} {s : Sl} (h2 : C t = 2) (r : SlotR K np H C i o s) : SlotR K np H (setC C t n) i o s := by
  have e : ∀ b, C b ≠ 2 → setC C t n b = C b := fun b h => setC_ne (by intro z; rw [z] at h; exact h h2)
  cases r with
  | no => exact .no
  | va r => exact .va (r.imp fun b h => by rw [e b (by omega)]; exact h)
  | bo r => exact .bo (r.imp fun b h => by rw [e b (by omega)]; exact h)
  | ow a b c d => exact .ow a (by rw [e _ (by omega)]; exact b) (c.imp fun b h => by rw [e b (by omega)]; exact h) d
  | un r => exact .un (r.imp fun b h => by rw [e b (by omega)]; exact h)
  | sc h => exact .sc h
  | ob a b c d f => exact .ob a (by rw [e _ (by omega)]; exact b) c (d.move (fun b xs h1 h2 => ⟨h2, by rw [e b (by omega)]; exact h1⟩) fun _ _ h _ => h) f
  | dc a b c d => exact .dc a (by rw [e _ (by omega)]; exact b) c d
  | ex a b c => exact .ex a b c
  | tw t ha hb n ca cb x y r q => exact .tw t ha hb n (by rw [e _ (by omega)]; exact ca) (by rw [e _ (by omega)]; exact cb) x y r q
theorem Rel.col {t : Addr} {n : Nat} {σ : L2.St} {ρ : Slots} (h2 : C t = 2) (R : Rel K np H C σ ρ) : Rel K np H (setC C t n) σ ρ := ⟨R.len, fun i s h => (R.get i s h).col h2⟩
/-- the colours of what was there -/
def ColK (H : Hp) (C C' : Col) : Prop := ∀ b, H b ≠ none → C' b = C b
theorem Stp.recol {C2 : Col} (S : Stp np H C H1 C1) (h : ColK H C1 C2) : Stp np H C H1 C2 :=
  ⟨S.keep, S.there, fun b a c => by rw [h b a]; exact S.colo b a c, fun b a c => by rw [h b a]; exact S.colh b a c⟩
end
/-- a list of values and of new lists -/
abbrev MS := Slots → Re (List Sl × Slots)
def tM (K : PySem.W.Frag) (np : Fp) (EW : XW) (f : MS) : TA := fun σ H Q => ∃ C ρ, Rel K np H C σ ρ ∧
  wp (f ρ) (fun p => ∀ vs ts H' C', Stp np H C H' C' → Rel K np H' C' σ p.2 → PdA K H H' C' vs p.1 ts → Q vs H') (fun c => ∀ H' C', Stp np H C H' C' → EW c H')
abbrev DM (X : Cx) (np : Fp) (EW : XW) (es : List Expr) (f : MS) : Prop := PA X es (tM X.K np EW f)
def nilM : MS := fun ρ => .ok ([], ρ)
def vaM (fe : ES) (f : MS) : MS := fun ρ => (fe .va ρ).bind fun p => (f p.2).bind fun q => .ok (.va p.1 :: q.1, q.2)
def owM (fa : AS) (f : MS) : MS := fun ρ => (fa .va ρ).bind fun p => (f p.2).bind fun q => .ok (.ow p.1 :: q.1, q.2)
section
variable {X : Cx} {np : Fp} {EW : XW} {e : Expr} {es : List Expr} {fe : ES} {fa : AS} {f : MS} {pos : Pos}
theorem PA.weakM {t t' : TA} (h : PA X es t) (w : ∀ σ H Q, t' σ H Q → t σ H Q) : PA X es t' := ⟨fun sp pins s σ H Q I q => h.run sp pins s σ H Q I (w σ H Q q)⟩
theorem dm_nil : DM X np EW [] nilM := PA.weakM pa_nil fun σ H Q ⟨C, ρ, R, h⟩ => h [] [] H C .refl R .nil
theorem there_none {H H1 : Hp} (h : ∀ b, H b ≠ none → H1 b ≠ none) : ∀ b, H1 b = none → H b = none := fun b e => by
  cases q : H b with
  | none => rfl
  | some o => exact absurd e (h b (by rw [q]; simp))
theorem dm_va (h : DE X np EW e fe) (hr : DM X np EW es f) (hs : starEach (e :: es) X.env = (false, eval e X.env) :: starEach es X.env := by rfl) : DM X np EW (e :: es) (vaM fe f) :=
  PA.weakM (pa_cons h hr hs) fun σ H Q ⟨C, ρ, R, h⟩ => by
    refine ⟨.va, C, ρ, R, wp_mono (wp_bind.mp h) (fun p _ hp v H1 C1 A1 R1 r1 => ?_) fun c z => z⟩
    refine ⟨C1, p.2, R1, wp_mono (wp_bind.mp hp) (fun q _ hq vs ts H2 C2 S2 R2 r2 => ?_) fun c hc H' C' S => hc H' C' (A1.stp.trans S)⟩
    refine hq (v :: vs) ts H2 C2 (A1.stp.trans S2) R2 (.va ?_ (r2.start (there_none A1.stp.there)))
    have r1' : Rp X.K H1 (fun b => C1 b = 0) v p.1 := r1.imp fun b hb => by
      have hb' : Lv.va.okb (C1 b) = true := hb
      simpa [Lv.okb] using hb'
    exact r1'.move S2.mv0.1 S2.mv0.2
theorem dm_ow (h : DN X np EW e fa) (hr : DM X np EW es f) (hs : starEach (e :: es) X.env = (false, eval e X.env) :: starEach es X.env := by rfl) : DM X np EW (e :: es) (owM fa f) :=
  PA.weakM (pa_cons h hr hs) fun σ H Q ⟨C, ρ, R, h⟩ => by
    refine ⟨.va, C, ρ, R, wp_mono (wp_bind.mp h) (fun p _ hp t us H1 C1 A1 R1 ht r1 => ?_) fun c z => z⟩
    have P1 := pstp_new (C := C1) (o := .lst us) (n := 2) ht
    have S1 : Stp np H C _ _ := A1.stp.trans P1.stp
    refine ⟨setC C1 t 2, p.2, R1.pstp P1, wp_mono (wp_bind.mp hp) (fun q _ hq vs ts H2 C2 S2 R2 r2 => ?_) fun c hc H' C' S => hc H' C' (S1.trans S)⟩
    have hf : H t = none := there_none A1.stp.there t ht
    have ht1 : upd H1 t (.lst us) t = some (.lst us) := upd_same
    refine hq (.ref t :: vs) (t :: ts) H2 C2 (S1.trans S2) R2 (.ow (S2.keep _ _ ht1 (.inl (by rw [setC_same]; omega))) (by rw [S2.colo t (by rw [ht1]; simp) (by rw [setC_same]; omega), setC_same]) hf ?_ (fun z => ?_) (r2.start (there_none S1.there)))
    · have r1' : RpA X.K H1 (fun b => C1 b = 0) us p.1 := r1.imp fun b hb => by
        have hb' : Lv.va.okb (C1 b) = true := hb
        simpa [Lv.okb] using hb'
      exact (P1.rpA (P := fun c => c = 0) r1').move S2.mv0.1 S2.mv0.2
    · have := r2.fresh t z
      rw [ht1] at this; cases this
end
/-- .. stored at the names -/
def setM : Slots → List Nat → List Sl → Slots
  | ρ, i :: is, s :: ss => setM (ρ.set i s) is ss
  | ρ, _, _ => ρ
def okM (np : Nat) : List Nat → List Sl → Bool
  | [], [] => true
  | i :: is, .ow _ :: ss => decide (np ≤ i) && okM np is ss
  | _ :: is, _ :: ss => okM np is ss
  | _, _ => false
def setV : L2.St → List Nat → List V → L2.St
  | σ, i :: is, v :: vs => setV (σ.set i (some v)) is vs
  | σ, _, _ => σ
def mtS (np : Nat) (is : List Nat) (f : MS) : SS := fun ρ => (f ρ).to fun p => if okM np is p.1 then .nx (setM p.2 is p.1) else .bad
section
variable {K : PySem.W.Frag} {np : Fp} {H0 H : Hp}
theorem pd_set : ∀ {is : List Nat} {vs : List V} {ss : List Sl} {ts : List Addr} {C : Col} {σ : L2.St} {ρ : Slots}, PdA K H0 H C vs ss ts → Rel K np H C σ ρ → okM np.n is ss = true →
    ∃ C', ColK H0 C C' ∧ Rel K np H C' (setV σ is vs) (setM ρ is ss)
  | [], _, _, _, C, σ, ρ, .nil, R, _ => ⟨C, fun _ _ => rfl, R⟩
  | [], _, _, _, _, _, _, .va _ _, _, h => by simp [okM] at h
  | [], _, _, _, _, _, _, .ow _ _ _ _ _ _, _, h => by simp [okM] at h
  | _ :: _, _, _, _, _, _, _, .nil, _, h => by simp [okM] at h
  | i :: is, _, _, _, C, σ, ρ, @PdA.va _ _ _ _ v d vs ss ts r rr, R, h => by
    obtain ⟨C', k, R'⟩ := pd_set (is := is) rr (R.set (i := i) (.va r)) (by simpa [okM] using h)
    exact ⟨C', k, R'⟩
  | i :: is, _, _, _, C, σ, ρ, @PdA.ow _ _ _ _ t us ds vs ss ts a b c d e rr, R, h => by
    simp only [okM, Bool.and_eq_true, decide_eq_true_eq] at h
    have R2 : Rel K np H (setC C t (i + 3)) σ ρ := R.col b
    have R3 := R2.set (i := i) (v := .ref t) (s := .ow ds) (.ow a setC_same (d.imp fun x hx => by rw [setC_ne (by intro z; rw [z] at hx; omega)]; exact hx) fun z => by omega)
    obtain ⟨C', k, R'⟩ := pd_set (rr.col (n := i + 3) b e) R3 h.2
    refine ⟨C', fun x hx => ?_, R'⟩
    rw [k x hx, setC_ne]
    intro z; rw [z] at hx; exact hx c
end
section
variable {X : Cx} {np : Fp} {EW : XW} {es : List Expr} {f : MS} {pos : Pos}
theorem mt_end {σ : L2.St} {H H' : Hp} {C C' : Col} {Dn : Ends} {is : List Nat} {vs : List V} {p : List Sl × Slots} {ts : List Addr} (q : pst X.K np EW Dn H C (if okM np.n is p.1 then .nx (setM p.2 is p.1) else .bad)) (S : Stp np H C H' C') (R : Rel X.K np H' C' σ p.2) (r : PdA X.K H H' C' vs p.1 ts) : is.length = vs.length ∧ Dn.nx (setV σ is vs) H' := by
  by_cases h : okM np.n is p.1 = true
  · rw [if_pos h] at q
    obtain ⟨C2, k, R2⟩ := pd_set r R h
    refine ⟨?_, q _ _ _ (S.recol k) R2⟩
    rw [r.len]
    have key : ∀ (is : List Nat) (ss : List Sl), okM np.n is ss = true → is.length = ss.length := by
      intro is
      induction is with
      | nil => intro ss h; cases ss <;> simp [okM] at h ⊢
      | cons i is ih =>
        intro ss h
        cases ss with
        | nil => simp [okM] at h
        | cons s ss =>
          have : okM np.n is ss = true := by cases s <;> simp [okM] at h <;> first | exact h | exact h.2
          simp [ih ss this]
    exact key is p.1 h
  · rw [if_neg h] at q; exact q.elim
theorem ds_mt2 {i j : Nat} {x y : Str} {a b : Expr} {px py pt : Pos} {kt k2 pt2} (hc : X.calm = true) (hN : X.N.Nodup) (hi : X.N[i]? = some x) (hj : X.N[j]? = some y) (hij : i ≠ j)
    (hx : X.env.scope.names.lookup x = some .local) (hy : X.env.scope.names.lookup y = some .local) (ha : DM X np EW [a, b] f)
    (hw : swappedStores [.Tuple [.Name x px, .Name y py] kt pt] (.Tuple [a, b] k2 pt2) X.env = pure (some [x, y]))
    (hs : swapsWithSole [.Tuple [.Name x px, .Name y py] kt pt] (.Tuple [a, b] k2 pt2) pos.line X.env = pure false := by rfl) :
    DS X np EW (.Assign [.Tuple [.Name x px, .Name y py] kt pt] (.Tuple [a, b] k2 pt2) pos) (mtS np.n [i, j] f) :=
  PS.weak (ps_par hc hN hi hj hij hx hy ha hw hs) fun Dn σ H ⟨C, ρ, R, h⟩ => by
    unfold mtS at h
    refine ⟨C, ρ, R, ?_⟩
    cases e : f ρ with
    | bad => rw [e] at h; exact h.elim
    | ex c => rw [e] at h; exact h
    | ok p =>
      rw [e] at h
      intro vs ts H' C' S R' r
      obtain ⟨hl, q⟩ := mt_end h S R' r
      match vs, hl, q with
      | [v, w], _, q => exact ⟨v, w, rfl, q⟩
theorem ds_mt3 {i j l : Nat} {x y z : Str} {a b c : Expr} {px py pz pt : Pos} {kt k2 pt2} (hc : X.calm = true) (hN : X.N.Nodup) (hi : X.N[i]? = some x) (hj : X.N[j]? = some y) (hl : X.N[l]? = some z) (hij : i ≠ j) (hil : i ≠ l) (hjl : j ≠ l)
    (hx : X.env.scope.names.lookup x = some .local) (hy : X.env.scope.names.lookup y = some .local) (hz : X.env.scope.names.lookup z = some .local) (ha : DM X np EW [a, b, c] f)
    (hw : swappedStores [.Tuple [.Name x px, .Name y py, .Name z pz] kt pt] (.Tuple [a, b, c] k2 pt2) X.env = pure (some [x, y, z]))
    (hs : swapsWithSole [.Tuple [.Name x px, .Name y py, .Name z pz] kt pt] (.Tuple [a, b, c] k2 pt2) pos.line X.env = pure false := by rfl) :
    DS X np EW (.Assign [.Tuple [.Name x px, .Name y py, .Name z pz] kt pt] (.Tuple [a, b, c] k2 pt2) pos) (mtS np.n [i, j, l] f) :=
  PS.weak (ps_par3 hc hN hi hj hl hij hil hjl hx hy hz ha hw hs) fun Dn σ H ⟨C, ρ, R, h⟩ => by
    unfold mtS at h
    refine ⟨C, ρ, R, ?_⟩
    cases e : f ρ with
    | bad => rw [e] at h; exact h.elim
    | ex c => rw [e] at h; exact h
    | ok p =>
      rw [e] at h
      intro vs ts H' C' S R' r
      obtain ⟨hl, q⟩ := mt_end h S R' r
      match vs, hl, q with
      | [u, v, w], _, q => exact ⟨u, v, w, rfl, q⟩
/-- .. with names among them that an inner comprehension reads -/
def gVs (is : List Nat) : TGs := fun vs σ H Q => is.length = vs.length ∧ Q (setV σ is vs) H
theorem gvs_nil : PGs X [] (gVs []) := PGs.weak pgs_nil fun v σ H Q ⟨h, q⟩ => by
  cases v with
  | nil => exact ⟨rfl, q⟩
  | cons _ _ => cases h
theorem gvs_cons {i : Nat} {is : List Nat} {x : Str} {ts : List Expr} (hN : X.N.Nodup) (hi : X.N[i]? = some x) (hx : Loc X.env.scope x) (h2 : PGs X ts (gVs is)) (hf : X.fn x = true ∨ X.env.scope.names.lookup x = some .local := by first | exact .inl rfl | exact .inr rfl | assumption)
    (hs : (assignEach (.Name x pos :: ts) X.env).map (·.2) = assign (.Name x pos) X.env :: (assignEach ts X.env).map (·.2) := by rfl) : PGs X (.Name x pos :: ts) (gVs (i :: is)) :=
  PGs.weak (pgs_cons (pg_name hN hi hx hf) h2 hs) fun vs σ H Q ⟨h, q⟩ => by
    cases vs with
    | nil => cases h
    | cons v r => exact ⟨v, r, rfl, by simpa using h, q⟩
theorem ds_mt {ts : List Expr} {is : List Nat} {n kt k2 : _} {pt pt2 : Pos} (hc : X.calm = true) (ha : DM X np EW es f) (hg : PGs X ts (gVs is)) (hn : (assignEach ts X.env).length = n := by rfl) (hst : (assignEach ts X.env).findIdx? (·.1) = none := by rfl)
    (hl : is.length = n := by rfl)
    (hs : swapsWithSole [.Tuple ts kt pt] (.Tuple es k2 pt2) pos.line X.env = pure false := by rfl) (hw : swappedStores [.Tuple ts kt pt] (.Tuple es k2 pt2) X.env = pure none := by rfl) (h1 : (assignEach [.Tuple ts kt pt] X.env).map (·.2) = [assign (.Tuple ts kt pt) X.env] := by rfl) (hz : is.length ≤ sizeLine := by decide) :
    DS X np EW (.Assign [.Tuple ts kt pt] (.Tuple es k2 pt2) pos) (mtS np.n is f) :=
  PS.weak (ps_asg (pe_tup ha) (pg_tup hc hg hn hst) hs hw (h1 := h1)) fun Dn σ H ⟨C, ρ, R, h⟩ => by
    unfold mtS at h
    refine ⟨C, ρ, R, ?_⟩
    cases e : f ρ with
    | bad => rw [e] at h; exact h.elim
    | ex c => rw [e] at h; exact h
    | ok p =>
      rw [e] at h
      intro vs as H' C' S R' r
      have hvl : vs.length = is.length := by
        by_cases hk : okM np.n is p.1 = true
        · exact (mt_end h S R' r).1.symm
        · have h' : pst X.K np EW Dn H C (if okM np.n is p.1 then .nx (setM p.2 is p.1) else .bad) := h
          rw [if_neg hk] at h'; exact h'.elim
      refine ⟨by rw [hvl]; exact hz, fun t ht => ?_⟩
      have P := pstp_new (C := C') (o := .tup vs) (n := 0) ht
      obtain ⟨hl2, q⟩ := mt_end h (S.trans P.stp) (R'.pstp P) (r.stp (np := np) P.stp)
      exact ⟨t, vs, rfl, .inl (.inl upd_same), by rw [hvl, hl], hl2, q⟩
end
end
end Dm

namespace Dm
noncomputable section
open PySem PySem.Spec PyProof.Rows L2
/-! ### xs.extend(e), e a list of plain things -/
def exdS (L : Lv) (j : Nat) (fe : ES) : SS := fun ρ => if isOw ρ[j]? then (fe L ρ).to fun p => match p.1 with
  | .list zs => if noLs zs then owA p.2[j]? fun ds => if ds.length + zs.length ≤ sizeLine then .nx (p.2.set j (.ow (ds ++ zs))) else .bad else .bad
  | _ => .bad
  else .bad
section
variable {X : Cx} {np : Fp} {EW : XW} {e : Expr} {fe : ES} {pos : Pos}
theorem ds_extend (L : Lv) (j : Nat) {x : Str} {px apos : Pos} {cpos : Pos} (hj : PE X (.Name x px) (tVar j)) (h : DE X np EW e fe)
    (hs : swapsWith (.Call (.Attribute (.Name x px) "extend" apos) [e] [] cpos) none pos.line X.env = pure false := by rfl) (hst : starEach [e] X.env = (false, eval e X.env) :: starEach [] X.env := by rfl)
    (hpe : ∀ {t : TE}, PE X e t → PE X (.Call (.Attribute (.Name x px) "extend" apos) [e] [] cpos) (tBM X.K "list" rExtend (tVar j) (tCons t tNil))) :
    DS X np EW (.Expr (.Call (.Attribute (.Name x px) "extend" apos) [e] [] cpos) pos) (exdS L j fe) :=
  PS.weak (ps_expr (hpe h) hs) fun Dn σ H ⟨C, ρ, R, h⟩ => by
    obtain ⟨a, us, hs, ha, h⟩ := owm_pre R h
    refine ⟨.ref a, hs, .inl ⟨rfl, _, .inl (.inl ha)⟩, toE_of (L := L) R h fun p v H' C' A R' r q => ?_⟩
    obtain ⟨dp, ρp⟩ := p
    cases dp with
    | list zs =>
      simp only at q
      by_cases hn : noLs zs = true
      · rw [if_pos hn] at q
        obtain ⟨ds, e, q⟩ := owA_of q
        obtain ⟨a', us', hs', ha', hc', rr⟩ := ow_get R' e
        rw [hs] at hs'; cases hs'
        obtain ⟨b, ws, rfl, hb, _, rz⟩ := r.lst_inv
        by_cases hz : ds.length + zs.length ≤ sizeLine
        · rw [if_pos hz] at q
          refine ⟨a, b, us', ws, rfl, rfl, ha', hb, by rw [rr.len, rz.len]; exact hz, ?_⟩
          obtain ⟨S, R2⟩ := ow_upd R' ⟨ds, e⟩ hs ha' hc' (rr.app (rz.free hn))
          exact q _ _ _ S R2
        · rw [if_neg hz] at q; exact q.elim
      · rw [if_neg hn] at q; exact q.elim
    | _ => exact q.elim
end
end
end Dm

namespace Dm
noncomputable section
open PySem PySem.Spec PyProof.Rows L2
/-! ### dicts of one's own: ints to plain things -/
def putD (ds : List (Int × D)) (i : Int) (d : D) : List (Int × D) := if (ds.any fun p => decide (p.1 = i)) = true then ds.map (fun p => if p.1 = i then (p.1, d) else p) else ds ++ [(i, d)]
section
variable {K : PySem.W.Frag} {H : Hp}
theorem KvR.len {us : List (Key × V)} {ds : List (Int × D)} (r : KvR K H us ds) : us.length = ds.length := by
  induction r with
  | nil => rfl
  | cons _ _ _ ih => simp [ih]
theorem KvR.any {us : List (Key × V)} {ds : List (Int × D)} (r : KvR K H us ds) (i : Int) : (us.any fun p => decide (p.1 = .inl i)) = ds.any fun p => decide (p.1 = i) := by
  induction r with
  | nil => rfl
  | @cons j v d r s _ _ _ ih =>
    rw [List.any_cons, List.any_cons, ih]
    congr 1
    rw [Bool.eq_iff_iff, decide_eq_true_eq, decide_eq_true_eq]
    exact ⟨fun h => Sum.inl.inj h, fun h => by have h : j = i := h; subst h; rfl⟩
theorem KvR.map {us : List (Key × V)} {ds : List (Int × D)} (r : KvR K H us ds) {i : Int} {v : V} {d : D} (hn : noL d = true) (hr : Rp K H (fun _ => False) v d) :
    KvR K H (us.map fun kv => if kv.1 = (.inl i : Key) then (kv.1, v) else kv) (ds.map fun p => if p.1 = i then (p.1, d) else p) := by
  induction r with
  | nil => exact .nil
  | @cons j w e r s n1 r1 t ih =>
    rw [List.map_cons, List.map_cons]
    by_cases h : j = i
    · subst h
      rw [if_pos rfl, if_pos rfl]; exact .cons hn hr ih
    · rw [if_neg (fun z => h (Sum.inl.inj z)), if_neg h]; exact .cons n1 r1 ih
theorem KvR.app {us us2 : List (Key × V)} {ds ds2 : List (Int × D)} (r : KvR K H us ds) (r2 : KvR K H us2 ds2) : KvR K H (us ++ us2) (ds ++ ds2) := by
  induction r with
  | nil => exact r2
  | cons n r _ ih => exact .cons n r ih
theorem KvR.put {us : List (Key × V)} {ds : List (Int × D)} (r : KvR K H us ds) {i : Int} {v : V} {d : D} (hn : noL d = true) (hr : Rp K H (fun _ => False) v d) : KvR K H (putK us (.inl i) v) (putD ds i d) := by
  unfold putK putD
  rw [r.any i]
  split
  · exact r.map hn hr
  · exact r.app (.cons hn hr .nil)
def getD' (ds : List (Int × D)) (i : Int) : Option D := (ds.find? fun p => decide (p.1 = i)).map (·.2)
theorem KvR.val {us : List (Key × V)} {ds : List (Int × D)} (r : KvR K H us ds) (i : Int) : (valV us (.inl i)).isSome = (getD' ds i).isSome := by
  induction r with
  | nil => rfl
  | @cons j v d r s _ _ _ ih =>
    unfold getD'
    rw [List.find?_cons]
    by_cases h : j = i
    · subst h
      rw [valV_pos rfl]; simp
    · rw [valV_neg (fun z => h (Sum.inl.inj z)), ih]
      simp [h, getD']
end
abbrev KS := Lv → Slots → Re (List (Int × D) × Slots)
def tDN (K : PySem.W.Frag) (np : Fp) (EW : XW) (f : KS) : TE := fun σ H Q => ∃ L C ρ, Rel K np H C σ ρ ∧
  wp (f L ρ) (fun p => ∀ t us H' C', Aft np L ρ H C p.2 H' C' → Rel K np H' C' σ p.2 → H' t = none → KvR K H' us p.1 → Q (.ref t) (upd H' t (.dK us))) (fun c => ∀ H' C', Stp np H C H' C' → EW c H')
abbrev DDN (X : Cx) (np : Fp) (EW : XW) (e : Expr) (f : KS) : Prop := PE X e (tDN X.K np EW f)
def compD (ks L : Lv) (own : List Nat) (g : GS) (ke ve : ES) : List D → List (Int × D) → Slots → Re (List (Int × D) × Slots)
  | [], acc, ρ => .ok (acc, ρ)
  | d :: ds, acc, ρ => match g ks d ρ with
    | none => .bad
    | some ρ1 => (ke L ρ1).bind fun p => match p.1 with
      | .int i => (ve L p.2).bind fun q => if noL q.1 && decide (acc.length < sizeLine) then compD ks L own g ke ve ds (putD acc i q.1) (wiS q.2 own) else .bad
      | _ => .bad
def dcA (ks : Lv) (own : List Nat) (src : AS) (g : GS) (ke ve : ES) : KS := fun L ρ => if ks.pure == L.pure then (src ks ρ).bind fun p => if okO p.2 own then
    (noEx (compD ks L own g ke ve p.1 [] (wiS p.2 own))).bind fun r => .ok (r.1, reS p.2 r.2 own) else .bad else .bad
theorem dc_main {bb : Bool} {K : PySem.W.Frag} {np : Fp} {EW : XW} {ks : Lv} {own is : List Nat} {src : AS} {g : GS} {ke ve : ES} (hsub : ∀ i ∈ is, i ∈ own) (hoff : GOff is g) {σ : L2.St} {H : Hp} {Q : VK} (h : tDN K np EW (dcA ks own src g ke ve) σ H Q) :
    tDc (tI bb K np EW src) (tG bb K np is g) (tT K np noX yesT) (tE K np noX ke) (tE K np noX ve) own σ H Q := by
  obtain ⟨L, C, ρ, R, h⟩ := h
  unfold dcA at h
  by_cases hks : (ks.pure == L.pure) = true
  · rw [if_pos hks] at h
    have hpe : ks.pure = L.pure := by simpa using hks
    refine ⟨ks, C, ρ, R, wp_mono (wp_bind.mp h) (fun p _ hp J H1 C1 A1 R1 ok => ?_) fun _ z => z⟩
    by_cases ho : okO p.2 own = true
    · rw [if_pos ho] at hp
      have A1' : Aft np L ρ H C p.2 H1 C1 := ⟨A1.stp, fun z => A1.pu (by rw [hpe]; exact z)⟩
      intro T hT
      have aft : ∀ {H2 C2 ρ2}, Stp np H1 C1 H2 C2 → (L.pure = true → PStp H1 C1 H2 C2) → Aft np ks ρ2 H1 C1 ρ2 H2 C2 := fun S P => ⟨S, fun z => ⟨rfl, P (by rw [← hpe]; exact z)⟩⟩
      have ne_new : ∀ b, H1 b ≠ none → b ≠ T := fun b hb z => by subst z; exact hb hT
      refine ⟨fun i m H2 => ∃ C2 ρ2 us acc, m = p.1.length - i ∧ i ≤ p.1.length ∧ H2 T = some (.dK us) ∧ C2 T = 2 ∧ Stp np H1 C1 H2 C2 ∧ (L.pure = true → PStp H1 C1 H2 C2 ∧ ρ2 = wiS p.2 own) ∧ Rel K np H2 C2 (wipe σ own) ρ2 ∧
          KvR K H2 us acc ∧ wp (compD ks L own g ke ve (p.1.drop i) acc ρ2) (fun r => ∀ t us H' C', Aft np L ρ H C (reS p.2 r.2 own) H' C' → Rel K np H' C' σ (reS p.2 r.2 own) → H' t = none → KvR K H' us r.1 → Q (.ref t) (upd H' t (.dK us))) (fun _ => False), ?_, ?_⟩
      · have S0 := pstp_new (C := C1) (o := .dK []) (n := 2) hT
        refine ⟨_, setC C1 T 2, wiS p.2 own, [], [], rfl, Nat.zero_le _, upd_same, setC_same, S0.stp, fun _ => ⟨S0, rfl⟩, rel_wipe (R1.pstp S0) own, .nil, ?_⟩
        rw [List.drop_zero]
        exact wp_mono (wp_noEx (wp_bind.mp hp)) (fun r _ hr => hr) fun _ z => z
      · rintro i m H2 ⟨C2, ρ2, us, acc, rfl, hi, hD, hC, S2, P2, R2, ra, hw⟩
        have imm_ne : ∀ {H3 : Hp} {us : List (Key × V)}, H3 T = some (.dK us) → ∀ {b : Addr} {o : HO}, H3 b = some o → Imm o → b ≠ T := fun {H3 us} ht {b o} h im z => by subst z; rw [ht] at h; cases h; exact im
        by_cases hlt : i < p.1.length
        · refine .inr ⟨ok.go i H2 C2 ρ2 (aft S2 fun z => (P2 z).1) hlt, fun H5 => ∃ C5 ρ5 us5 acc5, H5 T = some (.dK us5) ∧ C5 T = 2 ∧ Stp np H1 C1 H5 C5 ∧ (L.pure = true → PStp H1 C1 H5 C5 ∧ ρ5 = wiS p.2 own) ∧ Rel K np H5 C5 (wipe σ own) ρ5 ∧
            KvR K H5 us5 acc5 ∧ wp (compD ks L own g ke ve (p.1.drop (i + 1)) acc5 ρ5) (fun r => ∀ t us H' C', Aft np L ρ H C (reS p.2 r.2 own) H' C' → Rel K np H' C' σ (reS p.2 r.2 own) → H' t = none → KvR K H' us r.1 → Q (.ref t) (upd H' t (.dK us))) (fun _ => False),
            fun H5 ⟨C5, ρ5, us5, acc5, a1, a2, a3, a4, a5, a6, a7⟩ => ⟨p.1.length - (i + 1), by omega, C5, ρ5, us5, acc5, rfl, hlt, a1, a2, a3, a4, a5, a6, a7⟩, fun x H3 hy => ?_⟩
          obtain ⟨d, hd⟩ : ∃ d, p.1[i]? = some d := ⟨p.1[i], by simp [hlt]⟩
          have hdrop : p.1.drop i = d :: p.1.drop (i + 1) := by
            rw [List.drop_eq_getElem_cons hlt]
            congr 1
            rw [List.getElem?_eq_getElem hlt] at hd
            exact Option.some.inj hd
          rw [hdrop, compD] at hw
          obtain ⟨S3, _, rx⟩ := ok.yld i H2 C2 ρ2 x H3 d (aft S2 fun z => (P2 z).1) hd hy
          have hD3 := S3.same T _ hD
          have ra3 : KvR K H3 us acc := ra.move fun b o h _ => S3.same b o h
          have S13 : Stp np H1 C1 H3 C2 := S2.trans S3.stp
          have P13 : L.pure = true → PStp H1 C1 H3 C2 ∧ ρ2 = wiS p.2 own := fun z => ⟨(P2 z).1.trans S3, (P2 z).2⟩
          cases eg : g ks d ρ2 with
          | none => simp only [eg] at hw; exact hw.elim
          | some ρ3 =>
            simp only [eg] at hw
            refine ⟨ks, C2, ρ2, d, ρ3, R2.pstp S3, rx, eg, fun σ4 R4 l4 k4 => ?_⟩
            have hwe : wipe σ4 own = wipe σ own := by
              have h1 := wipe_eq (σ := wipe σ own) (σ' := σ4) (vs := own) l4 fun k hk => k4 k fun z => hk (hsub k z)
              rw [h1]
              exact wipe_eq (wipe_length σ own) fun k hk => wipe_off hk
            have pur3 : L.pure = true → wiS ρ3 own = wiS p.2 own := fun z => by
              obtain ⟨o1, o2⟩ := hoff _ _ _ _ eg
              have h1 := wiS_eq (ρ := ρ2) (ρ' := ρ3) (vs := own) o1 fun k hk => o2 k fun z => hk (hsub k z)
              rw [h1, (P2 z).2]
              refine wiS_eq (wiS_len _ _) fun k hk => ?_
              by_cases hl : k < p.2.length
              · obtain ⟨s, hs⟩ : ∃ s, (wiS p.2 own)[k]? = some s := ⟨_, List.getElem?_eq_getElem (by rw [wiS_len]; exact hl)⟩
                rw [hs]
                rcases wiS_get hs with ⟨a, _⟩ | ⟨_, b⟩
                · exact absurd a hk
                · exact b.symm
              · rw [List.getElem?_eq_none (by rw [wiS_len]; omega), List.getElem?_eq_none (by omega)]
            refine ⟨hwe, L, C2, ρ3, R4, fun H4 C4 A4 R4' => ?_⟩
            refine iteT ⟨L, C4, ρ3, R4', wp_mono (wp_bind.mp hw) (fun q _ hq y H6 C6 A6 R6 ry => ?_) fun _ z => z.elim⟩
            have hD4 : H4 T = some (.dK us) := A4.stp.keep T _ hD3 (.inl (by rw [hC]; exact Nat.le_refl _))
            have hC4 : C4 T = 2 := by rw [A4.stp.colo T (by rw [hD3]; simp) (by rw [hC]; omega)]; exact hC
            have hD6 : H6 T = some (.dK us) := A6.stp.keep T _ hD4 (.inl (by rw [hC4]; exact Nat.le_refl _))
            have hC6 : C6 T = 2 := by rw [A6.stp.colo T (by rw [hD4]; simp) (by rw [hC4]; omega)]; exact hC4
            obtain ⟨q1, q2⟩ := q
            cases q1 with
            | int k =>
              simp only at hq
              obtain rfl := ry.int_inv
              refine ⟨L, C6, q2, R6, wp_mono (wp_bind.mp hq) (fun w _ hw2 z H8 C8 A8 R8 rz => ?_) fun _ z => z.elim⟩
              have hD8 : H8 T = some (.dK us) := A8.stp.keep T _ hD6 (.inl (by rw [hC6]; exact Nat.le_refl _))
              have hC8 : C8 T = 2 := by rw [A8.stp.colo T (by rw [hD6]; simp) (by rw [hC6]; omega)]; exact hC6
              by_cases hn : (noL w.1 && decide (acc.length < sizeLine)) = true
              · rw [if_pos hn] at hw2
                rw [Bool.and_eq_true, decide_eq_true_eq] at hn
                have ra8 : KvR K H8 us acc := ((ra3.move fun b o h im => A4.stp.keep b o h (.inr im)).move fun b o h im => A6.stp.keep b o h (.inr im)).move fun b o h im => A8.stp.keep b o h (.inr im)
                have S18 := ((S13.trans A4.stp).trans A6.stp).trans A8.stp
                refine ⟨us, .inl k, rfl, hD8, by rw [ra8.len]; exact hn.2, C8, wiS w.2 own, putK us (.inl k) z, putD acc k w.1, upd_same, hC8, ⟨fun b x h k' => ?_, fun b h => ?_, S18.colo, S18.colh⟩, fun z' => ⟨⟨fun b x h => ?_, fun b h => ?_⟩, ?_⟩, ?_, ?_, hw2⟩
                · rw [upd_ne (ne_new b (by rw [h]; simp))]; exact S18.keep b x h k'
                · rw [upd_ne (ne_new b h)]; exact S18.there b h
                · rw [upd_ne (ne_new b (by rw [h]; simp))]
                  exact ((((P13 z').1.trans (A4.pu z').2).trans (A6.pu z').2).trans (A8.pu z').2).same b x h
                · exact ((((P13 z').1.trans (A4.pu z').2).trans (A6.pu z').2).trans (A8.pu z').2).col b h
                · have e6 : q2 = ρ3 := (A6.pu z').1
                  rw [(A8.pu z').1, e6]; exact pur3 z'
                · have h7 := rel_wipe R8 own
                  rw [hwe] at h7
                  exact ⟨h7.len, fun j s es => (h7.get j s es).offc (Nat.le_refl 2) (by omega) (fun b xs hb h => by rw [upd_ne (fun z => by subst z; exact hb hC8)]; exact h) fun b o h im => by rw [upd_ne (imm_ne hD8 h im)]; exact h⟩
                · exact (ra8.put hn.1 (rz.free hn.1)).move fun b o h im => by rw [upd_ne (imm_ne hD8 h im)]; exact h
              · rw [if_neg hn] at hw2; exact hw2.elim
            | _ => exact hq.elim
        · have e : i = p.1.length := by omega
          subst e
          rw [List.drop_length, compD] at hw
          refine .inl ⟨ok.stop H2 C2 ρ2 (aft S2 fun z => (P2 z).1), ?_⟩
          have hq := hw T us (hidH H2 T) C2 ?_ ?_ hidH_same ?_
          · rw [hidH_upd hD] at hq; exact hq
          · refine ⟨A1'.stp.trans ⟨fun b x h k => ?_, fun b h => ?_, S2.colo, S2.colh⟩, fun z => ?_⟩
            · rw [hidH_ne (ne_new b (by rw [h]; simp))]; exact S2.keep b x h k
            · rw [hidH_ne (ne_new b h)]; exact S2.there b h
            · refine ⟨?_, (A1'.pu z).2.trans ⟨fun b x h => ?_, fun b h => ?_⟩⟩
              · show reS p.2 ρ2 own = ρ
                rw [(P2 z).2, reS_wiS]; exact (A1'.pu z).1
              · rw [hidH_ne (ne_new b (by rw [h]; simp))]; exact (P2 z).1.same b x h
              · exact (P2 z).1.col b h
          · have hlen : p.2.length = ρ2.length := by rw [← R1.len, ← R2.len, wipe_length]
            refine ⟨by rw [reS_len, ← hlen]; exact R1.len, fun j s es => ?_⟩
            rcases reS_get es with ⟨a, b⟩ | ⟨a, b⟩
            · subst b
              by_cases hj : j < p.2.length
              · have e5 : p.2[j]? = some (p.2.getD j .no) := by rw [List.getD_eq_getElem?_getD, List.getElem?_eq_getElem hj]; rfl
                have r5 := R1.get j _ e5
                have o5 := List.all_eq_true.mp ho j a
                rw [e5] at o5
                generalize p.2.getD j .no = s5 at r5 o5
                generalize σ[j]? = o at r5 ⊢
                have mvl : ∀ {Pc : Nat → Prop} {v : V} {d : D}, (∀ k, Pc k → k ≤ 1) → Rp K H1 (fun b => Pc (C1 b)) v d → Rp K (hidH H2 T) (fun b => Pc (C2 b)) v d := fun {Pc v d} hp r =>
                  r.move (fun b xs pb h => ⟨by rw [hidH_ne (ne_new b (by rw [h]; simp))]; exact S2.keep b _ h (.inl (by have := hp _ pb; omega)), by rw [S2.colo b (by rw [h]; simp) (by have := hp _ pb; omega)]; exact pb⟩) fun b o h im => by
                    rw [hidH_ne (ne_new b (by rw [h]; simp))]; exact S2.keep b o h (.inr im)
                cases r5 with
                | no => exact .no
                | va r => exact .va (mvl (Pc := fun k => k = 0) (fun k h => by omega) r)
                | bo r => exact .bo (mvl (Pc := fun k => k ≤ 1) (fun k h => by omega) r)
                | ow _ _ _ _ => cases o5
                | un _ => cases o5
                | sc _ => cases o5
                | ob _ _ _ _ _ => cases o5
                | dc _ _ _ _ => cases o5
                | ex _ _ _ => cases o5
                | tw _ _ _ _ _ _ _ _ _ _ => cases o5
              · have e5 : p.2.getD j .no = .no := by rw [List.getD_eq_getElem?_getD, List.getElem?_eq_none (by omega)]; rfl
                rw [e5]; exact .no
            · have r5 := R2.get j s b
              rw [wipe_off a] at r5
              exact r5.offc (Nat.le_refl 2) (by omega) (fun b xs hb h => by rw [hidH_ne (fun z => by subst z; exact hb hC)]; exact h) fun b o h im => by rw [hidH_ne (imm_ne hD h im)]; exact h
          · exact ra.move fun b o h im => by rw [hidH_ne (imm_ne hD h im)]; exact h
    · rw [if_neg ho] at hp; exact hp.elim
  · rw [if_neg hks] at h; exact h.elim
section
variable {X : Cx} {np : Fp} {EW : XW} {e e2 kx vx tg iter : Expr} {fe ke ve : ES} {p pos : Pos} {scope : Scope} {own : List (Str × Nat)} {src : AS} {g : GS} {is : List Nat}
theorem dd_dc (ks : Lv) (hc : X.calm = true) (hN : X.N.Nodup) (hi : DI X np EW tg iter src) (ok : BlkOk X.N X.env.scope scope own) (hsub : ∀ i ∈ is, i ∈ own.map (·.2)) (hoff : GOff is g)
    (hg : ∀ (s : Shared) (H : Hp) (C : Addr) (cl : List (Str × Addr)) (fp : List Addr), DG (X.blk s H scope (compEnvC scope cl C X.env) fp) np tg is g)
    (hk : ∀ (s : Shared) (H : Hp) (C : Addr) (cl : List (Str × Addr)) (fp : List Addr), DE (X.blk s H scope (compEnvC scope cl C X.env) fp) np noX kx ke)
    (hv : ∀ (s : Shared) (H : Hp) (C : Addr) (cl : List (Str × Addr)) (fp : List Addr), DE (X.blk s H scope (compEnvC scope cl C X.env) fp) np noX vx ve) (hs : ∀ x, foldedSetIterable iter X.env x = pure x := by intro _; rfl) :
    DDN X np EW (.DictComp kx vx [⟨tg, iter, [], 0⟩] scope pos) (dcA ks (own.map (·.2)) src g ke ve) :=
  PE.weak (pe_dc hc hN hi ok hg (fun _ _ _ _ _ => dts_nil) hk hv hs) fun σ H Q h => dc_main hsub hoff h
/-- x = {.. for ..} -/
def dcS (np i : Nat) (f : KS) : SS := fun ρ => if np ≤ i then (f .va ρ).to fun p => .nx (p.2.set i (.dc p.1)) else .bad
theorem ds_dc {i : Nat} {x : Str} {pos' : Pos} {f : KS} (hN : X.N.Nodup) (hi : X.N[i]? = some x) (hx : Loc X.env.scope x) (h : DDN X np EW e f) (hs : swapsWith e (some (.Name x pos')) pos.line X.env = pure false := by rfl)
    (hf : X.fn x = true ∨ X.env.scope.names.lookup x = some .local := by first | exact .inl rfl | exact .inr rfl | assumption) : DS X np EW (.Assign [.Name x pos'] e pos) (dcS np.n i f) :=
  PS.weak (ps_set hN hi hx h hs hf) fun Dn σ H ⟨C, ρ, R, h⟩ => by
    unfold dcS at h
    by_cases hn : np.n ≤ i
    · rw [if_pos hn] at h
      refine ⟨.va, C, ρ, R, ?_⟩
      cases e : f .va ρ with
      | bad => rw [e] at h; exact h.elim
      | ex c => rw [e] at h; exact h
      | ok p =>
        rw [e] at h
        intro t us H' C' A R' ht r
        have S := pstp_new (C := C') (o := .dK us) (n := i + 3) ht
        refine h _ _ _ (A.stp.trans S.stp) ((R'.pstp S).set (.dc upd_same setC_same (r.move fun b o h _ => S.same b o h) fun z => by omega))
    · rw [if_neg hn] at h; exact h.elim
/-- an int in a dict of one's own -/
def inDcE (neg : Bool) (fe : ES) (j : Nat) : ES := fun L ρ => (fe L ρ).bind fun p => match p.1 with
  | .int i => (match p.2[j]? with
    | some (.dc ds) => .ok (.bool (if neg then !(getD' ds i).isSome else (getD' ds i).isSome), p.2)
    | _ => .bad)
  | _ => .bad
theorem notin_core {K : PySem.W.Frag} {σ : L2.St} {H : Hp} {Q : VK} {j : Nat} (h : tE K np EW (inDcE true fe j) σ H Q) : tDNotIn (tE K np EW fe) (tVar j) σ H Q := by
  obtain ⟨L, C, ρ, R, h⟩ := h
  refine tE_of R h fun p v H1 C1 A1 R1 r1 h1 => ?_
  obtain ⟨d, ρ1⟩ := p
  cases d with
  | int i =>
    simp only at h1
    obtain rfl := r1.int_inv
    cases e5 : ρ1[j]? with
    | none => rw [e5] at h1; exact h1.elim
    | some s =>
      rw [e5] at h1
      cases s with
      | dc ds =>
        have r5 := R1.get j _ e5
        generalize ho : σ[j]? = o at r5
        cases r5 with
        | dc ha hc kr pn =>
          refine ⟨_, ho, _, _, rfl, DGet.k (k := .inl i) ha, ?_⟩
          rw [kr.val i]
          exact h1 _ H1 C1 A1 R1 (.bl _)
      | _ => exact h1.elim
  | _ => exact h1.elim
theorem de_notinDc {k j : Nat} (hr : Room k X.A) (ha : DE X np EW e fe) (hj : PE X e2 (tVar j)) (hm : behindInMarks .NotIn e2 = false := by rfl) : DE X np EW (.Compare e [.NotIn] [e2] pos) (inDcE true fe j) :=
  PE.weak (pe_cmp (pc_dnotin (by have := room65 hr; omega) ha hj) hm) fun σ H Q h => notin_core h
theorem dt_notinDc {k j : Nat} (hr : Room k X.A) (ha : DE X np EW e fe) (hj : PE X e2 (tVar j)) (hm : behindInMarks .NotIn e2 = false := by rfl) : DT X np EW (.Compare e [.NotIn] [e2] pos) (asT (inDcE true fe j)) :=
  PT.weak (pt_cmp (pc_dnotin (by have := room65 hr; omega) ha hj) hm) fun σ H Q ⟨L, C, ρ, R, h⟩ => by
    refine notin_core ⟨L, C, ρ, R, wp_mono (wp_bind.mp h) (fun p _ hp v H' C' A R' r' => ?_) fun c z => z⟩
    obtain ⟨d, ρ'⟩ := p
    cases d with
    | bool b => cases r'; exact ⟨b, rfl, hp H' C' A R'⟩
    | _ => exact hp.elim
theorem in_core {K : PySem.W.Frag} {σ : L2.St} {H : Hp} {Q : VK} {j : Nat} (h : tE K np EW (inDcE false fe j) σ H Q) : tDIn (tE K np EW fe) (tVar j) σ H Q := by
  obtain ⟨L, C, ρ, R, h⟩ := h
  refine tE_of R h fun p v H1 C1 A1 R1 r1 h1 => ?_
  obtain ⟨d, ρ1⟩ := p
  cases d with
  | int i =>
    simp only at h1
    obtain rfl := r1.int_inv
    cases e5 : ρ1[j]? with
    | none => rw [e5] at h1; exact h1.elim
    | some s =>
      rw [e5] at h1
      cases s with
      | dc ds =>
        have r5 := R1.get j _ e5
        generalize ho : σ[j]? = o at r5
        cases r5 with
        | dc ha hc kr pn =>
          refine ⟨_, ho, _, _, rfl, DGet.k (k := .inl i) ha, ?_⟩
          rw [kr.val i]
          exact h1 _ H1 C1 A1 R1 (.bl _)
      | _ => exact h1.elim
  | _ => exact h1.elim
theorem de_inDc {k j : Nat} (hr : Room k X.A) (ha : DE X np EW e fe) (hj : PE X e2 (tVar j)) (hm : behindInMarks .In e2 = false := by rfl) : DE X np EW (.Compare e [.In] [e2] pos) (inDcE false fe j) :=
  PE.weak (pe_cmp (pc_din (by have := room65 hr; omega) ha hj) hm) fun σ H Q h => in_core h
theorem dt_inDc {k j : Nat} (hr : Room k X.A) (ha : DE X np EW e fe) (hj : PE X e2 (tVar j)) (hm : behindInMarks .In e2 = false := by rfl) : DT X np EW (.Compare e [.In] [e2] pos) (asT (inDcE false fe j)) :=
  PT.weak (pt_cmp (pc_din (by have := room65 hr; omega) ha hj) hm) fun σ H Q ⟨L, C, ρ, R, h⟩ => by
    refine in_core ⟨L, C, ρ, R, wp_mono (wp_bind.mp h) (fun p _ hp v H' C' A R' r' => ?_) fun c z => z⟩
    obtain ⟨d, ρ'⟩ := p
    cases d with
    | bool b => cases r'; exact ⟨b, rfl, hp H' C' A R'⟩
    | _ => exact hp.elim
/-- at a level without effects -/
def dvA (f : KS) : KS := fun L ρ => f L.toP ρ
theorem dd_lv {f : KS} (h : DDN X np EW e f) : DDN X np EW e (dvA f) := PE.weak h fun σ H Q ⟨L, C, ρ, R, h⟩ =>
  ⟨L.toP, C, ρ, R, wp_mono h (fun p _ hp t us H' C' A R' ht r => hp t us H' C' A.ofP R' ht r) fun c z => z⟩
end
section
variable {np i j : Nat} {f : KS} {ρ : Slots} {L ks : Lv} {own : List Nat} {src : AS} {g : GS} {ke ve fe : ES} {neg : Bool}
@[simp] theorem ev_dcS : dcS np i f ρ = if np ≤ i then (f .va ρ).to fun p => .nx (p.2.set i (.dc p.1)) else .bad := Eq.trans rfl rfl
@[simp] theorem ev_dvA : dvA f L ρ = f L.toP ρ := Eq.trans rfl rfl
@[simp] theorem ev_dcA : dcA ks own src g ke ve L ρ = if ks.pure == L.pure then (src ks ρ).bind fun p => if okO p.2 own then
    (noEx (compD ks L own g ke ve p.1 [] (wiS p.2 own))).bind fun r => .ok (r.1, reS p.2 r.2 own) else .bad else .bad := Eq.trans rfl rfl
@[simp] theorem ev_inDcE : inDcE neg fe j L ρ = (fe L ρ).bind fun p => match p.1 with
  | .int i => (match p.2[j]? with
    | some (.dc ds) => .ok (.bool (if neg then !(getD' ds i).isSome else (getD' ds i).isSome), p.2)
    | _ => .bad)
  | _ => .bad := Eq.trans rfl rfl
end
/-- {k: v for ..} that gives every item a key -/
theorem compD_put {α : Type} {ks L : Lv} {own : List Nat} {g : GS} {ke ve : ES} {e : α → D} {ρ0 : Slots} (kf : α → Int) (vf : α → D) : ∀ (l : List α) (acc : List (Int × D)),
    (∀ a ∈ l, ∃ ρ1, g ks (e a) ρ0 = some ρ1 ∧ wiS ρ1 own = ρ0 ∧ ke L ρ1 = .ok (.int (kf a), ρ1) ∧ ve L ρ1 = .ok (vf a, ρ1) ∧ noL (vf a) = true) → acc.length + l.length ≤ sizeLine →
    compD ks L own g ke ve (l.map e) acc ρ0 = .ok (l.foldl (fun c a => putD c (kf a) (vf a)) acc, ρ0)
  | [], acc, _, _ => rfl
  | a :: r, acc, h, hl => by
    obtain ⟨ρ1, h1, h2, h3, h4, h5⟩ := h a (List.mem_cons_self ..)
    rw [List.length_cons] at hl
    have pl : (putD acc (kf a) (vf a)).length ≤ acc.length + 1 := by
      unfold putD; split <;> simp
    rw [List.map_cons, compD, h1]
    simp only [h3, bind_ok, h4]
    rw [if_pos (by rw [h5, decide_eq_true (by omega)]; rfl), h2]
    exact compD_put kf vf r _ (fun x hx => h x (List.mem_cons_of_mem _ hx)) (by omega)
theorem getD_put {ds : List (Int × D)} {i j : Int} {d : D} : (getD' (putD ds i d) j).isSome = (decide (j = i) || (getD' ds j).isSome) := by
  have e : ∀ (ds : List (Int × D)) (j : Int), (getD' ds j).isSome = ds.any fun p => decide (p.1 = j) := fun ds j => by
    unfold getD'
    rw [Option.isSome_map, List.isSome_find?]
  rw [e, e]
  unfold putD
  split
  · rename_i h
    rw [List.any_map]
    have : ((fun p : Int × D => decide (p.1 = j)) ∘ fun p => if p.1 = i then (p.1, d) else p) = fun p => decide (p.1 = j) := by
      funext p
      simp only [Function.comp]
      split <;> rfl
    rw [this]
    by_cases z : j = i
    · subst z; rw [h]; simp
    · simp [z]
  · rw [List.any_append]
    by_cases z : j = i
    · subst z; simp
    · have : ¬ i = j := fun w => z w.symm
      simp [z, this]
theorem getD_fold {α : Type} {kf : α → Int} {vf : α → D} {j : Int} : ∀ {l : List α} {acc : List (Int × D)}, (getD' (l.foldl (fun c a => putD c (kf a) (vf a)) acc) j).isSome = (l.any (fun a => decide (j = kf a)) || (getD' acc j).isSome)
  | [], acc => by simp
  | a :: r, acc => by
    rw [List.foldl_cons, getD_fold, getD_put, List.any_cons]
    cases decide (j = kf a) <;> cases (r.any fun a => decide (j = kf a)) <;> simp
end
end Dm

namespace Dm
noncomputable section
open PySem PySem.Spec PyProof.Rows L2
/-! ### x = {.. for ..} on one line -/
section
variable {X : Cx}
theorem ps_setDc {i : Nat} {y : Str} {py : Pos} {kx vx tg iter : Expr} {ifs : List Expr} {scope : Scope} {own : List (Str × Nat)} {pos spos : Pos} {wi : TI} {g : TG} {tt : TT} {tk tv : TE} (hc : X.calm = true) (hN : X.N.Nodup) (hy : X.N[i]? = some y) (hyl : X.env.scope.names.lookup y = some .local)
    (hsw : swapsWith (.DictComp kx vx [⟨tg, iter, ifs, 0⟩] scope pos) (some (.Name y py)) spos.line X.env = pure true) (hi : PI X tg iter wi) (ok : BlkOk X.N X.env.scope scope own)
    (hg : ∀ (s : Shared) (H : Hp) (C : Addr) (cl : List (Str × Addr)) (fp : List Addr), PG (X.blk s H scope (compEnvC scope cl C X.env) fp) tg g) (ht : ∀ (s : Shared) (H : Hp) (C : Addr) (cl : List (Str × Addr)) (fp : List Addr), PTs (X.blk s H scope (compEnvC scope cl C X.env) fp) ifs tt)
    (hk : ∀ (s : Shared) (H : Hp) (C : Addr) (cl : List (Str × Addr)) (fp : List Addr), PE (X.blk s H scope (compEnvC scope cl C X.env) fp) kx tk)
    (he : ∀ (s : Shared) (H : Hp) (C : Addr) (cl : List (Str × Addr)) (fp : List Addr), PE (X.blk s H scope (compEnvC scope cl C X.env) fp) vx tv) (hs : ∀ x, foldedSetIterable iter X.env x = pure x := by intro _; rfl) :
    PS X (.Assign [.Name y py] (.DictComp kx vx [⟨tg, iter, ifs, 0⟩] scope pos) spos) (tAsg (tDc wi g tt tk tv (own.map (·.2))) (gName i)) := by
  refine ⟨fun pins s σ H D I h => ?_⟩
  rw [exec_Assign_Name_used _ _ _ _ hsw]
  refine wpAny_bind (wpAny_standAt (wpAny_bind ?_))
  show wpAny _ X.A (do let _ ← comprehension (.DictComp kx vx [⟨tg, iter, ifs, 0⟩] scope pos) scope X.env (firstIterPos [⟨tg, iter, ifs, 0⟩] pos) newDict false (eval iter X.env) (some (assign (.Name y py) X.env))) _ _ s
  have h : tDc wi g tt tk tv (own.map (·.2)) σ H (fun x H1 => gName i x σ H1 D.nx) := h
  refine wpAny_bind (thn (dc_core (Qf := fun _ s' => SP X pins D .next s') hc hN I hi ok hg ht hk he hs h fun L C s' m H' I' q hn f => ?_) fun _ s' hq => wpAny_pure (wpAny_pure hq))
  show wpAny _ _ (assign (.Name y py) X.env (.ref L)) _ _ _
  refine wpAny_assign_Name (store_ok2 (v := V.ref L) I' hN hy (.inl hyl) rfl (fun s2 I2 ⟨a, sb, ha⟩ => ?_) (.inr hyl))
  obtain ⟨f0, f1, f2, f3, f4, f5⟩ := f
  have haC : C ≠ a := by
    rcases ha with z | z
    · rw [z]; exact f1
    · exact fun e => f4 y a z e.symm
  refine ⟨m, hn.sameBut sb haC, fun h3 sb3 => ?_⟩
  exact ⟨_, H', I2.turned (t' := s2.toks) (fun b o hb e => (sb3.2 b hb).trans e) f0 f1 f3 f4 f5, q⟩
theorem sw_trueD {kx vx : Expr} {gs : List Comprehension} {scope : Scope} {pos py : Pos} {y : Str} {l : Nat} {env : Env} (hk : env.scope.kind = .function) (hy : env.scope.names.lookup y = some .local) (hl : (py.line == pos.line) = true)
    (ha : (scope.names.any fun (n, k) => n == y && (k == .local || k == .cell)) = false) : swapsWith (.DictComp kx vx gs scope pos) (some (.Name y py)) l env = pure true := by
  have ky : env.kindOf y = some .local := hy
  have hb : env.blockKind = .function := by unfold Env.blockKind; rw [hk]; rfl
  unfold swapsWith
  simp only [hb, ky, ha, Expr.pos, hl]
  rfl
end
theorem ds_asg_dc {X : Cx} {np : Fp} {EW : XW} {st : Stmt} {t : TE} {i : Nat} {f : KS} (h : PS X st (tAsg t (gName i))) (w : ∀ σ H Q, tDN X.K np EW f σ H Q → t σ H Q) : DS X np EW st (dcS np.n i f) :=
  PS.weak h fun Dn σ H ⟨C, ρ, R, h⟩ => by
    unfold dcS at h
    by_cases hn : np.n ≤ i
    · rw [if_pos hn] at h
      refine w σ H _ ⟨.va, C, ρ, R, ?_⟩
      cases e : f .va ρ with
      | bad => rw [e] at h; exact h.elim
      | ex c => rw [e] at h; exact h
      | ok p =>
        rw [e] at h
        intro t us H' C' A R' ht r
        have S := pstp_new (C := C') (o := .dK us) (n := i + 3) ht
        refine h _ _ _ (A.stp.trans S.stp) ((R'.pstp S).set (.dc upd_same setC_same (r.move fun b o h _ => S.same b o h) fun z => by omega))
    · rw [if_neg hn] at h; exact h.elim
theorem tDN_lv {K : PySem.W.Frag} {np : Fp} {EW : XW} {f : KS} {σ : L2.St} {H : Hp} {Q : VK} (h : tDN K np EW (dvA f) σ H Q) : tDN K np EW f σ H Q := by
  obtain ⟨L, C, ρ, R, h⟩ := h
  exact ⟨L.toP, C, ρ, R, wp_mono h (fun p _ hp t us H' C' A R' ht r => hp t us H' C' A.ofP R' ht r) fun c z => z⟩
end
end Dm

namespace Dm
noncomputable section
open PySem PySem.Spec PyProof.Rows L2
/-! ### [.. for x in xs for y in range(n)] -/
def compR (ks L : Lv) (own : List Nat) (g : GS) (fe : ES) (i1 : Nat) (el : ES) : List D → Slots → Re (List D × Slots)
  | [], ρ => .ok ([], ρ)
  | d :: ds, ρ => match g ks d ρ with
    | none => .bad
    | some ρ1 => (fe L ρ1).bind fun p => match p.1 with
      | .int j => if fit62 j then (compF L L [i1] (nmG i1) yesT el (rgD 0 j.toNat) (wiS p.2 [i1])).bind fun q => (compR ks L own g fe i1 el ds (wiS q.2 own)).bind fun r => .ok (q.1 ++ r.1, r.2) else .bad
      | _ => .bad
def lrcA (ks : Lv) (own : List Nat) (src : AS) (g : GS) (fe : ES) (i1 : Nat) (el : ES) : AS := fun L ρ => if ks.pure && L.pure && decide (L ≠ .an) then (src ks ρ).bind fun p => if okO p.2 own then
    (noEx (compR ks L own g fe i1 el p.1 (wiS p.2 own))).bind fun r => if r.1.length ≤ sizeLine then .ok (r.1, reS p.2 r.2 own) else .bad else .bad else .bad
theorem wiS_one {ρ ρ' : Slots} {own : List Nat} (hl : ρ'.length = ρ.length) (h : ∀ k, k ∉ own → ρ'[k]? = ρ[k]?) : wiS ρ' own = wiS ρ own := wiS_eq hl h
theorem wiS_idem (ρ : Slots) (own : List Nat) {vs : List Nat} (h : ∀ i ∈ vs, i ∈ own) : wiS (wiS ρ vs) own = wiS ρ own :=
  wiS_eq (wiS_len _ _) fun k hk => by
    by_cases hl : k < ρ.length
    · obtain ⟨s, hs⟩ : ∃ s, (wiS ρ vs)[k]? = some s := ⟨_, List.getElem?_eq_getElem (by rw [wiS_len]; exact hl)⟩
      rw [hs]
      rcases wiS_get hs with ⟨a, _⟩ | ⟨_, b⟩
      · exact absurd (h k a) hk
      · exact b.symm
    · rw [List.getElem?_eq_none (by rw [wiS_len]; omega), List.getElem?_eq_none (by omega)]
theorem wipe_sub {σ : L2.St} {vs own : List Nat} (h : ∀ i ∈ vs, i ∈ own) : wipe (wipe σ vs) own = wipe σ own :=
  wipe_eq (wipe_length σ vs) fun k hk => wipe_off fun z => hk (h k z)
theorem lrc_main {bb : Bool} {K : PySem.W.Frag} {np : Fp} {EW : XW} {ks : Lv} {own is : List Nat} {src : AS} {g : GS} {fe el : ES} {i1 : Nat} (hsub : ∀ i ∈ is, i ∈ own) (hi1 : i1 ∈ own) (hoff : GOff is g) {σ : L2.St} {H : Hp} {Q : VK} (h : tN K np EW (lrcA ks own src g fe i1 el) σ H Q) :
    tLc2 (tI bb K np EW src) (tG bb K np is g) (tT K np noX yesT) (iRng1 (tCons (tE K np noX fe) tNil)) (gName i1) (tT K np noX yesT) (tE K np noX el) own [i1] σ H Q := by
  obtain ⟨L, C, ρ, R, h⟩ := h
  unfold lrcA at h
  by_cases hks : (ks.pure && L.pure && decide (L ≠ .an)) = true
  · rw [if_pos hks] at h
    simp only [Bool.and_eq_true, decide_eq_true_eq] at hks
    obtain ⟨⟨hkp, hLp⟩, hLa⟩ := hks
    refine ⟨ks, C, ρ, R, wp_mono (wp_bind.mp h) (fun p _ hp J H1 C1 A1 R1 ok => ?_) fun _ z => z⟩
    by_cases ho : okO p.2 own = true
    · rw [if_pos ho] at hp
      obtain ⟨e0, P1⟩ := A1.pu hkp
      intro T hT
      have aft : ∀ {H2 C2 ρ2}, PStp H1 C1 H2 C2 → Aft np ks ρ2 H1 C1 ρ2 H2 C2 := fun P => ⟨P.stp, fun z => ⟨rfl, P⟩⟩
      have ne_new : ∀ b, H1 b ≠ none → b ≠ T := fun b hb z => by subst z; exact hb hT
      have imm_ne : ∀ {H3 : Hp} {us : List V}, H3 T = some (.lst us) → ∀ {b : Addr} {o : HO}, H3 b = some o → Imm o → b ≠ T := fun {H3 us} ht {b o} h im z => by subst z; rw [ht] at h; cases h; exact im
      -- what the end wants
      let Fin : List D → Slots → Prop := fun ds ρf => ds.length ≤ sizeLine ∧ ∀ t vs H' C', Aft np L ρ H C (reS p.2 ρf own) H' C' → Rel K np H' C' σ (reS p.2 ρf own) → H' t = none → RpA K H' (Cof C' L) vs ds → Q (.ref t) (upd H' t (.lst vs))
      refine ⟨fun i m H2 => ∃ C2 acc dacc, m = p.1.length - i ∧ i ≤ p.1.length ∧ H2 T = some (.lst acc) ∧ C2 T = 2 ∧ PStp H1 C1 H2 C2 ∧ Rel K np H2 C2 (wipe σ own) (wiS p.2 own) ∧
          RpA K H2 (fun b => Cof C2 L b ∧ b ≠ T) acc dacc ∧ wp (compR ks L own g fe i1 el (p.1.drop i) (wiS p.2 own)) (fun r => Fin (dacc ++ r.1) r.2) (fun _ => False), ?_, ?_⟩
      · have S0 := pstp_new (C := C1) (o := .lst []) (n := 2) hT
        refine ⟨_, setC C1 T 2, [], [], rfl, Nat.zero_le _, upd_same, setC_same, S0, rel_wipe (R1.pstp S0) own, .nil, ?_⟩
        rw [List.drop_zero]
        refine wp_mono (wp_noEx (wp_bind.mp hp)) (fun r _ hr => ?_) fun _ z => z
        by_cases hz : r.1.length ≤ sizeLine
        · rw [if_pos hz] at hr
          exact ⟨hz, hr⟩
        · rw [if_neg hz] at hr; exact hr.elim
      · rintro i m H2 ⟨C2, acc, dacc, rfl, hi, hD, hC, P2, R2, ra, hw⟩
        by_cases hlt : i < p.1.length
        · refine .inr ⟨ok.go i H2 C2 (wiS p.2 own) (aft P2) hlt, fun H5 => ∃ C5 acc5 dacc5, H5 T = some (.lst acc5) ∧ C5 T = 2 ∧ PStp H1 C1 H5 C5 ∧ Rel K np H5 C5 (wipe σ own) (wiS p.2 own) ∧
            RpA K H5 (fun b => Cof C5 L b ∧ b ≠ T) acc5 dacc5 ∧ wp (compR ks L own g fe i1 el (p.1.drop (i + 1)) (wiS p.2 own)) (fun r => Fin (dacc5 ++ r.1) r.2) (fun _ => False),
            fun H5 ⟨C5, acc5, dacc5, a1, a2, a3, a4, a5, a6⟩ => ⟨p.1.length - (i + 1), by omega, C5, acc5, dacc5, rfl, hlt, a1, a2, a3, a4, a5, a6⟩, fun x H3 hy => ?_⟩
          obtain ⟨d, hd⟩ : ∃ d, p.1[i]? = some d := ⟨p.1[i], by simp [hlt]⟩
          have hdrop : p.1.drop i = d :: p.1.drop (i + 1) := by
            rw [List.drop_eq_getElem_cons hlt]
            congr 1
            rw [List.getElem?_eq_getElem hlt] at hd
            exact Option.some.inj hd
          rw [hdrop, compR] at hw
          obtain ⟨S3, _, rx⟩ := ok.yld i H2 C2 (wiS p.2 own) x H3 d (aft P2) hd hy
          have hD3 := S3.same T _ hD
          have ra3 := ra.move (H' := H3) (P' := fun b => Cof C2 L b ∧ b ≠ T) (fun b xs pb h => ⟨S3.same b _ h, pb⟩) fun b o h _ => S3.same b o h
          have P13 : PStp H1 C1 H3 C2 := P2.trans S3
          cases eg : g ks d (wiS p.2 own) with
          | none => simp only [eg] at hw; exact hw.elim
          | some ρ3 =>
            simp only [eg] at hw
            refine ⟨ks, C2, wiS p.2 own, d, ρ3, R2.pstp S3, rx, eg, fun σ4 R4 l4 k4 => ?_⟩
            have hwe : wipe σ4 own = wipe σ own := by
              have h1 := wipe_eq (σ := wipe σ own) (σ' := σ4) (vs := own) l4 fun k hk => k4 k fun z => hk (hsub k z)
              rw [h1]
              exact wipe_eq (wipe_length σ own) fun k hk => wipe_off hk
            have pur3 : wiS ρ3 own = wiS p.2 own := by
              obtain ⟨o1, o2⟩ := hoff _ _ _ _ eg
              have h1 := wiS_eq (ρ := wiS p.2 own) (ρ' := ρ3) (vs := own) o1 fun k hk => o2 k fun z => hk (hsub k z)
              rw [h1]
              exact wiS_idem p.2 own fun _ h => h
            refine ⟨hwe, L, C2, ρ3, R4, fun H4 C4 A4 R4' => iteT ?_⟩
            obtain ⟨_, PA4⟩ := A4.pu hLp
            refine ⟨L, C4, ρ3, R4', wp_mono (wp_bind.mp hw) (fun q _ hq y H6 C6 A6 R6 ry => ?_) fun _ z => z.elim⟩
            obtain ⟨e6, PA6⟩ := A6.pu hLp
            obtain ⟨q1, q2⟩ := q
            have e6 : q2 = ρ3 := e6
            subst e6
            cases q1 with
            | int j =>
              simp only at hq
              obtain rfl := ry.int_inv
              by_cases hf : fit62 j = true
              · rw [if_pos hf] at hq
                have hf' := hf
                simp only [fit62, inB_eq, Bool.and_eq_true, decide_eq_true_eq] at hf'
                have hD4 := PA4.same T _ hD3
                have hD6 := PA6.same T _ hD4
                have hC4 : C4 T = 2 := by rw [PA4.col T (by rw [hD3]; simp)]; exact hC
                have hC6 : C6 T = 2 := by rw [PA6.col T (by rw [hD4]; simp)]; exact hC4
                have mvP : ∀ {Ha Hb : Hp} {Ca Cb : Col} {us : List V} {es : List D}, PStp Ha Ca Hb Cb → RpA K Ha (fun b => Cof Ca L b ∧ b ≠ T) us es → RpA K Hb (fun b => Cof Cb L b ∧ b ≠ T) us es := fun A r =>
                  r.move (fun b xs pb h => ⟨A.same b _ h, by unfold Cof; rw [A.col b (by rw [h]; simp)]; exact pb.1, pb.2⟩) fun b o h _ => A.same b o h
                have ra6 := mvP PA6 (mvP PA4 ra3)
                have P16 := (P13.trans PA4).trans PA6
                have hback : wiS (wiS q2 [i1]) own = wiS p.2 own := by rw [wiS_idem q2 own (fun k hk => by rw [List.mem_singleton.mp hk]; exact hi1)]; exact pur3
                have hwback : wipe (wipe σ4 [i1]) own = wipe σ own := by rw [wipe_sub (fun k hk => by rw [List.mem_singleton.mp hk]; exact hi1)]; exact hwe
                refine ⟨j, rfl, hf'.1, hf'.2, fun jj k H => ∃ C acc dacc, k = j.toNat - jj ∧ jj ≤ j.toNat ∧ H T = some (.lst acc) ∧ C T = 2 ∧ PStp H1 C1 H C ∧ Rel K np H C (wipe σ4 [i1]) (wiS q2 [i1]) ∧ RpA K H (fun b => Cof C L b ∧ b ≠ T) acc dacc ∧
                  wp (compF L L [i1] (nmG i1) yesT el ((rgD 0 j.toNat).drop jj) (wiS q2 [i1])) (fun q => wp (compR ks L own g fe i1 el (p.1.drop (i + 1)) (wiS q.2 own)) (fun r => Fin (dacc ++ (q.1 ++ r.1)) r.2) (fun _ => False)) (fun _ => False), ?_, ?_⟩
                · refine ⟨_, C6, acc, dacc, rfl, Nat.zero_le _, hD6, hC6, P16, rel_wipe R6 [i1], ra6, ?_⟩
                  rw [List.drop_zero]
                  exact wp_mono (wp_bind.mp hq) (fun q _ h2 => wp_mono (wp_bind.mp h2) (fun r _ hr => hr) fun _ z => z) fun _ z => z
                · rintro jj k H7 ⟨C7, acc7, dacc7, rfl, hj, hD7, hC7, P7, R7, ra7, hw7⟩
                  by_cases hjl : jj < j.toNat
                  · refine .inr ⟨hjl, fun H5 => ∃ C acc dacc, H5 T = some (.lst acc) ∧ C T = 2 ∧ PStp H1 C1 H5 C ∧ Rel K np H5 C (wipe σ4 [i1]) (wiS q2 [i1]) ∧ RpA K H5 (fun b => Cof C L b ∧ b ≠ T) acc dacc ∧
                      wp (compF L L [i1] (nmG i1) yesT el ((rgD 0 j.toNat).drop (jj + 1)) (wiS q2 [i1])) (fun q => wp (compR ks L own g fe i1 el (p.1.drop (i + 1)) (wiS q.2 own)) (fun r => Fin (dacc ++ (q.1 ++ r.1)) r.2) (fun _ => False)) (fun _ => False),
                      fun H5 ⟨C5, a5, d5, b1, b2, b3, b4, b5, b6⟩ => ⟨j.toNat - (jj + 1), by omega, C5, a5, d5, rfl, hjl, b1, b2, b3, b4, b5, b6⟩, fun x H8 hy8 => ?_⟩
                    obtain ⟨rfl, rfl⟩ := hy8
                    have hdr : (rgD 0 j.toNat).drop jj = .int (0 + (jj : Nat)) :: (rgD 0 j.toNat).drop (jj + 1) := by
                      have hl : jj < (rgD 0 j.toNat).length := by simp [rgD]; omega
                      rw [List.drop_eq_getElem_cons hl]
                      congr 1
                      simp [rgD]
                    rw [hdr, compF] at hw7
                    have hn1 : nmG i1 L (.int (0 + (jj : Nat))) (wiS q2 [i1]) = some ((wiS q2 [i1]).set i1 (.va (.int (0 + (jj : Nat))))) := rfl
                    simp only [hn1] at hw7
                    have Rs := R7.set (i := i1) (v := .int (0 + (jj : Nat))) (s := .va (.int (0 + (jj : Nat)))) (.va (.int _))
                    have hws : wipe ((wipe σ4 [i1]).set i1 (some (.int (0 + (jj : Nat))))) [i1] = wipe σ4 [i1] := by
                      have h1 := wipe_eq (σ := wipe σ4 [i1]) (σ' := (wipe σ4 [i1]).set i1 (some (.int (0 + (jj : Nat))))) (vs := [i1]) (List.length_set ..) fun k hk => List.getElem?_set_ne fun z => hk (by simp [z])
                      rw [h1]
                      exact wipe_eq (wipe_length σ4 [i1]) fun k hk => wipe_off hk
                    have hss : wiS ((wiS q2 [i1]).set i1 (.va (.int (0 + (jj : Nat))))) [i1] = wiS q2 [i1] := by
                      have h1 := wiS_eq (ρ := wiS q2 [i1]) (ρ' := (wiS q2 [i1]).set i1 (.va (.int (0 + (jj : Nat))))) (vs := [i1]) (List.length_set ..) fun k hk => List.getElem?_set_ne fun z => hk (by simp [z])
                      rw [h1]
                      exact wiS_idem q2 [i1] fun _ h => h
                    refine ⟨hws, L, C7, _, Rs, fun H9 C9 A9 R9 => iteT ?_⟩
                    obtain ⟨_, PA9⟩ := A9.pu hLp
                    refine ⟨L, C9, _, R9, wp_mono (wp_bind.mp hw7) (fun w _ hw8 y10 H10 C10 A10 R10 ry10 => ?_) fun _ z => z.elim⟩
                    obtain ⟨e10, PA10⟩ := A10.pu hLp
                    obtain ⟨w1, w2⟩ := w
                    have e10 : w2 = (wiS q2 [i1]).set i1 (.va (.int (0 + (jj : Nat)))) := e10
                    subst e10
                    have hD10 := PA10.same T _ (PA9.same T _ hD7)
                    have hC10 : C10 T = 2 := by rw [PA10.col T (by rw [PA9.same T _ hD7]; simp), PA9.col T (by rw [hD7]; simp)]; exact hC7
                    have ra10 := mvP PA10 (mvP PA9 ra7)
                    have P110 := (P7.trans PA9).trans PA10
                    by_cases hn : (!L.okb 2 || noL w1) = true
                    · rw [if_pos hn] at hw8
                      have ry11 : Rp K H10 (fun b => Cof C10 L b ∧ b ≠ T) y10 w1 := by
                        rw [Bool.or_eq_true] at hn
                        rcases hn with hn | hn
                        · refine ry10.imp fun b hb => ⟨hb, fun z => ?_⟩
                          subst z
                          have hb' : L.okb (C10 b) = true := hb
                          rw [hC10] at hb'
                          rw [hb'] at hn; cases hn
                        · exact ry10.free hn
                      rw [hss] at hw8
                      have h3 := wp_bind.mp hw8
                      have hsz : acc7.length < sizeLine := by
                        have hl := ra10.len
                        cases e5 : compF L L [i1] (nmG i1) yesT el ((rgD 0 j.toNat).drop (jj + 1)) (wiS q2 [i1]) with
                        | bad => rw [e5] at h3; exact h3.elim
                        | ex _ => rw [e5] at h3; exact h3.elim
                        | ok r5 =>
                          rw [e5] at h3
                          have h4 : wp (compR ks L own g fe i1 el (p.1.drop (i + 1)) (wiS r5.2 own)) (fun r => Fin (dacc7 ++ ((w1 :: r5.1) ++ r.1)) r.2) (fun _ => False) := h3
                          cases e6 : compR ks L own g fe i1 el (p.1.drop (i + 1)) (wiS r5.2 own) with
                          | bad => rw [e6] at h4; exact h4.elim
                          | ex _ => rw [e6] at h4; exact h4.elim
                          | ok r6 =>
                            rw [e6] at h4
                            have h7 : (dacc7 ++ ((w1 :: r5.1) ++ r6.1)).length ≤ sizeLine := h4.1
                            rw [List.length_append, List.length_append, List.length_cons] at h7
                            omega
                      refine ⟨acc7, hD10, hsz, C10, acc7 ++ [y10], dacc7 ++ [w1], upd_same, hC10, ⟨fun b x h => ?_, P110.col⟩, ?_, ?_, ?_⟩
                      · rw [upd_ne (ne_new b (by rw [h]; simp))]; exact P110.same b x h
                      · have h7 := rel_wipe R10 [i1]
                        rw [hws, hss] at h7
                        exact ⟨h7.len, fun j s es => (h7.get j s es).offc (Nat.le_refl 2) (by omega) (fun b xs hb h => by rw [upd_ne (fun z => by subst z; exact hb hC10)]; exact h) fun b o h im => by rw [upd_ne (imm_ne hD10 h im)]; exact h⟩
                      · have := ra10.app (.cons ry11 .nil)
                        exact this.move (fun b xs pb h => ⟨by rw [upd_ne pb.2]; exact h, pb⟩) fun b o h im => by rw [upd_ne (imm_ne hD10 h im)]; exact h
                      · refine wp_mono h3 (fun r _ hr => ?_) fun _ z => z
                        have hr : wp (compR ks L own g fe i1 el (p.1.drop (i + 1)) (wiS r.2 own)) (fun r' => Fin (dacc7 ++ ((w1 :: r.1) ++ r'.1)) r'.2) (fun _ => False) := hr
                        refine wp_mono hr (fun r' _ h9 => ?_) fun _ z => z
                        have e9 : dacc7 ++ [w1] ++ (r.1 ++ r'.1) = dacc7 ++ ((w1 :: r.1) ++ r'.1) := by simp
                        rw [e9]; exact h9
                    · rw [if_neg hn] at hw8; exact hw8.elim
                  · have e : jj = j.toNat := by omega
                    subst e
                    have hdn : (rgD 0 j.toNat).drop j.toNat = [] := List.drop_eq_nil_of_le (by simp [rgD])
                    rw [hdn, compF] at hw7
                    refine .inl ⟨Nat.le_refl _, C7, acc7, dacc7, hD7, hC7, P7, ?_, ra7, ?_⟩
                    · have := rel_wipe R7 own
                      rw [hwback, hback] at this; exact this
                    · have h8 : wp (compR ks L own g fe i1 el (p.1.drop (i + 1)) (wiS (wiS q2 [i1]) own)) (fun r => Fin (dacc7 ++ ([] ++ r.1)) r.2) (fun _ => False) := hw7
                      rw [hback] at h8; exact h8
              · rw [if_neg hf] at hq; exact hq.elim
            | _ => exact hq.elim
        · have e : i = p.1.length := by omega
          subst e
          rw [List.drop_length, compR] at hw
          have hw : Fin (dacc ++ []) (wiS p.2 own) := hw
          rw [List.append_nil] at hw
          refine .inl ⟨ok.stop H2 C2 (wiS p.2 own) (aft P2), ?_⟩
          have hq := hw.2 T acc (hidH H2 T) C2 ?_ ?_ hidH_same ?_
          · rw [hidH_upd hD] at hq; exact hq
          · have PH : PStp H1 C1 (hidH H2 T) C2 := ⟨fun b x h => by rw [hidH_ne (ne_new b (by rw [h]; simp))]; exact P2.same b x h, P2.col⟩
            exact ⟨(P1.trans PH).stp, fun _ => ⟨by rw [reS_wiS]; exact e0, P1.trans PH⟩⟩
          · rw [reS_wiS]
            refine ⟨R1.len, fun jx s es => ?_⟩
            have r5 := R1.get jx s es
            exact (r5.pstp (⟨fun b x h => by rw [hidH_ne (ne_new b (by rw [h]; simp))]; exact P2.same b x h, P2.col⟩ : PStp H1 C1 (hidH H2 T) C2))
          · exact ra.move (fun b xs pb h => ⟨by rw [hidH_ne pb.2]; exact h, pb.1⟩) fun b o h im => by rw [hidH_ne (imm_ne hD h im)]; exact h
    · rw [if_neg ho] at hp; exact hp.elim
  · rw [if_neg hks] at h; exact h.elim
section
variable {X : Cx} {np : Fp} {EW : XW} {elt tg iter tg1 iter1 : Expr} {fe el : ES} {pos : Pos} {scope : Scope} {own : List (Str × Nat)} {src : AS} {g : GS} {is : List Nat} {i1 : Nat}
theorem dn_lrc (ks : Lv) (hc : X.calm = true) (hN : X.N.Nodup) (hi : DI X np EW tg iter src) (ok : BlkOk X.N X.env.scope scope own) (hsub : ∀ i ∈ is, i ∈ own.map (·.2)) (h1 : i1 ∈ own.map (·.2)) (hoff : GOff is g)
    (hg : ∀ (s : Shared) (H : Hp) (C : Addr) (cl : List (Str × Addr)) (fp : List Addr), DG (X.blk s H scope (compEnvC scope cl C X.env) fp) np tg is g)
    (hi1 : ∀ (s : Shared) (H : Hp) (C : Addr) (cl : List (Str × Addr)) (fp : List Addr), PI (X.blk s H scope (compEnvC scope cl C X.env) fp) tg1 iter1 (iRng1 (tCons (tE X.K np noX fe) tNil)))
    (hg1 : ∀ (s : Shared) (H : Hp) (C : Addr) (cl : List (Str × Addr)) (fp : List Addr), PG (X.blk s H scope (compEnvC scope cl C X.env) fp) tg1 (gName i1))
    (he : ∀ (s : Shared) (H : Hp) (C : Addr) (cl : List (Str × Addr)) (fp : List Addr), DE (X.blk s H scope (compEnvC scope cl C X.env) fp) np noX elt el) (hs : ∀ x, foldedSetIterable iter X.env x = pure x := by intro _; rfl) (hs1 : ∀ env x, foldedSetIterable iter1 env x = pure x := by intro _ _; rfl) :
    DN X np EW (.ListComp elt [⟨tg, iter, [], 0⟩, ⟨tg1, iter1, [], 0⟩] scope pos) (lrcA ks (own.map (·.2)) src g fe i1 el) :=
  PE.weak (pe_lc2 (vs1 := [i1]) hc hN hi ok (fun i hi => by rw [List.mem_singleton.mp hi]; exact h1) hg (fun _ _ _ _ _ => dts_nil) hi1 hg1 (fun _ _ _ _ _ => dts_nil) he hs hs1) fun σ H Q h => lrc_main hsub h1 hoff h
end
section
variable {ks L : Lv} {own : List Nat} {src : AS} {g : GS} {fe el : ES} {i1 : Nat} {ρ : Slots}
@[simp] theorem ev_lrcA : lrcA ks own src g fe i1 el L ρ = if ks.pure && L.pure && decide (L ≠ .an) then (src ks ρ).bind fun p => if okO p.2 own then
    (noEx (compR ks L own g fe i1 el p.1 (wiS p.2 own))).bind fun r => if r.1.length ≤ sizeLine then .ok (r.1, reS p.2 r.2 own) else .bad else .bad else .bad := Eq.trans rfl rfl
end
/-- what such a comprehension holds -/
theorem compR_flat {α : Type} {ks L : Lv} {own : List Nat} {g : GS} {fe el : ES} {i1 : Nat} {e : α → D} {ρ0 : Slots} (kf : α → Nat) (m : α → Nat → D) : ∀ l : List α,
    (∀ a ∈ l, kf a < 2 ^ 61 ∧ ∃ ρ1, g ks (e a) ρ0 = some ρ1 ∧ fe L ρ1 = .ok (.int (kf a : Nat), ρ1) ∧ wiS (wiS ρ1 [i1]) own = ρ0 ∧
      ∀ k, k < kf a → wiS ((wiS ρ1 [i1]).set i1 (.va (.int (k : Nat)))) [i1] = wiS ρ1 [i1] ∧ el L ((wiS ρ1 [i1]).set i1 (.va (.int (k : Nat)))) = .ok (m a k, (wiS ρ1 [i1]).set i1 (.va (.int (k : Nat)))) ∧ (L.okb 2 = false ∨ noL (m a k) = true)) →
    compR ks L own g fe i1 el (l.map e) ρ0 = .ok (l.flatMap fun a => (List.range (kf a)).map (m a), ρ0)
  | [], _ => rfl
  | a :: r, h => by
    obtain ⟨hk, ρ1, h1, h2, h3, h4⟩ := h a (List.mem_cons_self ..)
    have ih := compR_flat kf m r fun x hx => h x (List.mem_cons_of_mem _ hx)
    have hf : fit62 (kf a : Nat) = true := inB_t (by omega) (by omega)
    have hr : rgD 0 ((kf a : Nat) : Int).toNat = (List.range (kf a)).map fun i : Nat => PyData.int (i : Int) := by
      rw [Int.toNat_natCast]; exact rgD_nat
    have hc : compF L L [i1] (nmG i1) yesT el ((List.range (kf a)).map fun i : Nat => PyData.int (i : Int)) (wiS ρ1 [i1]) = .ok ((List.range (kf a)).map (m a), wiS ρ1 [i1]) :=
      compF_map _ _ fun k hk => by
        obtain ⟨a1, a2, a3⟩ := h4 k (List.mem_range.mp hk)
        exact ⟨_, rfl, a1, a2, a3⟩
    rw [List.map_cons, compR, h1]
    simp only [h2, bind_ok]
    rw [if_pos hf, hr, hc]
    simp only [bind_ok, h3, ih]
    rw [List.flatMap_cons]
end
end Dm

namespace Dm
noncomputable section
open PySem PySem.Spec PyProof.Rows L2
/-! ### f(e, ..) of a pure def, the last parameters by their defaults -/
section
variable {X : Cx} {np : Fp} {EW : XW} {Xc : CXT} {k : Nat} {f : Addr} {fd : FuncData} {ps ks : List Str} {sp : Sp} {E : XK} {x : Str} {p pos kpos : Pos} {e : Expr} {es : List Expr}
theorem RpA_app {K : PySem.W.Frag} {H : Hp} {P : Addr → Prop} {b : List D} {w : List V} (s : RpA K H P w b) : ∀ {a : List D} {v : List V}, RpA K H P v a → RpA K H P (v ++ w) (a ++ b)
  | [], _, .nil => s
  | _ :: _, _, .cons h t => .cons h (RpA_app s t)
theorem gpe_callD {t : TA} {dus : List Value} {dvs : List V} (F : GFn X.prog X.w X.K X.mg X.base Xc k f fd ps sp) (hr : Room k X.A) (hgd : X.A.guards = some []) (hg : Gl X x) (hm : X.mg x = some (.ref f)) (hk : PySem.W.keepIn X.K (.ref f) = true) (hb : Binds X.K fd ps dus) (hd : Vals dvs dus) (hx : Passes Xc X E)
    (ha : PA X (e :: es) t) (hdb : (x == ("__debug__" : Str)) = false := by decide) (he : starEach (e :: es) X.env = (false, eval e X.env) :: starEach es X.env := by rfl) (hpl : (backTo pos (starEach es X.env)).any (·.1) = false := by rfl) :
    PE X (.Call (.Name x p) (e :: es) [] pos) (fun σ H Q => t σ H fun vs H1 => sp (vs ++ dvs) H1 Q E) := by
  refine ⟨fun pins s σ H Q I h => ?_⟩
  refine wpAny_Call_Name_kw (ld_glob I hg hm (PySem.W.callWith_K (h₀ := X.base) I.ok.mod.kin hk (thn (ha.run pos pins s σ H _ I h) fun us s1 ⟨vs, H1, I1, r, q⟩ => ⟨I1.kIn, ?_⟩) he hpl) hdb)
  refine wpAny_call (codeAny_mono (g_run (us := us ++ dus) (args := ⟨us, []⟩) F hr hgd (fun hl => hb s1 us I1.kIn hl) hx I1 (r.append hd) q) fun rr s' z => ?_)
  cases rr with
  | error e => exact z
  | ok fl => cases fl <;> exact z
/-- the mirror -/
def clD (kl : Lv) (n : Nat) (m : PF) (dds : List D) (fs : AS) : ES := clE kl n (fun ds => m (ds ++ dds)) fs
theorem de_callD (kl : Lv) {xo : XO} {m : PF} {n j : Nat} {fs : AS} {dus : List Value} {dvs : List V} {dds : List D} (F : GFn X.prog X.w X.K X.mg X.base Xc k f fd ps (spG X.K xo n (ofP m))) (hr : Room k X.A) (hgd : X.A.guards = some []) (hg : Gl X x) (hm : X.mg x = some (.ref f))
    (hk : PySem.W.keepIn X.K (.ref f) = true) (hb : Binds X.K fd ps dus) (hd : Vals dvs dus) (hdr : ∀ H P, RpA X.K H P dvs dds) (hj : j + dds.length = n) (hx : Passes Xc X E) (hE : ∀ c H', EW c H' → xo E c H') (ha : DA X np EW (e :: es) fs) (hdb : (x == ("__debug__" : Str)) = false := by decide)
    (he : starEach (e :: es) X.env = (false, eval e X.env) :: starEach es X.env := by rfl) (hpl : (backTo pos (starEach es X.env)).any (·.1) = false := by rfl) : DE X np EW (.Call (.Name x p) (e :: es) [] pos) (clD kl j m dds fs) :=
  PE.weak (gpe_callD F hr hgd hg hm hk hb hd hx ha hdb he hpl) fun σ H Q ⟨L, C, ρ, R, h⟩ => by
    unfold clD clE at h
    by_cases hk : (kl.pure || !L.pure) = true
    · rw [if_pos hk] at h
      refine tA_of R (L := kl) h fun q vs H1 C1 A1 R1 r1 h1 => ?_
      by_cases hl : q.1.length = j
      · rw [if_pos hl] at h1
        exact cl_fin (m := m) (ds := q.1 ++ dds) (L := L) hE (by rw [List.length_append, hl]; exact hj) R1 (RpA_app (hdr H1 _) r1) (wp_mono h1 (fun p _ hp v H' C' A R' r => hp v H' C' ((A1.lev (K := X.K) hk).trans A) R' r) fun _ z => z)
      · rw [if_neg hl] at h1; exact h1.elim
    · rw [if_neg hk] at h; exact h.elim
theorem dflt_int {K : PySem.W.Frag} (n : Int) : ∀ (H : Hp) (P : Addr → Prop), RpA K H P [V.int n] [.int n] := fun _ _ => .cons (.int _) .nil
end
end
end Dm

namespace Dm
noncomputable section
open PySem PySem.Spec PyProof.Rows L2
/-! ### the heap stands but for the frame's own names, which stand by what they are bound to -/
section
variable {X : Cx} {pins : List (Addr × Obj)} {σ : L2.St} {H : Hp} {s : Shared} {h' : Heap}
theorem isCell_k {h h' : Heap} {L c : Addr} {u : Option Value} (k : ∀ b o, b ≠ L → h.get? b = some o → h'.get? b = some o) (hc : c ≠ L) (z : h.IsCell c u) : h'.IsCell c u := by
  obtain ⟨o, ho, hd⟩ := z
  exact ⟨o, k _ _ hc ho, hd⟩
theorem inv_stands {m : Str → Option Value} {t' : Nat} (I : Inv X pins σ H s) (hl : ∀ (i : Nat) (x : Str) (v : V), X.N[i]? = some x → σ[i]? = some (some v) → Vis X.env.scope x → ∃ u, RelV v u ∧ Look X.env s.heap m x u)
    (hm' : h'.Ns X.env.locals m) (k : ∀ b u, b ≠ X.env.locals → s.heap.get? b = some u → h'.get? b = some u) : Inv X pins σ H { s with heap := h', toks := t' } := by
  have ne : ∀ {b : Addr} {o : Obj}, X.s_0.heap.get? b = some o → b ≠ X.env.locals := fun e => Nat.ne_of_lt (Nat.lt_of_lt_of_le (Heap.lt_size e) I.ok.above)
  refine ⟨I.ok, I.os, I.bare, ⟨fun b o e n hb hx => k _ _ (ne e) (I.base.keep b o e n hb hx), fun b o e n hb hx => ?_, I.base.free, fun b o e hx => ?_, I.base.tups, I.base.frzs, I.base.tbls⟩, ⟨m, hm', fun j y v' e1 e2 e3 => ?_⟩, fun y c e => ?_, I.free, I.freeC, fun p hp => ?_,
    fun b ob e => (I.hok b ob e).stay (fun c w' hc q => k c w' ?_ q) (fun _ q => q) fun _ _ q => q, I.len⟩
  · obtain ⟨sl, e1⟩ := I.base.slot b o e n hb hx
    exact ⟨sl, k _ _ (ne e) e1⟩
  · obtain ⟨o', e1⟩ := I.base.there b o e hx
    exact ⟨o', k _ _ (ne e) e1⟩
  · obtain ⟨u', r', q⟩ := hl j y v' e1 e2 e3
    refine ⟨u', r', ?_⟩
    rcases q with ⟨kk, e⟩ | ⟨kk, c, e, z⟩
    · exact .inl ⟨kk, e⟩
    · exact .inr ⟨kk, c, e, isCell_k k (I.cne y c e) z⟩
  · obtain ⟨w', z⟩ := I.cell y c e
    exact ⟨w', isCell_k k (I.cne y c e) z⟩
  · obtain ⟨e, n, ne', nf, d⟩ := I.pin p hp
    exact ⟨k _ _ ne' e, n, ne', nf, d⟩
  · rintro rfl
    have hfree := I.free
    rcases hc with rfl | hc
    · rw [hfree] at e; cases e
    · rw [hfree] at hc; cases hc
/-- all objects of a heap but the one at L and those of h₀ -/
def allBut (h₀ : Heap) (L : Addr) (h : Heap) : List (Addr × Obj) := (List.range h.objs.size).filterMap fun b => match h.get? b with
  | some o => if b ≠ L ∧ h₀.get? b = none then some (b, o) else none
  | none => none
theorem mem_allBut {h₀ h : Heap} {L b : Addr} {o : Obj} : (b, o) ∈ allBut h₀ L h ↔ h.get? b = some o ∧ b ≠ L ∧ h₀.get? b = none := by
  unfold allBut
  rw [List.mem_filterMap]
  constructor
  · rintro ⟨c, _, hc⟩
    cases e : h.get? c with
    | none => simp [e] at hc
    | some u =>
      simp only [e] at hc
      split at hc
      · rename_i hh
        cases hc
        exact ⟨e, hh⟩
      · cases hc
  · rintro ⟨e, hh⟩
    exact ⟨b, List.mem_range.mpr (Heap.lt_size e), by simp only [e]; rw [if_pos hh]⟩
theorem news_allBut {h₀ h : Heap} {L : Addr} : News h₀ L h (allBut h₀ L h) := fun p hp => mem_allBut.mp hp
/-- what News of all says of a later heap -/
theorem stand_of {h₀ h h' : Heap} {L : Addr} {m : Str → Option Value} {more : List (Addr × Obj)} (hk : ∀ b o, h₀.get? b = some o → h.get? b = some o) (F : Fr h₀ L h' m) (N : News h₀ L h' (allBut h₀ L h ++ more)) :
    ∀ b u, b ≠ L → h.get? b = some u → h'.get? b = some u := fun b u hb e => by
  cases q : h₀.get? b with
  | some o =>
    have := hk b o q
    rw [e] at this; cases this
    exact F.keep b u q
  | none => exact (N (b, u) (List.mem_append_left _ (mem_allBut.mpr ⟨e, hb, q⟩))).1
end
end
end Dm

namespace Dm
noncomputable section
open PySem PySem.Spec PyProof.Rows L2 PySem.W
/-! ### sorted(xs), xs tuples of ints, none of them empty -/
def encT (b : List Int) : D := .tuple (b.map PyData.int)
def leT : List Int → List Int → Bool := dataLe false encT
abbrev RT (K : PySem.W.Frag) (H : Hp) (u : Value) (b : List Int) : Prop := ∃ v, RelV v u ∧ Rp K H (fun _ => True) v (encT b)
theorem each_RT {K : PySem.W.Frag} {H : Hp} : ∀ {bs : List (List Int)} {vs : List V} {us : List Value}, Vals vs us → RpA K H (fun _ => True) vs (bs.map encT) → EachIs (RT K H) us bs
  | [], _, _, r, .nil => by cases r; exact .nil
  | b :: bs, _, _, r, .cons h t => by
    cases r with
    | cons a b => exact .cons ⟨_, a, h⟩ (each_RT b t)
theorem RT_each {K : PySem.W.Frag} {H : Hp} : ∀ {bs : List (List Int)} {us : List Value}, EachIs (RT K H) us bs → ∃ vs, Vals vs us ∧ RpA K H (fun _ => True) vs (bs.map encT)
  | [], _, .nil => ⟨[], .nil, .nil⟩
  | b :: bs, _, .cons ⟨v, a, h⟩ t => by
    obtain ⟨vs, r, q⟩ := RT_each t
    exact ⟨v :: vs, .cons a r, .cons h q⟩
theorem reads_ints {h : Heap} : ∀ {ns : List Int} {us : List Value}, Vals (ns.map V.int) us → ReadsAll h us (ns.map PyData.int) []
  | [], _, r => by cases r; exact .nil
  | n :: ns, _, r => by
    cases r with
    | cons a b =>
      obtain ⟨t, rfl⟩ := a
      exact .cons (as := []) (bs := []) (.int n t) (reads_ints b)
def rSortedTT (K : PySem.W.Frag) : List V → Hp → VK → Prop := fun vs H Q => ∃ (a : Addr) (xs : List V) (bs : List (List Int)), vs = [V.ref a] ∧ SqL K H a xs ∧ RpA K H (fun _ => True) xs (bs.map encT) ∧ (∀ b ∈ bs, b ≠ []) ∧
  ∀ (ys : List V) (p : Addr), RpA K H (fun _ => True) ys ((bs.mergeSort leT).map encT) → H p = none → Q (.ref p) (upd H p (.lst ys))
section
variable {X : Cx}
theorem cr_sortedTT {k : Nat} (hr : Room k X.A) : CallR X (.builtin "sorted") (rSortedTT X.K) := by
  intro pins s σ H vs us Q I r h
  obtain ⟨a, xs, bs, rfl, hs, rx, hne, q⟩ := h
  obtain ⟨its, rv, hl, hz⟩ := I.list hs
  rw [Vals.ref1 r]
  have e := each_RT rv rx
  have hlen : bs.length = its.length := e.length.symm
  refine sorted_data (enc := encT) hl.isList e (e.mono fun u b hub => ?_) (AllAlike.of fun b b' => ?_) ?_ (by rw [hlen, ← rv.length]; exact hz) (fun b _ => ?_) fun out ho eo => ?_
  · obtain ⟨v, hv, hb⟩ := hub
    unfold encT at hb
    cases hb with
    | tup hx ra =>
      have eu := ra.ints
      subst eu
      obtain ⟨its', rv', ⟨o, ho, hc, n, hd⟩, _⟩ := I.tuple hx.sq
      have hu := hv
      cases hu
      exact ⟨_, .tuple ho hc hd (reads_ints rv')⟩
  · show alike (.tuple (b.map PyData.int)) (.tuple (b'.map PyData.int)) = true
    unfold alike
    exact alike_ints _ _
  · refine .inl fun d hd => ?_
    obtain ⟨b, hb, rfl⟩ := List.mem_map.mp hd
    cases b with
    | nil => exact absurd rfl (hne _ hb)
    | cons x r => exact ⟨_, _, rfl⟩
  · have hd : (encT b).depth ≤ 1 := by
      unfold encT PyData.depth
      rw [depth_ints]
      exact Nat.le_refl _
    have := hr.un
    omega
  · obtain ⟨ys, ry, rr⟩ := RT_each eo
    obtain ⟨ep, he'⟩ := PyProof.Rows.sortedAll_at s.heap its out.toArray
    have hl2 : ys.length ≤ sizeLine := by rw [ry.length, ho, hlen, ← rv.length]; exact hz
    exact ⟨.ref _, upd H (s.heap.objs.size + 1) (.lst ys), I.laid (t' := s.toks) (fun _ _ => PyProof.Rows.sortedAll_old) (Nat.le_succ _) ⟨hl2, _, ep, ry, by simpa using he'⟩, rfl, q _ _ rr (I.hok.fresh (Nat.le_succ _))⟩
end
/-- the items, if all are tuples of ints and none is empty -/
def tup1 : D → Option (List Int)
  | .tuple l => match ints? l with
    | some (x :: r) => some (x :: r)
    | _ => none
  | _ => none
def tups? : List D → Option (List (List Int))
  | [] => some []
  | d :: r => match tup1 d, tups? r with
    | some b, some bs => some (b :: bs)
    | _, _ => none
theorem tup1_some {d : D} {b : List Int} (h : tup1 d = some b) : d = encT b ∧ b ≠ [] := by
  unfold tup1 at h
  split at h
  · split at h
    · rename_i l x r e
      cases h
      have := ints?_some e
      subst this
      exact ⟨rfl, by simp⟩
    · cases h
  · cases h
theorem tups?_some : ∀ {l : List D} {bs : List (List Int)}, tups? l = some bs → l = bs.map encT ∧ ∀ b ∈ bs, b ≠ []
  | [], bs, h => by cases h; exact ⟨rfl, by simp⟩
  | d :: r, bs, h => by
    unfold tups? at h
    split at h
    · rename_i b bs' e1 e2
      cases h
      obtain ⟨rfl, hb⟩ := tup1_some e1
      obtain ⟨rfl, hbs⟩ := tups?_some e2
      refine ⟨rfl, fun c hc => ?_⟩
      rcases List.mem_cons.mp hc with rfl | hc
      · exact hb
      · exact hbs c hc
    · cases h
theorem tups?_map : ∀ {bs : List (List Int)}, (∀ b ∈ bs, b ≠ []) → tups? (bs.map encT) = some bs
  | [], _ => rfl
  | b :: bs, h => by
    have ih := tups?_map (bs := bs) fun c hc => h c (List.mem_cons_of_mem _ hc)
    cases b with
    | nil => exact absurd rfl (h [] (List.mem_cons_self ..))
    | cons x r =>
      have e1 : tup1 (encT (x :: r)) = some (x :: r) := by
        unfold tup1 encT
        simp only [ints?_map]
      show (match tup1 (encT (x :: r)), tups? (bs.map encT) with | some b, some bs => some (b :: bs) | _, _ => none) = _
      rw [e1, ih]
def tupsD : D → Option (List (List Int))
  | .list l => tups? l
  | _ => none
def soPA (fe : ES) : AS := fun L ρ => (fe L ρ).bind fun p => (ofO (tupsD p.1)).bind fun bs => .ok ((bs.mergeSort leT).map encT, p.2)
theorem noLs_encT : ∀ {bs : List (List Int)}, noLs (bs.map encT) = true := noLs_map (f := encT) fun b => (show noL (.tuple (b.map PyData.int)) = true by
  unfold noL
  exact noLs_map_int)
/-- the order is the lists' own -/
theorem leT_eq : leT = fun a b => decide (a ≤ b) := by
  funext p q
  show (!dataLt (.tuple (q.map .int)) (.tuple (p.map .int))) = _
  rw [dataLt_tuple]
  show (!rowLt (q.map .int) (p.map .int)) = _
  rw [dataLt_ints]
  by_cases h : q < p
  · have h' : ¬ p ≤ q := fun r => List.not_lt.mpr r h
    simp [h, h']
  · have h' : p ≤ q := List.not_lt.mp h
    simp [h, h']
section
variable {X : Cx} {np : Fp} {EW : XW} {p pos : Pos} {e : Expr} {fe : ES}
theorem dn_sortedP {k : Nat} {x : Str} (hr : Room k X.A) (hg : Gl X x) (hm : X.mg x = none) (hv : bootBuiltins x = some (.builtin "sorted")) (ha : DE X np EW e fe) (hn : x ≠ "__name__" := by decide) (hdb : (x == ("__debug__" : Str)) = false := by decide)
    (he : starEach [e] X.env = (false, eval e X.env) :: starEach [] X.env := by rfl) : DN X np EW (.Call (.Name x p) [e] [] pos) (soPA fe) :=
  PE.weak (pe_callB (cr_sortedTT hr) hg hm hv (pa_cons ha pa_nil he) hn hdb he rfl) fun σ H Q ⟨L, C, ρ, R, h⟩ => tE_of R h fun q v H1 C1 A1 R1 r1 h1 => by
    obtain ⟨bs, e, h2⟩ := wp_ofO (wp_bind.mp h1)
    obtain ⟨dq, ρ1⟩ := q
    cases dq <;> simp only [tupsD, reduceCtorEq] at e
    obtain ⟨rfl, hne⟩ := tups?_some e
    obtain ⟨a, us, rfl, ha, _, rr⟩ := r1.lst_inv
    exact ⟨_, us, bs, rfl, .of ha, rr.free noLs_encT, hne, fun ys t k1 ht => h2 t _ H1 C1 A1 R1 ht (k1.free noLs_encT)⟩
end
variable {fe : ES} {L : Lv} {ρ : Slots}
@[simp] theorem ev_soPA : soPA fe L ρ = (fe L ρ).bind fun p => (ofO (tupsD p.1)).bind fun bs => .ok ((bs.mergeSort leT).map encT, p.2) := Eq.trans rfl rfl
end
end Dm

namespace Dm
noncomputable section
open PySem PySem.Spec PyProof.Rows L2 PySem.W
/-! ### sorted(xs, key=f), xs tuples of ints, f a def of one's own that keeps the heap -/
/-- what is asked of the key's def: its key of what stands for b is kf b, all of the heap kept -/
def KeyT (X : Cx) (f : Addr) (kf : List Int → D) : Prop := ∀ (pins : List (Addr × Obj)) (σ : L2.St) (H : Hp) (s : Shared) (u : Value) (b : List Int), Inv X pins σ H s → RT X.K H u b →
  wpAny (model X.prog X.w) X.A.in1.in1 (call (.ref f) [u]) (KeyPure (kf b) s) (fun _ _ => False) s
structure KfOk (kf : List Int → D) : Prop where
  al : ∀ b b', alike (kf b) (kf b') = true
  tu : ∀ b, ∃ x r, kf b = .tuple (x :: r)
  dp : ∀ b, (kf b).depth ≤ 60
def rSortedKT (K : PySem.W.Frag) (f : Addr) (kf : List Int → D) : List V → List V → Hp → VK → Prop := fun vs zs H Q => ∃ (a : Addr) (xs : List V) (bs : List (List Int)), vs = [V.ref a] ∧ zs = [V.ref f] ∧ SqL K H a xs ∧ RpA K H (fun _ => True) xs (bs.map encT) ∧
  ∀ (ys : List V) (p : Addr), RpA K H (fun _ => True) ys ((bs.mergeSort (dataLe false kf)).map encT) → H p = none → Q (.ref p) (upd H p (.lst ys))
section
variable {X : Cx}
theorem cr_sortedKT {k : Nat} {f : Addr} {kf : List Int → D} (hr : Room k X.A) (ok : KfOk kf) (turn : KeyT X f kf) : CallRK X (.builtin "sorted") [Str.ofString "key"] (rSortedKT X.K f kf) := by
  intro pins s σ H vs zs us ws Q I r rz h
  obtain ⟨a, xs, bs, rfl, rfl, hs, rx, q⟩ := h
  obtain ⟨its, rv, hl, hz⟩ := I.list hs
  rw [Vals.ref1 r, Vals.ref1 rz]
  have e := each_RT rv rx
  have hlen : bs.length = its.length := e.length.symm
  show wpAny (model X.prog X.w) X.A (call (.builtin "sorted") [.ref a] [(Str.ofString "key", .ref f)]) _ _ s
  refine sorted_key_data (b := false) kf hl.isList e (AllAlike.of ok.al) (Sortable.tuples ok.tu) (by rw [hlen, ← rv.length]; exact hz) (fun b _ => ?_) (ksk_s1 _ _) (fun _ => ksk_l1 _ _) (fun _ => ksk_t1 _ _)
    (fun v b hb _ h tk kp => turn pins σ H { s with heap := h, toks := tk } v b (I.kept (t' := tk) kp) hb) fun out c h' tk kp hn hD ho eo => ?_
  · have := ok.dp b
    have := hr.un
    omega
  · obtain ⟨ys, ry, rr⟩ := RT_each eo
    have hl2 : ys.length ≤ sizeLine := by rw [ry.length, ho, hlen, ← rv.length]; exact hz
    exact ⟨.ref _, upd H (s.heap.objs.size + 1) (.lst ys), I.laid (t' := tk) kp (Nat.le_succ _) ⟨hl2, _, _, ry, hD⟩, rfl, q _ _ rr (I.hok.fresh (Nat.le_succ _))⟩
end
/-- (sum(t), t) -/
def totK (b : List Int) : D := .tuple [.int b.sum, encT b]
theorem totK_ok : KfOk totK where
  al := fun b b' => by
    unfold totK encT
    simp only [alike, alikeAll, alike_ints, Bool.and_self]
  tu := fun b => ⟨_, _, rfl⟩
  dp := fun b => by
    unfold totK encT
    simp only [PyData.depth, PyData.depthAll, depth_ints]
    omega
end
end Dm

namespace Dm
noncomputable section
open PySem PySem.Spec PyProof.Rows L2 PySem.W
/-! ### def by_total(standing): return (sum(standing), standing), as the key of sorted -/
section
variable {X : Cx} {pins : List (Addr × Obj)} {σ : L2.St} {H : Hp} {s : Shared}
/-- a local's value, at any state -/
theorem ld_var {i : Nat} {x : Str} {pos : Pos} {v : V} {Q E : Value → Shared → Prop} (I : Inv X pins σ H s) (hN : X.N[i]? = some x) (hv : Vis X.env.scope x) (e : σ[i]? = some (some v)) (h : ∀ u, RelV v u → Q u s)
    (hd : (x == ("__debug__" : Str)) = false := by decide) (hcd : (x == ("__classdict__" : Str)) = false := by decide) : wpAny (model X.prog X.w) X.A (eval (.Name x pos) X.env) Q E s := by
  obtain ⟨m, hn, hl⟩ := I.loc
  obtain ⟨u, r, l⟩ := hl i x v hN e hv
  have fin : Q u s := h u r
  rcases l with ⟨hk, hm⟩ | ⟨hk, c, hc, hcell⟩
  · exact wpAny_Name (wpAny_loadName_local I.ok.kind hk hn hm fin) hd
  · rcases hk with hk | hk
    · exact wpAny_Name (wpAny_loadName_cell I.ok.kind hk hc hcell fin) hd
    · exact wpAny_Name (wpAny_loadName_free I.ok.kind hk hc hcell fin hcd) hd
end
theorem keyT_total {X : Cx} {k : Nat} {f : Addr} {fd : FuncData} {st : Stmt} {kn qual : Str} {p1 p2 p3 p4 p5 p6 : Pos} {x1}
    (Fn : Fun X.K kn qual st f fd) (Sc : FnScope ["standing"] ["standing"] (defScope st))
    (hbd : defBody st = [.Return (some (.Tuple [.Call (.Name "sum" p1) [.Name "standing" p2] [] p3, .Name "standing" p4] x1 p5)) p6])
    (hbi : Binds X.K fd ["standing"] []) (hr : Room (k + 3) X.A) (hm : X.mg "sum" = none)
    (hgl : ∀ L a cd, (envOfC qual (defScope st) L a cd).kindOf "sum" = some .globalImplicit) (hvis : Vis (defScope st) "standing") : KeyT X f totK := by
  intro pins σ H s u b I hu
  obtain ⟨v, rv, rp⟩ := hu
  have e0 := I.env0.in1.in1
  have hr2 : Room (k + 1) X.A.in1.in1 := hr.in1.in1
  obtain ⟨oc, od, kV, doc, pm, an, cdv, ct, osl, rfl, lk, hcd⟩ := Fn.ex
  have kin := I.kIn
  have kinds : ∀ y ∈ (["standing"] : List Str).zip [u], (defScope st).names.lookup y.1 = some .local ∨ ((defScope st).names.lookup y.1 = some .cell ∧ ((cellsFrom (s.heap.objs.size + 1) (defScope st).names []).lookup y.1).isSome = true) := by
    intro y hy
    rcases Sc.par y.1 (List.of_mem_zip (show (y.1, y.2) ∈ (["standing"] : List Str).zip [u] from hy)).1 with q | q
    · exact .inl q
    · exact .inr ⟨q, PySem.W.cellsFrom_some _ _ _ (.inl q)⟩
  refine wpAny_call ?_
  refine codeAny_call_function hr2.depth (kin _ _ lk) rfl Sc.co Sc.gen rfl (PySem.W.codeRec_of kin hcd) (hbi s [u] kin rfl _ _ _ _ (wpAny_newFunctionEnv_cells Sc.kind kinds fun env he s1 x => ?_))
  subst he
  refine ⟨I.nolimit.keeps x.toInCall.keep, codeAny_func ?_⟩
  have J := inv_start (CX := CX0) (E := fun _ _ _ => False) Sc hr2.hd e0 (vs := [v]) rfl (.cons rv .nil) x
  obtain ⟨h1, tk, rfl, kp⟩ := x.done
  have rp' := rp
  unfold encT at rp'
  obtain ⟨a, us, rfl, hx, ra⟩ := rp'.tup_inv
  obtain rfl : u = .ref a := rv
  have eu := ra.ints
  subst eu
  obtain ⟨its', rv', ht, hz⟩ := J.tuple hx
  obtain ⟨o, ho, hc, n, hd⟩ := id ht
  obtain ⟨xs, e⟩ := rv'.ints.allInts.items
  have hn : numsOf (intItems xs).toList = b := by rw [← e]; exact rv'.ints.numsOf
  rw [nums_intItems] at hn
  have ht2 := ht
  rw [e] at ht2
  refine Eq.mpr (congrArg (fun B => wpAny _ _ (execs B _) _ _ _) hbd) ?_
  refine wpAny_execs_cons (wpAny_Return_some (wpAny_Tuple_spliced ?_))
  show wpAny _ _ (spliced ((false, eval (.Call (.Name "sum" p1) [.Name "standing" p2] [] p3) _) :: [(false, eval (.Name "standing" p4) _)])) _ _ _
  refine Calls.spliced_cons (wpAny_Call_Name_kw (ld_blt J (hgl _ _ _) hm (by rfl) ?_))
  refine PyProof.Rows.callWith_builtin1 ?_
  show wpAny _ _ (spliced ((false, eval (.Name "standing" p2) _) :: [])) _ _ _
  refine Calls.spliced_cons (ld_var (i := 0) J rfl hvis rfl fun u1 r1 => Calls.spliced_nil ?_)
  obtain rfl : u1 = .ref a := r1
  refine PySem.W.ktm_sumG hr2.hd ht2 fun h' tk' t' hk => ?_
  rw [preSum_eq, List.take_of_length_le (by simp), hn]
  have J2 := J.kept (t' := tk') hk
  refine Calls.spliced_cons (ld_var (i := 0) J2 rfl hvis rfl fun u2 r2 => Calls.spliced_nil ?_)
  obtain rfl : u2 = .ref a := r2
  refine ⟨by show 2 ≤ sizeLine; decide, ?_⟩
  refine ⟨_, _, rfl, fun b o e => Heap.get?_push_of_some _ (hk _ _ (kp _ _ e)), ?_⟩
  have h9 := Heap.get?_push_of_some (o := { cls := .type "tuple", data := .seq [Value.int b.sum t', .ref a].toArray }) (hk _ _ ho)
  exact .tuple (as := [] ++ ([] ++ [])) (Heap.get?_push_size _ rfl) rfl rfl (.cons (.int _ _) (.cons (.tuple h9 hc hd (reads_ints rv')) .nil))
def soKA (kf : List Int → D) (fe : ES) : AS := fun L ρ => (fe L ρ).bind fun p => (ofO (tupsD p.1)).bind fun bs => .ok ((bs.mergeSort (dataLe false kf)).map encT, p.2)
section
variable {X : Cx} {np : Fp} {EW : XW} {p pos pk kpos : Pos} {e : Expr} {fe : ES}
theorem dn_sortedKT {k : Nat} {x kx : Str} {f : Addr} {kf : List Int → D} (hr : Room k X.A) (ok : KfOk kf) (turn : KeyT X f kf) (hg : Gl X x) (hm : X.mg x = none) (hv : bootBuiltins x = some (.builtin "sorted")) (hgk : Gl X kx) (hmk : X.mg kx = some (.ref f))
    (ha : DE X np EW e fe) (hn : x ≠ "__name__" := by decide) (hdb : (x == ("__debug__" : Str)) = false := by decide) (hdk : (kx == ("__debug__" : Str)) = false := by decide)
    (he : backTo pos (starEach [e] X.env) = (false, eval e X.env) :: backTo pos (starEach [] X.env) := by rfl) (hpl : (backTo pos (starEach [e] X.env)).any (·.1) = false := by rfl)
    (hks : (backToKw pos (keywordEach [⟨some (Str.ofString "key"), .Name kx pk, kpos⟩] X.env)).filterMap (·.1) = [Str.ofString "key"] := by rfl)
    (hse : starEach [e] X.env = (false, eval e X.env) :: starEach [] X.env := by rfl) : DN X np EW (.Call (.Name x p) [e] [⟨some (Str.ofString "key"), .Name kx pk, kpos⟩] pos) (soKA kf fe) :=
  PE.weak (pe_callBK (cr_sortedKT hr ok turn) hg hm hv (pa_cons ha pa_nil hse) (pk_cons (pe_glob (v := .ref f) hgk hmk rfl hdk) pk_nil) hn hdb he hpl rfl rfl hks) fun σ H Q ⟨L, C, ρ, R, h⟩ => tE_of R h fun q v H1 C1 A1 R1 r1 h1 => by
    obtain ⟨bs, e, h2⟩ := wp_ofO (wp_bind.mp h1)
    obtain ⟨dq, ρ1⟩ := q
    cases dq <;> simp only [tupsD, reduceCtorEq] at e
    obtain ⟨rfl, hne⟩ := tups?_some e
    obtain ⟨a, us, rfl, ha, _, rr⟩ := r1.lst_inv
    exact ⟨_, us, bs, rfl, rfl, .of ha, rr.free noLs_encT, fun ys t k1 ht => h2 t _ H1 C1 A1 R1 ht (k1.free noLs_encT)⟩
/-! many *= e at a name -/
def ipMW : TIp := fun x y H Q => ∃ i j, x = .int i ∧ y = .int j ∧ CMulW i j ∧ Q (.int (i * j)) H
theorem ip_mulW : PIp X .Mult ipMW := by
  intro pins s σ H x y v u Q I r1 r2 h
  obtain ⟨i, j, e1, e2, hc, q⟩ := h
  subst e1; subst e2
  obtain ⟨t, rfl⟩ := r1
  obtain ⟨t', rfl⟩ := r2
  exact imul_int ⟨.int _, H, I.tok _, ⟨_, rfl⟩, q⟩ hc.ok
def amS (i : Nat) (fe : ES) : SS := fun ρ => match ρ[i]? with
  | some (.va (.int a)) => (fe .an ρ).to fun p => (isI p.1).to fun b => if a.natAbs.log2 + b.natAbs.log2 < 1000000 then .nx (p.2.set i (.va (.int (a * b)))) else .bad
  | _ => .bad
theorem ds_amn {i : Nat} {x : Str} {pos' : Pos} (hN : X.N.Nodup) (hi : X.N[i]? = some x) (hx : Loc X.env.scope x) (h : DE X np EW e fe)
    (hf : X.fn x = true ∨ X.env.scope.names.lookup x = some .local := by first | exact .inl rfl | exact .inr rfl | assumption) : DS X np EW (.AugAssign (.Name x pos') .Mult e pos) (amS i fe) :=
  PS.weak (ps_aug hN hi hx h ip_mulW hf) fun Dn σ H ⟨C, ρ, R, h⟩ => by
    unfold amS at h
    cases e1 : ρ[i]? with
    | none => rw [e1] at h; exact h.elim
    | some s =>
      rw [e1] at h
      have r := R.get i s e1
      cases s with
      | va d =>
        cases d with
        | int a =>
          generalize eo : σ[i]? = o at r
          cases r with
          | va r =>
            obtain rfl := r.int_inv
            refine ⟨_, eo, toE_of (L := .an) R h fun p v H' C' A R' rv q => ?_⟩
            obtain ⟨dp, ρ1⟩ := p
            cases dp with
            | int b =>
              obtain rfl := rv.int_inv
              by_cases hz : a.natAbs.log2 + b.natAbs.log2 < 1000000
              · have q2 : pst X.K np EW Dn H' C' (if a.natAbs.log2 + b.natAbs.log2 < 1000000 then Fl.nx (List.set ρ1 i (Sl.va (PyData.int (a * b)))) else Fl.bad) := q
                rw [if_pos hz] at q2
                exact ⟨a, b, rfl, rfl, hz, q2 _ H' C' .refl (R'.set (.va (.int _)))⟩
              · have q2 : pst X.K np EW Dn H' C' (if a.natAbs.log2 + b.natAbs.log2 < 1000000 then Fl.nx (List.set ρ1 i (Sl.va (PyData.int (a * b)))) else Fl.bad) := q
                rw [if_neg hz] at q2
                exact q2.elim
            | _ => exact q.elim
        | _ => exact h.elim
      | _ => exact h.elim
end
section
variable {fe : ES} {L : Lv} {ρ : Slots} {kf : List Int → D}
@[simp] theorem ev_soKA : soKA kf fe L ρ = (fe L ρ).bind fun p => (ofO (tupsD p.1)).bind fun bs => .ok ((bs.mergeSort (dataLe false kf)).map encT, p.2) := Eq.trans rfl rfl
end
@[simp] theorem ev_amS {i : Nat} {fe : ES} {ρ : Slots} : amS i fe ρ = (match ρ[i]? with
  | some (.va (.int a)) => (fe .an ρ).to fun p => (isI p.1).to fun b => if a.natAbs.log2 + b.natAbs.log2 < 1000000 then .nx (p.2.set i (.va (.int (a * b)))) else .bad
  | _ => .bad) := Eq.trans rfl rfl
/-- the key's order in plain words -/
theorem eqv_intsK : ∀ {a b : List Int}, PyData.eqvAll (a.map PyData.int) (b.map PyData.int) = decide (a = b)
  | [], [] => rfl
  | [], b :: t => by simp [PyData.eqvAll]
  | a :: s, [] => by simp [PyData.eqvAll]
  | a :: s, b :: t => by
    have ih := eqv_intsK (a := s) (b := t)
    rw [List.map_cons, List.map_cons, PyData.eqvAll, ih]
    simp only [PyData.eqv]
    rw [Bool.eq_iff_iff]
    simp
theorem leK_eq : dataLe false totK = fun a b => decide (a.sum < b.sum ∨ (a.sum = b.sum ∧ a ≤ b)) := by
  funext p q
  show (!dataLt (totK q) (totK p)) = _
  unfold totK encT
  rw [dataLt_pair (by simp [alike]) (by unfold alike; exact alike_ints _ _), dataLt_int, dataLt_tuple]
  have e3 : PyData.eqv (.tuple (q.map PyData.int)) (.tuple (p.map PyData.int)) = decide (q = p) := by
    show PyData.eqvAll _ _ = _
    exact eqv_intsK
  have e4 : PyData.eqv (.int q.sum) (.int p.sum) = decide (q.sum = p.sum) := by
    rw [Bool.eq_iff_iff]
    simp [PyData.eqv]
  rw [e3, e4]
  have e5 : PyProof.Rows.lexLt itemOrd (keyToksAll (q.map PyData.int)) (keyToksAll (p.map PyData.int)) = decide (q < p) := dataLt_ints q p
  rw [e5]
  by_cases h1 : q.sum = p.sum
  · rw [if_pos (decide_eq_true h1)]
    by_cases h2 : q = p
    · subst h2
      simp [List.le_refl]
    · rw [if_neg (by simpa using h2)]
      by_cases h3 : q < p
      · have h4 : ¬ p ≤ q := fun r => List.not_lt.mpr r h3
        simp [h1, h3, h4]
      · have h4 : p ≤ q := List.not_lt.mp h3
        simp [h1, h3, h4]
  · rw [if_neg (by simpa using h1)]
    by_cases h3 : q.sum < p.sum
    · have h4 : ¬ (p.sum < q.sum ∨ (p.sum = q.sum ∧ p ≤ q)) := by omega
      simp [h3, h4]
    · have h4 : p.sum < q.sum ∨ (p.sum = q.sum ∧ p ≤ q) := by omega
      simp [h3, h4]
end
end Dm

/-! Dm40: exceptions: a def that raises, a try around its call, isinstance of what was caught. -/
namespace Dm
noncomputable section
open PySem PySem.Spec PyProof.Rows L2

/-- a callee that may not raise here -/
def nxP (m : PF) : PF := fun ds => match m ds with
  | .ex _ => .bad
  | r => r
theorem nxP_ok {m : PF} {ds : List D} {d : D} (h : m ds = .ok d) : nxP m ds = .ok d := by unfold nxP; rw [h]
/-- what is wanted of an exception that leaves a def -/
def xoX (K : PySem.W.Frag) : XO := fun E c H' => ∀ (C : Addr) (d : Option Addr), PySem.W.nsIn K mainGlobals c.cls = some (some (.ref C)) → exArg H' d c.arg → E (.ref C) d H'
section
variable {P : Program} {w : World} {K : PySem.W.Frag} {mg : Str → Option Value} {base : Heap}
theorem GFn.nx {Xc : CXT} {k : Nat} {f : Addr} {fd : FuncData} {ps : List Str} {n : Nat} {m : PF} {xo xo' : XO} (F : GFn P w K mg base Xc k f fd ps (spG K xo n (ofP m))) : GFn P w K mg base Xc k f fd ps (spG K xo' n (ofP (nxP m))) :=
  F.imp fun vs H Q E ⟨h1, C, np, as, h2, h3, h4, hw⟩ => ⟨h1, C, np, as, h2, h3, h4, by
    unfold ofP at hw ⊢
    cases e : as.mapM unbo with
    | none => simp only [e] at hw; exact hw.elim
    | some ds =>
      simp only [e] at hw ⊢
      cases em : m ds with
      | bad => rw [show nxP m ds = .bad by unfold nxP; rw [em]] at hw; exact hw.elim
      | ex c => rw [show nxP m ds = .bad by unfold nxP; rw [em]] at hw; exact hw.elim
      | ok d => rw [nxP_ok em] at hw; exact hw⟩
/-- a def that may raise: its body's judgement gives its promise -/
theorem g_fnX {x qual : Str} {st : Stmt} {f : Addr} {fd : FuncData} {N ps : List Str} {k m : Nat} {F : SS} (Fn : Fun K x qual st f fd) (Sc : FnScope N ps (defScope st)) (hN : N.length = ps.length + m)
    (hbody : ∀ (np : Fp) (cdv : Value) (A : Around) (outer : List PySem.Env) (s : Shared) (H : Hp) (E : XK), np.n = ps.length → Room k (A.deeper (envOfC qual (defScope st) s.heap.objs.size f cdv)) → A.guards = some [] →
      DSs (cxOf (L2.CX P w) P w K mg base N qual (defScope st) f cdv A outer s H E) np (xoX K E) (defBody st) F) : GFn P w K mg base (L2.CX P w) (k + 1) f fd ps (spG K (xoX K) ps.length (bodyF m F)) := by
  refine ⟨fun vs H Q E h => h.1, fun A outer s H args us vs Q E hr hg e0 hb r hsp => ?_⟩
  obtain ⟨oc, od, kV, doc, pm, an, cdv, ct, osl, rfl, lk, hcd⟩ := Fn.ex
  obtain ⟨hl, C, np, as, hnp, R, h0, hw⟩ := hsp
  have hv : vs.length = np.n := by rw [hl, hnp]
  have kin : K.In s.heap := e0.mod.kin.keeps fun b o e => (e0.bs b o e).1
  have nlm : s.heap.NoLimit := e0.mod.nolimit.keeps fun b o e => (e0.bs b o e).1
  have kinds : ∀ y ∈ ps.zip us, (defScope st).names.lookup y.1 = some .local ∨ ((defScope st).names.lookup y.1 = some .cell ∧ ((cellsFrom (s.heap.objs.size + 1) (defScope st).names []).lookup y.1).isSome = true) := by
    intro y hy
    rcases Sc.par y.1 (List.of_mem_zip (show (y.1, y.2) ∈ ps.zip us from hy)).1 with q | q
    · exact .inl q
    · exact .inr ⟨q, PySem.W.cellsFrom_some _ _ _ (.inl q)⟩
  have toEnd : ∀ (X : Cx), X = cxOf (L2.CX P w) P w K mg base N qual (defScope st) f cdv A outer s H E → ∀ {σ' : L2.St} {H' : Hp} {v : V} {u : Value} {s' : Shared}, Inv X [] σ' H' s' → RelV v u → Q v H' → CE outer P w H s Q u s' := by
    intro X hX σ' H' v u s' J rv q
    subst hX
    exact ⟨v, H', J.os, J.bare, J.base, J.hok, rv, q⟩
  refine codeAny_call_function hr.depth (kin _ _ lk) rfl Sc.co Sc.gen rfl (PySem.W.codeRec_of kin hcd) (hb _ _ _ _ (wpAny_newFunctionEnv_cells Sc.kind kinds fun env he s1 x => ?_))
  subst he
  refine ⟨nlm.keeps x.toInCall.keep, codeAny_func ?_⟩
  have B := hbody np cdv A outer s H E hnp (hr.deeper _) hg
  have I := inv_start (CX := L2.CX P w) (E := E) Sc hr.hd e0 hl r x
  have pre : tS K np (xoX K E) F { nx := fun _ H' => Q .non H', rt := Q } (L2.start N vs) H := by
    refine ⟨C, _, rel_start (m := m) R (by rw [hN, hl]), ?_⟩
    have hw' : wp (finF as (F (as ++ List.replicate m .no))) _ _ := hw
    cases e : F (as ++ List.replicate m .no) with
    | bad => rw [e] at hw'; exact hw'.elim
    | bk _ => rw [e] at hw'; exact hw'.elim
    | ct _ => rw [e] at hw'; exact hw'.elim
    | ex c => rw [e] at hw'; exact fun H' C' S => hw' H' C' S
    | rt d ρ' =>
      rw [e] at hw'
      intro v σ' H' C' S R' rv
      obtain ⟨C'', S2, R2, r2⟩ := fin_caller (by rw [hnp]; exact h0) hv R S R'
      exact hw' v H' C'' S2 R2 (r2 v d rv)
    | nx ρ' =>
      rw [e] at hw'
      intro σ' H' C' S R'
      obtain ⟨C'', S2, R2, r2⟩ := fin_caller (by rw [hnp]; exact h0) hv R S R'
      exact hw' .non H' C'' S2 R2 .non
  refine wpAny_mono (B.run [] s1 (L2.start N vs) H _ I pre) (fun fl s' hs => ?_) fun e s' hs => hs
  cases fl with
  | ret u =>
    obtain ⟨v, σ', H', J, rv, q⟩ := hs
    exact toEnd _ rfl J rv q
  | next =>
    obtain ⟨σ', H', J, q⟩ := hs
    exact toEnd _ rfl (v := V.non) (u := Value.none) J rfl q
  | brk => obtain ⟨_, _, _, q⟩ := hs; exact q.elim
  | cont => obtain ⟨_, _, _, q⟩ := hs; exact q.elim
theorem g_pureX {x qual : Str} {st : Stmt} {f : Addr} {fd : FuncData} {N ps : List Str} {k m : Nat} {F : SS} (Fn : Fun K x qual st f fd) (Sc : FnScope N ps (defScope st)) (hN : N.length = ps.length + m)
    (hbody : ∀ (np : Fp) (cdv : Value) (A : Around) (outer : List PySem.Env) (s : Shared) (H : Hp) (E : XK), np.n = ps.length → Room k (A.deeper (envOfC qual (defScope st) s.heap.objs.size f cdv)) → A.guards = some [] →
      DSs (cxOf (L2.CX P w) P w K mg base N qual (defScope st) f cdv A outer s H E) np (xoX K E) (defBody st) F) : GFn P w K mg base (L2.CX P w) (k + 1) f fd ps (spG K (xoX K) ps.length (ofP (pfOf m F))) :=
  (g_fnX Fn Sc hN hbody).imp fun _ _ _ _ h => spG_of h
end

/-! ### raise -/
/-- what the written part says of an own exception class: its name, its address -/
structure ExK (K : PySem.W.Frag) (nm : Str) (C : Addr) : Prop where
  ns : PySem.W.nsIn K mainGlobals nm = some (some (.ref C))
  kp : PySem.W.keepIn K (.ref C) = true
  bs : PySem.W.subIn K (.ref C) (.type "BaseException") = some true
  ty : PySem.W.typeIn K (.ref C) = some (.type "type")
  ex : ExcC K C
abbrev veMro : List Value := [.type "ValueError", .type "Exception", .type "BaseException", .type "object"]
def rsS (c : Exn) : SS := fun _ => .ex c
section
variable {X : Cx} {np : Fp} {EW : XW} {nm : Str} {C : Addr} {p pos : Pos} {E : XK}
theorem pmk_own0 {bmB : List Value} {B newId initId : String} {x : Str} (F : ExcBaseFacts B newId initId bmB) (q : PySem.W.excIn X.K C bmB newId = true) (gC : X.mg x = some (.ref C))
    (kC : PySem.W.keepIn X.K (.ref C) = true) (r : Raises X (.ref C)) (hg : Gl X x) (hdb : (x == ("__debug__" : Str)) = false := by decide) :
    PMk X (.Call (.Name x p) [] [] pos) (fun _ H Q => Q (.ref C) none H) := by
  intro pins s σ H Q I h
  refine wpAny_Call_Name_kw (ld_glob I hg gC (PySem.W.callWith_K0 I.kIn kC ?_) hdb)
  show wpAny _ _ (call (.ref C) []) _ _ _
  obtain ⟨bm, N, nm, qn, bs, hdct, sn, sub, ab, col, dd, k0, k1, k2, k3, k5, mN, hC, hN, hni, T⟩ := exc_obj I.kIn q
  refine wpAny_call_exc_subT F T hC hN hni (fun h' e hm => ?_) (by show 0 ≤ sizeLine; omega)
  exact mk_of I hm r h (I.hok.gone hm.new)
/-- raise X() in a def that lets it out -/
theorem ds_raise (EK : ExK X.K nm C) (q : PySem.W.excIn X.K C veMro "ValueError.__new__" = true) (gC : X.mg nm = some (.ref C)) (hg : Gl X nm) (hc : X.calm = true) (tk : Takes X (fun cls d _ H => E cls d H)) (hdb : (nm == ("__debug__" : Str)) = false := by decide) :
    DS X np (xoX X.K E) (.Raise (some (.Call (.Name nm p) [] [] pos)) none kpos) (rsS ⟨nm, none⟩) :=
  PS.weak (ps_raise hc tk (pmk_own0 PySem.F.excBase_ValueError q gC EK.kp (raises_own EK.bs EK.ty) hg hdb)) fun Dn σ H ⟨C', ρ, R, h⟩ => h H C' .refl C none EK.ns rfl

/-! ### try: f(..) except Y as e: y = e -/
/-- what is left of the slots where an exception came out -/
def keepX : Slots → Slots := List.map fun s => match s with
  | .va d => .va d
  | .bo d => .bo d
  | .sc n => .sc n
  | .ex c => .ex c
  | _ => .no
theorem rel_keepX {K : PySem.W.Frag} {H H' : Hp} {C C' : Col} {σ : L2.St} {ρ : Slots} (R : Rel K np H C σ ρ) (S : Stp np H C H' C') : Rel K np H' C' σ (keepX ρ) := by
  refine ⟨by unfold keepX; rw [List.length_map]; exact R.len, fun i s e => ?_⟩
  unfold keepX at e
  rw [List.getElem?_map] at e
  cases e2 : ρ[i]? with
  | none => rw [e2] at e; cases e
  | some s0 =>
    rw [e2] at e
    have r := R.get i s0 e2
    generalize σ[i]? = o at r ⊢
    have hi : ∀ b x, H b = some x → Imm x → H' b = some x := fun b x h im => S.keep b x h (.inr im)
    cases r with
    | no => cases e; exact .no
    | va r => cases e; exact .va (r.move (fun b xs hb h => ⟨S.keep b _ h (.inl (by omega)), by rw [S.colo b (by rw [h]; simp) (by omega)]; exact hb⟩) hi)
    | bo r => cases e; exact .bo (r.move (fun b xs hb h => ⟨S.keep b _ h (.inl (by omega)), by rw [S.colo b (by rw [h]; simp) (by omega)]; exact hb⟩) hi)
    | sc h => cases e; exact .sc (h.elim (fun ⟨o, h⟩ => .inl ⟨o, hi _ _ h trivial⟩) .inr)
    | ex h n r => cases e; exact .ex (hi _ _ h trivial) n (r.move hi)
    | ow _ _ _ _ => cases e; exact .no
    | un _ => cases e; exact .no
    | ob _ _ _ _ _ => cases e; exact .no
    | dc _ _ _ _ => cases e; exact .no
    | tw _ _ _ _ _ _ _ _ _ _ => cases e; exact .no
/-- the caught object, by its class and its dict -/
def exB (cls : Value) (d : Option Addr) (a : Addr) : HO := .ext fun h => ∃ (oe : Obj) (vs : Array Value), h.get? a = some oe ∧ Zc cls d oe ∧ oe.data = .fields vs
end
section
variable {X : Cx} {pins : List (Addr × Obj)} {σ : L2.St} {H : Hp} {s : Shared} {a : Addr}
/-- what stands untracked, and stood not at the entry, may be tracked -/
theorem inv_track {oe : Obj} {vs : Array Value} {cls : Value} {d : Option Addr} (I : Inv X pins σ H s) (ha : s.heap.get? a = some oe) (hz : Zc cls d oe) (hd : oe.data = .fields vs) (na : H a = none) (n0 : X.s_0.heap.get? a = none) (nL : a ≠ X.env.locals)
    (np : ∀ p ∈ X.pn ++ pins, p.1 ≠ a) : Inv X pins σ (upd H a (exB cls d a)) s := by
  have ne0 : ∀ b o, X.s_0.heap.get? b = some o → b ≠ a := fun b o e z => by rw [z, n0] at e; cases e
  refine ⟨I.ok, I.os, I.bare, ⟨I.base.keep, I.base.slot, fun b o e n hq => ?_, I.base.there, fun b xs e => ?_, fun b o u e => ?_, fun b ps e => ?_⟩, I.loc, I.cell, ?_, fun x c e => ?_, fun p hp => ?_, fun b u e => ?_, I.len⟩
  · rw [upd_ne (ne0 b o e)]; exact I.base.free b o e n hq
  · have q := I.base.tups b xs e
    rw [upd_ne (fun z => by rw [z, na] at q; cases q)]; exact q
  · have q := I.base.frzs b o u e
    rw [upd_ne (fun z => by rw [z, na] at q; cases q)]; exact q
  · obtain ⟨m, q⟩ := I.base.tbls b ps e
    exact ⟨m, by rw [upd_ne (fun z => by rw [z, na] at q; cases q)]; exact q⟩
  · rw [upd_ne (Ne.symm nL)]; exact I.free
  · obtain ⟨v, o, ho, hv⟩ := I.cell x c e
    rw [upd_ne (fun z => by rw [z, ha] at ho; cases ho; rw [hd] at hv; cases hv)]
    exact I.freeC x c e
  · obtain ⟨e, n, ne, nf, dd⟩ := I.pin p hp
    exact ⟨e, by rw [upd_ne (np p hp)]; exact n, ne, nf, dd⟩
  · by_cases hb : b = a
    · subst hb
      rw [upd_same] at e
      cases e
      exact ⟨⟨oe, vs, ha, hz, hd⟩, ⟨oe, ha⟩, fun _ _ ⟨o, v, q, r⟩ k => ⟨o, v, k o q, r⟩⟩
    · rw [upd_ne hb] at e
      exact (I.hok b u e).stay (fun c v _ q => q) (fun c q => by rw [upd_ne (fun z => by rw [z, na] at q; cases q)]; exact q) fun c xs q => by rw [upd_ne (fun z => by rw [z, na] at q; cases q)]; exact q
end
/-- what the clause wishes of an exception of the body, the caught object tracked behind the suite -/
def wAsK (K : PySem.W.Frag) (c : Value) (i : Nat) (ts : Addr → Value → Option Addr → TS) (Wout : WX) (D : Ends) : WX := fun cls d σ H =>
  ∃ b, PySem.W.exmOne K cls c = some b ∧ (b = true → ∀ a, H a = none → ts a cls d { nx := fun σ' H' => D.nx (σ'.set i none) (upd H' a (exB cls d a)), rt := D.rt, bk := fun σ' H' => D.bk (σ'.set i none) H', ct := fun σ' H' => D.ct (σ'.set i none) H' } (σ.set i (some (.ref a))) H) ∧
    (b = false → Wout cls d σ H)
section
variable {X : Cx} {x n : Str} {c : Value} {i : Nat} {body suite : List Stmt} {b₀ : Stmt} {np pos pos' : Pos} {tb : WX → TS} {ts : Addr → Value → Option Addr → TS} {Wout : WX}
theorem ps_try_keep (hs : X.stack = X.env :: X.outer) (hex : X.ex = []) (hf : X.env.frame = some X.env.locals) (hN : X.N.Nodup) (hi : X.N[i]? = some n) (hln : X.env.kindOf n = some .local) (hc : Names X x c) (tk : Takes X Wout)
    (hb : ∀ (W : WX) (pn : List (Addr × Obj)) (xe : Value → Shared → Prop), Takes (X.tr pn xe) W → PassesOwn (model X.prog X.w) X.A X.env xe → PSs (X.tr pn xe) body (tb W))
    (hsu : ∀ (a : Addr) (oe : Obj) (cls : Value) (d : Option Addr) (pn : List (Addr × Obj)), Zc cls d oe → (∃ vs, oe.data = .fields vs) → PSs (X.suite a ((a, oe) :: pn)) (b₀ :: suite) (ts a cls d)) :
    PS X (.Try body [.ExceptHandler (some (.Name x np)) (some n) (b₀ :: suite) pos'] [] [] pos) (fun D σ H => tb (wAsK X.K c i ts Wout D) D σ H) := by
  refine ⟨fun pins s σ H D I h => ?_⟩
  have ok := I.ok
  have hfr : X.A.frames = some (X.env :: X.outer) := by rw [ok.frames, hs]
  have hloc : Loc X.env.scope n := .inl hln
  refine wpAny_Try_except ?_
  refine wpAny_mono ((hb (wAsK X.K c i ts Wout D) (X.pn ++ pins) (fun e s₁ => wpAny (model X.prog X.w) X.A (noteFrame e X.env) (fun _ s₂ => wpAny (model X.prog X.w) X.A (setFlight e none) (fun _ s₃ =>
    wpAny (model X.prog X.w) X.A (handleBy e X.env [.ExceptHandler (some (.Name x np)) (some n) (b₀ :: suite) pos']) (SP X pins D) X.xe s₃) X.xe s₂) X.xe s₁) (fun u s' xx => ?_) PassesOwn.looking).run [] s σ H D (I.toTry _) h) (fun f s1 hsp => ?_) (fun e s1 he => he)
  · -- the catch
    obtain ⟨a, B, sI, pins', σ', H', cls, d, rfl, J', nb, up, sky, na, os, ag, b, hb1, hyes, hno⟩ := xx
    have J : Inv X pins σ' H' sI := J'.ofTry ok
    have sky' : Sky B (X.env :: X.outer) a (Zc cls d) X.env.locals s'.heap := by rw [← hs]; exact sky
    show wpAny (model X.prog X.w) X.A (noteFrame (.ref a) X.env) _ _ _
    refine Sky.land Zc.steady hfr hf sky' fun h3 fl3 up3 => ?_
    have J3 : Inv X pins σ' H' { s' with heap := h3 } := J.landed nb fl3.1 (up.trans up3) os ag
    obtain ⟨oe3, vs3, he3, hz3, hd3⟩ := fl3.there
    have notFr : ∀ {h : Heap} {o : Obj} {vs : Array Value}, h.FunFrames B (X.env :: X.outer) → h.get? a = some o → o.data = .fields vs → a ∉ frs (X.env :: X.outer) := fun {h o vs} ff e dd hm => by
      obtain ⟨_, o', e', hnf⟩ := ff.mem hm
      rw [e] at e'; cases e'
      exact hnf _ dd
    have nfr := notFr fl3.2.2.1 he3 hd3
    have nL : a ≠ X.env.locals := fun z => nfr (List.mem_filterMap.mpr ⟨X.env, List.mem_cons_self, by rw [hf, z]⟩)
    have nF : a ∉ X.fs := fun hm => by
      obtain ⟨e, he, q⟩ := List.mem_filterMap.mp hm
      exact nfr (List.mem_filterMap.mpr ⟨e, List.mem_cons_of_mem _ he, q⟩)
    have nI : sI.heap.get? a = none := by
      cases e : sI.heap.get? a with
      | none => rfl
      | some o =>
        have z := nb a o e (by rw [hs]; exact nfr)
        rw [fl3.2.1] at z; cases z
    have n0 : X.s_0.heap.get? a = none := by
      cases e : X.s_0.heap.get? a with
      | none => rfl
      | some o =>
        obtain ⟨o', z⟩ := J.base.there a o e (by rw [hex]; simp)
        rw [nI] at z; cases z
    have nP : ∀ p ∈ X.pn ++ pins, p.1 ≠ a := fun p hp z => by
      have := (J.pin p hp).1
      rw [z, nI] at this; cases this
    have S3 := J3.suite he3 hd3 na nL nF
    refine wpAny_handleBy_cons (codeAny_handlers_test ?_) (by intro q; cases q)
    have LT : PySem.W.Looks (model X.prog X.w) h3 (typeOf (.ref a)) cls := fun A Q E s k q => wpAny_typeOf_ref (k _ _ he3) (by rw [hz3.1]; exact q)
    have LM := PySem.W.exm_one (M := model X.prog X.w) (J3.kIn) LT hb1
    have test : ∀ {Q : Value → Shared → Prop} {E : Value → Shared → Prop}, Q c { s' with heap := h3 } → wpAny (model X.prog X.w) (X.A.mark (some (.ref a))) (eval (.Name x np) X.env) Q E { s' with heap := h3 } := fun {Q E} q => by
      obtain ⟨hg, hdbg, hm | ⟨hm, hv, hnn⟩⟩ := hc
      · exact ld_glob (X := X.suite a ((a, oe3) :: (X.pn ++ pins))) S3 hg hm q hdbg
      · exact ld_blt (X := X.suite a ((a, oe3) :: (X.pn ++ pins))) S3 hg hm hv q hnn hdbg
    refine test (LM.here ?_)
    cases b with
    | true =>
      refine codeAny_handlers_suite_as ?_
      refine HandSPX.lands_againZ fl3 fun h4 fl4 up4 => ?_
      have J4 : Inv X pins σ' H' { s' with heap := h4 } := J.landed nb fl4.1 ((up.trans up3).trans up4) os ag
      obtain ⟨oe4, vs4, he4, hz4, hd4⟩ := fl4.there
      have S4 := J4.suite he4 hd4 na nL nF
      refine store_ok (X := X.suite a ((a, oe4) :: (X.pn ++ pins))) (v := .ref a) S4 hN hi hloc rfl (fun s5 S5 => ?_) (.inr hln)
      refine wpAny_mono ((hsu a oe4 cls d (X.pn ++ pins) hz4 ⟨_, hd4⟩).run [] s5 _ H' _ S5 (hyes rfl a na)) (fun f s6 hsp => ?_) (fun _ _ z => False.elim z)
      have toP : ∀ {σ6 : L2.St} {H6 : Hp}, Inv (X.suite a ((a, oe4) :: (X.pn ++ pins))) [] σ6 H6 s6 → Inv X ((a, oe4) :: pins) σ6 H6 s6 := fun {σ6 H6} I6 =>
        ⟨ok, I6.os, I6.bare, I6.base, I6.loc, I6.cell, I6.free, I6.freeC, fun p hp => I6.pin p (by
          rw [List.append_nil]
          rcases List.mem_append.mp hp with z | z
          · exact List.mem_cons_of_mem _ (List.mem_append_left _ z)
          · rcases List.mem_cons.mp z with z | z
            · rw [z]; exact List.mem_cons_self
            · exact List.mem_cons_of_mem _ (List.mem_append_right _ z)), I6.hok, I6.len⟩
      have ofP' : ∀ {σ6 : L2.St} {H6 : Hp} {s7 : Shared}, Inv X ((a, oe4) :: pins) σ6 H6 s7 → Inv X pins σ6 H6 s7 := fun {σ6 H6 s7} I6 =>
        ⟨ok, I6.os, I6.bare, I6.base, I6.loc, I6.cell, I6.free, I6.freeC, fun p hp => I6.pin p (by
          rcases List.mem_append.mp hp with z | z
          · exact List.mem_append_left _ z
          · exact List.mem_append_right _ (List.mem_cons_of_mem _ z)), I6.hok, I6.len⟩
      have end_ : ∀ {σ6 : L2.St} {H6 : Hp} {Q : Shared → Prop}, Inv (X.suite a ((a, oe4) :: (X.pn ++ pins))) [] σ6 H6 s6 → (∀ s7, Inv X ((a, oe4) :: pins) (σ6.set i none) H6 s7 → Q s7) →
          wpAny (model X.prog X.w) X.A (do bindName X.env n .none; unbindBehindTheSuite X.env n pos') (fun _ s7 => Q s7) X.xe s6 := fun {σ6 H6 Q} S6 hq => gone_ok (toP S6) hN hi hln hq
      cases f with
      | next =>
        obtain ⟨σ6, H6, S6, q6⟩ := hsp
        exact end_ S6 fun s7 J7 => ⟨_, _, by
          obtain ⟨e7, n7, _⟩ := J7.pin (a, oe4) (List.mem_append_right _ List.mem_cons_self)
          exact inv_track (ofP' J7) e7 hz4 hd4 n7 n0 nL nP, q6⟩
      | brk =>
        obtain ⟨σ6, H6, S6, q6⟩ := hsp
        exact end_ S6 fun s7 J7 => ⟨_, _, ofP' J7, q6⟩
      | cont =>
        obtain ⟨σ6, H6, S6, q6⟩ := hsp
        exact end_ S6 fun s7 J7 => ⟨_, _, ofP' J7, q6⟩
      | ret u =>
        obtain ⟨v6, σ6, H6, S6, r6, q6⟩ := hsp
        exact end_ S6 fun s7 J7 => ⟨_, _, _, ofP' J7, r6, q6⟩
    | false =>
      show wpAny _ X.A (handleBy (.ref a) X.env []) _ _ _
      refine wpAny_handleBy_nil ?_
      obtain ⟨k1, k2, k3, oe, vs, T, oT, ts', he, hz, hd, h1, hr⟩ := id fl3
      unfold PySem.passOn
      refine wpAny_bind (wpAny_field he hd h1 ?_)
      rw [if_neg (show ¬ ((Value.ref T == Value.none) = true) from by simp)]
      have fin : wpAny (model X.prog X.w) X.A (setFlight (.ref a) X.env.frame) (fun _ s4 => wpAny (model X.prog X.w) X.A (throw (.ref a) : Sem Flow) (SP X pins D) X.xe s4) X.xe { s' with heap := h3 } := by
        rw [hf]
        refine HandSPX.setFlight_upZ fl3 fun h4 hh4 up4 => wpAny_throw (tk _ _ ?_)
        exact ⟨a, B, sI, pins, σ', H', cls, d, rfl, J, nb, (up.trans up3).trans up4, .inr (.inr (by rw [hs]; exact hh4)), na, os, ag, hno rfl⟩
      first
        | exact wpAny_bind (wpAny_pure (wpAny_bind fin))
        | exact wpAny_bind fin
  · cases f with
    | next =>
      obtain ⟨σ', H', J', q⟩ := hsp
      exact wpAny_execs_nil ⟨σ', H', J'.ofTry ok, q⟩
    | brk =>
      obtain ⟨σ', H', J', q⟩ := hsp
      exact ⟨σ', H', J'.ofTry ok, q⟩
    | cont =>
      obtain ⟨σ', H', J', q⟩ := hsp
      exact ⟨σ', H', J'.ofTry ok, q⟩
    | ret u =>
      obtain ⟨v, σ', H', J', r, q⟩ := hsp
      exact ⟨v, σ', H', J'.ofTry ok, r, q⟩
end
end
end Dm

/-! Dm41: a call in a try; isinstance of the caught. -/
namespace Dm
noncomputable section
open PySem PySem.Spec PyProof.Rows L2

/-! ### calls that let out what a wish by the slots takes -/
section
variable {X : Cx} {np : Fp} {EW : XW} {Xc : CXT} {k : Nat} {f : Addr} {fd : FuncData} {ps ks : List Str} {sp : Sp} {E : L2.St → XK} {x : Str} {p pos kpos : Pos} {e : Expr} {es : List Expr}
theorem g_runS {pins : List (Addr × Obj)} {σ : L2.St} {H : Hp} {s : Shared} {Q : VK} {args : Args} {us : List Value} {vs : List V} (F : GFn X.prog X.w X.K X.mg X.base Xc k f fd ps sp) (hr : Room k X.A) (hg : X.A.guards = some [])
    (hb : us.length = ps.length → BindsTo s fd args (ps.zip us)) (hx : PassesAt Xc X σ (E σ)) (I : Inv X pins σ H s) (r : Vals vs us) (h : sp vs H Q (E σ)) :
    codeAny (model X.prog X.w) X.A (.call (.ref f) args) (fun rr s' => match rr with | .ok (.ret u) => EP X pins σ Q u s' | .ok _ => False | .error e => X.xe e s') s := by
  refine codeAny_mono (F.run X.A X.stack s H args us vs Q (E σ) hr hg I.env0 (hb (by rw [← r.length]; exact F.len _ _ _ _ h)) r h) fun rr s' q => ?_
  cases rr with
  | error e => exact hx pins H s e s' I q
  | ok fl =>
    cases fl with
    | ret u => exact I.after q
    | next => exact q
    | brk => exact q
    | cont => exact q
theorem gpe_callS {t : TA} {dus : List Value} {dvs : List V} (F : GFn X.prog X.w X.K X.mg X.base Xc k f fd ps sp) (hr : Room k X.A) (hgd : X.A.guards = some []) (hg : Gl X x) (hm : X.mg x = some (.ref f)) (hk : PySem.W.keepIn X.K (.ref f) = true) (hb : Binds X.K fd ps dus) (hd : Vals dvs dus)
    (hx : ∀ σ, PassesAt Xc X σ (E σ)) (ha : PA X (e :: es) t) (hdb : (x == ("__debug__" : Str)) = false := by decide) (he : starEach (e :: es) X.env = (false, eval e X.env) :: starEach es X.env := by rfl) (hpl : (backTo pos (starEach es X.env)).any (·.1) = false := by rfl) :
    PE X (.Call (.Name x p) (e :: es) [] pos) (fun σ H Q => t σ H fun vs H1 => sp (vs ++ dvs) H1 Q (E σ)) := by
  refine ⟨fun pins s σ H Q I h => ?_⟩
  refine wpAny_Call_Name_kw (ld_glob I hg hm (PySem.W.callWith_K (h₀ := X.base) I.ok.mod.kin hk (thn (ha.run pos pins s σ H _ I h) fun us s1 ⟨vs, H1, I1, r, q⟩ => ⟨I1.kIn, ?_⟩) he hpl) hdb)
  refine wpAny_call (codeAny_mono (g_runS (us := us ++ dus) (args := ⟨us, []⟩) F hr hgd (fun hl => hb s1 us I1.kIn hl) (hx σ) I1 (r.append hd) q) fun rr s' z => ?_)
  cases rr with
  | error e => exact z
  | ok fl => cases fl <;> exact z
theorem gpe_callKS {t tk : TA} {kws : List Keyword} {g : List Value → List Value → List Value} {gV : List V → List V → List V} (F : GFn X.prog X.w X.K X.mg X.base Xc k f fd ps sp) (hr : Room k X.A) (hgd : X.A.guards = some []) (hg : Gl X x) (hm : X.mg x = some (.ref f))
    (hk : PySem.W.keepIn X.K (.ref f) = true) (hb : KBinds X.K fd ps ks g gV) (hx : ∀ σ, PassesAt Xc X σ (E σ)) (ha : PA X (e :: es) t) (hkw : PK X kws tk) (hall : (backToKw pos (keywordEach kws X.env)).all (·.1.isSome) = true := by rfl)
    (hks : (backToKw pos (keywordEach kws X.env)).filterMap (·.1) = ks := by rfl) (hdb : (x == ("__debug__" : Str)) = false := by decide) (he : starEach (e :: es) X.env = (false, eval e X.env) :: starEach es X.env := by rfl)
    (hpl : ((backTo pos (starEach (e :: es) X.env)).any (·.1) || (backToKw pos (keywordEach kws X.env)).any (·.1.isNone)) = false := by rfl) :
    PE X (.Call (.Name x p) (e :: es) kws pos) (fun σ H Q => t σ H fun vs H1 => tk σ H1 fun zs H2 => sp (gV vs zs) H2 Q (E σ)) := by
  refine ⟨fun pins s σ H Q I h => ?_⟩
  refine wpAny_Call_Name_kw (ld_glob I hg hm (PySem.W.callWith_KW (h₀ := X.base) I.ok.mod.kin hk hall (thn (ha.run pos pins s σ H _ I h) fun us s1 ⟨vs, H1, I1, r, q⟩ => thn (hkw.run pos pins s1 σ H1 _ I1 q) fun ws s2 ⟨zs, H2, I2, rz, q2⟩ => ⟨I2.kIn, ?_⟩) hpl he) hdb)
  rw [hks]
  refine wpAny_call (codeAny_mono (g_runS (args := ⟨us, ks.zip ws⟩) F hr hgd (fun hl => hb.to s2 us ws I2.kIn hl) (hx σ) I2 (hb.rel r rz) q2) fun rr s' z => ?_)
  cases rr with
  | error e => exact z
  | ok fl => cases fl <;> exact z
end
/-- the arguments raise nothing, the callee may -/
def clX (n : Nat) (m : PF) (dds : List D) (fs : AS) : ES := fun _ ρ => match fs .an ρ with
  | .ok p => if p.1.length = n then (m (p.1 ++ dds)).bind fun d => .ok (d, p.2) else .bad
  | _ => .bad
def clXK (a b : Nat) (is : List Nat) (m : PF) (fs ks : AS) : ES := fun _ ρ => match fs .an ρ with
  | .ok p => (match ks .an p.2 with
    | .ok q => if p.1.length = a ∧ q.1.length = b then (m (is.map fun i => (p.1 ++ q.1).getD i PyData.none)).bind fun d => .ok (d, q.2) else .bad
    | _ => .bad)
  | _ => .bad
abbrev noE : XW := fun _ _ => False
/-- an expression that may be the one of a try -/
def TryE (X : Cx) (np : Fp) (e : Expr) (fe : ES) : Prop := ∀ (pn : List (Addr × Obj)) (xe : Value → Shared → Prop) (E : L2.St → XK), (∀ σ, PassesAt (L2.CX X.prog X.w) (X.tr pn xe) σ (E σ)) → PE (X.tr pn xe) e (fun σ H Q => tE X.K np (xoX X.K (E σ)) fe σ H Q)
section
variable {X : Cx} {np : Fp} {EW : XW} {k : Nat} {f : Addr} {fd : FuncData} {ps ks : List Str} {x : Str} {p pos kpos : Pos} {e : Expr} {es : List Expr}
theorem tA_no {K : PySem.W.Frag} {L : Lv} {C : Col} {ρ : Slots} {σ : L2.St} {H : Hp} {fs : AS} {Q : List V → Hp → Prop} {p : List D × Slots} (R : Rel K np H C σ ρ) (e : fs L ρ = .ok p) (h : ∀ v H' C', Aft np L ρ H C p.2 H' C' → Rel K np H' C' σ p.2 → RpA K H' (Cof C' L) v p.1 → Q v H') : tA K np noE fs σ H Q :=
  ⟨L, C, ρ, R, by rw [e]; exact h⟩
theorem try_call {n j : Nat} {m : PF} {fs : AS} {dus : List Value} {dvs : List V} {dds : List D} (F : GFn X.prog X.w X.K X.mg X.base (L2.CX X.prog X.w) k f fd ps (spG X.K (xoX X.K) n (ofP m))) (hr : Room k X.A) (hgd : X.A.guards = some []) (hg : Gl X x) (hm : X.mg x = some (.ref f))
    (hk : PySem.W.keepIn X.K (.ref f) = true) (hb : Binds X.K fd ps dus) (hd : Vals dvs dus) (hdr : ∀ H P, RpA X.K H P dvs dds) (hj : j + dds.length = n) (ha : ∀ pn xe, DA (X.tr pn xe) np noE (e :: es) fs) (hdb : (x == ("__debug__" : Str)) = false := by decide)
    (he : starEach (e :: es) X.env = (false, eval e X.env) :: starEach es X.env := by rfl) (hpl : (backTo pos (starEach es X.env)).any (·.1) = false := by rfl) : TryE X np (.Call (.Name x p) (e :: es) [] pos) (clX j m dds fs) :=
  fun pn xe E hx => PE.weak (gpe_callS (X := X.tr pn xe) (E := E) F hr hgd hg hm hk hb hd hx (ha pn xe) hdb he hpl) fun σ H Q ⟨L, C, ρ, R, h⟩ => by
    unfold clX at h
    cases ea : fs .an ρ with
    | bad => rw [ea] at h; exact h.elim
    | ex c => rw [ea] at h; exact h.elim
    | ok q =>
      rw [ea] at h
      simp only at h
      by_cases hl : q.1.length = j
      · rw [if_pos hl] at h
        refine tA_no R ea fun vs H1 C1 A1 R1 r1 => ?_
        have h1 := wp_mono h (fun _ _ z => z) fun c z H'' C'' (S : Stp np H1 C1 H'' C'') => z H'' C'' (A1.stp.trans S)
        exact cl_fin (EW := xoX X.K (E σ)) (m := m) (ds := q.1 ++ dds) (L := L) (fun c H' z => z) (by rw [List.length_append, hl]; exact hj) R1 (RpA_app (hdr H1 _) r1) (wp_mono h1 (fun p _ hp v H' C' A R' r => hp v H' C' ((A1.lev (K := X.K) rfl).trans A) R' r) fun _ z => z)
      · rw [if_neg hl] at h; exact h.elim
theorem try_callK {n a b : Nat} {is : List Nat} {m : PF} {fs gs : AS} {kws : List Keyword} (F : GFn X.prog X.w X.K X.mg X.base (L2.CX X.prog X.w) k f fd ps (spG X.K (xoX X.K) n (ofP m))) (hn : is.length = n) (hr : Room k X.A) (hgd : X.A.guards = some []) (hg : Gl X x) (hm : X.mg x = some (.ref f))
    (hk : PySem.W.keepIn X.K (.ref f) = true) (hb : KBinds X.K fd ps ks (permG a b Value.none is) (permG a b V.non is)) (ha : ∀ pn xe, DA (X.tr pn xe) np noE (e :: es) fs) (hkw : ∀ pn xe, DK (X.tr pn xe) np noE kws gs)
    (hall : (backToKw pos (keywordEach kws X.env)).all (·.1.isSome) = true := by rfl)
    (hks : (backToKw pos (keywordEach kws X.env)).filterMap (·.1) = ks := by rfl) (hdb : (x == ("__debug__" : Str)) = false := by decide) (he : starEach (e :: es) X.env = (false, eval e X.env) :: starEach es X.env := by rfl)
    (hpl : ((backTo pos (starEach (e :: es) X.env)).any (·.1) || (backToKw pos (keywordEach kws X.env)).any (·.1.isNone)) = false := by rfl) : TryE X np (.Call (.Name x p) (e :: es) kws pos) (clXK a b is m fs gs) :=
  fun pn xe E hx => PE.weak (gpe_callKS (X := X.tr pn xe) (E := E) F hr hgd hg hm hk hb hx (ha pn xe) (hkw pn xe) hall hks hdb he hpl) fun σ H Q ⟨L, C, ρ, R, h⟩ => by
    unfold clXK at h
    cases ea : fs .an ρ with
    | bad => rw [ea] at h; exact h.elim
    | ex c => rw [ea] at h; exact h.elim
    | ok q =>
      rw [ea] at h
      simp only at h
      refine tA_no R ea fun vs H1 C1 A1 R1 r1 => ?_
      cases eb : gs .an q.2 with
      | bad => rw [eb] at h; exact h.elim
      | ex c => rw [eb] at h; exact h.elim
      | ok q2 =>
        rw [eb] at h
        simp only at h
        refine tA_no R1 eb fun zs H2 C2 A2 R2 r2 => ?_
        by_cases hl : q.1.length = a ∧ q2.1.length = b
        · rw [if_pos hl] at h
          have r3 := (A2.rpA r1).app r2
          have e1 : permG a b V.non is vs zs = is.map fun i => (vs ++ zs).getD i V.non := by unfold permG; rw [(A2.rpA r1).len, r2.len, if_pos hl]
          show spG _ _ _ _ (permG a b V.non is vs zs) _ _ _
          rw [e1]
          have h1 := wp_mono h (fun _ _ z => z) fun c z H'' C'' (S : Stp np H2 C2 H'' C'') => z H'' C'' ((A1.stp.trans A2.stp).trans S)
          exact cl_fin (EW := xoX X.K (E σ)) (L := L) (fun c H' z => z) (by rw [List.length_map]; exact hn) R2 (perm_rp r3 is) (wp_mono h1 (fun p _ hp v H' C' A R' r => hp v H' C' (((A1.trans A2).lev (K := X.K) rfl).trans A) R' r) fun _ z => z)
        · rw [if_neg hl] at h; exact h.elim
/-- try: e except Y as n: z = n -/
def tyS (nm : Str) (i j : Nat) (fe : ES) : SS := fun ρ => match fe .an ρ with
  | .ok p => .nx p.2
  | .ex c => if c.cls = nm ∧ i < ρ.length then .nx ((((keepX ρ).set i .no).set j (.ex c)).set i .no) else .bad
  | .bad => .bad
theorem Rel.setNo {K : PySem.W.Frag} {H : Hp} {C : Col} {σ : L2.St} {ρ : Slots} {i : Nat} {o : Option V} (R : Rel K np H C σ ρ) : Rel K np H C (σ.set i o) (ρ.set i .no) := by
  refine ⟨by rw [List.length_set, List.length_set]; exact R.len, fun j s' e => ?_⟩
  by_cases hij : j = i
  · subst hij
    by_cases hl : j < ρ.length
    · rw [List.getElem?_set_self hl] at e; cases e; exact .no
    · rw [List.getElem?_eq_none (by simpa using hl)] at e; cases e
  · rw [List.getElem?_set_ne (Ne.symm hij)] at e ⊢
    exact R.get j s' e
theorem ds_try {nm y n z : Str} {i j : Nat} {CN CY : Addr} {fe : ES} {yp zp np2 ap pe pos' : Pos} (hs : X.stack = X.env :: X.outer) (hex : X.ex = []) (hf : X.env.frame = some X.env.locals) (hN : X.N.Nodup) (hi : X.N[i]? = some n) (hln : X.env.kindOf n = some .local) (hj : X.N[j]? = some z) (hlz : Loc X.env.scope z)
    (hns : PySem.W.nsIn X.K mainGlobals nm = some (some (.ref CN))) (hm : PySem.W.exmOne X.K (.ref CN) (.ref CY) = some true) (hgy : Gl X y) (mY : X.mg y = some (.ref CY)) (he : TryE X np e fe) (hv : Vis X.env.scope n)
    (hfz : X.fn z = true ∨ X.env.scope.names.lookup z = some .local) (hdy : (y == ("__debug__" : Str)) = false := by decide) (hsw : swapsWith e none pe.line X.env = pure false := by rfl) (hsw2 : swapsWith (.Name n np2) (some (.Name z zp)) ap.line X.env = pure false := by rfl)
    (hdn : (n == ("__debug__" : Str)) = false := by decide) (hdc : (n == ("__classdict__" : Str)) = false := by decide) :
    DS X np EW (.Try [.Expr e pe] [.ExceptHandler (some (.Name y yp)) (some n) [.Assign [.Name z zp] (.Name n np2) ap] pos'] [] [] pos) (tyS nm i j fe) := by
  refine PS.weak (ps_try_keep (Wout := fun _ _ _ _ => False) (i := i) (ts := fun _ _ _ => tAsg (tVar i) (gName j)) hs hex hf hN hi hln ⟨hgy, hdy, .inl mY⟩ takes0
    (fun W pn xe tk _ => pss_one (ps_expr (he pn xe (fun σ cls d H => W cls d σ H) (fun σ => passAt tk σ)) hsw))
    (fun a oe cls d pn hz hd => pss_one (ps_set (X := X.suite a ((a, oe) :: pn)) (i := j) hN hj hlz (pe_var hi hv hdn hdc) hsw2 hfz))) fun Dn σ H ⟨C, ρ, R, h⟩ => ?_
  refine ⟨.an, C, ρ, R, ?_⟩
  unfold tyS at h
  cases e1 : fe .an ρ with
  | bad => rw [e1] at h; exact h.elim
  | ok p => rw [e1] at h; exact fun v H' C' A R' r => h σ H' C' A.stp R'
  | ex c =>
    rw [e1] at h
    simp only at h
    by_cases hcc : c.cls = nm ∧ i < ρ.length
    · rw [if_pos hcc] at h
      obtain ⟨hc, hir⟩ := hcc
      intro H' C' S C2 d ns xa
      refine ⟨true, ?_, fun _ a ha => ?_, fun q => Bool.noConfusion q⟩
      · rw [hc, hns] at ns; cases ns; exact hm
      · have hil : i < σ.length := by rw [R.len]; exact hir
        refine ⟨.ref a, by rw [List.getElem?_set_self hil], ?_⟩
        have sm : Same H' (upd H' a (exB (.ref C2) d a)) := fun b o e => by rw [upd_ne (fun z => by rw [z, ha] at e; cases e)]; exact e
        have P1 : PStp H' C' (upd H' a (exB (.ref C2) d a)) C' := ⟨sm, fun _ _ => rfl⟩
        exact h _ _ C' (S.trans P1.stp) (Rel.setNo (((Rel.setNo ((rel_keepX R S).pstp P1))).set (.ex upd_same (by rw [hc] at ns ⊢; exact ns) (xa.move fun b o e _ => sm b o e))))
    · rw [if_neg hcc] at h; exact h.elim

/-! ### isinstance of what was caught -/
/-- isinstance(x, C), x of slot j an exception of the class nm -/
def isxE (j : Nat) (nm : Str) (b : Bool) : ES := fun _ ρ => match ρ[j]? with
  | some (.ex c) => if c.cls = nm then .ok (.bool b, ρ) else .bad
  | _ => .bad
/-- class names, as they stand -/
def tVs (vs : List V) : TA := fun _ H Q => Q vs H
theorem pav_nil : PA X [] (tVs []) := PA.weak pa_nil fun σ H Q h => h
theorem pav_cons {y : Str} {C : Addr} {yp : Pos} {vs : List V} (hg : Gl X y) (hm : X.mg y = some (.ref C)) (r : PA X es (tVs vs)) (hd : (y == ("__debug__" : Str)) = false := by decide) (he : starEach (.Name y yp :: es) X.env = (false, eval (.Name y yp) X.env) :: starEach es X.env := by rfl) : PA X (.Name y yp :: es) (tVs (.ref C :: vs)) :=
  PA.weak (pa_cons (pe_glob (v := .ref C) hg hm rfl hd) r he) fun σ H Q h => h
/-- the object of a caught exception stands -/
theorem ex_inst {H : Hp} {pins : List (Addr × Obj)} {σ : L2.St} {s : Shared} {D a : Addr} {d : Option Addr} {xa : Option Int} (I : Inv X pins σ H s) (ha : H a = some (exA D d a)) (hx : exArg H d xa) :
    ∃ ox od, PySem.W.InstAt s.heap a ox D od := by
  obtain ⟨⟨oe, vs, he, ⟨h1, h2⟩, hd⟩, _⟩ := (show ObjOk X.prog X.w H s.heap a (.ext fun h => ∃ (oe : Obj) (vs : Array Value), h.get? a = some oe ∧ Zc (.ref D) d oe ∧ oe.data = .fields vs) from I.hok a _ ha)
  obtain ⟨oc, od, oda, osl⟩ := oe
  dsimp only at h1 h2 hd
  subst h1 h2 hd
  cases xa with
  | none =>
    have hx' : od = none := hx
    subst hx'
    exact ⟨_, none, he, rfl, rfl, trivial⟩
  | some n =>
    obtain ⟨dd, rfl, hdd⟩ := hx
    obtain ⟨mA, ⟨oD, es, ep, ho, _⟩, _⟩ := (show ObjOk X.prog X.w H s.heap dd (.xd [("many", .int n)]) from I.hok dd _ hdd)
    exact ⟨_, some oD, he, rfl, rfl, ho⟩
def rIsX (K : PySem.W.Frag) : List V → Hp → VK → Prop := fun xs H Q => ∃ (a D : Addr) (d : Option Addr) (xa : Option Int) (c : V) (u : Value) (b : Bool), xs = [.ref a, c] ∧ H a = some (exA D d a) ∧ exArg H d xa ∧ ExcC K D ∧ ClsV c u ∧ PySem.W.kitOne K (.ref D) u = some b ∧ Q (.bl b) H
def rIsXT (K : PySem.W.Frag) : List V → Hp → VK → Prop := fun xs H Q => ∃ (a D tp : Addr) (d : Option Addr) (xa : Option Int) (cs : List V) (us : List Value) (b : Bool), xs = [.ref a, .ref tp] ∧ H a = some (exA D d a) ∧ exArg H d xa ∧ ExcC K D ∧ H tp = some (.tup cs) ∧ Paired ClsV cs us ∧ PySem.W.kitAny K (.ref D) us = some b ∧ Q (.bl b) H
theorem kitx_of {K : PySem.W.Frag} {D : Addr} (C : ExcC K D) {a : Addr} {ox : Obj} {od : Option Obj} : PySem.W.KitX K (.ref a) (.ref D) (fun h => PySem.W.InstAt h a ox D od) :=
  PySem.W.kitx_exc (by obtain ⟨cd, hc, _⟩ := PySem.W.any_some C.hd; rw [hc]; rfl) C.hg C.hk C.hs C.ha C.hn C.ht C.hm
theorem call_isX : CallR X (.builtin "isinstance") (rIsX X.K) := by
  intro pins s σ H xs us Q I r h
  obtain ⟨a, D, d, xa, c, u, b, rfl, ha, hx, EC, k, e, q⟩ := h
  obtain ⟨u1, u2, rfl, r1, r2⟩ := vals2 r
  have e2 := k.eq r2
  subst e2
  cases (show u1 = Value.ref a from r1)
  obtain ⟨ox, od, J⟩ := ex_inst I ha hx
  exact PySem.W.kia_one (kitx_of EC) I.kIn J e (fun z => nomatch z) fun tk => ⟨.bl b, H, I.tok tk, rfl, q⟩
theorem call_isXT : CallR X (.builtin "isinstance") (rIsXT X.K) := by
  intro pins s σ H xs us Q I r h
  obtain ⟨a, D, tp, d, xa, cs, ws, b, rfl, ha, hx, EC, hT, k, e, q⟩ := h
  obtain ⟨u1, u2, rfl, r1, r2⟩ := vals2 r
  cases (show u1 = Value.ref a from r1)
  cases (show u2 = Value.ref tp from r2)
  obtain ⟨ox, od, J⟩ := ex_inst I ha hx
  obtain ⟨_, its, rv, o, h1, h2, n, h3⟩ := (show ObjOk X.prog X.w H s.heap tp (.tup cs) from I.hok tp _ hT)
  have e3 := ClsV.all k rv
  subst e3
  obtain ⟨oc, od', dt, sl⟩ := o
  simp only at h2 h3
  subst h2 h3
  exact PySem.W.kia_tup (kitx_of EC) I.kIn J h1 e (fun z => nomatch z) fun tk => ⟨.bl b, H, I.tok tk, rfl, q⟩
theorem isx_core {K : PySem.W.Frag} {nm : Str} {b : Bool} {j : Nat} {σ : L2.St} {H : Hp} {Q : VK} (h : tE K np EW (isxE j nm b) σ H Q) : ∃ a Cc d c, σ[j]? = some (some (.ref a)) ∧ H a = some (exA Cc d a) ∧ PySem.W.nsIn K mainGlobals nm = some (some (.ref Cc)) ∧ exArg H d c ∧ Q (.bl b) H := by
  obtain ⟨L, C, ρ, R, h⟩ := h
  unfold isxE at h
  cases e : ρ[j]? with
  | none => rw [e] at h; exact h.elim
  | some s =>
    rw [e] at h
    cases s with
    | ex c =>
      simp only at h
      by_cases hc : c.cls = nm
      · rw [if_pos hc] at h
        have r := R.get j _ e
        generalize ho : σ[j]? = o at r
        cases r with
        | ex ha hn hx => exact ⟨_, _, _, _, rfl, ha, by rw [← hc]; exact hn, hx, h _ H C .refl R (.bl b)⟩
      · rw [if_neg hc] at h; exact h.elim
    | _ => exact h.elim
theorem de_isx {z y nm : Str} {j : Nat} {D C : Addr} {b : Bool} {zp p2 : Pos} (hz : PE X (.Name z zp) (tVar j)) (hg : Gl X "isinstance") (hm : X.mg "isinstance" = none) (hgy : Gl X y) (hmy : X.mg y = some (.ref C)) (hns : PySem.W.nsIn X.K mainGlobals nm = some (some (.ref D))) (EC : ExcC X.K D)
    (hk : PySem.W.kitOne X.K (.ref D) (.ref C) = some b) (hd : (y == ("__debug__" : Str)) = false := by decide)
    (he : starEach [.Name z zp, .Name y p2] X.env = (false, eval (.Name z zp) X.env) :: starEach [.Name y p2] X.env := by rfl) (he2 : starEach [.Name y p2] X.env = (false, eval (.Name y p2) X.env) :: starEach [] X.env := by rfl)
    (hpl : (backTo pos (starEach [.Name y p2] X.env)).any (·.1) = false := by rfl) : DE X np EW (.Call (.Name "isinstance" p) [.Name z zp, .Name y p2] [] pos) (isxE j nm b) :=
  PE.weak (pe_callB call_isX hg hm (by decide +kernel) (pa_cons hz (pa_cons (pe_glob (v := .ref C) hgy hmy rfl hd) pa_nil he2) he) (by decide) (by decide) he hpl) fun σ H Q h => by
    obtain ⟨a, Cc, d, c, es, ha, hn, hx, q⟩ := isx_core h
    rw [hns] at hn; cases hn
    exact ⟨_, es, a, D, d, c, _, _, b, rfl, ha, hx, EC, .own C, hk, q⟩
theorem de_isxT {z nm : Str} {j : Nat} {D : Addr} {vs : List V} {us : List Value} {b : Bool} {zp tp : Pos} {kk} (hz : PE X (.Name z zp) (tVar j)) (hg : Gl X "isinstance") (hm : X.mg "isinstance" = none) (hcs : PA X es (tVs vs)) (hP : Paired ClsV vs us) (hl : vs.length ≤ 64) (hns : PySem.W.nsIn X.K mainGlobals nm = some (some (.ref D))) (EC : ExcC X.K D)
    (hk : PySem.W.kitAny X.K (.ref D) us = some b)
    (he : starEach [.Name z zp, .Tuple es kk tp] X.env = (false, eval (.Name z zp) X.env) :: starEach [.Tuple es kk tp] X.env := by rfl) (he2 : starEach [.Tuple es kk tp] X.env = (false, eval (.Tuple es kk tp) X.env) :: starEach [] X.env := by rfl)
    (hpl : (backTo pos (starEach [.Tuple es kk tp] X.env)).any (·.1) = false := by rfl) : DE X np EW (.Call (.Name "isinstance" p) [.Name z zp, .Tuple es kk tp] [] pos) (isxE j nm b) :=
  PE.weak (pe_callB call_isXT hg hm (by decide +kernel) (pa_cons hz (pa_cons (pe_tup hcs) pa_nil he2) he) (by decide) (by decide) he hpl) fun σ H Q h => by
    obtain ⟨L, C, ρ, R, h⟩ := h
    have hcore := fun (H' : Hp) (S : PStp H C H' C) => isx_core (Q := Q) (K := X.K) (H := H') (σ := σ) (np := np) (EW := EW) (j := j) (nm := nm) (b := b) ⟨L, C, ρ, R.pstp S, by
      unfold isxE at h ⊢
      cases e : ρ[j]? with
      | none => rw [e] at h; exact h.elim
      | some s =>
        rw [e] at h
        cases s with
        | ex c =>
          simp only at h ⊢
          by_cases hc : c.cls = nm
          · rw [if_pos hc] at h ⊢
            exact fun v H'' C'' A R'' r => h v H'' C'' ((Aft.of S).trans A) R'' r
          · rw [if_neg hc] at h; exact h.elim
        | _ => exact h.elim⟩
    obtain ⟨a, Cc, d, c, es', ha, hn, hx, q⟩ := hcore H .refl
    refine ⟨_, es', by rw [sizeLine_eq]; omega, fun pt hpt => ?_⟩
    have ne : ∀ b o, H b = some o → upd H pt (.tup vs) b = some o := fun b o e => by rw [upd_ne (fun z => by rw [z, hpt] at e; cases e)]; exact e
    obtain ⟨a', Cc', d', c', es'', ha', hn', hx', q'⟩ := hcore (upd H pt (.tup vs)) ⟨ne, fun _ _ => rfl⟩
    rw [es'] at es''
    cases es''
    rw [hns] at hn'; cases hn'
    exact ⟨a, D, pt, d', c', vs, us, b, rfl, ha', hx', EC, upd_same, hP, hk, q'⟩
end
end
end Dm

/-! Dm42: sorted(set(xs)), xs a list of ints; told.reverse(). -/
namespace Dm
noncomputable section
open PySem PySem.Spec PyProof.Rows L2
section
variable {prog : Program} {w : World} {A : Around} {R : Result → Shared → Prop} {I : Addr} {fp wr : List Addr} {G : Array GenState → Array GenState → Prop} {n : Nat} {P : Nat → Value → Prop} {St : Nat → Shared → Prop}
/-- set.update, by the stronger record of a set of ints -/
theorem loop_setR (W : WalksS prog w A.in1 I fp wr G n P St) (S : Addr) (hSf : S ∉ fp)
    (val : Nat → Int) (hval : ∀ i v, P i v → ∃ t, v = .int (val i) t) (hb : n + 1 < scanBound) :
    ∀ (k i : Nat) (s : Shared), n - i = k → i ≤ n → St i s →
      SetR w s.heap S (fun k' => (firstMet val i).any (· == k')) (firstMet val i).length →
      (∀ s', Moved (S :: wr) G s s' → SetR w s'.heap S (fun k' => (firstMet val n).any (· == k')) (firstMet val n).length → R (.ok (.ret .none)) s') →
      codeAny (model prog w) A (.builtin "set.update.loop" ⟨[.ref S, .ref I], []⟩) R s := by
  have hSw : S ∉ wr := fun h => hSf (W.sub _ h)
  have hsub : ∀ b ∈ wr, b ∈ S :: wr := fun b hb => List.mem_cons_of_mem _ hb
  intro k
  induction k with
  | zero =>
    intro i s hk hi hst hS hR
    have hin : i = n := by omega
    subst hin
    refine codeAny_builtin F.entry_set_update_loop ?_
    rw [Around.under_plainId F.plain_set_update_loop _]
    show wpAny _ A.in1 (pyNext (.ref I) >>= _) _ _ s
    refine wpAny_bind (W.done s _ _ hst fun s' hm => ?_)
    show wpAny _ A.in1 (ret Value.none) _ _ s'
    exact wpAny_pure (hR s' (hm.mono hsub) (hS.at fun o ho => hm.heap S _ hSw ho))
  | succ k ih =>
    intro i s hk hi hst hS hR
    have hlt : i < n := by omega
    refine codeAny_builtin F.entry_set_update_loop ?_
    rw [Around.under_plainId F.plain_set_update_loop _]
    show wpAny _ A.in1 (pyNext (.ref I) >>= _) _ _ s
    refine wpAny_bind (W.item i s _ _ hlt hst fun v s' hP hst' hm => ?_)
    obtain ⟨t, rfl⟩ := hval i v hP
    have hS' : SetR w s'.heap S (fun k' => (firstMet val i).any (· == k')) (firstMet val i).length := hS.at fun o ho => hm.heap S _ hSw ho
    show wpAny _ A.in1 (holding [Value.int (val i) t] (setAdd S (.int (val i) t)) >>= _) _ _ s'
    refine wpAny_bind (wpAny_holding ?_)
    unfold setAdd
    refine wpAny_holding ?_
    refine wpAny_bind ((intKind prog w).pyHash (k := val i) (intKind_is _ _ _ _) ?_)
    have hroom : (firstMet val i).length + 1 < scanBound := by have := firstMet_length_le val i; omega
    refine setR_add_hashed (P := prog) (s := { s' with toks := s'.toks + 1 }) hS' hroom fun h' hsb hS2 => ?_
    have hSi : SetR w h' S (fun k' => (firstMet val (i + 1)).any (· == k')) (firstMet val (i + 1)).length := by
      have e : (firstMet val (i + 1)).length = if (firstMet val i).any (· == val i) = true then (firstMet val i).length else (firstMet val i).length + 1 := by rw [firstMet_succ, step_length]
      rw [e]
      exact hS2.congr fun k' => by rw [firstMet_succ, step_any]
    refine wpAny_pure ⟨plainId_quiet F.plain_set_update_loop _, ih (i + 1) _ (by omega) hlt (W.frame _ s' _ _ hst' (Nat.le_succ _) fun b hb o e => ?_) hSi fun s'' hm'' hS'' => ?_⟩
    · rw [hsb.2 b (fun h : b = S => hSf (by rw [← h]; exact hb))]; exact e
    · refine hR s'' (Moved.trans W.gtrans ((hm.mono hsub).then_heap (Nat.le_succ _) fun b o hb e => ?_) hm'') hS''
      rw [hsb.2 b (fun h : b = S => hb (by rw [h]; exact List.mem_cons_self))]; exact e
end
section
variable {prog : Program} {w : World} {A : Around} {E : Value → Shared → Prop} {s : Shared}
theorem code_set_led1 (a : Value) {Q₁ : Value → Shared → Prop}
    (h : Q₁ (.ref s.heap.objs.size) { s with heap := s.heap.push { cls := .type "set", dict := none, data := .set #[] 0 (.fresh 0 0 (!w.params.followText "set-order")) } }) :
    codeAny (model prog w) A (.call (.builtin "set.__new__") ⟨[.type "set", a], []⟩) (wants Q₁ E) s := by
  refine codeAny_of_tree ?_
  show wpAny _ A.in1 (do checkBuiltinCall "set.__new__" ⟨[.type "set", a], []⟩; again (.builtin "set.__new__" ⟨[.type "set", a], []⟩)) _ _ s
  refine wpAny_bind (wpAny_of_eq (F.newCall_set_1 a) (wpAny_pure ⟨plainId_quiet F.plain_set_new _, codeAny_builtin F.entry_set_new ?_⟩))
  rw [Around.under_plainId F.plain_set_new _]
  unfold Builtin.«set.__new__» Builtin.Frozenset.newClass
  have hsub := sub_set_self
  obtain ⟨hp, g, d, tk, os⟩ := s
  dsimp only
  wp_walk
  refine wpAny_askSetting (wpAny_pure ?_)
  dsimp only
  simp only [newObj]
  refine wpAny_bind (wpAny_alloc (wpAny_pure ?_))
  exact wpAny_pure h
set_option maxRecDepth 100000 in
set_option maxHeartbeats 3200000 in

theorem call_set_listR {l : Addr} {items : Array Value} {ns : List Int} {Q : Value → Shared → Prop}
    (hh : A.handled = none) (hl : s.heap.IsList l items) (hi : PyProof.Rows.IntsAre items.toList ns) (hb : items.size + 1 < scanBound)
    (h : ∀ (h' : Heap) (tk : Nat), SetR w h' s.heap.objs.size (fun k' => (PyProof.Rows.firstMet (fun i => ns.getD i 0) items.size).any (· == k')) (PyProof.Rows.firstMet (fun i => ns.getD i 0) items.size).length →
      (∀ b o, b < s.heap.objs.size → s.heap.get? b = some o → h'.get? b = some o) → Q (.ref s.heap.objs.size) { s with heap := h', toks := tk }) :
    wpAny (model prog w) A (call (.type "set") [.ref l]) Q E s := by
  obtain ⟨c, tl, hmro⟩ := F.called_set.mro
  have hmade := F.called_set.made
  have hsub := F.called_set.sub
  refine wpAny_call (codeAny_of_tree ?_)
  show wpAny _ _ (callAny (.type "set") _) _ _ _
  refine wpAny_pure ⟨Code.quiet_builtin _ (by decide +kernel), codeAny_builtin F.entry_type_call ?_⟩
  rw [Around.under_plain (weight_type_call_type "set" [.ref l] []) rfl]
  have h1 := F.called_set.notType
  have h2 := F.called_set.canCreate
  have hct := F.typeCall_set_1 (.ref l)
  repeat (any_goals (first | assumption | wp_step))

  refine codeAny_mono (code_set_led1 (.ref l) (E := E) (Q₁ := fun obj s₁ => obj = .ref s.heap.objs.size ∧ s₁ = { s with heap := s.heap.push { cls := .type "set", dict := none, data := .set #[] 0 (.fresh 0 0 (!w.params.followText "set-order")) } }) ⟨ rfl, rfl⟩) fun r s₁ hr => ?_
  cases r with
  | error e => exact hr
  | ok fl =>
    cases fl with
    | ret obj =>
      obtain ⟨rfl, rfl⟩ := hr
      have hS : (s.heap.push { cls := .type "set", dict := none, data := .set #[] 0 (.fresh 0 0 (!w.params.followText "set-order")) }).get? s.heap.objs.size = some { cls := .type "set", dict := none, data := .set #[] 0 (.fresh 0 0 (!w.params.followText "set-order")) } := Heap.get?_push_size _ rfl
      have hT : Shared.TypeIs { s with heap := s.heap.push { cls := .type "set", dict := none, data := .set #[] 0 (.fresh 0 0 (!w.params.followText "set-order")) } } (.ref s.heap.objs.size) "set" := ⟨_, hS, rfl⟩
      have hli := F.called_set.init.lookup
      have hbi := F.called_set.init.bind (.ref s.heap.objs.size)
      repeat (any_goals (first | assumption | wp_step))

      refine codeAny_mono (codeAny_call_builtin (R := wants (fun r s₂ => r = .none ∧ ∃ h' tk, s₂ = { s with heap := h', toks := tk } ∧
          SetR w h' s.heap.objs.size (fun k' => (PyProof.Rows.firstMet (fun i => ns.getD i 0) items.size).any (· == k')) (PyProof.Rows.firstMet (fun i => ns.getD i 0) items.size).length ∧
          (∀ b o, b < s.heap.objs.size → s.heap.get? b = some o → h'.get? b = some o)) E) F.called_set.init.plain F.entry_set_init (check_set_init_1 hT ?_)) fun r₂ s₂ hr₂ => ?_
      · obtain ⟨ol, hol, hcl, nl, hdl⟩ := hl
        obtain ⟨ocls, odict, odata, oslots⟩ := ol
        simp only at hcl hdl
        subst hcl; subst hdl
        have hol' : (s.heap.push { cls := .type "set", dict := none, data := .set #[] 0 (.fresh 0 0 (!w.params.followText "set-order")) }).get? l = some { cls := .type "list", dict := odict, data := .seq items nl, slots := oslots } := Heap.get?_push_of_some _ hol
        have hsls := F.sub_list_set
        have hslf := F.sub_list_frozenset
        have hne : (Value.type "list" == Value.type "dict") = false := by decide
        have hl1 : (s.heap.push { cls := .type "set", dict := none, data := .set #[] 0 (.fresh 0 0 (!w.params.followText "set-order")) }).IsList l items := ⟨_, hol', rfl, nl, rfl⟩
        unfold Builtin.«set.__init__» noKeywords Builtin.Frozenset.updateFrom
        generalize hPI : pyIter = PI
        wp_walk
        subst hPI

        refine wpAny_pyIter_list hl1 ?_
        refine wpAny_bind (wpAny_runValue ?_)
        have hlS : l < s.heap.objs.size := Heap.lt_size hol
        have hh3 : A.in1.in1.in1.handled = none := by simp [hh]
        have hneI : l ≠ (s.heap.push { cls := .type "set", dict := none, data := .set #[] 0 (.fresh 0 0 (!w.params.followText "set-order")) }).objs.size := by
          rw [Heap.size_push]; exact Nat.ne_of_lt (Nat.lt_succ_of_lt hlS)
        have hSf : s.heap.objs.size ∉ [(s.heap.push { cls := .type "set", dict := none, data := .set #[] 0 (.fresh 0 0 (!w.params.followText "set-order")) }).objs.size, l] := by
          rw [Heap.size_push]; simp only [List.mem_cons, List.mem_singleton, List.not_mem_nil, or_false, not_or]
          exact ⟨Nat.ne_of_lt (Nat.lt_succ_self _), Nat.ne_of_gt hlS⟩
        have hval : ∀ (i : Nat) (v : Value), items[i]? = some v → ∃ t, v = .int ((fun i => ns.getD i 0) i) t := fun i v hv =>
          PyProof.Rows.IntsAre.int_at hi i v (by rw [Array.getElem?_toList]; exact hv)
        refine loop_setR ((Walks.list hh3 _ l hneI items).toS) s.heap.objs.size
          hSf (fun i => ns.getD i 0) hval hb (items.size - 0) 0 _ (by omega) (Nat.zero_le _)
          ⟨⟨_, Heap.get?_push_size _ rfl, rfl, rfl⟩, (hl1.push _)⟩ ?hS0 ?hR
        case hS0 =>
          have hget : ((s.heap.push { cls := .type "set", dict := none, data := .set #[] 0 (.fresh 0 0 (!w.params.followText "set-order")) }).push { cls := .type "list_iterator", data := .fields #[.ref l, .int 0 0] }).get? s.heap.objs.size
              = some { cls := .type "set", dict := none, data := .set #[] 0 (.fresh 0 0 (!w.params.followText "set-order")) } := Heap.get?_push_of_some _ hS
          exact SetR.at (setR_fresh w) fun o q => Heap.get?_push_of_some _ q
        case hR =>
          intro s' hm hS'
          obtain ⟨h', g', d', tk', os'⟩ := s'
          have eg : g' = s.gens := hm.gens
          have ed : d' = s.drawn := hm.drawn
          have eo : os' = s.os := hm.os
          subst eg; subst ed; subst eo
          show wpAny _ _ _ _ _ _
          refine wpAny_pure ?_
          show wpAny _ _ (ret Value.none) _ _ _
          refine wpAny_pure ⟨rfl, h', tk', rfl, hS', fun b o hb e => ?_⟩
          have hb1 : b ≠ s.heap.objs.size := Nat.ne_of_lt hb
          have hb2 : b ≠ (s.heap.push { cls := .type "set", dict := none, data := .set #[] 0 (.fresh 0 0 (!w.params.followText "set-order")) }).objs.size := by
            rw [Heap.size_push]; exact Nat.ne_of_lt (Nat.lt_succ_of_lt hb)
          exact hm.heap b o (by simp only [List.mem_cons, List.mem_singleton, List.not_mem_nil, or_false, not_or]; exact ⟨hb1, hb2⟩) (Heap.get?_push_of_some _ (Heap.get?_push_of_some _ e))

      · cases r₂ with
        | error e => exact hr₂
        | ok fl₂ =>
          cases fl₂ with
          | ret r =>
            obtain ⟨rfl, h', tk, rfl, hS', hk'⟩ := hr₂
            repeat (any_goals (first | assumption | wp_step))
            exact h _ _ hS' hk'
          | _ => exact hr₂.elim
    | _ => exact hr.elim
end
end
end Dm

/-! Dm43: sorted(set(xs)), xs a list of ints. -/
namespace Dm
noncomputable section
open PySem PySem.Spec PyProof.Rows L2
/-- each once -/
def ddL : List Int → List Int
  | [] => []
  | x :: r => if x ∈ ddL r then ddL r else x :: ddL r
theorem mem_ddL : ∀ {l : List Int} {x : Int}, x ∈ ddL l ↔ x ∈ l
  | [], _ => Iff.rfl
  | y :: r, x => by
    unfold ddL
    by_cases h : y ∈ ddL r
    · rw [if_pos h, mem_ddL, List.mem_cons]
      exact ⟨.inr, fun z => z.elim (fun e => by rw [e]; exact mem_ddL.mp h) id⟩
    · rw [if_neg h, List.mem_cons, List.mem_cons, mem_ddL]
theorem nodup_ddL : ∀ l : List Int, (ddL l).Nodup
  | [] => List.nodup_nil
  | y :: r => by
    unfold ddL
    by_cases h : y ∈ ddL r
    · rw [if_pos h]; exact nodup_ddL r
    · rw [if_neg h]; exact List.nodup_cons.mpr ⟨h, nodup_ddL r⟩
def srtS (l : List Int) : List Int := srtT (ddL l)
theorem mem_srtS {l : List Int} {x : Int} : x ∈ srtS l ↔ x ∈ l := (srt_perm.mem_iff).trans mem_ddL
theorem srtS_of {a b : List Int} (h1 : a.Pairwise (· < ·)) (h2 : ∀ x, x ∈ a ↔ x ∈ b) : a = srtS b := by
  have nd : a.Nodup := h1.imp fun h => by omega
  refine srt_of ((List.perm_ext_iff_of_nodup nd (nodup_ddL b)).mpr fun x => (h2 x).trans mem_ddL.symm) (h1.imp fun h => by omega)
section
variable {X : Cx} {np : Fp} {EW : XW} {fe : ES} {e a : Expr} {p q p2 pos : Pos}
theorem mem_firstMet (val : Nat → Int) (x : Int) : ∀ n, (firstMet val n).any (· == x) = true ↔ ∃ i, i < n ∧ val i = x
  | 0 => by simp [firstMet_zero]
  | n + 1 => by
    rw [firstMet_succ, step_any, Bool.or_eq_true, mem_firstMet val x n, decide_eq_true_eq]
    constructor
    · rintro (⟨i, h, e⟩ | e)
      · exact ⟨i, by omega, e⟩
      · exact ⟨n, by omega, e.symm⟩
    · rintro ⟨i, h, e⟩
      by_cases c : i = n
      · subst c; exact .inr e.symm
      · exact .inl ⟨i, by omega, e⟩
def tSortSet (K : PySem.W.Frag) (ta : TE) : TE := fun σ H Q => ta σ H fun x H1 => ∃ (l : Addr) (ns : List Int), x = V.ref l ∧ SqL K H1 l (ns.map V.int) ∧ ns.length < 64 ∧
  ∀ (ns' : List Int) (t : Addr), ns'.Pairwise (· < ·) → (∀ k : Int, k ∈ ns' ↔ k ∈ ns) → H1 t = none → Q (.ref t) (upd H1 t (.lst (ns'.map V.int)))
theorem pe_sortSet (hc : X.calm = true) (hg : Gl X "sorted") (hm : X.mg "sorted" = none) (hg2 : Gl X "set") (hm2 : X.mg "set" = none) {ta : TE} (ha : PE X a ta)
    (na : starEach [a] X.env = (false, eval a X.env) :: starEach [] X.env := by rfl) : PE X (.Call (.Name "sorted" p) [.Call (.Name "set" p2) [a] [] q] [] pos) (tSortSet X.K ta) := by
  refine ⟨fun pins s σ H Q I h => ?_⟩
  refine wpAny_Call_Name_kw (ld_blt I hg hm (by decide +kernel : bootBuiltins "sorted" = some (.builtin "sorted")) ?_)
  refine PyProof.Rows.callWith_builtin1 (PyProof.Rows.args_cons ?_ rfl) rfl rfl
  refine wpAny_Call_Name_kw (ld_blt I hg2 hm2 PyProof.Rows.boot_set ?_)
  refine PyProof.Rows.callWith_type1 (PyProof.Rows.args_cons (thn (ha.run pins s σ H _ I h) fun v s1 ⟨x, H1, I1, r1, q1⟩ => PyProof.Rows.args_nil ?_) na) na rfl
  obtain ⟨l, ns, rfl, hq, h1, q1⟩ := q1
  cases r1
  obtain ⟨its, r, pl, hz⟩ := I1.list hq
  have hl : its.toArray.size = ns.length := by rw [List.size_toArray, ← r.length, List.length_map]
  refine call_set_listR (I1.ok.hd hc) pl.isList (ns := ns) (by simpa using r.ints) (by rw [hl]; unfold scanBound; omega) fun h' tk hS hk => ?_
  rw [hl] at hS
  refine PyProof.Rows.args_nil ?_
  have I2 : Inv X pins σ H1 { s1 with heap := h', toks := tk } := I1.kept fun b o e => hk b o (Heap.lt_size e) e
  refine sorted_set hS (I1.ok.hd hc) (Nat.lt_of_le_of_lt (firstMet_length_le _ _) h1) fun s' t out c ms k g o hp hgt hi hs hmm hll => ?_
  have hlen : (ms.map V.int).length ≤ sizeLine := by rw [List.length_map, hll, sizeLine_eq]; have := firstMet_length_le (fun i => ns.getD i 0) ns.length; omega
  have hn : H1 t = none := I2.hok.fresh hp
  have J : Inv X pins σ (upd H1 t (.lst (ms.map V.int))) { s1 with heap := s'.heap, gens := s'.gens, drawn := s'.drawn, toks := s'.toks } :=
    Inv.call (s := { s1 with heap := h', toks := tk }) (ch := []) I2 (Un.laid k hp hn) (I2.hok.laid k hp ⟨hlen, out.toList, c, vals_of_ints hi, hgt⟩) (by rw [g]; exact I2.bare) (fun _ z => nomatch z)
  have e : s' = { s1 with heap := s'.heap, gens := s'.gens, drawn := s'.drawn, toks := s'.toks } := by
    cases s'
    cases s1
    cases o
    rfl
  rw [e]
  refine ⟨.ref t, _, J, rfl, q1 ms t hs (fun x => (hmm x).trans ((mem_firstMet _ x ns.length).trans ⟨fun ⟨i, hi, e⟩ => ?_, fun hx => ?_⟩)) hn⟩
  · rw [← e, List.getD_eq_getElem?_getD, List.getElem?_eq_getElem hi]
    exact List.getElem_mem hi
  · obtain ⟨i, hi, e⟩ := List.getElem_of_mem hx
    exact ⟨i, hi, by show ns.getD i 0 = x; rw [List.getD_eq_getElem?_getD, List.getElem?_eq_getElem hi]; exact e⟩
def ssA (fe : ES) : AS := fun L ρ => (fe L ρ).bind fun p => (ofO (intsD p.1)).bind fun ns => if ns.length < 64 then .ok ((srtS ns).map PyData.int, p.2) else .bad
theorem dn_sortSet (hg : Gl X "sorted") (hm : X.mg "sorted" = none) (hg2 : Gl X "set") (hm2 : X.mg "set" = none) (ha : DE X np EW a fe) (hc : X.calm = true := by rfl)
    (na : starEach [a] X.env = (false, eval a X.env) :: starEach [] X.env := by rfl) : DN X np EW (.Call (.Name "sorted" p) [.Call (.Name "set" p2) [a] [] q] [] pos) (ssA fe) :=
  PE.weak (pe_sortSet hc hg hm hg2 hm2 ha na) fun σ H Q ⟨L, C, ρ, R, h⟩ => tE_of R h fun q v H1 C1 A1 R1 r1 h1 => by
    obtain ⟨ns, e, h2⟩ := wp_ofO (wp_bind.mp h1)
    obtain ⟨dq, ρ1⟩ := q
    cases dq <;> simp only [intsD, reduceCtorEq] at e
    have := ints?_some e
    subst this
    obtain ⟨a, us, rfl, ha, _, rr⟩ := r1.lst_inv
    have eu := rr.ints
    subst eu
    by_cases hl : ns.length < 64
    · rw [if_pos hl] at h2
      refine ⟨_, ns, rfl, .of ha, hl, fun ns' t k1 k2 ht => ?_⟩
      have := srtS_of k1 k2
      subst this
      exact h2 t _ H1 C1 A1 R1 ht rp_ints
    · rw [if_neg hl] at h2; exact h2.elim
@[simp] theorem ev_ssA {L : Lv} {ρ : Slots} : ssA fe L ρ = (fe L ρ).bind fun p => (ofO (intsD p.1)).bind fun ns => if ns.length < 64 then .ok ((srtS ns).map PyData.int, p.2) else .bad := Eq.trans rfl rfl
end
/-! ### own exception classes, by what the written part says -/
section
variable {K : PySem.W.Frag} {D C : Addr}
theorem clsIn_of (hd : PySem.W.hasDictIn K C = true) : (PySem.W.clsIn K C).isSome = true := by obtain ⟨cd, hc, _⟩ := PySem.W.any_some hd; rw [hc]; rfl
theorem kitCls_of {b : Bool} {t : Value} (h : PySem.W.subIn K t (.ref C) = some b) (hd : PySem.W.hasDictIn K C = true) (ht : PySem.W.typeIn K (.ref C) = some (.type "type")) : PySem.W.kitCls K t (.ref C) = some b := by
  have e2 : ((PySem.W.clsIn K C).isSome && PySem.W.typeIn K (.ref C) == some (.type "type")) = true := by rw [clsIn_of hd, ht]; rfl
  show (if ((PySem.W.clsIn K C).isSome && PySem.W.typeIn K (.ref C) == some (.type "type")) = true then PySem.W.subIn K t (.ref C) else none) = _
  rw [if_pos e2]; exact h
theorem kit_yes (h : PySem.W.subIn K (.ref D) (.ref C) = some true) (hd : PySem.W.hasDictIn K C = true) (ht : PySem.W.typeIn K (.ref C) = some (.type "type")) : PySem.W.kitOne K (.ref D) (.ref C) = some true := by
  unfold PySem.W.kitOne
  by_cases e : ((Value.ref D) == (Value.ref C)) = true
  · rw [if_pos e]
  · rw [if_neg e]; exact kitCls_of h hd ht
theorem kit_no (h : PySem.W.subIn K (.ref D) (.ref C) = some false) (hs : PySem.W.subIn K (.ref C) (.ref C) = some true) (hd : PySem.W.hasDictIn K C = true) (ht : PySem.W.typeIn K (.ref C) = some (.type "type")) : PySem.W.kitOne K (.ref D) (.ref C) = some false := by
  unfold PySem.W.kitOne
  by_cases e : ((Value.ref D) == (Value.ref C)) = true
  · have e' := beq_iff_eq.mp e
    rw [e', hs] at h; cases h
  · rw [if_neg e]; exact kitCls_of h hd ht
end
end
end Dm

namespace W
noncomputable section
open PySem PySem.Spec PyProof.Rows L2 Dm
def f_is_amount : SS :=
    (rtS 1 (atE .an (anE (isiE "int" (nmE 0)) (anE (ntE (isiE "bool" (nmE 0))) (opE geD (nmE 0) (csE (.int 0)))))))
def m_is_amount : PF := pfOf 0 f_is_amount
def f_changed : SS :=
    (rtS 3 (opE addD (opE addD (slE (nmE 0) noO (soO (nmE 1))) (tuE (consA (opE addD (opE ixD (nmE 0) (nmE 1)) (nmE 2)) nilA))) (slE (nmE 0) (soO (atE .an (opE addD (nmE 1) (csE (.int 1))))) noO)))
def m_changed : PF := pfOf 0 f_changed
abbrev lp_taken_from_0 : SS :=
    (ifS .an (asT (opE gtD (opE ixD (nmE 0) (nmE 2)) (csE (.int 0)))) (rtS 2 (nmE 2)) skS)
def f_taken_from : SS :=
    (sqS (forS .bo (itA (nmE 1)) (nmG 2) lp_taken_from_0)
    (rtS 2 (csE .none)))
def m_taken_from : PF := pfOf 1 f_taken_from
abbrev lp_left_at_0 : SS :=
    (ifS .an (orT (asT (opE isND (opE ixD (nmE 0) (nmE 3)) (csE .none))) (asT (opE ltD (opE ixD (nmE 1) (nmE 3)) (opE ixD (nmE 0) (nmE 3))))) (rtS 3 (nmE 3)) skS)
def f_left_at : SS :=
    (sqS (forS .bo (itA (nmE 2)) (nmG 3) lp_left_at_0)
    (rtS 3 (csE .none)))
def m_left_at : PF := pfOf 1 f_left_at
def f_apart_by : SS :=
    (rtS 2 (atE .an (cbE sumA (consA (lsE (lcA .bp [2, 3] (agA zipG (consA (nmE 0) (consA (nmE 1) nilA))) (tuG 2 (consG (nmG 2) (consG (nmG 3) nilG))) yesT (cbE absG (consA (opE subD (nmE 2) (nmE 3)) nilA)))) nilA))))
def m_apart_by : PF := pfOf 2 f_apart_by
def f__law_cart : SS :=
    (sqS (vaS 2 (csE (.int 0)))
    (sqS (ifS .an (asT (opE ltD (nmE 1) (slenE 0))) (vaS 2 (sixE 0 (nmE 1))) skS)
    (rtS 2 (liE (consA (atE .an (cbE maxG (consA (csE (.int 0)) (consA (opE subD (cbE absG (consA (nmE 2) nilA)) (opE powD (csE (.int 10)) (csE (.int 18)))) nilA)))) (consA (atE .an (opE addD (opE modD (nmE 2) (opE addD (opE powD (csE (.int 10)) (csE (.int 37))) (csE (.int 43)))) (opE mulD (csE (.int 11587)) (nmE 1)))) (consA (csE (.int 0)) nilA)))))))
def c__law_cart : SF := sfOf 1 f__law_cart
def f__law_pull : SS :=
    (sqS (ifS .an (asT (opE gtD (opE ixD (nmE 0) (csE (.int 0))) (csE (.int 0)))) (sqS (vaS 2 (atE .an (opE modD (opE ixD (nmE 0) (csE (.int 0))) (nmE 1))))
    (sqS (stS 0 (atE .an (opE divD (opE ixD (nmE 0) (csE (.int 0))) (nmE 1))) (csE (.int 0)))
    (rtS 2 (nmE 2)))) skS)
    (sqS (stS 0 (atE .an (opE addD (opE ixD (nmE 0) (csE (.int 2))) (csE (.int 1)))) (csE (.int 2)))
    (sqS (vaS 3 (atE .an (opE modD (opE powD (opE addD (opE ixD (nmE 0) (csE (.int 1))) (opE mulD (csE (.int 32452843)) (opE ixD (nmE 0) (csE (.int 2))))) (csE (.int 3))) (opE addD (opE powD (csE (.int 10)) (csE (.int 38))) (csE (.int 133))))))
    (sqS (vaS 3 (atE .an (opE modD (opE powD (opE addD (nmE 3) (opE mulD (csE (.int 141650939)) (opE ixD (nmE 0) (csE (.int 2))))) (csE (.int 3))) (opE addD (opE powD (csE (.int 10)) (csE (.int 35))) (csE (.int 69))))))
    (rtS 2 (atE .an (opE modD (opE divD (nmE 3) (csE (.int 131071))) (nmE 1))))))))
def o__law_pull : OF := ofOf 2 f__law_pull
abbrev lp__law_gone_0 : SS :=
    (sqS (vaS 8 (lsE (lvA (lcA .bp [11] (itA (nmE 6)) (nmG 11) (atT .an (asT (opE neD (opE ixD (nmE 3) (nmE 11)) (csE (.int 0))))) (nmE 11)))))
    (sqS (vaS 9 (csE .none))
    (sqS (ifS .an (asT (opE neD (nmE 8) (liE nilA))) (sqS (stS 3 (atE .an (opE subD (opE ixD (nmE 3) (opE ixD (nmE 8) (csE (.int 0)))) (csE (.int 1)))) (opE ixD (nmE 8) (csE (.int 0))))
    (sqS (vaS 10 (lsE (lvA (lcA .bp [11] (itA (nmE 7)) (nmG 11) (atT .an (orT (asT (opE isND (opE ixD (nmE 0) (nmE 11)) (csE .none))) (asT (opE neD (opE ixD (nmE 3) (nmE 11)) (opE ixD (nmE 0) (nmE 11)))))) (nmE 11)))))
    (sqS (vaS 9 (tuE (consA (opE ixD (nmE 8) (csE (.int 0))) (consA (opE ixD (opE addD (nmE 10) (liE (consA (csE .none) nilA))) (csE (.int 0))) nilA))))
    (ifS .an (asT (opE neD (nmE 10) (liE nilA))) (stS 3 (atE .an (opE addD (opE ixD (nmE 3) (opE ixD (nmE 10) (csE (.int 0)))) (csE (.int 1)))) (opE ixD (nmE 10) (csE (.int 0)))) skS)))) skS)
    (sqS (apS 4 (nmE 9))
    (apS 5 (atE .an (cbE tupG (consA (nmE 3) nilA))))))))
def f__law_gone : SS :=
    (sqS (owS 3 3 (lsA (nmE 1)))
    (sqS (owS 3 4 (szA nilA))
    (sqS (owS 3 5 (szA (consA (atE .an (cbE tupG (consA (nmE 3) nilA))) nilA)))
    (sqS (forS .bo (itA (nmE 2)) (tuG 2 (consG (nmG 6) (consG (nmG 7) nilG))) lp__law_gone_0)
    (rtS 3 (tuE (consA (nmE 4) (consA (nmE 5) nilA))))))))
def m__law_gone : PF := pfOf 9 f__law_gone
def f_is_yard : SS :=
    (sqS (ifS .an (orT (ntT (asT (isiE "tuple" (nmE 0)))) (ntT (asT (chE leD leD (csE (.int 1)) (cbE lenG (consA (nmE 0) nilA)) (csE (.int 9)))))) (rtS 1 (csE (.bool false))) skS)
    (rtS 1 (atE .an (cbE allG (consA (lsE (lcA .bp [1] (itA (nmE 0)) (nmG 1) yesT (orE (opE isND (nmE 1) (csE .none)) (clE .an 1 m_is_amount (consA (nmE 1) nilA))))) nilA)))))
def m_is_yard : PF := pfOf 1 f_is_yard
def f_is_place : SS :=
    (rtS 2 (atE .an (anE (clE .an 1 m_is_amount (consA (nmE 1) nilA)) (opE ltD (nmE 1) (cbE lenG (consA (nmE 0) nilA))))))
def m_is_place : PF := pfOf 0 f_is_place
def f_asked : SS :=
    (sqS (tgS .va (tuG 2 (consG (nmG 3) (consG (nmG 4) nilG))) (nmE 2))
    (sqS (vaS 5 (clE .an 2 m_taken_from (consA (nmE 1) (consA (nmE 3) nilA))))
    (sqS (ifS .an (asT (opE isND (nmE 5) (csE .none))) (rtS 3 (tuE (consA (csE .none) (consA (nmE 1) nilA)))) skS)
    (sqS (vaS 1 (clE .an 3 m_changed (consA (nmE 1) (consA (nmE 5) (consA (unE negD (csE (.int 1))) nilA)))))
    (sqS (vaS 6 (clE .an 3 m_left_at (consA (nmE 0) (consA (nmE 1) (consA (nmE 4) nilA)))))
    (rtS 3 (tuE (consA (tuE (consA (nmE 5) (consA (nmE 6) nilA))) (consA (ifE (atT .an (asT (opE isND (nmE 6) (csE .none)))) (nmE 1) (clE .an 3 m_changed (consA (nmE 1) (consA (nmE 6) (consA (csE (.int 1)) nilA))))) nilA)))))))))
def m_asked : PF := pfOf 4 f_asked
abbrev lp__law_rooms_0 : SS :=
    (apS 3 (opE ixD (liE (consA (csE .none) (consA (clO 0 1 o__law_pull (consA (csE (.int 4)) nilA)) (consA (clO 0 1 o__law_pull (consA (atE .an (opE powD (csE (.int 10)) (csE (.int 12)))) nilA)) nilA)))) (clO 0 1 o__law_pull (consA (atE .an (opE addD (csE (.int 1)) (nmE 2))) nilA))))
def f__law_rooms : SS :=
    (sqS (vaS 2 (clO 0 1 o__law_pull (consA (csE (.int 3)) nilA)))
    (sqS (owS 2 3 (szA nilA))
    (sqS (forS .bo (agA rg1D (consA (opE addD (csE (.int 1)) (clO 0 1 o__law_pull (consA (nmE 1) nilA))) nilA)) (nmG 4) lp__law_rooms_0)
    (rtS 2 (cbE tupG (consA (nmE 3) nilA))))))
def o__law_rooms : OF := ofOf 3 f__law_rooms
abbrev lp__law_things_0 : SS :=
    (sqS (vaS 4 (opE ixD (liE (consA (csE (.int 0)) (consA (csE (.int 0)) (consA (csE (.int 1)) (consA (clO 0 1 o__law_pull (consA (csE (.int 4)) nilA)) (consA (clO 0 1 o__law_pull (consA (atE .an (opE powD (csE (.int 10)) (csE (.int 12)))) nilA)) nilA)))))) (clO 0 1 o__law_pull (consA (csE (.int 5)) nilA))))
    (sqS (ifS .an (asT (opE notND (nmE 3) (csE .none))) (vaS 4 (opE ixD (liE (consA (atE .an (cbE minG (consA (nmE 4) (consA (nmE 3) nilA)))) (consA (nmE 3) nilA))) (opE divD (clO 0 1 o__law_pull (consA (csE (.int 4)) nilA)) (csE (.int 3))))) skS)
    (apS 2 (nmE 4))))
def f__law_things : SS :=
    (sqS (owS 2 2 (szA nilA))
    (sqS (forS .bo (itA (nmE 1)) (nmG 3) lp__law_things_0)
    (rtS 2 (cbE tupG (consA (nmE 2) nilA)))))
def o__law_things : OF := ofOf 3 f__law_things
def f__law_some : SS :=
    (sqS (owS 2 2 (lrA (nmE 1)))
    (sqS (vaS 3 (clO 0 1 o__law_pull (consA (opE addD (csE (.int 1)) (opE ixD (liE (consA (atE .an (cbE minG (consA (csE (.int 3)) (consA (nmE 1) nilA)))) (consA (nmE 1) nilA))) (opE divD (clO 0 1 o__law_pull (consA (csE (.int 4)) nilA)) (csE (.int 3))))) nilA)))
    (rteS (cbE tupG (consA (lsE (lcA .bo [4] (agA rg1D (consA (nmE 3) nilA)) (nmG 4) yesT (poE 2 (clO 0 1 o__law_pull (consA (atE .an (cbE lenG (consA (nmE 2) nilA))) nilA))))) nilA)))))
def o__law_some : OF := ofOf 3 f__law_some
def f__law_due : SS :=
    (sqS (vaS 4 (opE ixD (clE .an 3 m__law_gone (consA (nmE 0) (consA (nmE 1) (consA (nmE 2) nilA)))) (csE (.int 1))))
    (sqS (vaS 5 (opE ixD (clE .an 3 m__law_gone (consA (nmE 0) (consA (nmE 1) (consA (opE addD (slE (nmE 2) noO (soO (nmE 3))) (slE (nmE 2) (soO (opE addD (nmE 3) (csE (.int 1)))) noO)) nilA)))) (csE (.int 1))))
    (sqS (vaS 5 (opE addD (slE (nmE 5) noO (soO (atE .an (opE addD (nmE 3) (csE (.int 1)))))) (slE (nmE 5) (soO (nmE 3)) noO)))
    (rtS 4 (lsE (lcA .bp [6] (agA rg1D (consA (atE .an (cbE lenG (consA (nmE 4) nilA))) nilA)) (nmG 6) yesT (atE .an (cbE sumA (consA (lsE (lcA .bp [7] (agA rg1D (consA (atE .an (cbE lenG (consA (nmE 0) nilA))) nilA)) (nmG 7) yesT (cbE absG (consA (opE subD (opE ixD (opE ixD (nmE 4) (nmE 6)) (nmE 7)) (opE ixD (opE ixD (nmE 5) (nmE 6)) (nmE 7))) nilA)))) nilA)))))))))
def m__law_due : PF := pfOf 4 f__law_due
def f_are_places : SS :=
    (sqS (ifS .an (orT (ntT (asT (isiE "tuple" (nmE 1)))) (ntT (asT (cbE allG (consA (lsE (lcA .bp [2] (itA (nmE 1)) (nmG 2) yesT (clE .an 2 m_is_place (consA (nmE 0) (consA (nmE 2) nilA))))) nilA))))) (rtS 2 (csE (.bool false))) skS)
    (rtS 2 (atE .an (opE eqD (unE lsetD (nmE 1)) (cbE lenG (consA (nmE 1) nilA))))))
def m_are_places : PF := pfOf 1 f_are_places
def f_need_yard : SS :=
    (ifS .an (ntT (asT (clE .an 1 m_is_yard (consA (nmE 0) nilA)))) badS skS)
def m_need_yard : PF := pfOf 0 f_need_yard
abbrev lp_distances_0 : SS :=
    (sqS (vaS 1 (opE ixD (clE .an 3 m_asked (consA (nmE 0) (consA (nmE 1) (consA (nmE 5) nilA)))) (csE (.int 1))))
    (sqS (vaS 2 (opE ixD (clE .an 3 m_asked (consA (nmE 0) (consA (nmE 2) (consA (nmE 5) nilA)))) (csE (.int 1))))
    (apS 4 (clE .an 2 m_apart_by (consA (nmE 1) (consA (nmE 2) nilA))))))
def f_distances : SS :=
    (sqS (owS 4 4 (szA (consA (clE .an 2 m_apart_by (consA (nmE 1) (consA (nmE 2) nilA))) nilA)))
    (sqS (forS .bo (itA (nmE 3)) (nmG 5) lp_distances_0)
    (rtS 4 (nmE 4))))
def m_distances : PF := pfOf 2 f_distances
def f__law_asks : SS :=
    (rteS (lsE (lcA .bo [3] (agA rg1D (consA (clO 0 1 o__law_pull (consA (atE .an (opE addD (nmE 2) (csE (.int 1)))) nilA)) nilA)) (nmG 3) yesT (tuE (consA (clO 0 1 o__law_some (consA (nmE 1) nilA)) (consA (clO 0 1 o__law_some (consA (nmE 1) nilA)) nilA))))))
def o__law_asks : OF := ofOf 1 f__law_asks
def f_is_standing : SS :=
    (sqS (exS .an (clE .an 1 m_need_yard (consA (nmE 0) nilA)))
    (sqS (ifS .an (orT (ntT (asT (isiE "tuple" (nmE 1)))) (orT (asT (opE neD (cbE lenG (consA (nmE 1) nilA)) (cbE lenG (consA (nmE 0) nilA)))) (ntT (asT (cbE allG (consA (lsE (lcA .bp [2] (itA (nmE 1)) (nmG 2) yesT (clE .an 1 m_is_amount (consA (nmE 2) nilA)))) nilA)))))) (rtS 2 (csE (.bool false))) skS)
    (rtS 2 (atE .an (cbE allG (consA (lsE (lcA .bp [2, 3] (agA zipG (consA (nmE 1) (consA (nmE 0) nilA))) (tuG 2 (consG (nmG 2) (consG (nmG 3) nilG))) yesT (orE (opE isND (nmE 3) (csE .none)) (opE leD (nmE 2) (nmE 3))))) nilA))))))
def m_is_standing : PF := pfOf 2 f_is_standing
def f_is_ask : SS :=
    (rtS 2 (atE .an (anE (isiE "tuple" (nmE 1)) (anE (opE eqD (cbE lenG (consA (nmE 1) nilA)) (csE (.int 2))) (cbE allG (consA (lsE (lcA .bp [2] (itA (nmE 1)) (nmG 2) yesT (clE .an 2 m_are_places (consA (nmE 0) (consA (nmE 2) nilA))))) nilA))))))
def m_is_ask : PF := pfOf 1 f_is_ask
def f_is_day : SS :=
    (sqS (exS .an (clE .an 1 m_need_yard (consA (nmE 0) nilA)))
    (rtS 2 (atE .an (anE (isiE "list" (nmE 1)) (cbE allG (consA (lsE (lcA .bp [2] (itA (nmE 1)) (nmG 2) yesT (clE .an 2 m_is_ask (consA (nmE 0) (consA (nmE 2) nilA))))) nilA))))))
def m_is_day : PF := pfOf 1 f_is_day
def f_need_standing : SS :=
    (ifS .an (ntT (asT (clE .an 2 m_is_standing (consA (nmE 0) (consA (nmE 1) nilA))))) badS skS)
def m_need_standing : PF := pfOf 0 f_need_standing
def f_need_day : SS :=
    (ifS .an (ntT (asT (clE .an 2 m_is_day (consA (nmE 0) (consA (nmE 1) nilA))))) badS skS)
def m_need_day : PF := pfOf 0 f_need_day
abbrev lp_left_out_0 : SS :=
    (vaS 1 (opE ixD (clE .an 3 (nxP m_asked) (consA (nmE 0) (consA (nmE 1) (consA (nmE 4) nilA)))) (csE (.int 1))))
def f_left_out : SS :=
    (sqS (exS .an (clE .an 1 (nxP m_need_yard) (consA (nmE 0) nilA)))
    (sqS (exS .an (clE .an 2 (nxP m_need_standing) (consA (nmE 0) (consA (nmE 1) nilA))))
    (sqS (exS .an (clE .an 2 (nxP m_need_day) (consA (nmE 0) (consA (nmE 2) nilA))))
    (sqS (ifS .an (orT (ntT (asT (clE .an 1 (nxP m_is_amount) (consA (nmE 3) nilA)))) (asT (opE geD (nmE 3) (cbE lenG (consA (nmE 2) nilA))))) (rsS ⟨"NoAsk", none⟩) skS)
    (sqS (forS .bo (itA (slE (nmE 2) noO (soO (nmE 3)))) (nmG 4) lp_left_out_0)
    (sqS (vaS 5 (opE ixD (clE .an 3 (nxP m_asked) (consA (nmE 0) (consA (nmE 1) (consA (opE ixD (nmE 2) (nmE 3)) nilA)))) (csE (.int 1))))
    (rtS 4 (lsE (nopA addD (opE mulD (liE (consA (csE (.int 0)) nilA)) (opE addD (nmE 3) (csE (.int 1)))) (clE .an 4 (nxP m_distances) (consA (nmE 0) (consA (nmE 5) (consA (nmE 1) (consA (slE (nmE 2) (soO (opE addD (nmE 3) (csE (.int 1)))) noO) nilA))))))))))))))
def m_left_out : PF := pfOf 2 f_left_out
def f__law_refused : SS :=
    (sqS (vaS 4 (csE .none))
    (sqS (tyS "NoAsk" 5 4 (clX 4 m_left_out [] (consA (nmE 0) (consA (nmE 1) (consA (nmE 2) (consA (nmE 3) nilA))))))
    (sqS (vaS 6 (atE .an (ntE (isxE 4 "NoAsk" false))))
    (rtS 4 (atE .an (anE (isxE 4 "NoAsk" true) (nmE 6)))))))
def m__law_refused : PF := pfOf 3 f__law_refused
abbrev lp_law_0 : SS :=
    (sqS (unS 1 11 (clE .an 4 m_left_out (consA (nmE 3) (consA (nmE 4) (consA (nmE 5) (consA (nmE 7) nilA))))))
    (sqS (ifS .an (orT (asT (opE neD (cbE reprG (consA (nmE 11) nilA)) (cbE reprG (consA (nmE 9) nilA)))) (asT (opE neD (cbE reprG (consA (liE (consA (nmE 3) (consA (nmE 4) (consA (nmE 5) nilA)))) nilA)) (nmE 6)))) (rtS 1 (csE (.bool false))) skS)
    (sqS (u0S 1 11 List.reverse)
    (u0A 1 11 (csE (.int 3))))))
abbrev lp_law_1 : SS :=
    (sqS (vaS 9 (clE .an 4 m__law_due (consA (nmE 3) (consA (nmE 4) (consA (nmE 5) (consA (nmE 7) nilA))))))
    (sqS (forS .bo (agA rg1D (consA (csE (.int 2)) nilA)) (nmG 10) lp_law_0)
    (ifS .an (asT (opE neD (clK 0 4 [3, 2, 1, 0] m_left_out nilA (consA (nmE 7) (consA (nmE 5) (consA (nmE 4) (consA (nmE 3) nilA))))) (nmE 9))) (rtS 1 (csE (.bool false))) skS)))
abbrev lp_law_2 : SS :=
    (sqS (uoS 1 2 (unS 1 2 (clSc 0 1 c__law_cart (consA (nmE 1) nilA))))
    (sqS (vaS 3 (clO 2 1 o__law_rooms (consA (opE ixD (liE (consA (csE (.int 3)) (consA (csE (.int 9)) nilA))) (clO 2 1 o__law_pull (consA (csE (.int 2)) nilA))) nilA)))
    (sqS (vaS 4 (clO 2 1 o__law_things (consA (nmE 3) nilA)))
    (sqS (vaS 5 (opE addD (clO 2 2 o__law_asks (consA (atE .an (cbE lenG (consA (nmE 3) nilA))) (consA (opE ixD (liE (consA (csE (.int 8)) (consA (csE (.int 59)) nilA))) (clO 2 1 o__law_pull (consA (csE (.int 2)) nilA))) nilA))) (liE (consA (tuE (consA (tuE (consA (csE (.int 0)) nilA)) (consA (tuE nilA) nilA))) nilA))))
    (sqS (vaS 6 (atE .an (cbE reprG (consA (liE (consA (nmE 3) (consA (nmE 4) (consA (nmE 5) nilA)))) nilA))))
    (sqS (forS .bo (itA (lsE (ssA (opE addD (lsE (lcA .bo [10] (agA rg1D (consA (csE (.int 9)) nilA)) (nmG 10) yesT (clO 2 1 o__law_pull (consA (atE .an (cbE lenG (consA (nmE 5) nilA))) nilA)))) (liE (consA (csE (.int 0)) (consA (atE .an (opE subD (cbE lenG (consA (nmE 5) nilA)) (csE (.int 1)))) nilA))))))) (nmG 7) lp_law_1)
    (sqS (vaS 8 (liE (consA (atE .an (unE negD (csE (.int 1)))) (consA (atE .an (cbE lenG (consA (nmE 5) nilA))) (consA (csE .none) (consA (csE (.bool true)) (consA (csE (.str "0")) (consA (tuE nilA) (consA (liE (consA (csE (.int 0)) nilA)) (consA (atE .an (opE powD (csE (.int 10)) (csE (.int 11)))) nilA))))))))))
    (sqS (ifS .an (asT (opE neD (lsE (lcA .bp [7] (itA (nmE 8)) (nmG 7) (ntT (asT (clE .an 4 m__law_refused (consA (nmE 3) (consA (nmE 4) (consA (nmE 5) (consA (nmE 7) nilA))))))) (nmE 7))) (liE nilA))) (rtS 1 (csE (.bool false))) skS)
    (ifS .an (ntT (asT (clE .an 4 m__law_refused (consA (nmE 3) (consA (nmE 4) (consA (liE nilA) (consA (csE (.int 0)) nilA))))))) (rtS 1 (csE (.bool false))) skS)))))))))
def f_law : SS :=
    (sqS (forS .bo (agA rg1D (consA (atE .an (cbE maxG (consA (csE (.int 1)) (consA (cbE minG (consA (csE (.int 4)) (consA (slenE 0) nilA))) nilA)))) nilA)) (nmG 1) lp_law_2)
    (rtS 1 (csE (.bool true))))
/-! ### the program's yards, typed -/
def eO : Option Int → D
  | none => .none
  | some i => .int i
def eN (n : Nat) : D := .int (n : Int)
def eNO : Option Nat → D
  | none => .none
  | some i => eN i
def eY (y : List (Option Int)) : D := .tuple (y.map eO)
def eS (s : List Int) : D := .tuple (s.map PyData.int)
def eP (p : List Nat) : D := .tuple (p.map eN)
abbrev Ask := List Nat × List Nat
def eA (a : Ask) : D := .tuple [eP a.1, eP a.2]
def eD (d : List Ask) : D := .list (d.map eA)
abbrev Row := Option (Nat × Option Nat)
def eRow : Row → D
  | none => .none
  | some r => .tuple [eN r.1, eNO r.2]
@[simp] theorem noL_eO {o : Option Int} : noL (eO o) = true := by cases o <;> rfl
@[simp] theorem noL_eN {o : Nat} : noL (eN o) = true := rfl
@[simp] theorem noL_eNO {o : Option Nat} : noL (eNO o) = true := by cases o <;> rfl
@[simp] theorem noL_eY {y : List (Option Int)} : noL (eY y) = true := noLs_map fun _ => noL_eO
@[simp] theorem noL_eS {y : List Int} : noL (eS y) = true := noLs_map fun _ => rfl
@[simp] theorem noL_eP {y : List Nat} : noL (eP y) = true := noLs_map fun _ => rfl
@[simp] theorem noL_eA {y : Ask} : noL (eA y) = true := by simp [eA]
@[simp] theorem noL_eRow {y : Row} : noL (eRow y) = true := by cases y <;> simp [eRow]
@[simp] theorem noLs_eN {l : List Nat} : noLs (l.map eN) = true := noLs_map fun _ => rfl
@[simp] theorem noLs_eO {l : List (Option Int)} : noLs (l.map eO) = true := noLs_map fun _ => noL_eO
@[simp] theorem noLs_eA {l : List Ask} : noLs (l.map eA) = true := noLs_map fun _ => noL_eA
@[simp] theorem noLs_eRow {l : List Row} : noLs (l.map eRow) = true := noLs_map fun _ => noL_eRow
@[simp] theorem itD_eS {s : List Int} : itD (eS s) = some (s.map PyData.int) := rfl
@[simp] theorem itD_eP {s : List Nat} : itD (eP s) = some (s.map eN) := rfl
@[simp] theorem itD_eY {s : List (Option Int)} : itD (eY s) = some (s.map eO) := rfl
@[simp] theorem itD_eD {s : List Ask} : itD (eD s) = some (s.map eA) := rfl
@[simp] theorem noL_eD {d : List Ask} : noL (eD d) = false := rfl
structure OkY (y : List (Option Int)) : Prop where
  lo : 1 ≤ y.length
  hi : y.length ≤ 9
  pos : ∀ i, some i ∈ y → 0 ≤ i
structure OkS (y : List (Option Int)) (s : List Int) : Prop where
  len : s.length = y.length
  pos : ∀ i ∈ s, 0 ≤ i
  fit : ∀ (p : Nat) (r x : Int), y[p]? = some (some r) → s[p]? = some x → x ≤ r
structure OkP (n : Nat) (p : List Nat) : Prop where
  lt : ∀ x ∈ p, x < n
  nodup : p.Nodup
def OkA (n : Nat) (a : Ask) : Prop := OkP n a.1 ∧ OkP n a.2
def OkD (n : Nat) (d : List Ask) : Prop := ∀ a ∈ d, OkA n a
def gS (s : List Int) (p : Nat) : Int := s[p]?.getD 0
def gO (s : List (Option Int)) (p : Nat) : Option Int := s[p]?.getD none
def takeT (s : List Int) (w : List Nat) : Option Nat := w.find? fun p => decide (0 < gS s p)
def leftT (y : List (Option Int)) (s : List Int) (l : List Nat) : Option Nat := l.find? fun p => match gO y p with
  | none => true
  | some r => decide (gS s p < r)
def chT (s : List Int) (p : Nat) (b : Int) : List Int := s.set p (gS s p + b)
def askT (y : List (Option Int)) (s : List Int) (a : Ask) : Row × List Int := match takeT s a.1 with
  | none => (none, s)
  | some p => match leftT y (chT s p (-1)) a.2 with
    | none => (some (p, none), chT s p (-1))
    | some q => (some (p, some q), chT (chT s p (-1)) q 1)
def goT (y : List (Option Int)) : List Int → List Ask → List Row × List Int
  | s, [] => ([], s)
  | s, a :: r => ((askT y s a).1 :: (goT y (askT y s a).2 r).1, (goT y (askT y s a).2 r).2)
@[simp] theorem ixS {s : List Int} {p : Nat} (h : p < s.length) : ixD (eS s) (eN p) = some (.int (gS s p)) := by
  unfold eS eN gS
  rw [ixd_tup, List.getElem?_map, List.getElem?_eq_getElem h]
  simp [h]
@[simp] theorem ixY {s : List (Option Int)} {p : Nat} (h : p < s.length) : ixD (eY s) (eN p) = some (eO (gO s p)) := by
  unfold eY eN gO
  rw [ixd_tup, List.getElem?_map, List.getElem?_eq_getElem h]
  simp [h]
@[simp] theorem slS1 {s : List Int} {p : Nat} : slD2 (eS s) none (some (p : Int)) = some (eS (s.take p)) := by
  show some (PyData.tuple (Dm.cutD _ _ _)) = _
  rw [cut_to, eS, List.map_take]
@[simp] theorem slS2 {s : List Int} {p : Nat} : slD2 (eS s) (some (p : Int)) none = some (eS (s.drop p)) := by
  show some (PyData.tuple (Dm.cutD _ _ _)) = _
  rw [cut_from, eS, List.map_drop]
@[simp] theorem slS3 {s : List Int} {p : Nat} : slD2 (eS s) (some ((p : Int) + 1)) none = some (eS (s.drop (p + 1))) := slS2
@[simp] theorem addS {s t : List Int} (h : s.length + t.length ≤ 16777216) : addD (eS s) (eS t) = some (eS (s ++ t)) := by
  unfold eS
  rw [add_tup (by simpa using h), List.map_append]
@[simp] theorem addS1 {s : List Int} {i : Int} (h : s.length < 16777216) : addD (eS s) (.tuple [.int i]) = some (eS (s ++ [i])) := addS (t := [i]) h
@[simp] theorem isNd_eN {n : Nat} : isNd (eN n) = false := rfl
@[simp] theorem isNd_eS {n : List Int} : isNd (eS n) = false := rfl
theorem isNd_eNO {n : Option Nat} : isNd (eNO n) = n.isNone := by cases n <;> rfl
theorem isNd_eO {n : Option Int} : isNd (eO n) = n.isNone := by cases n <;> rfl
theorem isNd_eRow {n : Row} : isNd (eRow n) = n.isNone := by cases n <;> rfl
@[simp] theorem add_eN {p : Nat} : addD (eN p) (.int 1) = some (eN (p + 1)) := rfl
@[simp] theorem isI_eN {p : Nat} : isI (eN p) = .ok (p : Int) := rfl
@[simp] theorem lenS {s : List Int} : lenG [eS s] = some (.int s.length) := by simp [eS]
@[simp] theorem lenY {s : List (Option Int)} : lenG [eY s] = some (.int s.length) := by simp [eY]
@[simp] theorem lenP {s : List Nat} : lenG [eP s] = some (.int s.length) := by simp [eP]
@[simp] theorem lenA {s : Ask} : lenG [eA s] = some (.int 2) := by simp [eA]
@[simp] theorem isiS {s : List Int} {T : String} : isiB T (eS s) = (T == "tuple") := isi_tup
@[simp] theorem isiY {s : List (Option Int)} {T : String} : isiB T (eY s) = (T == "tuple") := isi_tup
@[simp] theorem isiP {s : List Nat} {T : String} : isiB T (eP s) = (T == "tuple") := isi_tup
@[simp] theorem isiA {s : Ask} {T : String} : isiB T (eA s) = (T == "tuple") := isi_tup
@[simp] theorem isiD {s : List Ask} {T : String} : isiB T (eD s) = (T == "list") := isi_lst
@[simp] theorem isiN {s : Nat} {T : String} : isiB T (eN s) = (T == "int") := isi_int

theorem p_amount {i : Int} : m_is_amount [.int i] = .ok (.bool (decide (0 ≤ i))) := by
  simp [m_is_amount, pf_eq, f_is_amount, ev_nmE]
theorem chT_take {s : List Int} {p : Nat} {b : Int} (h : p < s.length) : s.take p ++ [gS s p + b] ++ s.drop (p + 1) = chT s p b := by
  unfold chT
  rw [List.set_eq_take_append_cons_drop, if_pos h]
  simp
theorem p_changed {s : List Int} {p : Nat} {b : Int} (h : p < s.length) (hs : s.length ≤ 9) : m_changed [eS s, eN p, .int b] = .ok (eS (chT s p b)) := by
  have h1 : (s.take p).length < 16777216 := by rw [List.length_take]; omega
  have h2 : (s.take p ++ [gS s p + b]).length + (s.drop (p + 1)).length ≤ 16777216 := by simp; omega
  simp only [m_changed, pf_eq, f_changed]
  simp [ev_nmE, h, addS1 h1, addS h2]
  rw [← chT_take h]; simp
theorem p_taken {s : List Int} {w : List Nat} (h : ∀ p ∈ w, p < s.length) : m_taken_from [eS s, eP w] = .ok (eNO (takeT s w)) := by
  have key : ∀ (w' : List Nat) (x : Sl), (∀ p ∈ w', p < s.length) → ∃ ρ, (forF .bo (nmG 2) (ifS .an (asT (opE gtD (opE ixD (nmE 0) (nmE 2)) (csE (.int 0)))) (rtS 2 (nmE 2)) skS) (w'.map eN) [.bo (eS s), .bo (eP w), x]) = (match takeT s w' with | none => .nx ρ | some p => .rt (eN p) ρ) := by
    intro w'
    induction w' with
    | nil => intro x _; exact ⟨_, rfl⟩
    | cons p r ih =>
      intro x hp
      have e := hp p (List.mem_cons_self ..)
      rw [List.map_cons, ev_forF_cons]
      simp [itS, ev_nmE, e, takeT, List.find?_cons]
      by_cases hg : 0 < gS s p
      · simp [hg]
      · simp [hg]
        have := ih (.va (eN p)) fun q hq => hp q (List.mem_cons_of_mem _ hq)
        simpa [takeT] using this
  obtain ⟨ρ, e⟩ := key w .no h
  simp [m_taken_from, pf_eq, f_taken_from, ev_nmE, e]
  cases takeT s w <;> simp [eNO, ev_nmE]
theorem p_left {y : List (Option Int)} {s : List Int} {w : List Nat} (h : ∀ p ∈ w, p < s.length) (hy : s.length = y.length) : m_left_at [eY y, eS s, eP w] = .ok (eNO (leftT y s w)) := by
  have key : ∀ (w' : List Nat) (x : Sl), (∀ p ∈ w', p < s.length) → ∃ ρ, (forF .bo (nmG 3) (ifS .an (orT (asT (opE isND (opE ixD (nmE 0) (nmE 3)) (csE .none))) (asT (opE ltD (opE ixD (nmE 1) (nmE 3)) (opE ixD (nmE 0) (nmE 3))))) (rtS 3 (nmE 3)) skS) (w'.map eN) [.bo (eY y), .bo (eS s), .bo (eP w), x]) = (match leftT y s w' with | none => .nx ρ | some p => .rt (eN p) ρ) := by
    intro w'
    induction w' with
    | nil => intro x _; exact ⟨_, rfl⟩
    | cons p r ih =>
      intro x hp
      have e := hp p (List.mem_cons_self ..)
      have ey : p < y.length := by omega
      rw [List.map_cons, ev_forF_cons]
      simp [itS, ev_nmE, e, ey, leftT, List.find?_cons]
      cases hg : gO y p with
      | none => simp [eO]
      | some m =>
        by_cases hl : gS s p < m
        · simp [eO, hl]
        · simp [eO, hl]
          have := ih (.va (eN p)) fun q hq => hp q (List.mem_cons_of_mem _ hq)
          simpa [leftT] using this
  obtain ⟨ρ, e⟩ := key w .no h
  simp [m_left_at, pf_eq, f_left_at, ev_nmE, e]
  cases leftT y s w <;> simp [eNO, ev_nmE]
theorem len_ch {s : List Int} {p : Nat} {b : Int} : (chT s p b).length = s.length := by simp [chT]
theorem find_mem {p : Nat → Bool} {w : List Nat} {x : Nat} (h : w.find? p = some x) : x ∈ w := List.mem_of_find?_eq_some h
theorem p_asked {y : List (Option Int)} {s : List Int} {a : Ask} (hy : s.length = y.length) (hl : y.length ≤ 9) (ha : OkA y.length a) : m_asked [eY y, eS s, eA a] = .ok (.tuple [eRow (askT y s a).1, eS (askT y s a).2]) := by
  have h1 : ∀ p ∈ a.1, p < s.length := fun p hp => by rw [hy]; exact ha.1.lt p hp
  have h2 : ∀ p ∈ a.2, p < s.length := fun p hp => by rw [hy]; exact ha.2.lt p hp
  simp only [m_asked, pf_eq, f_asked]
  simp [ev_nmE, eA, itS, p_taken h1]
  unfold askT
  cases ht : takeT s a.1 with
  | none => simp [eNO, eRow]
  | some p =>
    have hp := h1 p (find_mem ht)
    have h3 : ∀ q ∈ a.2, q < (chT s p (-1)).length := fun q hq => by rw [len_ch]; exact h2 q hq
    simp [eNO, ev_nmE, p_changed hp (by omega : s.length ≤ 9), p_left h3 (by rw [len_ch]; exact hy)]
    cases hq : leftT y (chT s p (-1)) a.2 with
    | none => simp [eNO, ev_nmE, eRow]
    | some q =>
      simp [eNO, ev_nmE, eRow, p_changed (h3 q (find_mem hq)) (by rw [len_ch]; omega)]
theorem gS_of {s : List Int} {p : Nat} {x : Int} (h : s[p]? = some x) : gS s p = x := by simp [gS, h]
theorem gO_of {s : List (Option Int)} {p : Nat} {x : Option Int} (h : s[p]? = some x) : gO s p = x := by simp [gO, h]
theorem get_ch {s : List Int} {p q : Nat} {b x : Int} (h : (chT s p b)[q]? = some x) : (q = p ∧ x = gS s p + b ∧ p < s.length) ∨ (q ≠ p ∧ s[q]? = some x) := by
  unfold chT at h
  rw [List.getElem?_set] at h
  by_cases e : p = q
  · subst e
    rw [if_pos rfl] at h
    by_cases hl : p < s.length
    · rw [if_pos hl] at h; cases h; exact .inl ⟨rfl, rfl, hl⟩
    · rw [if_neg hl] at h; cases h
  · rw [if_neg e] at h; exact .inr ⟨fun z => e z.symm, h⟩
theorem OkS.get {y : List (Option Int)} {s : List Int} (h : OkS y s) {p : Nat} (hp : p < s.length) : s[p]? = some (gS s p) ∧ 0 ≤ gS s p := by
  have e : s[p]? = some (s[p]) := List.getElem?_eq_getElem hp
  have e2 : gS s p = s[p] := gS_of e
  rw [e2]
  exact ⟨e, h.pos _ (List.getElem_mem hp)⟩
theorem OkS.down {y : List (Option Int)} {s : List Int} (h : OkS y s) {p : Nat} (hp : p < s.length) (hg : 0 < gS s p) : OkS y (chT s p (-1)) where
  len := by rw [len_ch, h.len]
  pos := fun i hi => by
    obtain ⟨q, hq⟩ := List.mem_iff_getElem?.mp hi
    rcases get_ch hq with ⟨_, e, _⟩ | ⟨_, e⟩
    · omega
    · exact h.pos i (List.mem_of_getElem? e)
  fit := fun q r x hr hx => by
    rcases get_ch hx with ⟨e1, e, _⟩ | ⟨_, e⟩
    · subst e1
      have := h.fit q r _ hr (h.get hp).1
      omega
    · exact h.fit q r x hr e
theorem OkS.up {y : List (Option Int)} {s : List Int} (h : OkS y s) {p : Nat} (hp : p < s.length) (hg : ∀ r, gO y p = some r → gS s p < r) : OkS y (chT s p 1) where
  len := by rw [len_ch, h.len]
  pos := fun i hi => by
    obtain ⟨q, hq⟩ := List.mem_iff_getElem?.mp hi
    rcases get_ch hq with ⟨_, e, _⟩ | ⟨_, e⟩
    · have := (h.get hp).2; omega
    · exact h.pos i (List.mem_of_getElem? e)
  fit := fun q r x hr hx => by
    rcases get_ch hx with ⟨e1, e, _⟩ | ⟨_, e⟩
    · subst e1
      have := hg r (gO_of hr)
      omega
    · exact h.fit q r x hr e
theorem take_pos {s : List Int} {w : List Nat} {p : Nat} (h : takeT s w = some p) : p ∈ w ∧ 0 < gS s p := ⟨List.mem_of_find?_eq_some h, by simpa using List.find?_some h⟩
theorem left_ok {y : List (Option Int)} {s : List Int} {w : List Nat} {p : Nat} (h : leftT y s w = some p) : p ∈ w ∧ ∀ r, gO y p = some r → gS s p < r := ⟨List.mem_of_find?_eq_some h, fun r hr => by
  have := List.find?_some h
  simpa [hr] using this⟩
theorem OkS.ask {y : List (Option Int)} {s : List Int} {a : Ask} (h : OkS y s) (ha : OkA y.length a) : OkS y (askT y s a).2 := by
  unfold askT
  cases ht : takeT s a.1 with
  | none => exact h
  | some p =>
    obtain ⟨h1, h2⟩ := take_pos ht
    have hp : p < s.length := by rw [h.len]; exact ha.1.lt p h1
    have hd := h.down hp h2
    dsimp only
    cases hq : leftT y (chT s p (-1)) a.2 with
    | none => exact hd
    | some q =>
      obtain ⟨h3, h4⟩ := left_ok hq
      exact hd.up (by rw [hd.len]; exact ha.2.lt q h3) h4
theorem OkD.tl {n : Nat} {a : Ask} {d : List Ask} (h : OkD n (a :: d)) : OkD n d := fun b hb => h b (List.mem_cons_of_mem _ hb)
theorem OkD.hd {n : Nat} {a : Ask} {d : List Ask} (h : OkD n (a :: d)) : OkA n a := h a (List.mem_cons_self ..)
theorem OkS.go {y : List (Option Int)} : ∀ {d : List Ask} {s : List Int}, OkS y s → OkD y.length d → OkS y (goT y s d).2
  | [], _, h, _ => h
  | a :: r, s, h, hd => by
    have := OkS.go (d := r) (h.ask hd.hd) hd.tl
    exact this
theorem go_len {y : List (Option Int)} : ∀ {d : List Ask} {s : List Int}, (goT y s d).1.length = d.length
  | [], _ => rfl
  | _ :: _, _ => by simp [goT, go_len]
theorem map_true {l : List Bool} (h : ∀ b ∈ l, b = true) : l = List.replicate l.length true := List.eq_replicate_of_mem h
theorem bools_map {α : Type} {f : α → Bool} {l : List α} : bools? (l.map fun a => PyData.bool (f a)) = some (l.map f) := by
  have := @bools?_map (l.map f)
  rwa [List.map_map] at this
theorem all_map {α : Type} {f : α → Bool} {l : List α} : allG [.list (l.map fun a => PyData.bool (f a))] = some (.bool (l.all f)) := by
  have := @all_bools (l.map f)
  rw [List.map_map] at this
  rw [show (fun a => PyData.bool (f a)) = PyData.bool ∘ f from rfl, this]; simp
theorem p_is_yard {y : List (Option Int)} (h : OkY y) : m_is_yard [eY y] = .ok (.bool true) := by
  have hc : compF .bp .an [1] (nmG 1) yesT (orE (opE isND (nmE 1) (csE .none)) (clE .an 1 m_is_amount (consA (nmE 1) nilA))) (y.map eO) [.bo (eY y), .no] = .ok (y.map fun _ => .bool true, [.bo (eY y), .no]) :=
    compF_map _ y fun o ho => by
      cases o with
      | none => exact ⟨[.bo (eY y), .va .none], by simp [itS, eO], by simp [wiS], by simp [ev_nmE], .inr rfl⟩
      | some i => exact ⟨[.bo (eY y), .va (.int i)], by simp [itS, eO], by simp [wiS], by simp [ev_nmE, p_amount, h.pos i ho], .inr rfl⟩
  have h1 := h.lo
  have h2 := h.hi
  have h3 : y.length ≤ 16777216 := by omega
  have h4 : (1 : Int) ≤ (y.length : Int) := by omega
  have h5 : (y.length : Int) ≤ 9 := by omega
  simp [m_is_yard, pf_eq, f_is_yard, ev_nmE, okO, wiS, h4, h5, hc, h3, reS, all_map]
theorem p_is_place {y : List (Option Int)} {p : Nat} (h : p < y.length) : m_is_place [eY y, eN p] = .ok (.bool true) := by
  have e : m_is_amount [eN p] = .ok (.bool true) := by have := @p_amount (p : Int); simpa [eN] using this
  have hp : (p : Int) < (y.length : Int) := by omega
  simp [m_is_place, pf_eq, f_is_place, ev_nmE, e]
  simp [eN, hp]
theorem ints_eN : ∀ {l : List Nat}, ints? (l.map eN) = some (l.map fun n : Nat => (n : Int))
  | [] => rfl
  | a :: r => by rw [List.map_cons, eN, ints?, ints_eN]; rfl
theorem all_tt {α : Type} {l : List α} : allG [.list (l.map fun _ => PyData.bool true)] = some (.bool true) := by
  rw [all_map (f := fun _ => true)]; simp
theorem p_are_places {y : List (Option Int)} {w : List Nat} (hy : y.length ≤ 9) (h : OkP y.length w) : m_are_places [eY y, eP w] = .ok (.bool true) := by
  have hc : compF .bp .an [2] (nmG 2) yesT (clE .an 2 m_is_place (consA (nmE 0) (consA (nmE 2) nilA))) (w.map eN) [.bo (eY y), .bo (eP w), .no] = .ok (w.map fun _ => .bool true, [.bo (eY y), .bo (eP w), .no]) :=
    compF_map _ w fun p hp => ⟨[.bo (eY y), .bo (eP w), .va (eN p)], by simp [itS], by simp [wiS], by simp [ev_nmE, p_is_place (h.lt p hp)], .inr rfl⟩
  have hn : (w.map fun n : Nat => (n : Int)).Nodup := by
    exact List.Pairwise.map _ (fun a b (hab : a ≠ b) z => hab (by omega)) h.nodup
  have hl : w.length ≤ 9 := by
    have := nodup_len (m := List.range y.length) h.nodup fun x hx => List.mem_range.mpr (h.lt x hx)
    rw [List.length_range] at this; omega
  have hs : lsetD (eP w) = some (.int w.length) := by
    unfold eP lsetD
    simp only [ints_eN]
    rw [dd_of_nodup hn, if_pos (by simp; omega)]; simp
  simp [m_are_places, pf_eq, f_are_places, ev_nmE, okO, wiS, hc, (by omega : w.length ≤ 16777216), reS, all_tt, hs]
theorem p_is_ask {y : List (Option Int)} {a : Ask} (hy : y.length ≤ 9) (h : OkA y.length a) : m_is_ask [eY y, eA a] = .ok (.bool true) := by
  have hc : compF .bp .an [2] (nmG 2) yesT (clE .an 2 m_are_places (consA (nmE 0) (consA (nmE 2) nilA))) ([a.1, a.2].map eP) [.bo (eY y), .bo (eA a), .no] = .ok ([a.1, a.2].map fun _ => .bool true, [.bo (eY y), .bo (eA a), .no]) :=
    compF_map _ _ fun p hp => ⟨[.bo (eY y), .bo (eA a), .va (eP p)], by simp [itS], by simp [wiS], by
      have : OkP y.length p := by
        simp at hp
        rcases hp with rfl | rfl
        · exact h.1
        · exact h.2
      simp [ev_nmE, p_are_places hy this], .inr rfl⟩
  have hi : itD (eA a) = some ([a.1, a.2].map eP) := rfl
  simp [m_is_ask, pf_eq, f_is_ask, ev_nmE, okO, wiS, hi]
  simp at hc
  simp [hc, reS]
  rfl
theorem p_need_yard {y : List (Option Int)} (h : OkY y) : m_need_yard [eY y] = .ok .none := by
  simp [m_need_yard, pf_eq, f_need_yard, ev_nmE, p_is_yard h]
theorem p_is_day {y : List (Option Int)} {d : List Ask} (h : OkY y) (hd : OkD y.length d) (hl : d.length ≤ 1000000) : m_is_day [eY y, eD d] = .ok (.bool true) := by
  have hc : compF .bp .an [2] (nmG 2) yesT (clE .an 2 m_is_ask (consA (nmE 0) (consA (nmE 2) nilA))) (d.map eA) [.bo (eY y), .bo (eD d), .no] = .ok (d.map fun _ => .bool true, [.bo (eY y), .bo (eD d), .no]) :=
    compF_map _ _ fun p hp => ⟨[.bo (eY y), .bo (eD d), .va (eA p)], by simp [itS], by simp [wiS], by
      simp [ev_nmE, p_is_ask h.hi (hd p hp)], .inr rfl⟩
  simp [m_is_day, pf_eq, f_is_day, ev_nmE, okO, wiS, p_need_yard h, hc, (by omega : d.length ≤ 16777216), reS, all_tt]
theorem p_is_standing {y : List (Option Int)} {s : List Int} (h : OkY y) (hs : OkS y s) : m_is_standing [eY y, eS s] = .ok (.bool true) := by
  have hl := hs.len
  have h9 := h.hi
  have hc : compF .bp .an [2] (nmG 2) yesT (clE .an 1 m_is_amount (consA (nmE 2) nilA)) (s.map PyData.int) [.bo (eY y), .bo (eS s), .no, .no] = .ok (s.map fun _ => .bool true, [.bo (eY y), .bo (eS s), .no, .no]) :=
    compF_map _ _ fun p hp => ⟨[.bo (eY y), .bo (eS s), .va (.int p), .no], by simp [itS], by simp [wiS], by
      simp [ev_nmE, p_amount, hs.pos p hp], .inr rfl⟩
  have hc2 : compF .bp .an [2, 3] (tuG 2 (consG (nmG 2) (consG (nmG 3) nilG))) yesT (orE (opE isND (nmE 3) (csE .none)) (opE leD (nmE 2) (nmE 3))) ((s.zip y).map fun z => .tuple [.int z.1, eO z.2]) [.bo (eY y), .bo (eS s), .no, .no] = .ok ((s.zip y).map fun _ => .bool true, [.bo (eY y), .bo (eS s), .no, .no]) :=
    compF_map _ _ fun z hz => by
      obtain ⟨x, o⟩ := z
      refine ⟨[.bo (eY y), .bo (eS s), .va (.int x), .va (eO o)], by simp [itS], by simp [wiS], ?_, .inr rfl⟩
      cases o with
      | none => simp [ev_nmE, eO]
      | some r =>
        obtain ⟨q, hq⟩ := List.mem_iff_getElem?.mp hz
        obtain ⟨e1, e2⟩ := List.getElem?_zip_eq_some.mp hq
        simp [ev_nmE, eO, hs.fit q r x e2 e1]
  have hz : zipG [eS s, eY y] = some ((s.zip y).map fun z => .tuple [.int z.1, eO z.2]) := by
    show some ((List.zip (s.map PyData.int) (y.map eO)).map fun p => PyData.tuple [p.1, p.2]) = _
    rw [List.zip_map, List.map_map]; rfl
  have hzl : (s.zip y).length ≤ 16777216 := by rw [List.length_zip]; omega
  simp at hzl
  simp [m_is_standing, pf_eq, f_is_standing, ev_nmE, okO, wiS, p_need_yard h, hc, (by omega : s.length ≤ 16777216), reS, all_tt, hl, hz, hc2, (by omega : y.length ≤ 16777216)]
theorem fm_eN {n : Nat} (h : n < 1000000) {a b : Nat} : Fm a b (eN n) := Fm.int (log_lt (by omega) (by omega) (by decide))
theorem fm_int {n : Int} (h : 0 ≤ n) (h2 : n < 10 ^ 20) {a b : Nat} : Fm a b (.int n) := Fm.int (log_lt h (by omega) (by decide))
/-! ### what the law draws -/
def Ct (k : Nat) (cs : List D) : Prop := ∃ a b c : Int, cs = [.int a, .int b, .int c] ∧ 0 ≤ b ∧ b < 2 ^ 200 ∧ 0 ≤ c ∧ c + k ≤ 2 ^ 40
theorem Ct.mono {k k' : Nat} {cs : List D} (h : Ct k cs) (hk : k' ≤ k) : Ct k' cs := by
  obtain ⟨a, b, c, e, h1, h2, h3, h4⟩ := h
  exact ⟨a, b, c, e, h1, h2, h3, by omega⟩
theorem Ct.noL {k : Nat} {cs : List D} (h : Ct k cs) : noLs cs = true := by
  obtain ⟨a, b, c, e, _⟩ := h
  subst e; rfl
theorem l_pull {k k2 : Nat} {cs : List D} {w : Int} (h : Ct k2 cs) (hw : 0 < w) (hw2 : w < 2 ^ 100) (hk : k + 1 ≤ k2 := by first | omega | (simp; omega)) : ∃ r cs', o__law_pull cs [.int w] = .ok (.int r, cs') ∧ 0 ≤ r ∧ r < w ∧ Ct k cs' := by
  obtain ⟨a, b, c, rfl, h1, h2, h3, h4⟩ := h
  have hl : w.natAbs.log2 < 9000 := Nat.lt_of_lt_of_le (log_lt (by omega) hw2 (by decide)) (by decide)
  by_cases ha : 0 < a
  · refine ⟨a % w, [.int (a / w), .int b, .int c], ?_, Int.emod_nonneg _ (by omega), Int.emod_lt_of_pos _ hw, _, _, _, rfl, h1, h2, h3, by omega⟩
    simp [o__law_pull, of_eq, f__law_pull, ev_nmE, ha, mod_p hw, div_p hw hl]
  · have c1 : 0 ≤ c + 1 := by omega
    have c2 : c + 1 ≤ 2 ^ 40 := by omega
    have e : ∃ r, o__law_pull [.int a, .int b, .int c] [.int w] = .ok (.int r, [.int a, .int b, .int (c + 1)]) ∧ 0 ≤ r ∧ r < w := by
      have e1 := mix1 (q := 32452843) h1 h2 c1 c2 (by decide) (by decide)
      have e2 := fun x => mix2 (x := x) (m := 100000000000000000000000000000000000133) (q := 141650939) (by decide) (by decide) c1 c2 (by decide) (by decide)
      have e3 := mix3 (q := 32452843) c1 c2 (by decide) (by decide)
      have e4 := mix3 (q := 141650939) c1 c2 (by decide) (by decide)
      have e5 := fun x => mod_p (i := x) (j := 100000000000000000000000000000000000133) (by decide)
      have e6 := fun x => mod_p (i := x) (j := 100000000000000000000000000000000069) (by decide)
      have e7 := fun x => div_p (i := x) (j := 131071) (by decide) (by decide)
      refine Exists.intro ?r (And.intro ?h ?h2)
      case h =>
        simp [o__law_pull, of_eq, f__law_pull, ev_nmE, ha, e1, e2, e3, e4, e5, e6, e7, mod_p hw]
        rfl
      case h2 => exact ⟨Int.emod_nonneg _ (by omega), Int.emod_lt_of_pos _ hw⟩
    obtain ⟨r, e, h5, h6⟩ := e
    exact ⟨r, _, e, h5, h6, _, _, _, rfl, h1, h2, c1, by omega⟩
theorem l_cart {ns : List Int} {k : Nat} (hk : k < 100) : ∃ cs, c__law_cart ns [.int (k : Int)] = .ok (.list cs) ∧ Ct 1000000000 cs := by
  have e1 := fun x => mod_p (i := x) (j := 10000000000000000000000000000000000043) (by decide)
  have e2 := mix3 (c := (k : Int)) (q := 11587) (by omega) (by omega) (by decide) (by decide)
  have fin : ∀ cell : Int, Ct 1000000000 [.int (if 0 < (if cell < 0 then -cell else cell) - 1000000000000000000 then (if cell < 0 then -cell else cell) - 1000000000000000000 else 0), .int (cell % 10000000000000000000000000000000000043 + 11587 * (k : Int)), .int 0] := fun cell => by
    have := Int.emod_nonneg cell (b := 10000000000000000000000000000000000043) (by decide)
    have := Int.emod_lt_of_pos cell (b := 10000000000000000000000000000000000043) (by decide)
    exact ⟨_, _, _, rfl, by omega, by omega, by decide, by decide⟩
  by_cases h : k < ns.length
  · have h' : (k : Int) < (ns.length : Int) := by omega
    refine ⟨_, ?_, fin ns[k]⟩
    simp [c__law_cart, sf_eq, f__law_cart, ev_nmE, h', h, e1, e2]
  · have h' : ¬ (k : Int) < (ns.length : Int) := by omega
    refine ⟨_, ?_, fin 0⟩
    simp [c__law_cart, sf_eq, f__law_cart, ev_nmE, h', h, e1, e2]
theorem rooms_end {m n : Nat} {cs c1 c2 cs3 : List D} {lean : Int} {y : List (Option Int)} {x3 : Sl} (h : noLs cs = true) (t1 : noLs c1 = true) (t2 : noLs c2 = true) (e1 : o__law_pull cs [.int 3] = .ok (.int lean, c1)) (e2 : o__law_pull c1 [.int (m : Int)] = .ok (.int (n : Int), c2)) (hn : n < m) (hm9 : m ≤ 9)
    (e3 : forF .bo (nmG 4) (apS 3 (opE ixD (liE (consA (csE .none) (consA (clO 0 1 o__law_pull (consA (csE (.int 4)) nilA)) (consA (clO 0 1 o__law_pull (consA (atE .an (opE powD (csE (.int 10)) (csE (.int 12)))) nilA)) nilA)))) (clO 0 1 o__law_pull (consA (atE .an (opE addD (csE (.int 1)) (nmE 2))) nilA)))) ((List.range (n + 1)).map fun i : Nat => PyData.int (i : Int)) [.ow c2, .bo (.int (m : Int)), .va (.int lean), .ow [], .no] = .nx [.ow cs3, .bo (.int (m : Int)), .va (.int lean), .ow (y.map eO), x3]) :
    o__law_rooms cs [.int (m : Int)] = .ok (eY y, cs3) := by
  have er : rg1D [.int (1 + (n : Int))] = some ((List.range (n + 1)).map fun i => PyData.int (i : Nat)) := by
    rw [show (1 + (n : Int)) = ((n + 1 : Nat) : Int) by omega]
    exact rg1_nat (by omega)
  simp [o__law_rooms, of_eq, f__law_rooms, ev_nmE, h, t1, t2, e1, e2, er, e3]
  rfl
theorem l_rooms {k m : Nat} {cs : List D} (h : Ct (k + 100) cs) (hm : 0 < m) (hm9 : m ≤ 9) : ∃ y cs', o__law_rooms cs [.int (m : Int)] = .ok (eY y, cs') ∧ OkY y ∧ y.length ≤ m ∧ Ct k cs' ∧ ∀ i, some i ∈ y → i < 10 ^ 12 := by
  obtain ⟨lean, c1, e1, h1, h2, t1⟩ := l_pull (w := 3) (k := k + 99) h (by decide) (by decide)
  obtain ⟨n, c2, e2, h3, h4, t2⟩ := l_pull (w := (m : Int)) (k := k + 98) t1 (by omega) (by omega)
  obtain ⟨n, rfl⟩ := Int.eq_ofNat_of_zero_le h3
  have hn : n < m := by omega
  have key := forF_run (L := .bo) (g := nmG 4) (e := fun i : Nat => PyData.int (i : Int)) (f := apS 3 (opE ixD (liE (consA (csE .none) (consA (clO 0 1 o__law_pull (consA (csE (.int 4)) nilA)) (consA (clO 0 1 o__law_pull (consA (atE .an (opE powD (csE (.int 10)) (csE (.int 12)))) nilA)) nilA)))) (clO 0 1 o__law_pull (consA (atE .an (opE addD (csE (.int 1)) (nmE 2))) nilA))))
    (fun (l : List Nat) ρ => ∃ cs x, ∃ y : List (Option Int), ρ = [.ow cs, .bo (.int (m : Int)), .va (.int lean), .ow (y.map eO), x] ∧ Ct (k + 4 * l.length) cs ∧ y.length + l.length = n + 1 ∧ ∀ i, some i ∈ y → 0 ≤ i ∧ i < 10 ^ 12)
    (fun a r ρ ⟨cs, x, y, hρ, hc, hl, hy⟩ => by
      subst hρ
      rw [List.length_cons] at hc hl
      obtain ⟨r1, d1, f1, g1, g2, u1⟩ := l_pull (w := 4) (k := k + 4 * r.length + 3) hc (by decide) (by decide)
      obtain ⟨r2, d2, f2, g3, g4, u2⟩ := l_pull (w := 1000000000000) (k := k + 4 * r.length + 2) u1 (by decide) (by decide)
      obtain ⟨r3, d3, f3, g5, g6, u3⟩ := l_pull (w := 1 + lean) (k := k + 4 * r.length + 1) u2 (by omega) (by omega)
      have hyl : y.length < 16777216 := by omega
      have : ∃ o, ixD (.list [.none, .int r1, .int r2]) (.int r3) = some (eO o) ∧ ∀ i, o = some i → 0 ≤ i ∧ i < 10 ^ 12 := by
        have : r3 = 0 ∨ r3 = 1 ∨ r3 = 2 := by omega
        rcases this with rfl | rfl | rfl
        · exact ⟨none, rfl, by simp⟩
        · exact ⟨some r1, rfl, fun i hi => by cases hi; omega⟩
        · exact ⟨some r2, rfl, fun i hi => by cases hi; omega⟩
      obtain ⟨o, ho, hb⟩ := this
      refine ⟨_, _, rfl, .inl ?_, d3, .va (.int a), y ++ [o], rfl, u3.mono (by omega), by simp; omega, fun i hi => ?_⟩
      · simp [itS, ev_nmE, hc.noL, u1.noL, u2.noL, u3.noL, f1, f2, f3, ho, hyl]
      · simp at hi
        rcases hi with hi | hi
        · exact hy i hi
        · exact hb i hi.symm)
    (List.range (n + 1)) [.ow c2, .bo (.int (m : Int)), .va (.int lean), .ow [], .no] ⟨c2, .no, [], rfl, t2.mono (by simp; omega), by simp, by simp⟩
  obtain ⟨ρ', e3, cs3, x3, y, rfl, hc3, hl3, hy3⟩ := key
  simp at hl3
  refine ⟨y, cs3, ?_, ⟨by omega, by omega, fun i hi => (hy3 i hi).1⟩, by omega, hc3.mono (by simp), fun i hi => (hy3 i hi).2⟩
  exact rooms_end h.noL t1.noL t2.noL e1 e2 hn hm9 e3
theorem l_things {k : Nat} {y : List (Option Int)} {cs : List D} (h : Ct (k + 100) cs) (hy : OkY y) (hb : ∀ i, some i ∈ y → i < 10 ^ 12) : ∃ s cs', o__law_things cs [eY y] = .ok (eS s, cs') ∧ OkS y s ∧ Ct k cs' ∧ ∀ i ∈ s, i < 10 ^ 12 := by
  have h9 := hy.hi
  have key := forF_run (L := .bo) (g := nmG 3) (e := eO) (f := (sqS (vaS 4 (opE ixD (liE (consA (csE (.int 0)) (consA (csE (.int 0)) (consA (csE (.int 1)) (consA (clO 0 1 o__law_pull (consA (csE (.int 4)) nilA)) (consA (clO 0 1 o__law_pull (consA (atE .an (opE powD (csE (.int 10)) (csE (.int 12)))) nilA)) nilA)))))) (clO 0 1 o__law_pull (consA (csE (.int 5)) nilA))))
    (sqS (ifS .an (asT (opE notND (nmE 3) (csE .none))) (vaS 4 (opE ixD (liE (consA (atE .an (cbE minG (consA (nmE 4) (consA (nmE 3) nilA)))) (consA (nmE 3) nilA))) (opE divD (clO 0 1 o__law_pull (consA (csE (.int 4)) nilA)) (csE (.int 3))))) skS)
    (apS 2 (nmE 4)))))
    (fun (l : List (Option Int)) ρ => ∃ cs x x2, ∃ s : List Int, ∃ y1, ρ = [.ow cs, .bo (eY y), .ow (s.map PyData.int), x, x2] ∧ Ct (k + 4 * l.length) cs ∧ y = y1 ++ l ∧ OkS y1 s ∧ ∀ i ∈ s, i < 10 ^ 12)
    (fun o r ρ ⟨cs, x, x2, s, y1, hρ, hc, hl, hs, hsb⟩ => by
      subst hρ
      rw [List.length_cons] at hc
      have hlen := congrArg List.length hl
      simp at hlen
      obtain ⟨r1, d1, f1, g1, g2, u1⟩ := l_pull (w := 4) (k := k + 4 * r.length + 3) hc (by decide) (by decide)
      obtain ⟨r2, d2, f2, g3, g4, u2⟩ := l_pull (w := 1000000000000) (k := k + 4 * r.length + 2) u1 (by decide) (by decide)
      obtain ⟨r3, d3, f3, g5, g6, u3⟩ := l_pull (w := 5) (k := k + 4 * r.length + 1) u2 (by omega) (by omega)
      obtain ⟨r4, d4, f4, g7, g8, u4⟩ := l_pull (w := 4) (k := k + 4 * r.length) u3 (by omega) (by omega)
      have hyl : s.length < 16777216 := by rw [hs.len]; omega
      have : ∃ v, ixD (.list [.int 0, .int 0, .int 1, .int r1, .int r2]) (.int r3) = some (.int v) ∧ 0 ≤ v ∧ v < 10 ^ 12 := by
        have : r3 = 0 ∨ r3 = 1 ∨ r3 = 2 ∨ r3 = 3 ∨ r3 = 4 := by omega
        rcases this with rfl | rfl | rfl | rfl | rfl
        · exact ⟨0, rfl, by decide, by decide⟩
        · exact ⟨0, rfl, by decide, by decide⟩
        · exact ⟨1, rfl, by decide, by decide⟩
        · exact ⟨r1, rfl, by omega, by omega⟩
        · exact ⟨r2, rfl, by omega, by omega⟩
      obtain ⟨v, hv, hv0, hv1⟩ := this
      have push : ∀ z : Int, 0 ≤ z → (∀ i, o = some i → z ≤ i) → OkS (y1 ++ [o]) (s ++ [z]) := fun z hz hzi => by
        refine ⟨by simp [hs.len], fun i hi => ?_, fun p q x hp hx => ?_⟩
        · simp at hi
          rcases hi with hi | rfl
          · exact hs.pos i hi
          · exact hz
        · by_cases hpl : p < s.length
          · rw [List.getElem?_append_left (by rw [← hs.len]; exact hpl)] at hp
            rw [List.getElem?_append_left hpl] at hx
            exact hs.fit p q x hp hx
          · rw [List.getElem?_append_right (by rw [← hs.len]; omega)] at hp
            rw [List.getElem?_append_right (by omega)] at hx
            rw [← hs.len] at hp
            obtain ⟨m, hm⟩ : ∃ m, p - s.length = m := ⟨_, rfl⟩
            rw [hm] at hp hx
            cases m with
            | zero => simp at hp hx; subst hx; exact hzi q hp
            | succ m => simp at hx
      cases o with
      | none =>
        refine ⟨_, _, rfl, .inl ?_, d3, .va .none, .va (.int v), s ++ [v], y1 ++ [none], rfl, u3.mono (by omega), by simp [hl], push v hv0 (by simp), fun i hi => ?_⟩
        · simp [itS, eO, ev_nmE, hc.noL, u1.noL, u2.noL, u3.noL, f1, f2, f3, hv, hyl]
        · simp at hi
          rcases hi with hi | rfl
          · exact hsb i hi
          · exact hv1
      | some q =>
        have hq0 : 0 ≤ q := hy.pos q (by rw [hl]; simp)
        have hq1 : q < 10 ^ 12 := hb q (by rw [hl]; simp)
        have : ∃ z, ixD (.list [.int (if q < v then q else v), .int q]) (.int (r4 / 3)) = some (.int z) ∧ 0 ≤ z ∧ z ≤ q := by
          have : r4 / 3 = 0 ∨ r4 / 3 = 1 := by omega
          rcases this with e | e
          · rw [e]; exact ⟨_, rfl, by omega, by omega⟩
          · rw [e]; exact ⟨_, rfl, by omega, by omega⟩
        obtain ⟨z, hz, hz0, hz1⟩ := this
        have e7 := fun x => div_p (i := x) (j := 3) (by decide) (by decide)
        refine ⟨_, _, rfl, .inl ?_, d4, .va (.int q), .va (.int z), s ++ [z], y1 ++ [some q], rfl, u4.mono (by omega), by simp [hl], push z hz0 (fun i hi => by cases hi; exact hz1), fun i hi => ?_⟩
        · simp [itS, eO, ev_nmE, hc.noL, u1.noL, u2.noL, u3.noL, u4.noL, f1, f2, f3, f4, hv, hyl, e7, hz]
        · simp at hi
          rcases hi with hi | rfl
          · exact hsb i hi
          · omega)
    y [.ow cs, .bo (eY y), .ow [], .no, .no] ⟨cs, .no, .no, [], [], rfl, h.mono (by omega), rfl, ⟨rfl, by simp, by simp⟩, by simp⟩
  obtain ⟨ρ', e3, cs3, x3, x4, s, y1, rfl, hc3, hl3, hs3, hb3⟩ := key
  simp at hl3
  subst hl3
  refine ⟨s, cs3, ?_, hs3, hc3.mono (by simp), hb3⟩
  simp [o__law_things, of_eq, f__law_things, ev_nmE, e3]
  rfl
theorem erase_perm {α : Type} : ∀ {l : List α} {q : Nat} (h : q < l.length), (l[q] :: l.eraseIdx q).Perm l
  | a :: r, 0, h => .refl _
  | a :: r, q + 1, h => by
    have := erase_perm (l := r) (q := q) (by simpa using h)
    exact (List.Perm.swap _ _ _).trans (.cons _ this)
theorem erase_map {α β : Type} {f : α → β} : ∀ {l : List α} {q : Nat}, (l.map f).eraseIdx q = (l.eraseIdx q).map f
  | [], _ => rfl
  | a :: r, 0 => rfl
  | a :: r, q + 1 => by
    have := erase_map (f := f) (l := r) (q := q)
    simp [this]
theorem rgN' {n : Nat} : (List.range n).map (fun i : Nat => PyData.int (i : Int)) = (List.range n).map eN := rfl
theorem rgN {n : Nat} : rgD 0 n = (List.range n).map eN := rgD_nat
theorem isIN {p : Nat} : isI (eN p) = .ok (p : Int) := rfl
theorem l_some {k n : Nat} {cs : List D} (h : Ct (k + 100) cs) (hn : n ≤ 9) : ∃ w cs', o__law_some cs [.int (n : Int)] = .ok (eP w, cs') ∧ OkP n w ∧ Ct k cs' := by
  obtain ⟨r1, d1, f1, g1, g2, u1⟩ := l_pull (w := 4) (k := k + 99) h (by decide) (by decide)
  have e7 := fun x => div_p (i := x) (j := 3) (by decide) (by decide)
  have : ∃ z : Nat, ixD (.list [.int (if (n : Int) < 3 then (n : Int) else 3), .int (n : Int)]) (.int (r1 / 3)) = some (.int (z : Int)) ∧ z ≤ n := by
    have : r1 / 3 = 0 ∨ r1 / 3 = 1 := by omega
    rcases this with e | e
    · rw [e]
      by_cases h3 : (n : Int) < 3
      · exact ⟨n, by rw [if_pos h3]; rfl, Nat.le_refl _⟩
      · exact ⟨3, by rw [if_neg h3]; rfl, by omega⟩
    · rw [e]; exact ⟨n, rfl, Nat.le_refl _⟩
  obtain ⟨z, hz, hzn⟩ := this
  obtain ⟨many, d2, f2, g3, g4, u2⟩ := l_pull (w := 1 + (z : Int)) (k := k + 98) u1 (by omega) (by omega)
  obtain ⟨many, rfl⟩ := Int.eq_ofNat_of_zero_le g3
  have hm : many ≤ n := by omega
  have key := compF_run (ks := .bo) (L := .va) (own := [4]) (g := nmG 4) (c := yesT) (el := poE 2 (clO 0 1 o__law_pull (consA (atE .an (cbE lenG (consA (nmE 2) nilA))) nilA))) (e := eN)
    (fun (l : List Nat) ds ρ => ∃ cs, ∃ left w : List Nat, ρ = [.ow cs, .bo (.int (n : Int)), .ow (left.map eN), .va (.int (many : Int)), .no] ∧ Ct (k + l.length) cs ∧ ds = w.map eN ∧ l.length ≤ left.length ∧ left.length ≤ n ∧ (w ++ left).Nodup ∧ ∀ x ∈ w ++ left, x < n)
    (fun a r ds ρ ⟨cs, left, w, hρ, hc, hds, hl, hln, hnd, hlt⟩ => by
      subst hρ hds
      rw [List.length_cons] at hc hl
      obtain ⟨q, d3, f3, g5, g6, u3⟩ := l_pull (w := (left.length : Int)) (k := k + r.length) hc (by omega) (by omega)
      obtain ⟨q, rfl⟩ := Int.eq_ofNat_of_zero_le g5
      have hq : q < left.length := by omega
      refine ⟨[.ow cs, .bo (.int (n : Int)), .ow (left.map eN), .va (.int (many : Int)), .va (eN a)], true, _, by simp [itS], rfl, by simp, fun _ => ⟨eN left[q], [.ow d3, .bo (.int (n : Int)), .ow ((left.eraseIdx q).map eN), .va (.int (many : Int)), .va (eN a)], ?_, .inr rfl, d3, left.eraseIdx q, w ++ [left[q]], by simp [wiS], u3, by simp, ?_, ?_, ?_, ?_⟩⟩
      · have hq63 : inB 0 9223372036854775808 (q : Int) = true := inB_t (by omega) (by omega)
        simp [ev_nmE, hc.noL, u3.noL, f3, hq, hq63, erase_map]
      · rw [List.length_eraseIdx_of_lt hq]; omega
      · rw [List.length_eraseIdx_of_lt hq]; omega
      · have hp : (w ++ [left[q]] ++ left.eraseIdx q).Perm (w ++ left) := by
          rw [List.append_assoc]
          exact List.Perm.append_left _ (erase_perm hq)
        exact hp.nodup_iff.mpr hnd
      · have hp : (w ++ [left[q]] ++ left.eraseIdx q).Perm (w ++ left) := by
          rw [List.append_assoc]
          exact List.Perm.append_left _ (erase_perm hq)
        exact fun x hx => hlt x (hp.mem_iff.mp hx))
    (List.range many) [] [.ow d2, .bo (.int (n : Int)), .ow ((List.range n).map eN), .va (.int (many : Int)), .no]
    ⟨d2, List.range n, [], rfl, u2.mono (by simp; omega), rfl, by simp; omega, by simp, by simpa using List.nodup_range, by simp⟩
  obtain ⟨es, ρ', e3, cs3, left, w, rfl, hc3, hw, _, _, hnd, hlt⟩ := key
  simp at hw
  subst hw
  have hwn : w.Nodup := (List.nodup_append.mp hnd).1
  have hwl : w.length ≤ n := by
    have := nodup_len (m := List.range n) hwn fun x hx => List.mem_range.mpr (hlt x (by simp [hx]))
    simpa using this
  refine ⟨w, cs3, ?_, ⟨fun x hx => hlt x (by simp [hx]), hwn⟩, hc3.mono (by simp)⟩
  have er : rg1D [.int (many : Int)] = some ((List.range many).map fun i => PyData.int (i : Nat)) := rg1_nat (by omega)
  have hn1 : inB 0 16777217 (n : Int) = true := inB_t (by omega) (by omega)
  have hw1 : w.length ≤ 16777216 := by omega
  simp [o__law_some, of_eq, f__law_some, ev_nmE, h.noL, u1.noL, u2.noL, f1, e7, hz, f2, er, hn1, okO, wiS, rgN', e3, hw1, reS]
  rfl
theorem l_asks {k n m : Nat} {cs : List D} (h : Ct (k + 200 * m + 1) cs) (hn : n ≤ 9) (hm : m ≤ 1000) : ∃ d cs', o__law_asks cs [.int (n : Int), .int (m : Int)] = .ok (eD d, cs') ∧ OkD n d ∧ d.length ≤ m ∧ Ct k cs' := by
  obtain ⟨many, d1, f1, g1, g2, u1⟩ := l_pull (w := (m : Int) + 1) (k := k + 200 * m) h (by omega) (by omega)
  obtain ⟨many, rfl⟩ := Int.eq_ofNat_of_zero_le g1
  have key := compF_run (ks := .bo) (L := .va) (own := [3]) (g := nmG 3) (c := yesT) (el := tuE (consA (clO 0 1 o__law_some (consA (nmE 1) nilA)) (consA (clO 0 1 o__law_some (consA (nmE 1) nilA)) nilA))) (e := fun i : Nat => PyData.int (i : Int))
    (fun (l : List Nat) ds ρ => ∃ cs, ∃ d : List Ask, ρ = [.ow cs, .bo (.int (n : Int)), .bo (.int (m : Int)), .no] ∧ Ct (k + 200 * l.length) cs ∧ ds = d.map eA ∧ d.length + l.length = many ∧ OkD n d)
    (fun a r ds ρ ⟨cs, d, hρ, hc, hds, hl, hd⟩ => by
      subst hρ hds
      rw [List.length_cons] at hc hl
      obtain ⟨w1, d3, f3, o3, u3⟩ := l_some (k := k + 200 * r.length + 100) hc hn
      obtain ⟨w2, d4, f4, o4, u4⟩ := l_some (k := k + 200 * r.length) u3 hn
      refine ⟨[.ow cs, .bo (.int (n : Int)), .bo (.int (m : Int)), .va (.int (a : Int))], true, _, by simp [itS], rfl, by simp, fun _ => ⟨eA (w1, w2), [.ow d4, .bo (.int (n : Int)), .bo (.int (m : Int)), .va (.int (a : Int))], ?_, .inr noL_eA, d4, d ++ [(w1, w2)], by simp [wiS], u4, by simp, by simp; omega, fun b hb => ?_⟩⟩
      · simp [ev_nmE, hc.noL, u3.noL, u4.noL, f3, f4, eA]
      · simp at hb
        rcases hb with hb | rfl
        · exact hd b hb
        · exact ⟨o3, o4⟩)
    (List.range many) [] [.ow d1, .bo (.int (n : Int)), .bo (.int (m : Int)), .no] ⟨d1, [], rfl, u1.mono (by simp; omega), rfl, by simp, fun b hb => by simp at hb⟩
  obtain ⟨es, ρ', e3, cs3, d, rfl, hc3, hd, hl, hok⟩ := key
  simp at hd hl
  subst hd
  refine ⟨d, cs3, ?_, hok, by omega, hc3.mono (by simp)⟩
  have er : rg1D [.int (many : Int)] = some ((List.range many).map fun i => PyData.int (i : Nat)) := rg1_nat (by omega)
  simp [o__law_asks, of_eq, f__law_asks, ev_nmE, h.noL, u1.noL, f1, er, okO, wiS, e3, (by omega : d.length ≤ 16777216), reS]
  rfl
/-! ### the law's own going through -/
def momT (y : List (Option Int)) : List Int → List Ask → List (List Int)
  | s, [] => [s]
  | s, a :: r => s :: momT y (askT y s a).2 r
theorem mom_len {y : List (Option Int)} : ∀ {d : List Ask} {s : List Int}, (momT y s d).length = d.length + 1
  | [], _ => rfl
  | _ :: _, _ => by simp [momT, mom_len]
theorem mom_last {y : List (Option Int)} : ∀ {d : List Ask} {s : List Int}, (momT y s d).getLast? = some (goT y s d).2
  | [], _ => rfl
  | a :: r, s => by
    have := mom_last (y := y) (d := r) (s := (askT y s a).2)
    have hl := mom_len (y := y) (d := r) (s := (askT y s a).2)
    show (s :: momT y (askT y s a).2 r).getLast? = some (goT y (askT y s a).2 r).2
    cases e : momT y (askT y s a).2 r with
    | nil => rw [e] at hl; simp at hl
    | cons b c => rw [e] at this; simpa using this
theorem ixL {s : List Int} {p : Nat} (h : p < s.length) : ixD (.list (s.map PyData.int)) (eN p) = some (.int (gS s p)) := by
  unfold eN gS
  rw [ixd_lst, List.getElem?_map, List.getElem?_eq_getElem h]
  simp [h]
theorem head_find {p : Nat → Bool} {l : List Nat} : l.find? p = (l.filter p).head? := List.head?_filter.symm
theorem find_congr' {p q : Nat → Bool} : ∀ {l : List Nat}, (∀ x ∈ l, p x = q x) → l.find? p = l.find? q
  | [], _ => rfl
  | a :: r, h => by rw [List.find?_cons, List.find?_cons, h a (List.mem_cons_self ..), find_congr' fun x hx => h x (List.mem_cons_of_mem _ hx)]
theorem take_head {y : List (Option Int)} {s : List Int} {w : List Nat} (hs : OkS y s) (hw : ∀ p ∈ w, p < s.length) : takeT s w = (w.filter fun p => !(gS s p == 0)).head? := by
  rw [← head_find]
  exact find_congr' fun p hp => by
    have := (hs.get (hw p hp)).2
    show decide (0 < gS s p) = !(gS s p == 0)
    by_cases e : gS s p = 0
    · rw [e]; rfl
    · have e2 : 0 < gS s p := by omega
      simp [e, e2]
def freeB (y : List (Option Int)) (s : List Int) (p : Nat) : Bool := match gO y p with
  | none => true
  | some r => !(gS s p == r)
theorem left_head {y : List (Option Int)} {s : List Int} {w : List Nat} (hs : OkS y s) (hw : ∀ p ∈ w, p < s.length) : leftT y s w = (w.filter (freeB y s)).head? := by
  rw [← head_find]
  exact find_congr' fun p hp => by
    unfold freeB
    cases e : gO y p with
    | none => rfl
    | some r =>
      have hy : y[p]? = some (some r) := by
        unfold gO at e
        cases e2 : y[p]? with
        | none => rw [e2] at e; cases e
        | some z => rw [e2] at e; simp at e; rw [e]
      have := hs.fit p r _ hy (hs.get (hw p hp)).1
      by_cases e3 : gS s p = r
      · simp [e3]
      · have : gS s p < r := by omega
        simp [e3, this]
theorem ne_nil {l : List Nat} (h : ∀ x ∈ l, x < 1000000) : neD (.list (l.map eN)) (.list []) = some (.bool (!l.isEmpty)) := by
  have h1 : Fm 1 (l.length * 1) (.list (l.map eN)) := Fm.list (a := 0) (b := 0) (fun d hd => by
    obtain ⟨x, hx, rfl⟩ := List.mem_map.mp hd
    exact fm_eN (h x hx)) (by simp)
  have h2 : Fm 1 0 (.list []) := Fm.list (n := 0) (b := 0) (a := 0) (by simp) (by simp)
  rw [(h1.mono (by omega : 1 ≤ 64) (Nat.le_refl _)).ne (h2.mono (by omega : 1 ≤ 64) (Nat.le_refl _))]
  cases l <;> simp [PyData.eqv, PyData.eqvAll]
@[simp] theorem ne_nil0 : neD (.list []) (.list []) = some (.bool false) := ne_nil (l := []) (by simp)
theorem ne_cons {p : Nat} {l : List Nat} (h : ∀ x ∈ p :: l, x < 1000000) : neD (.list (eN p :: l.map eN)) (.list []) = some (.bool true) := ne_nil (l := p :: l) h
theorem l_gone {y : List (Option Int)} {s : List Int} {d : List Ask} (hy : OkY y) (hs : OkS y s) (hd : OkD y.length d) (hl : d.length ≤ 1000) : m__law_gone [eY y, eS s, eD d] = .ok (.tuple [.list ((goT y s d).1.map eRow), .list ((momT y s d).map eS)]) := by
  have h9 := hy.hi
  have key : ∀ (d' : List Ask) (now : List Int) (rows : List Row) (moms : List (List Int)) (x6 x7 x8 x9 x10 : Sl), OkS y now → OkD y.length d' → rows.length + d'.length ≤ 1000 → moms.length ≤ rows.length + 1 →
      ∃ (now' : List Int) (x6' x7' x8' x9' x10' : Sl), forF .bo (tuG 2 (consG (nmG 6) (consG (nmG 7) nilG))) (sqS (vaS 8 (lsE (lvA (lcA .bp [11] (itA (nmE 6)) (nmG 11) (atT .an (asT (opE neD (opE ixD (nmE 3) (nmE 11)) (csE (.int 0))))) (nmE 11)))))
    (sqS (vaS 9 (csE .none))
    (sqS (ifS .an (asT (opE neD (nmE 8) (liE nilA))) (sqS (stS 3 (atE .an (opE subD (opE ixD (nmE 3) (opE ixD (nmE 8) (csE (.int 0)))) (csE (.int 1)))) (opE ixD (nmE 8) (csE (.int 0))))
    (sqS (vaS 10 (lsE (lvA (lcA .bp [11] (itA (nmE 7)) (nmG 11) (atT .an (orT (asT (opE isND (opE ixD (nmE 0) (nmE 11)) (csE .none))) (asT (opE neD (opE ixD (nmE 3) (nmE 11)) (opE ixD (nmE 0) (nmE 11)))))) (nmE 11)))))
    (sqS (vaS 9 (tuE (consA (opE ixD (nmE 8) (csE (.int 0))) (consA (opE ixD (opE addD (nmE 10) (liE (consA (csE .none) nilA))) (csE (.int 0))) nilA))))
    (ifS .an (asT (opE neD (nmE 10) (liE nilA))) (stS 3 (atE .an (opE addD (opE ixD (nmE 3) (opE ixD (nmE 10) (csE (.int 0)))) (csE (.int 1)))) (opE ixD (nmE 10) (csE (.int 0)))) skS)))) skS)
    (sqS (apS 4 (nmE 9))
    (apS 5 (atE .an (cbE tupG (consA (nmE 3) nilA)))))))) (d'.map eA) [.bo (eY y), .bo (eS s), .bo (eD d), .ow (now.map PyData.int), .ow (rows.map eRow), .ow (moms.map eS), x6, x7, x8, x9, x10, .no] =
      .nx [.bo (eY y), .bo (eS s), .bo (eD d), .ow (now'.map PyData.int), .ow ((rows ++ (goT y now d').1).map eRow), .ow ((moms ++ (momT y now d').tail).map eS), x6', x7', x8', x9', x10', .no] := by
    intro d'
    induction d' with
    | nil => intro now rows moms x6 x7 x8 x9 x10 _ _ _ _; exact ⟨now, x6, x7, x8, x9, x10, by simp [ev_forF_nil, goT, momT]⟩
    | cons a r ih =>
      intro now rows moms x6 x7 x8 x9 x10 hs' hd' hl' hm'
      rw [List.length_cons] at hl'
      have h1 : ∀ p ∈ a.1, p < now.length := fun p hp => by rw [hs'.len]; exact hd'.hd.1.lt p hp
      have h2 : ∀ p ∈ a.2, p < now.length := fun p hp => by rw [hs'.len]; exact hd'.hd.2.lt p hp
      have hok := hs'.ask hd'.hd
      have c1 : ∀ x8 x9 x10, compF .bp .vp [11] (nmG 11) (atT .an (asT (opE neD (opE ixD (nmE 3) (nmE 11)) (csE (.int 0))))) (nmE 11) (a.1.map eN) [.bo (eY y), .bo (eS s), .bo (eD d), .ow (now.map PyData.int), .ow (rows.map eRow), .ow (moms.map eS), .va (eP a.1), .va (eP a.2), x8, x9, x10, .no] =
          .ok ((a.1.filter fun p => !(gS now p == 0)).map eN, [.bo (eY y), .bo (eS s), .bo (eD d), .ow (now.map PyData.int), .ow (rows.map eRow), .ow (moms.map eS), .va (eP a.1), .va (eP a.2), x8, x9, x10, .no]) := fun x8 x9 x10 =>
        compF_pure _ _ _ fun p hp => ⟨[.bo (eY y), .bo (eS s), .bo (eD d), .ow (now.map PyData.int), .ow (rows.map eRow), .ow (moms.map eS), .va (eP a.1), .va (eP a.2), x8, x9, x10, .va (eN p)], by simp [itS], by simp [ev_nmE, ixL (h1 p hp)], by simp [wiS], fun _ => ⟨by simp [ev_nmE], .inr rfl⟩⟩
      have hf1 : ∀ x ∈ (a.1.filter fun p => !(gS now p == 0)), x < 1000000 := fun x hx => by
        have := h1 x ((List.mem_filter.mp hx).1)
        have := hs'.len
        omega
      have hfl : (a.1.filter fun p => !(gS now p == 0)).length ≤ 16777216 := by
        have := nodup_len (m := List.range y.length) ((hd'.hd.1.nodup).filter (p := fun p => !(gS now p == 0))) fun x hx => List.mem_range.mpr (hd'.hd.1.lt x ((List.mem_filter.mp hx).1))
        simp at this ⊢; omega
      have ht := take_head (w := a.1) hs' h1
      have hr1 : rows.length < 16777216 := by omega
      have hm1 : moms.length < 16777216 := by omega
      rw [List.map_cons, ev_forF_cons]
      cases hfull : (a.1.filter fun p => !(gS now p == 0)) with
      | nil =>
        rw [hfull] at c1 ht
        have he : askT y now a = (none, now) := by unfold askT; rw [ht]; rfl
        obtain ⟨now', x6', x7', x8', x9', x10', h⟩ := ih now (rows ++ [none]) (moms ++ [now]) (.va (eP a.1)) (.va (eP a.2)) (.va (.list [])) (.va .none) x10 hs' hd'.tl (by simp; omega) (by simp; omega)
        refine ⟨now', x6', x7', x8', x9', x10', ?_⟩
        simp [eA, itS, ev_nmE, okO, wiS, reS, c1, hr1, hm1]
        simp [goT, momT, he]
        have hmt : momT y now r = now :: (momT y now r).tail := by cases r <;> rfl
        rw [hmt]
        simpa [eRow, eS] using h
      | cons p fr =>
        rw [hfull] at c1 ht hf1 hfl
        have ne1 := ne_cons hf1
        have ht : takeT now a.1 = some p := ht
        have hp : p < now.length := h1 p (take_pos ht).1
        have hd1 := hs'.down hp (take_pos ht).2
        have h2' : ∀ q ∈ a.2, q < (chT now p (-1)).length := fun q hq => by rw [len_ch]; exact h2 q hq
        have hq := left_head (w := a.2) hd1 h2'
        have c2 : ∀ x9 x10, compF .bp .vp [11] (nmG 11) (atT .an (orT (asT (opE isND (opE ixD (nmE 0) (nmE 11)) (csE .none))) (asT (opE neD (opE ixD (nmE 3) (nmE 11)) (opE ixD (nmE 0) (nmE 11)))))) (nmE 11) (a.2.map eN) [.bo (eY y), .bo (eS s), .bo (eD d), .ow ((chT now p (-1)).map PyData.int), .ow (rows.map eRow), .ow (moms.map eS), .va (eP a.1), .va (eP a.2), .va (.list ((p :: fr).map eN)), x9, x10, .no] =
            .ok ((a.2.filter (freeB y (chT now p (-1)))).map eN, [.bo (eY y), .bo (eS s), .bo (eD d), .ow ((chT now p (-1)).map PyData.int), .ow (rows.map eRow), .ow (moms.map eS), .va (eP a.1), .va (eP a.2), .va (.list ((p :: fr).map eN)), x9, x10, .no]) := fun x9 x10 =>
          compF_pure _ _ _ fun q hq => ⟨[.bo (eY y), .bo (eS s), .bo (eD d), .ow ((chT now p (-1)).map PyData.int), .ow (rows.map eRow), .ow (moms.map eS), .va (eP a.1), .va (eP a.2), .va (.list ((p :: fr).map eN)), x9, x10, .va (eN q)], by simp [itS], by
            have hqy : q < y.length := by have := h2 q hq; rw [hs'.len] at this; exact this
            cases e : gO y q with
            | none => simp [ev_nmE, ixY hqy, freeB, e, eO]
            | some r => simp [ev_nmE, ixY hqy, ixL (h2' q hq), freeB, e, eO], by simp [wiS], fun _ => ⟨by simp [ev_nmE], .inr rfl⟩⟩
        have hf2 : ∀ x ∈ (a.2.filter (freeB y (chT now p (-1)))), x < 1000000 := fun x hx => by
          have := h2 x (List.mem_filter.mp hx).1
          have := hs'.len
          omega
        have hfl2 : (a.2.filter (freeB y (chT now p (-1)))).length ≤ 1000 := by
          have := nodup_len (m := List.range y.length) ((hd'.hd.2.nodup).filter (p := freeB y (chT now p (-1)))) fun x hx => List.mem_range.mpr (hd'.hd.2.lt x (List.mem_filter.mp hx).1)
          simp at this ⊢; omega
        have i1 : ixD (.list ((p :: fr).map eN)) (.int 0) = some (eN p) := by simp
        have i2 : ixD (.list (now.map PyData.int)) (eN p) = some (.int (gS now p)) := ixL hp
        have st1 : (now.map PyData.int).set p (.int (gS now p - 1)) = (chT now p (-1)).map PyData.int := by
          unfold chT; rw [List.map_set]; rfl
        have isp : isI (eN p) = .ok (p : Int) := rfl
        have hpl : p < (now.map PyData.int).length := by simpa using hp
        cases hfree : (a.2.filter (freeB y (chT now p (-1)))) with
        | nil =>
          rw [hfree] at c2 hq
          have he : askT y now a = (some (p, none), chT now p (-1)) := by
            unfold askT; rw [ht]
            show (match leftT y (chT now p (-1)) a.2 with | none => _ | some q => _) = _
            rw [hq]; rfl
          obtain ⟨now', x6', x7', x8', x9', x10', h⟩ := ih (chT now p (-1)) (rows ++ [some (p, none)]) (moms ++ [chT now p (-1)]) (.va (eP a.1)) (.va (eP a.2)) (.va (.list ((p :: fr).map eN))) (.va (.tuple [eN p, .none])) (.va (.list [])) hd1 hd'.tl (by simp; omega) (by simp; omega)
          refine ⟨now', x6', x7', x8', x9', x10', ?_⟩
          simp only [List.map_cons] at c1 c2 i1 h
          simp only [List.length_cons] at hfl
          simp [eA, itS, ev_nmE, okO, wiS, reS, c1, c2, ne1, hr1, hm1, i1, i2, hp, st1, isp, hfl, add_lst]
          simp [goT, momT, he]
          have hmt : momT y (chT now p (-1)) r = chT now p (-1) :: (momT y (chT now p (-1)) r).tail := by cases r <;> rfl
          rw [hmt]
          simpa [eRow, eS, eNO] using h
        | cons q gr =>
          rw [hfree] at c2 hq hf2 hfl2
          have ne2 := ne_cons hf2
          have hq : leftT y (chT now p (-1)) a.2 = some q := hq
          have hql : q < (chT now p (-1)).length := h2' q (left_ok hq).1
          have hu := hd1.up hql (left_ok hq).2
          have he : askT y now a = (some (p, some q), chT (chT now p (-1)) q 1) := by
            unfold askT; rw [ht]
            show (match leftT y (chT now p (-1)) a.2 with | none => _ | some q => _) = _
            rw [hq]
          have i3 : ixD (.list ((chT now p (-1)).map PyData.int)) (eN q) = some (.int (gS (chT now p (-1)) q)) := ixL hql
          have st2 : ((chT now p (-1)).map PyData.int).set q (.int (gS (chT now p (-1)) q + 1)) = (chT (chT now p (-1)) q 1).map PyData.int := by
            rw [show chT (chT now p (-1)) q 1 = (chT now p (-1)).set q (gS (chT now p (-1)) q + 1) from rfl, List.map_set]
          have isq : isI (eN q) = .ok (q : Int) := rfl
          obtain ⟨now', x6', x7', x8', x9', x10', h⟩ := ih (chT (chT now p (-1)) q 1) (rows ++ [some (p, some q)]) (moms ++ [chT (chT now p (-1)) q 1]) (.va (eP a.1)) (.va (eP a.2)) (.va (.list ((p :: fr).map eN))) (.va (.tuple [eN p, eN q])) (.va (.list ((q :: gr).map eN))) hu hd'.tl (by simp; omega) (by simp; omega)
          refine ⟨now', x6', x7', x8', x9', x10', ?_⟩
          simp only [List.map_cons] at c1 c2 i1 h
          simp only [List.length_cons] at hfl hfl2
          have hgl : gr.length + 1 + 1 ≤ 16777216 := by omega
          have hgl2 : gr.length + 1 ≤ 16777216 := by omega
          simp [eA, itS, ev_nmE, okO, wiS, reS, c1, c2, ne1, ne2, hr1, hm1, i1, i3, i2, hp, hql, st1, st2, isp, isq, hfl, hgl, hgl2, add_lst]
          simp [goT, momT, he]
          have hmt : momT y (chT (chT now p (-1)) q 1) r = chT (chT now p (-1)) q 1 :: (momT y (chT (chT now p (-1)) q 1) r).tail := by cases r <;> rfl
          rw [hmt]
          simpa [eRow, eS, eNO] using h
  obtain ⟨now', x6', x7', x8', x9', x10', h⟩ := key d s [] [s] .no .no .no .no .no hs hd (by simpa using hl) (by simp)
  have hmt : momT y s d = s :: (momT y s d).tail := by cases d <;> rfl
  have itS1 : itD (eS s) = some (s.map PyData.int) := rfl
  simp [m__law_gone, pf_eq, f__law_gone, ev_nmE]
  simp [eS] at h
  simp [eS] 
  rw [h]
  rw [hmt]
  simp [ev_nmE, eS]
def servT (y : List (Option Int)) (s : List Int) (d : List Ask) : List Nat := ((goT y s d).1.zipIdx.filter fun z => z.1.isSome).map (·.2)
theorem enumR {rows : List Row} : enumG [.list (rows.map eRow)] = some (rows.zipIdx.map fun z => .tuple [.int (z.2 : Int), eRow z.1]) := by
  show some ((rows.map eRow).zipIdx.map fun p => PyData.tuple [.int (p.2 : Nat), p.1]) = _
  rw [List.zipIdx_map, List.map_map]; rfl
def SmY (y : List (Option Int)) : Prop := ∀ i, some i ∈ y → i < 10 ^ 20
def SmS (s : List Int) : Prop := ∀ i ∈ s, i < 10 ^ 20
theorem fm_Y {y : List (Option Int)} (h : OkY y) (hb : SmY y) : Fm 1 9 (eY y) := Fm.tuple (a := 0) (b := 0) (n := 9) (fun d hd => by
  obtain ⟨o, ho, rfl⟩ := List.mem_map.mp hd
  cases o with
  | none => exact Fm.none
  | some i => exact fm_int (h.pos i ho) (hb i ho)) (by simpa using h.hi)
theorem fm_S {y : List (Option Int)} {s : List Int} (hy : OkY y) (h : OkS y s) (hb : SmS s) : Fm 1 9 (eS s) := Fm.tuple (a := 0) (b := 0) (n := 9) (fun d hd => by
  obtain ⟨o, ho, rfl⟩ := List.mem_map.mp hd
  exact fm_int (h.pos o ho) (hb o ho)) (by have := h.len; have := hy.hi; simp; omega)
theorem okp_len {n : Nat} {p : List Nat} (h : OkP n p) : p.length ≤ n := by
  have := nodup_len (m := List.range n) h.nodup fun x hx => List.mem_range.mpr (h.lt x hx)
  simpa using this
theorem fm_P {n : Nat} {p : List Nat} (h : OkP n p) (hn : n ≤ 9) : Fm 1 9 (eP p) := Fm.tuple (a := 0) (b := 0) (n := 9) (fun d hd => by
  obtain ⟨o, ho, rfl⟩ := List.mem_map.mp hd
  exact fm_eN (by have := h.lt o ho; omega)) (by have := okp_len h; simp; omega)
theorem fm_A {n : Nat} {a : Ask} (h : OkA n a) (hn : n ≤ 9) : Fm 2 20 (eA a) := Fm.tuple (a := 1) (b := 9) (n := 2) (fun d hd => by
  simp at hd
  rcases hd with rfl | rfl
  · exact fm_P h.1 hn
  · exact fm_P h.2 hn) (by simp)
theorem fm_D {n : Nat} {d : List Ask} (h : OkD n d) (hn : n ≤ 9) (hl : d.length ≤ 1000) : Fm 3 21000 (eD d) := Fm.list (a := 2) (b := 20) (n := 1000) (fun x hx => by
  obtain ⟨o, ho, rfl⟩ := List.mem_map.mp hx
  exact fm_A (h o ho) hn) (by simpa using hl)
def OkR (r : Row) : Prop := ∀ p q, r = some (p, q) → p < 9 ∧ ∀ x, q = some x → x < 9
theorem fm_R {r : Row} (h : OkR r) : Fm 1 2 (eRow r) := by
  cases r with
  | none => exact Fm.none
  | some z =>
    obtain ⟨p, q⟩ := z
    obtain ⟨h1, h2⟩ := h p q rfl
    refine Fm.tuple (a := 0) (b := 0) (n := 2) (fun d hd => ?_) (by simp)
    simp at hd
    rcases hd with rfl | rfl
    · exact fm_eN (by omega)
    · cases q with
      | none => exact Fm.none
      | some x => exact fm_eN (by have := h2 x rfl; omega)
theorem okr_ask {y : List (Option Int)} {s : List Int} {a : Ask} (ha : OkA y.length a) (h9 : y.length ≤ 9) : OkR (askT y s a).1 := by
  unfold askT
  cases ht : takeT s a.1 with
  | none => intro p q h; cases h
  | some p =>
    have := ha.1.lt p (find_mem ht)
    dsimp only
    cases hq : leftT y (chT s p (-1)) a.2 with
    | none =>
      intro p' q' h
      cases h
      exact ⟨by omega, by simp⟩
    | some q =>
      have := ha.2.lt q (find_mem hq)
      intro p' q' h
      cases h
      exact ⟨by omega, fun x hx => by cases hx; omega⟩
theorem okr_go {y : List (Option Int)} (h9 : y.length ≤ 9) : ∀ {d : List Ask} {s : List Int}, OkD y.length d → ∀ r ∈ (goT y s d).1, OkR r
  | [], s, _, r, hr => by simp [goT] at hr
  | a :: t, s, hd, r, hr => by
    rw [show (goT y s (a :: t)).1 = (askT y s a).1 :: (goT y (askT y s a).2 t).1 from rfl] at hr
    rcases List.mem_cons.mp hr with rfl | hr
    · exact okr_ask hd.hd h9
    · exact okr_go h9 hd.tl r hr
theorem fm_rows {y : List (Option Int)} {s : List Int} {d : List Ask} (h9 : y.length ≤ 9) (hd : OkD y.length d) (hl : d.length ≤ 1000) : Fm 2 3000 (.list ((goT y s d).1.map eRow)) := Fm.list (a := 1) (b := 2) (n := 1000) (fun x hx => by
  obtain ⟨o, ho, rfl⟩ := List.mem_map.mp hx
  exact fm_R (okr_go h9 hd o ho)) (by simpa [go_len] using hl)
/-- how large what lies there may be -/
def SmB (b : Int) (s : List Int) : Prop := ∀ i ∈ s, i < b
theorem smb_ch {s : List Int} {p : Nat} {b c : Int} (h : SmB b s) (hp : p < s.length) (hc : c ≤ 1) : SmB (b + 1) (chT s p c) := fun i hi => by
  obtain ⟨q, hq⟩ := List.mem_iff_getElem?.mp hi
  have e : s[p]? = some s[p] := List.getElem?_eq_getElem hp
  rcases get_ch hq with ⟨_, e1, _⟩ | ⟨_, e2⟩
  · have := h _ (List.getElem_mem hp)
    rw [gS_of e] at e1
    omega
  · have := h i (List.mem_of_getElem? e2)
    omega
theorem SmB.mono {s : List Int} {b c : Int} (h : SmB b s) (hc : b ≤ c) : SmB c s := fun i hi => by have := h i hi; omega
theorem smb_ask {y : List (Option Int)} {s : List Int} {a : Ask} {b : Int} (hs : OkS y s) (ha : OkA y.length a) (h : SmB b s) : SmB (b + 2) (askT y s a).2 := by
  unfold askT
  cases ht : takeT s a.1 with
  | none => exact h.mono (by omega)
  | some p =>
    have hp : p < s.length := by rw [hs.len]; exact ha.1.lt p (find_mem ht)
    have h1 := smb_ch (c := -1) h hp (by omega)
    dsimp only
    cases hq : leftT y (chT s p (-1)) a.2 with
    | none => exact h1.mono (by omega)
    | some q => exact (smb_ch (c := 1) h1 (by rw [len_ch, hs.len]; exact ha.2.lt q (find_mem hq)) (by omega)).mono (by omega)
theorem smb_go {y : List (Option Int)} : ∀ {d : List Ask} {s : List Int} {b : Int}, OkS y s → OkD y.length d → SmB b s → SmB (b + 2 * d.length) (goT y s d).2
  | [], s, b, _, _, h => h.mono (by simp)
  | a :: t, s, b, hs, hd, h => by
    have := smb_go (d := t) (hs.ask hd.hd) hd.tl (smb_ask hs hd.hd h)
    exact this.mono (by rw [List.length_cons]; omega)
theorem noLs_two {a b : D} (h : noL b = true) : noLs (List.eraseIdx [a, b] 0) = true := by simp [h]
theorem zip_range {rows : List Row} : rows.zipIdx = (List.range rows.length).map fun i => ((rows[i]?).getD none, i) := by
  apply List.ext_getElem (by simp)
  intro i h1 h2
  simp at h1
  simp [h1]
theorem serv_range {y : List (Option Int)} {s : List Int} {d : List Ask} : servT y s d = (List.range (goT y s d).1.length).filter fun i => (((goT y s d).1[i]?).getD none).isSome := by
  unfold servT
  rw [zip_range, List.filter_map, List.map_map]
  simp [Function.comp_def]
theorem serv_lt {y : List (Option Int)} {s : List Int} {d : List Ask} {n : Nat} (h : n ∈ servT y s d) : n < d.length := by
  rw [serv_range] at h
  have := (List.mem_filter.mp h).1
  rw [go_len] at this
  exact List.mem_range.mp this
theorem two_of {a b : Nat} {r : Int} (h0 : 0 ≤ r) (h1 : r < 2) : ∃ c : Nat, ixD (.list [.int (a : Int), .int (b : Int)]) (.int r) = some (.int (c : Int)) ∧ (c = a ∨ c = b) := by
  have : r = 0 ∨ r = 1 := by omega
  rcases this with rfl | rfl
  · exact ⟨a, rfl, .inl rfl⟩
  · exact ⟨b, rfl, .inr rfl⟩
theorem turn_range {ns : List Int} {T : Int} (t : Nat) (hT : T = (t : Int)) (ht : t < 1000) (h1 : 1 ≤ t) : ∃ n : Nat, n ≤ t ∧ rg1D [.int (if (1 : Int) < (if (ns.length : Int) < T then (ns.length : Int) else T) then (if (ns.length : Int) < T then (ns.length : Int) else T) else 1)] = some ((List.range n).map fun i : Nat => PyData.int (i : Int)) := by
  refine ⟨(if (1 : Int) < (if (ns.length : Int) < T then (ns.length : Int) else T) then (if (ns.length : Int) < T then (ns.length : Int) else T) else 1).toNat, ?_, ?_⟩
  · split <;> split <;> omega
  · exact rg1_int (by split <;> split <;> omega) (by split <;> split <;> omega)
def dif (a b : Int) : Int := if a - b < 0 then -(a - b) else a - b
def apT (s t : List Int) : Int := ((s.zip t).map fun z => dif z.1 z.2).sum
theorem zipS {s t : List Int} : zipG [eS s, eS t] = some ((s.zip t).map fun z => .tuple [.int z.1, .int z.2]) := by
  show some ((List.zip (s.map PyData.int) (t.map PyData.int)).map fun p => PyData.tuple [p.1, p.2]) = _
  rw [List.zip_map, List.map_map]; rfl
theorem p_apart {s t : List Int} (h : s.length ≤ 9) : m_apart_by [eS s, eS t] = .ok (.int (apT s t)) := by
  have hc : compF .bp .an [2, 3] (tuG 2 (consG (nmG 2) (consG (nmG 3) nilG))) yesT (cbE absG (consA (opE subD (nmE 2) (nmE 3)) nilA)) ((s.zip t).map fun z => .tuple [.int z.1, .int z.2]) [.bo (eS s), .bo (eS t), .no, .no] = .ok ((s.zip t).map fun z => .int (dif z.1 z.2), [.bo (eS s), .bo (eS t), .no, .no]) :=
    compF_map _ _ fun z hz => ⟨[.bo (eS s), .bo (eS t), .va (.int z.1), .va (.int z.2)], by simp [itS], by simp [wiS], by simp [ev_nmE, dif], .inr rfl⟩
  have hlen : (s.zip t).length ≤ 16777216 := by rw [List.length_zip]; omega
  simp at hlen
  have hm : (s.zip t).map (fun z => PyData.int (dif z.1 z.2)) = ((s.zip t).map fun z => dif z.1 z.2).map PyData.int := by rw [List.map_map]; rfl
  rw [hm] at hc
  simp only [m_apart_by, pf_eq, f_apart_by]
  simp [-List.map_map, ev_nmE, okO, wiS, reS, zipS, hc, hlen, apT]
def distR (y : List (Option Int)) : List Int → List Int → List Ask → List Int
  | _, _, [] => []
  | s, t, a :: r => apT (askT y s a).2 (askT y t a).2 :: distR y (askT y s a).2 (askT y t a).2 r
def distT (y : List (Option Int)) (s t : List Int) (d : List Ask) : List Int := apT s t :: distR y s t d
theorem p_distances {y : List (Option Int)} {s t : List Int} {d : List Ask} (hy : OkY y) (hs : OkS y s) (ht : OkS y t) (hd : OkD y.length d) (hl : d.length ≤ 1000) : m_distances [eY y, eS s, eS t, eD d] = .ok (.list ((distT y s t d).map PyData.int)) := by
  have h9 := hy.hi
  have key : ∀ (d' : List Ask) (s t : List Int) (found : List Int) (x1 x2 x5 : Sl), (x1 = .va (eS s) ∨ x1 = .bo (eS s)) → (x2 = .va (eS t) ∨ x2 = .bo (eS t)) → OkS y s → OkS y t → OkD y.length d' → found.length + d'.length ≤ 1001 →
      ∃ x1' x2' x5' : Sl, forF .bo (nmG 5) (sqS (vaS 1 (opE ixD (clE .an 3 m_asked (consA (nmE 0) (consA (nmE 1) (consA (nmE 5) nilA)))) (csE (.int 1))))
    (sqS (vaS 2 (opE ixD (clE .an 3 m_asked (consA (nmE 0) (consA (nmE 2) (consA (nmE 5) nilA)))) (csE (.int 1))))
    (apS 4 (clE .an 2 m_apart_by (consA (nmE 1) (consA (nmE 2) nilA)))))) (d'.map eA) [.bo (eY y), x1, x2, .bo (eD d), .ow (found.map PyData.int), x5] =
      .nx [.bo (eY y), x1', x2', .bo (eD d),   .ow ((found ++ distR y s t d').map PyData.int), x5'] := by
    intro d'
    induction d' with
    | nil => intro s t found x1 x2 x5 _ _ _ _ _ _; exact ⟨x1, x2, x5, by simp [ev_forF_nil, distR]⟩
    | cons a r ih =>
      intro s t found x1 x2 x5 h1 h2 hs ht hd hl
      rw [List.length_cons] at hl
      have e1 := p_asked (a := a) hs.len h9 hd.hd
      have e2 := p_asked (a := a) ht.len h9 hd.hd
      have os := hs.ask hd.hd
      have ot := ht.ask hd.hd
      have e3 := p_apart (s := (askT y s a).2) (t := (askT y t a).2) (by rw [os.len]; exact h9)
      have n1 : slD Lv.an 1 x1 = .ok (eS s) := by rcases h1 with rfl | rfl <;> simp
      have n2 : slD Lv.an 2 x2 = .ok (eS t) := by rcases h2 with rfl | rfl <;> simp
      have hf : found.length < 16777216 := by omega
      obtain ⟨x1', x2', x5', h⟩ := ih (askT y s a).2 (askT y t a).2 (found ++ [apT (askT y s a).2 (askT y t a).2]) (.va (eS (askT y s a).2)) (.va (eS (askT y t a).2)) (.va (eA a)) (.inl rfl) (.inl rfl) os ot hd.tl (by simp; omega)
      refine ⟨x1', x2', x5', ?_⟩
      rw [List.map_cons, ev_forF_cons]
      simp [itS, ev_nmE, n1, n2, e1, e2, e3, hf]
      simpa [distR] using h
  obtain ⟨x1', x2', x5', h⟩ := key d s t [apT s t] (.bo (eS s)) (.bo (eS t)) .no (.inr rfl) (.inr rfl) hs ht hd (by simp; omega)
  have e0 := p_apart (s := s) (t := t) (by rw [hs.len]; exact h9)
  simp at h
  simp [m_distances, pf_eq, f_distances, ev_nmE, e0, h, distT]
theorem p_need_day {y : List (Option Int)} {d : List Ask} (h : OkY y) (hd : OkD y.length d) (hl : d.length ≤ 1000) : m_need_day [eY y, eD d] = .ok .none := by
  simp [m_need_day, pf_eq, f_need_day, ev_nmE, p_is_day h hd (by omega : d.length ≤ 1000000)]
def firstT (l : List Int) : Option Nat := l.findIdx? fun z => z == 0
theorem distR_len {y : List (Option Int)} : ∀ {d : List Ask} {s t : List Int}, (distR y s t d).length = d.length
  | [], _, _ => rfl
  | _ :: _, _, _ => by simp [distR, distR_len]
theorem dist_len {y : List (Option Int)} {d : List Ask} {s t : List Int} : (distT y s t d).length = d.length + 1 := by simp [distT, distR_len]
theorem shaped_ints {l : List Int} : SeqAt.shaped (.list (l.map PyData.int)) = true := by
  have h3 : ∀ l : List Int, PyData.canLayAll0 (l.map PyData.int) = true ∧ PyData.depthAll (l.map PyData.int) = 0 := fun l => by
    induction l with
    | nil => exact ⟨rfl, rfl⟩
    | cons a r ih => exact ⟨by simp [PyData.canLayAll0, PyData.canLay0, ih.1], by simp [PyData.depthAll, PyData.depth, ih.2]⟩
  unfold SeqAt.shaped
  simp [PyData.canLay0, PyData.depth, (h3 l).1, (h3 l).2]
theorem zip_gS {s t : List Int} (hl : s.length = t.length) : s.zip t = (List.range s.length).map fun k => (gS s k, gS t k) := by
  apply List.ext_getElem (by simp; omega)
  intro i h1 h2
  have hs : i < s.length := by simp at h1; omega
  have ht : i < t.length := by omega
  simp [gS, hs, ht]
theorem apT_range {s t : List Int} (hl : s.length = t.length) : ((List.range s.length).map fun k => dif (gS s k) (gS t k)).sum = apT s t := by
  unfold apT
  rw [zip_gS hl, List.map_map]; rfl
theorem dif_comm (a b : Int) : dif a b = dif b a := by unfold dif; split <;> split <;> omega
theorem apT_comm : ∀ {s t : List Int}, apT s t = apT t s
  | [], [] => rfl
  | [], _ :: _ => rfl
  | _ :: _, [] => rfl
  | a :: s, b :: t => by
    have := apT_comm (s := s) (t := t)
    unfold apT at this ⊢
    simp only [List.zip_cons_cons, List.map_cons, List.sum_cons]
    rw [this, dif_comm]
theorem distR_comm {y : List (Option Int)} : ∀ {d : List Ask} {s t : List Int}, distR y s t d = distR y t s d
  | [], _, _ => rfl
  | a :: r, s, t => by
    simp only [distR]
    rw [apT_comm, distR_comm (d := r)]
theorem dist_comm {y : List (Option Int)} {d : List Ask} {s t : List Int} : distT y s t d = distT y t s d := by
  unfold distT; rw [apT_comm, distR_comm]
theorem apT_bd {b : Int} : ∀ {s t : List Int}, (∀ i ∈ s, 0 ≤ i ∧ i < b) → (∀ i ∈ t, 0 ≤ i ∧ i < b) → 0 ≤ apT s t ∧ apT s t ≤ (s.length : Int) * b
  | [], _, _, _ => by simp [apT]
  | a :: s, [], h, _ => by
    have h0 := h a (List.mem_cons_self ..)
    have : 0 ≤ ((a :: s).length : Int) * b := Int.mul_nonneg (by omega) (by omega)
    simpa [apT] using this
  | a :: s, c :: t, h1, h2 => by
    obtain ⟨i1, i2⟩ := apT_bd (b := b) (s := s) (t := t) (fun i hi => h1 i (List.mem_cons_of_mem _ hi)) (fun i hi => h2 i (List.mem_cons_of_mem _ hi))
    have ha := h1 a (List.mem_cons_self ..)
    have hc := h2 c (List.mem_cons_self ..)
    have e : apT (a :: s) (c :: t) = dif a c + apT s t := by simp [apT]
    have d1 : 0 ≤ dif a c ∧ dif a c ≤ b := by unfold dif; split <;> omega
    have e2 : ((a :: s).length : Int) * b = b + (s.length : Int) * b := by
      rw [List.length_cons, Int.natCast_add, Int.add_mul]; omega
    rw [e, e2]; omega
theorem mom_ok {y : List (Option Int)} : ∀ {d : List Ask} {s : List Int}, OkS y s → OkD y.length d → ∀ A ∈ momT y s d, OkS y A
  | [], s, hs, _, A, hA => by simp [momT] at hA; subst hA; exact hs
  | a :: r, s, hs, hd, A, hA => by
    rcases List.mem_cons.mp (show A ∈ s :: momT y (askT y s a).2 r from hA) with rfl | h
    · exact hs
    · exact mom_ok (hs.ask hd.hd) hd.tl A h
theorem mom_sm {y : List (Option Int)} : ∀ {d : List Ask} {s : List Int} {b : Int}, OkS y s → OkD y.length d → SmB b s → ∀ A ∈ momT y s d, SmB (b + 2 * d.length) A
  | [], s, b, hs, _, h, A, hA => by simp [momT] at hA; subst hA; exact h.mono (by omega)
  | a :: r, s, b, hs, hd, h, A, hA => by
    rcases List.mem_cons.mp (show A ∈ s :: momT y (askT y s a).2 r from hA) with rfl | h2
    · exact h.mono (by omega)
    · exact (mom_sm (hs.ask hd.hd) hd.tl (smb_ask hs hd.hd h) A h2).mono (by rw [List.length_cons]; omega)
theorem dist_mom {y : List (Option Int)} : ∀ {d : List Ask} {s t : List Int}, distT y s t d = (List.range (d.length + 1)).map fun k => apT (((momT y s d)[k]?).getD []) (((momT y t d)[k]?).getD [])
  | [], s, t => by simp [distT, distR, momT]
  | a :: r, s, t => by
    have ih := dist_mom (y := y) (d := r) (s := (askT y s a).2) (t := (askT y t a).2)
    rw [List.length_cons, List.range_succ_eq_map, List.map_cons, List.map_map]
    show apT s t :: distT y (askT y s a).2 (askT y t a).2 r = _
    rw [ih]
    rfl
theorem mom_get {y : List (Option Int)} {s : List Int} {d : List Ask} {k : Nat} (h : k < d.length + 1) : ∃ A, (momT y s d)[k]? = some A ∧ A ∈ momT y s d := by
  have hk : k < (momT y s d).length := by rw [mom_len]; exact h
  exact ⟨_, List.getElem?_eq_getElem hk, List.getElem_mem hk⟩
theorem dist_bd {y : List (Option Int)} {d : List Ask} {s t : List Int} (hy : OkY y) (hs : OkS y s) (ht : OkS y t) (hd : OkD y.length d) (hl : d.length ≤ 1000) (bs : SmB (10 ^ 12) s) (bt : SmB (10 ^ 12) t) : ∀ x ∈ distT y s t d, 0 ≤ x ∧ x < 10 ^ 20 := fun x hx => by
  rw [dist_mom] at hx
  obtain ⟨k, hk, rfl⟩ := List.mem_map.mp hx
  have hk := List.mem_range.mp hk
  obtain ⟨A, a1, a2⟩ := mom_get (y := y) (s := s) (d := d) hk
  obtain ⟨B, b1, b2⟩ := mom_get (y := y) (s := t) (d := d) hk
  rw [a1, b1]
  have oa := mom_ok hs hd A a2
  have ob := mom_ok ht hd B b2
  have sa := mom_sm hs hd bs A a2
  have sb := mom_sm ht hd bt B b2
  obtain ⟨h1, h2⟩ := apT_bd (b := 10 ^ 13) (s := A) (t := B) (fun i hi => ⟨oa.pos i hi, by have := sa i hi; omega⟩) (fun i hi => ⟨ob.pos i hi, by have := sb i hi; omega⟩)
  refine ⟨h1, ?_⟩
  have h9 := hy.hi
  have hal := oa.len
  have : (A.length : Int) * 10 ^ 13 ≤ 9 * 10 ^ 13 := Int.mul_le_mul_of_nonneg_right (by omega) (by decide)
  show apT A B < 10 ^ 20
  omega
theorem first_head {l : List Int} : ((List.range l.length).filter fun k => gS l k == 0).head? = firstT l := by
  rw [List.head?_filter]
  unfold firstT
  cases e : l.findIdx? (fun z => z == 0) with
  | none =>
    rw [List.find?_eq_none]
    intro k hk
    have hk := List.mem_range.mp hk
    rw [List.findIdx?_eq_none_iff] at e
    rw [gS_of (List.getElem?_eq_getElem hk), e _ (List.getElem_mem hk)]
    simp
  | some j =>
    obtain ⟨h1, h2, h3⟩ := List.findIdx?_eq_some_iff_getElem.mp e
    rw [List.find?_range_eq_some]
    refine ⟨by rw [gS_of (List.getElem?_eq_getElem h1)]; exact h2, List.mem_range.mpr h1, fun k hk => ?_⟩
    rw [gS_of (List.getElem?_eq_getElem (by omega : k < l.length))]
    have := h3 k hk
    simpa using this
theorem ne_NO {o : Option Nat} : neD (eNO o) (eNO o) = some (.bool false) := by
  cases o with
  | none => rfl
  | some n => simp [eNO, eN]
theorem head_none {l : List Nat} : (l.map eN ++ [PyData.none])[0]? = some (eNO l.head?) := by cases l <;> rfl
/-! ### pieces of days, of rows -/
theorem cut_two {xs : List D} {a b : Nat} (h1 : a ≤ b) (h2 : b ≤ xs.length) : Dm.cutD xs (some (a : Int)) (some (b : Int)) = (xs.drop a).take (b - a) := by
  unfold Dm.cutD
  rw [HT.sIx_nat, HT.sIx_nat, Nat.min_eq_left h2, Nat.min_eq_left (Nat.le_trans h1 h2)]
theorem slAA {d : List Ask} {a b : Nat} (h1 : a ≤ b) (h2 : b ≤ d.length) : slD2 (eD d) (some (a : Int)) (some (b : Int)) = some (eD ((d.drop a).take (b - a))) := by
  show some (PyData.list (Dm.cutD _ _ _)) = _
  rw [cut_two h1 (by simpa using h2), eD, List.map_take, List.map_drop]
theorem slA1 {d : List Ask} {n : Nat} : slD2 (eD d) none (some (n : Int)) = some (eD (d.take n)) := by
  show some (PyData.list (Dm.cutD _ _ _)) = _
  rw [cut_to, eD, List.map_take]
theorem slA2 {d : List Ask} {k : Nat} : slD2 (eD d) (some (k : Int)) none = some (eD (d.drop k)) := by
  show some (PyData.list (Dm.cutD _ _ _)) = _
  rw [cut_from, eD, List.map_drop]
theorem addAD {s t : List Ask} (h : s.length + t.length ≤ 16777216) : addD (eD s) (eD t) = some (eD (s ++ t)) := by
  unfold eD
  rw [add_lst (by simpa using h), List.map_append]
@[simp] theorem flL_D {d : List Ask} : flL (eD d) = .ok (d.map eA) := by
  show flL (.list _) = _
  rw [flL_list, if_pos noLs_eA]
@[simp] theorem flL_I {l : List Int} : flL (.list (l.map PyData.int)) = .ok (l.map PyData.int) := by
  rw [flL_list, if_pos noLs_map_int]
theorem ixAsk {d : List Ask} {k : Nat} {a : Ask} (h : d[k]? = some a) : ixD (eD d) (.int (k : Int)) = some (eA a) := by
  unfold eD
  rw [ixd_lst, List.getElem?_map, h]; rfl
theorem addP {s t : List Nat} (h : s.length + t.length ≤ 16777216) : addD (eP s) (eP t) = some (eP (s ++ t)) := by
  unfold eP
  rw [add_tup (by simpa using h), List.map_append]
theorem addI {s t : List Int} (h : s.length + t.length ≤ 16777216) : addD (.list (s.map PyData.int)) (.list (t.map PyData.int)) = some (.list ((s ++ t).map PyData.int)) := by
  rw [add_lst (by simpa using h), List.map_append]
theorem eqv_ints : ∀ {a b : List Int}, PyData.eqvAll (a.map PyData.int) (b.map PyData.int) = decide (a = b)
  | [], [] => rfl
  | [], _ :: _ => rfl
  | _ :: _, [] => rfl
  | x :: a, y :: b => by
    have ih := eqv_ints (a := a) (b := b)
    rw [List.map_cons, List.map_cons, PyData.eqvAll, ih]
    have e : PyData.eqv (.int x) (.int y) = decide (x = y) := by
      show (x == y) = decide (x = y)
      by_cases h : x = y <;> simp [h]
    rw [e]
    by_cases h1 : x = y <;> by_cases h2 : a = b <;> simp [h1, h2]
theorem fm_ints {l : List Int} (h : ∀ x ∈ l, 0 ≤ x ∧ x < 10 ^ 20) (hl : l.length ≤ 2000) : Fm 1 2000 (.list (l.map PyData.int)) := Fm.list (a := 0) (b := 0) (n := 2000) (fun d hd => by
  obtain ⟨o, ho, rfl⟩ := List.mem_map.mp hd
  exact fm_int (h o ho).1 (h o ho).2) (by simpa using hl)
theorem ne_ints {l : List Int} (h : ∀ x ∈ l, 0 ≤ x ∧ x < 10 ^ 20) (hl : l.length ≤ 2000) : neD (.list (l.map PyData.int)) (.list (l.map PyData.int)) = some (.bool false) := Fm.ne_self (b := 10000) ((fm_ints h hl).mono (by omega) (by omega))
theorem eq_ints {l : List Int} (h : ∀ x ∈ l, 0 ≤ x ∧ x < 10 ^ 20) (hl : l.length ≤ 2000) : eqD (.list (l.map PyData.int)) (.list (l.map PyData.int)) = some (.bool true) := Fm.eq_self (b := 10000) ((fm_ints h hl).mono (by omega) (by omega))
theorem eq_S {y : List (Option Int)} {s t : List Int} (hy : OkY y) (hs : OkS y s) (ht : OkS y t) (bs : SmS s) (bt : SmS t) : eqD (eS s) (eS t) = some (.bool (decide (s = t))) := by
  rw [((fm_S hy hs bs).mono (by omega) (Nat.le_refl _)).eq ((fm_S hy ht bt).mono (by omega) (Nat.le_refl _))]
  show some (PyData.bool (PyData.eqvAll _ _)) = _
  rw [eqv_ints]
theorem slI1 {l : List Int} {j : Nat} : slD2 (.list (l.map PyData.int)) none (some (j : Int)) = some (.list ((l.take j).map PyData.int)) := by
  show some (PyData.list (Dm.cutD _ _ _)) = _
  rw [cut_to, List.map_take]
theorem slI2 {l : List Int} {j : Nat} : slD2 (.list (l.map PyData.int)) (some (j : Int)) none = some (.list ((l.drop j).map PyData.int)) := by
  show some (PyData.list (Dm.cutD _ _ _)) = _
  rw [cut_from, List.map_drop]
theorem rep_flat {n : Nat} {x : Int} : (List.replicate n [PyData.int x]).flatten = (List.replicate n x).map PyData.int := by
  induction n with
  | zero => rfl
  | succ n ih => rw [List.replicate_succ, List.replicate_succ, List.flatten_cons, ih]; rfl
theorem mul_zeros {n : Nat} (h : n ≤ 1000000) : mulD (.list [.int 0]) (.int (n : Int)) = some (.list ((List.replicate n (0 : Int)).map PyData.int)) := by
  have h1 : fitI (n : Int) = true := by
    unfold fitI
    exact inB_t (by omega) (by omega)
  have h2 : [PyData.int 0].length * ((n : Nat) : Int).toNat ≤ sizeLine := by
    show 1 * n ≤ 16777216
    omega
  show (if _ then _ else _) = _
  rw [if_pos (by rw [h1]; simpa using h2), Int.toNat_natCast, rep_flat]
@[simp] theorem eq_bool {a b : Bool} : eqD (.bool a) (.bool b) = some (.bool (a == b)) := by cases a <;> cases b <;> rfl
@[simp] theorem ne_bool {a b : Bool} : neD (.bool a) (.bool b) = some (.bool (!(a == b))) := by cases a <;> cases b <;> rfl
theorem max_lst {l : List Int} (h : 0 < l.length) : maxG [.list (l.map PyData.int)] = some (.int (maxL l)) := by
  unfold maxG
  simp only [ints?_map]
  rw [if_pos h]
/-! ### an ask left out -/
theorem okD_take {n : Nat} {d : List Ask} (h : OkD n d) (k : Nat) : OkD n (d.take k) := fun a ha => h a (List.mem_of_mem_take ha)
theorem okD_drop {n : Nat} {d : List Ask} (h : OkD n d) (k : Nat) : OkD n (d.drop k) := fun a ha => h a (List.mem_of_mem_drop ha)
theorem dist_zip {y : List (Option Int)} : ∀ {d : List Ask} {s t : List Int}, distT y s t d = List.zipWith apT (momT y s d) (momT y t d)
  | [], _, _ => rfl
  | a :: r, s, t => by
    have ih := dist_zip (y := y) (d := r) (s := (askT y s a).2) (t := (askT y t a).2)
    show apT s t :: distT y (askT y s a).2 (askT y t a).2 r = apT s t :: _
    rw [ih]
theorem mom_cons {y : List (Option Int)} {s : List Int} {d : List Ask} : momT y s d = s :: (momT y s d).tail := by cases d <;> rfl
theorem mom_app {y : List (Option Int)} {e : List Ask} : ∀ {d : List Ask} {s : List Int}, momT y s (d ++ e) = momT y s d ++ (momT y (goT y s d).2 e).tail
  | [], s => by
    show momT y s e = [s] ++ (momT y s e).tail
    rw [List.singleton_append, ← mom_cons]
  | a :: r, s => by
    show s :: momT y (askT y s a).2 (r ++ e) = s :: (momT y (askT y s a).2 r ++ _)
    rw [mom_app]
    rfl
theorem mom_last' {y : List (Option Int)} {d : List Ask} {s : List Int} : ∃ l, momT y s d = l ++ [(goT y s d).2] ∧ l.length = d.length := by
  have h := mom_last (y := y) (d := d) (s := s)
  have hl := mom_len (y := y) (d := d) (s := s)
  rw [List.getLast?_eq_some_iff] at h
  obtain ⟨l, e⟩ := h
  refine ⟨l, e, ?_⟩
  rw [e, List.length_append] at hl
  simpa using hl
theorem zip_self : ∀ {l : List (List Int)}, List.zipWith apT l l = List.replicate l.length 0
  | [] => rfl
  | a :: r => by
    have h0 : apT a a = 0 := by
      have : ∀ l : List Int, apT l l = 0 := fun l => by
        induction l with
        | nil => rfl
        | cons x l ih =>
          show dif x x + apT l l = 0
          rw [ih]
          unfold dif
          split <;> omega
      exact this a
    rw [List.zipWith_cons_cons, h0, zip_self]; rfl
/-- what the law puts together -/
theorem due_eq {y : List (Option Int)} {s : List Int} {d : List Ask} {k : Nat} {a : Ask} (hk : d[k]? = some a) :
    List.zipWith apT (momT y s d) ((momT y s (d.take k ++ d.drop (k + 1))).take (k + 1) ++ (momT y s (d.take k ++ d.drop (k + 1))).drop k) =
      List.replicate (k + 1) (0 : Int) ++ distT y (askT y (goT y s (d.take k)).2 a).2 (goT y s (d.take k)).2 (d.drop (k + 1)) := by
  have hkl := (List.getElem?_eq_some_iff.mp hk).1
  have ed : d = d.take k ++ (a :: d.drop (k + 1)) := by
    have e1 : d.drop k = a :: d.drop (k + 1) := by
      rw [List.drop_eq_getElem_cons hkl]
      congr 1
      exact (List.getElem?_eq_some_iff.mp hk).2
    rw [← e1, List.take_append_drop]
  have lt : (d.take k).length = k := by rw [List.length_take]; omega
  obtain ⟨l, el, ll⟩ := mom_last' (y := y) (d := d.take k) (s := s)
  rw [lt] at ll
  have m1 : momT y s d = momT y s (d.take k) ++ momT y (askT y (goT y s (d.take k)).2 a).2 (d.drop (k + 1)) := by
    have := mom_app (y := y) (d := d.take k) (e := a :: d.drop (k + 1)) (s := s)
    rw [← ed] at this
    rw [this]; rfl
  have m2 : momT y s (d.take k ++ d.drop (k + 1)) = momT y s (d.take k) ++ (momT y (goT y s (d.take k)).2 (d.drop (k + 1))).tail := mom_app
  have lm : (momT y s (d.take k)).length = k + 1 := by rw [mom_len, lt]
  have t1 : (momT y s (d.take k ++ d.drop (k + 1))).take (k + 1) = momT y s (d.take k) := by
    rw [m2, List.take_append_of_le_length (by omega), List.take_of_length_le (by omega)]
  have t2 : (momT y s (d.take k ++ d.drop (k + 1))).drop k = momT y (goT y s (d.take k)).2 (d.drop (k + 1)) := by
    rw [m2, el, List.append_assoc, List.drop_append_of_le_length (by omega), List.drop_of_length_le (by omega), List.nil_append]
    rw [mom_cons (y := y) (s := (goT y s (d.take k)).2) (d := d.drop (k + 1))]; rfl
  rw [t1, t2, m1, List.zipWith_append (by rfl), zip_self, lm, ← dist_zip]
theorem p_left_out {y : List (Option Int)} {s : List Int} {d : List Ask} {k : Nat} (hy : OkY y) (hs : OkS y s) (hd : OkD y.length d) (hl : d.length ≤ 1000) {a : Ask} (hk : d[k]? = some a) :
    m_left_out [eY y, eS s, eD d, .int (k : Int)] = .ok (.list ((List.replicate (k + 1) (0 : Int) ++ distT y (askT y (goT y s (d.take k)).2 a).2 (goT y s (d.take k)).2 (d.drop (k + 1))).map PyData.int)) := by
  have h9 := hy.hi
  have hkl := (List.getElem?_eq_some_iff.mp hk).1
  have ha : OkA y.length a := hd _ (List.mem_of_getElem? hk)
  have key : ∀ (d' : List Ask) (t : List Int) (x1 x4 : Sl), (x1 = .va (eS t) ∨ x1 = .bo (eS t)) → OkS y t → OkD y.length d' → ∃ x1' x4' : Sl, (x1' = .va (eS (goT y t d').2) ∨ x1' = .bo (eS (goT y t d').2)) ∧
      forF .bo (nmG 4) lp_left_out_0 (d'.map eA) [.bo (eY y), x1, .bo (eD d), .bo (.int (k : Int)), x4, .no] = .nx [.bo (eY y), x1', .bo (eD d), .bo (.int (k : Int)), x4', .no] := by
    intro d'
    induction d' with
    | nil => intro t x1 x4 h _ _; exact ⟨x1, x4, h, by simp [ev_forF_nil]⟩
    | cons b r ih =>
      intro t x1 x4 h ht hd'
      have e1 := nxP_ok (p_asked (a := b) ht.len h9 hd'.hd)
      have n1 : slD Lv.an 1 x1 = .ok (eS t) := by rcases h with rfl | rfl <;> simp
      obtain ⟨x1', x4', h', e⟩ := ih (askT y t b).2 (.va (eS (askT y t b).2)) (.va (eA b)) (.inl rfl) (ht.ask hd'.hd) hd'.tl
      refine ⟨x1', x4', h', ?_⟩
      rw [List.map_cons, ev_forF_cons]
      simp [itS, ev_nmE, n1, e1]
      exact e
  obtain ⟨x1, x4, hx, e⟩ := key (d.take k) s (.bo (eS s)) .no (.inr rfl) hs (okD_take hd k)
  have oh := hs.go (okD_take hd k)
  have e2 := nxP_ok (p_asked (a := a) oh.len h9 ha)
  have e3 := nxP_ok (p_distances hy (oh.ask ha) oh (okD_drop hd (k + 1)) (by rw [List.length_drop]; omega))
  have n1 : slD Lv.an 1 x1 = .ok (eS (goT y s (d.take k)).2) := by rcases hx with rfl | rfl <;> simp
  have s1 := slA1 (d := d) (n := k)
  have s2 : slD2 (eD d) (some ((k : Int) + 1)) none = some (eD (d.drop (k + 1))) := slA2 (k := k + 1)
  have ix := ixAsk hk
  have mz : mulD (.list [.int 0]) (.int ((k : Int) + 1)) = some (.list ((List.replicate (k + 1) (0 : Int)).map PyData.int)) := mul_zeros (n := k + 1) (by omega)
  have ad := addI (s := List.replicate (k + 1) (0 : Int)) (t := distT y (askT y (goT y s (d.take k)).2 a).2 (goT y s (d.take k)).2 (d.drop (k + 1))) (by rw [dist_len, List.length_drop, List.length_replicate]; omega)
  have e0 : nxP m_need_standing [eY y, eS s] = .ok .none := nxP_ok (by simp [m_need_standing, pf_eq, f_need_standing, ev_nmE, p_is_standing hy hs])
  have e00 := nxP_ok (p_need_day hy hd hl)
  have ey := nxP_ok (p_need_yard hy)
  have ea : nxP m_is_amount [.int (k : Int)] = .ok (.bool true) := nxP_ok (by rw [p_amount]; simp)
  have c1 : ¬ (d.length : Int) ≤ (k : Int) := by omega
  have lD : lenG [eD d] = some (.int d.length) := by simp [eD]
  simp [m_left_out, pf_eq, f_left_out, ev_nmE, ey, e0, e00, ea, lD, c1, s1, e, ix, n1, e2, mz, s2, e3, ad, flL_I, -List.map_append, -List.map_replicate, -List.map_take, -List.map_drop]
/-- what is no number of an ask -/
theorem p_no_ask {y : List (Option Int)} {s : List Int} {d : List Ask} {x : D} (hy : OkY y) (hs : OkS y s) (hd : OkD y.length d) (hl : d.length ≤ 1000) (hx : (m_is_amount [x] = .ok (.bool false)) ∨ (m_is_amount [x] = .ok (.bool true) ∧ ∃ i : Int, x = .int i ∧ (d.length : Int) ≤ i)) :
    m_left_out [eY y, eS s, eD d, x] = .ex ⟨"NoAsk", none⟩ := by
  have e0 : nxP m_need_standing [eY y, eS s] = .ok .none := nxP_ok (by simp [m_need_standing, pf_eq, f_need_standing, ev_nmE, p_is_standing hy hs])
  have e00 := nxP_ok (p_need_day hy hd hl)
  have ey := nxP_ok (p_need_yard hy)
  have lD : lenG [eD d] = some (.int d.length) := by simp [eD]
  rcases hx with hx | ⟨hx, i, rfl, hi⟩
  · have ea := nxP_ok hx
    simp [m_left_out, pf_eq, f_left_out, ev_nmE, ey, e0, e00, ea, rsS, finF]
  · have ea := nxP_ok hx
    simp [m_left_out, pf_eq, f_left_out, ev_nmE, ey, e0, e00, ea, lD, hi, rsS, finF]
theorem l_refused {y : List (Option Int)} {s : List Int} {d : List Ask} {x : D} (h : m_left_out [eY y, eS s, eD d, x] = .ex ⟨"NoAsk", none⟩) : m__law_refused [eY y, eS s, eD d, x] = .ok (.bool true) := by
  simp [m__law_refused, pf_eq, f__law_refused, ev_nmE, tyS, clX, h, keepX, isxE]

theorem am_of {x : D} (h : isiB "int" x = false ∨ isiB "bool" x = true) : m_is_amount [x] = .ok (.bool false) := by
  rcases h with h | h
  · simp [m_is_amount, pf_eq, f_is_amount, ev_nmE, h, finF]
  · cases h2 : isiB "int" x <;> simp [m_is_amount, pf_eq, f_is_amount, ev_nmE, h, h2, finF]
/-- the law's due row -/
theorem l_due {y : List (Option Int)} {s : List Int} {d : List Ask} {k : Nat} (hy : OkY y) (hs : OkS y s) (hd : OkD y.length d) (hl : d.length ≤ 1000) {a : Ask} (hk : d[k]? = some a) :
    m__law_due [eY y, eS s, eD d, .int (k : Int)] = .ok (.list ((List.replicate (k + 1) (0 : Int) ++ distT y (askT y (goT y s (d.take k)).2 a).2 (goT y s (d.take k)).2 (d.drop (k + 1))).map PyData.int)) := by
  have h9 := hy.hi
  have hkl := (List.getElem?_eq_some_iff.mp hk).1
  have hd2 : OkD y.length (d.take k ++ d.drop (k + 1)) := fun b hb => (List.mem_append.mp hb).elim (fun h => hd b (List.mem_of_mem_take h)) fun h => hd b (List.mem_of_mem_drop h)
  have l2 : (d.take k ++ d.drop (k + 1)).length ≤ 1000 := by rw [List.length_append, List.length_take, List.length_drop]; omega
  have e1 := l_gone hy hs hd hl
  have e2 := l_gone hy hs hd2 l2
  have s1 := slA1 (d := d) (n := k)
  have s2 : slD2 (eD d) (some ((k : Int) + 1)) none = some (eD (d.drop (k + 1))) := slA2 (k := k + 1)
  have ad : addD (eD (d.take k)) (eD (d.drop (k + 1))) = some (eD (d.take k ++ d.drop (k + 1))) := addAD (by rw [← List.length_append]; omega)
  have ml : (momT y s d).length = d.length + 1 := mom_len
  have ml2 : (momT y s (d.take k ++ d.drop (k + 1))).length = d.length := by rw [mom_len, List.length_append, List.length_take, List.length_drop]; omega
  generalize hT : momT y s (d.take k ++ d.drop (k + 1)) = T at e2 ml2
  have hok : ∀ A ∈ T, OkS y A := by rw [← hT]; exact mom_ok hs hd2
  have t1 : slD2 (.list (T.map eS)) none (some ((k : Int) + 1)) = some (.list ((T.take (k + 1)).map eS)) := by
    show some (PyData.list (Dm.cutD _ _ _)) = _
    rw [show ((k : Int) + 1) = ((k + 1 : Nat) : Int) by omega, cut_to, List.map_take]
  have t2 : slD2 (.list (T.map eS)) (some (k : Int)) none = some (.list ((T.drop k).map eS)) := by
    show some (PyData.list (Dm.cutD _ _ _)) = _
    rw [cut_from, List.map_drop]
  have adT : addD (.list ((T.take (k + 1)).map eS)) (.list ((T.drop k).map eS)) = some (.list ((T.take (k + 1) ++ T.drop k).map eS)) := by
    rw [add_lst (by rw [List.length_map, List.length_map, List.length_take, List.length_drop]; omega), List.map_append]
  have due := due_eq (y := y) (s := s) hk
  rw [hT] at due
  have hl3 : (T.take (k + 1) ++ T.drop k).length = d.length + 1 := by rw [List.length_append, List.length_take, List.length_drop]; omega
  have hok2 : ∀ A ∈ T.take (k + 1) ++ T.drop k, OkS y A := fun A hA => (List.mem_append.mp hA).elim (fun h => hok A (List.mem_of_mem_take h)) fun h => hok A (List.mem_of_mem_drop h)
  rw [← due]
  generalize hB : T.take (k + 1) ++ T.drop k = B at adT hl3 hok2
  have hokA := mom_ok hs hd
  generalize momT y s d = A at ml hokA e1
  have hz : List.zipWith apT A B = (List.range (d.length + 1)).map fun i => apT ((A[i]?).getD []) ((B[i]?).getD []) := by
    apply List.ext_getElem (by simp [ml, hl3])
    intro i h1 h2
    have i1 : i < A.length := by simp at h2; omega
    have i2 : i < B.length := by simp at h2; omega
    simp [List.getElem?_eq_getElem i1, List.getElem?_eq_getElem i2]
  have inner : ∀ (i : Nat) (P Q : List Int), ixD (.list (A.map eS)) (.int (i : Int)) = some (eS P) → ixD (.list (B.map eS)) (.int (i : Int)) = some (eS Q) → P.length = y.length → Q.length = y.length →
      compF .bp .an [7] (nmG 7) yesT (cbE absG (consA (opE subD (opE ixD (opE ixD (nmE 4) (nmE 6)) (nmE 7)) (opE ixD (opE ixD (nmE 5) (nmE 6)) (nmE 7))) nilA)) ((List.range y.length).map eN) [.bo (eY y), .bo (eS s), .bo (eD d), .bo (.int (k : Int)), .va (.list (A.map eS)), .va (.list (B.map eS)), .va (.int (i : Int)), .no] =
      .ok (((List.range y.length).map fun p => dif (gS P p) (gS Q p)).map PyData.int, [.bo (eY y), .bo (eS s), .bo (eD d), .bo (.int (k : Int)), .va (.list (A.map eS)), .va (.list (B.map eS)), .va (.int (i : Int)), .no]) := fun i P Q hP hQ lP lQ => by
    rw [List.map_map]
    exact compF_map _ _ fun p hp => by
      have hp := List.mem_range.mp hp
      have hpP : p < P.length := by omega
      have hpQ : p < Q.length := by omega
      exact ⟨[.bo (eY y), .bo (eS s), .bo (eD d), .bo (.int (k : Int)), .va (.list (A.map eS)), .va (.list (B.map eS)), .va (.int (i : Int)), .va (eN p)], by simp [itS], by simp [wiS], by simp [ev_nmE, hP, hQ, ixS hpP, ixS hpQ, dif], .inr rfl⟩
  have rgy : rg1D [.int (y.length : Int)] = some ((List.range y.length).map eN) := rg1_nat (by omega)
  have outer : compF .bp (.rt 4) [6] (nmG 6) yesT (atE .an (cbE sumA (consA (lsE (lcA .bp [7] (agA rg1D (consA (atE .an (cbE lenG (consA (nmE 0) nilA))) nilA)) (nmG 7) yesT (cbE absG (consA (opE subD (opE ixD (opE ixD (nmE 4) (nmE 6)) (nmE 7)) (opE ixD (opE ixD (nmE 5) (nmE 6)) (nmE 7))) nilA)))) nilA))) ((List.range (d.length + 1)).map eN) [.bo (eY y), .bo (eS s), .bo (eD d), .bo (.int (k : Int)), .va (.list (A.map eS)), .va (.list (B.map eS)), .no, .no] =
      .ok ((List.range (d.length + 1)).map fun i => PyData.int (apT ((A[i]?).getD []) ((B[i]?).getD [])), [.bo (eY y), .bo (eS s), .bo (eD d), .bo (.int (k : Int)), .va (.list (A.map eS)), .va (.list (B.map eS)), .no, .no]) :=
    compF_map _ _ fun i hi => by
      have hi := List.mem_range.mp hi
      have hiA : i < A.length := by omega
      have hiB : i < B.length := by omega
      have oA := hokA _ (List.getElem_mem hiA)
      have oB := hok2 _ (List.getElem_mem hiB)
      have gA : A[i]? = some A[i] := List.getElem?_eq_getElem hiA
      have gB : B[i]? = some B[i] := List.getElem?_eq_getElem hiB
      have n1 := inner i A[i] B[i] (by rw [ixd_lst, List.getElem?_map, gA]; rfl) (by rw [ixd_lst, List.getElem?_map, gB]; rfl) oA.len oB.len
      have ap := apT_range (s := A[i]) (t := B[i]) (by rw [oA.len, oB.len])
      rw [oA.len] at ap
      refine ⟨[.bo (eY y), .bo (eS s), .bo (eD d), .bo (.int (k : Int)), .va (.list (A.map eS)), .va (.list (B.map eS)), .va (eN i), .no], by simp [itS], by simp [wiS], ?_, .inr rfl⟩
      have hE : (eN i : D) = .int (i : Int) := rfl
      rw [hE, gA, gB]
      simp [-List.map_map, ev_nmE, okO, wiS, reS, rgy, n1, ap, (by omega : y.length ≤ 16777216)]
  have rgd : rg1D [.int ((d.length : Int) + 1)] = some ((List.range (d.length + 1)).map eN) := by
    rw [show ((d.length : Int) + 1) = ((d.length + 1 : Nat) : Int) by omega]
    exact rg1_nat (by omega)
  have lA : lenG [.list (A.map eS)] = some (.int (A.length : Int)) := by simp
  rw [hz, List.map_map]
  simp [-List.map_map, -List.map_take, -List.map_drop, -List.map_append, m__law_due, pf_eq, f__law_due, ev_nmE, e1, s1, s2, ad, e2, t1, t2, adT, rgd, okO, wiS, reS, outer, finF, (by omega : d.length + 1 ≤ 16777216), ml]
def Pl (x : Sl) : Prop := x = .no ∨ ∃ d, x = .va d
theorem l_spot {ns : List Int} {k p : Nat} {cs : List D} {y : List (Option Int)} {s : List Int} {d : List Ask} {T2 : Str} {x8 x9 x10 x11 : Sl} (hy : OkY y) (hs : OkS y s) (hd : OkD y.length d) (hl : d.length ≤ 60) (bs : SmB (10 ^ 12) s) (hp : p < d.length)
    (r2 : reprG [.list [eY y, eS s, eD d]] = some (.str T2)) (p10 : Pl x10) : ∃ x9' x10' x11', Pl x10' ∧ lp_law_1 [.sc ns, .va (.int (k : Int)), .ow cs, .va (eY y), .va (eS s), .va (eD d), .va (.str T2), .va (.int (p : Int)), x8, x9, x10, x11] =
      .nx [.sc ns, .va (.int (k : Int)), .ow cs, .va (eY y), .va (eS s), .va (eD d), .va (.str T2), .va (.int (p : Int)), x8, x9', x10', x11'] := by
  have hl' : d.length ≤ 1000 := by omega
  have hk := List.getElem?_eq_getElem hp
  have e1 := l_due hy hs hd hl' hk
  have e2 := p_left_out hy hs hd hl' hk
  have ha : OkA y.length d[p] := hd _ (List.getElem_mem hp)
  have oh := hs.go (okD_take hd p)
  have oa := oh.ask ha
  have od := okD_drop hd (p + 1)
  have bsG : SmB (10 ^ 12 + 2 * (d.take p).length) (goT y s (d.take p)).2 := mom_sm hs (okD_take hd p) bs _ (by
    obtain ⟨l, el, _⟩ := mom_last' (y := y) (d := d.take p) (s := s)
    rw [el]; simp)
  have lt : (d.take p).length = p := by rw [List.length_take]; omega
  have ld : (d.drop (p + 1)).length ≤ 60 := by rw [List.length_drop]; omega
  generalize hR : List.replicate (p + 1) (0 : Int) ++ distT y (askT y (goT y s (d.take p)).2 d[p]).2 (goT y s (d.take p)).2 (d.drop (p + 1)) = R at e1 e2
  have bd : ∀ x ∈ R, 0 ≤ x ∧ x < 10 ^ 20 := fun x hx => by
    rw [← hR] at hx
    rcases List.mem_append.mp hx with h | h
    · have := (List.mem_replicate.mp h).2; omega
    · rw [dist_mom] at h
      obtain ⟨i, hi, rfl⟩ := List.mem_map.mp h
      have hi := List.mem_range.mp hi
      obtain ⟨A, a1, a2⟩ := mom_get (y := y) (s := (askT y (goT y s (d.take p)).2 d[p]).2) (d := d.drop (p + 1)) hi
      obtain ⟨B, b1, b2⟩ := mom_get (y := y) (s := (goT y s (d.take p)).2) (d := d.drop (p + 1)) hi
      rw [a1, b1]
      have oA := mom_ok oa od A a2
      have oB := mom_ok oh od B b2
      have sA := mom_sm oa od (smb_ask oh ha bsG) A a2
      have sB := mom_sm oh od bsG B b2
      obtain ⟨h1, h2⟩ := apT_bd (b := 10 ^ 13) (s := A) (t := B) (fun i hi => ⟨oA.pos i hi, by have := sA i hi; omega⟩) (fun i hi => ⟨oB.pos i hi, by have := sB i hi; omega⟩)
      refine ⟨h1, ?_⟩
      have h9 := hy.hi
      have hal := oA.len
      have : (A.length : Int) * 10 ^ 13 ≤ 9 * 10 ^ 13 := Int.mul_le_mul_of_nonneg_right (by omega) (by decide)
      show apT A B < 10 ^ 20
      omega
  have lR : R.length ≤ 1001 := by
    rw [← hR, List.length_append, List.length_replicate, dist_len]
    omega
  have fd : Fm 1 1001 (.list (R.map PyData.int)) := Fm.list (a := 0) (b := 0) (n := 1001) (fun x hx => by
    obtain ⟨z, hz, rfl⟩ := List.mem_map.mp hx
    exact fm_int (bd z hz).1 (bd z hz).2) (by simp; omega)
  obtain ⟨T1, r1⟩ : ∃ T, reprG [.list (R.map PyData.int)] = some (.str T) := ⟨_, Fm.reprL (fd.mono (by omega) (by omega))⟩
  have nd := (fd.mono (by omega : 1 ≤ 64) (Nat.le_refl _)).ne_self
  have nR : noLs (R.map PyData.int).reverse = true := by rw [← List.map_reverse]; exact noLs_map fun _ => rfl
  have key := forF_run (L := .bo) (g := nmG 10) (e := fun i : Nat => PyData.int (i : Int)) (f := lp_law_0)
    (fun (l : List Nat) ρ => ∃ x10 x11, Pl x10 ∧ ρ = [.sc ns, .va (.int (k : Int)), .ow cs, .va (eY y), .va (eS s), .va (eD d), .va (.str T2), .va (.int (p : Int)), x8, .va (.list (R.map PyData.int)), x10, x11])
    (fun a r ρ ⟨x10, x11, _, hρ⟩ => by
      subst hρ
      refine ⟨_, _, rfl, .inl ?_, .va (.int (a : Int)), .un (.list (List.reverse (R.map PyData.int) ++ [PyData.int 3])), .inr ⟨_, rfl⟩, rfl⟩
      simp [itS, ev_nmE, boAll, e2, r1, r2, u0S, u0A, unA, nR, (by omega : R.length < 16777216)])
    (List.range 2) [.sc ns, .va (.int (k : Int)), .ow cs, .va (eY y), .va (eS s), .va (eD d), .va (.str T2), .va (.int (p : Int)), x8, .va (.list (R.map PyData.int)), x10, x11] ⟨_, _, p10, rfl⟩
  obtain ⟨ρ', e8, y10, y11, q10, rfl⟩ := key
  refine ⟨.va (.list (R.map PyData.int)), y10, y11, q10, ?_⟩
  simp [ev_nmE, e1, e8, e2, nd]
theorem l_draws {ns : List Int} {kk k : Nat} {cs : List D} {y : List (Option Int)} {s : List Int} {d : List Ask} {x6 x7 x8 x9 x11 : Sl} (h : Ct (k + 9) cs) (hd : 0 < d.length) (hl : d.length ≤ 60) : ∃ (rs : List Int) (cs' : List D), rs.length = 9 ∧ (∀ r ∈ rs, 0 ≤ r ∧ r < d.length) ∧ Ct k cs' ∧
    compF .bo .bo [10] (nmG 10) yesT (clO 2 1 o__law_pull (consA (atE .an (cbE lenG (consA (nmE 5) nilA))) nilA)) ((List.range 9).map fun i : Nat => PyData.int (i : Int)) [.sc ns, .va (.int (kk : Int)), .ow cs, .va (eY y), .va (eS s), .va (eD d), x6, x7, x8, x9, .no, x11] =
      .ok (rs.map PyData.int, [.sc ns, .va (.int (kk : Int)), .ow cs', .va (eY y), .va (eS s), .va (eD d), x6, x7, x8, x9, .no, x11]) := by
  have key := compF_run (ks := .bo) (L := .bo) (own := [10]) (g := nmG 10) (c := yesT) (el := clO 2 1 o__law_pull (consA (atE .an (cbE lenG (consA (nmE 5) nilA))) nilA)) (e := fun i : Nat => PyData.int (i : Int))
    (fun (l : List Nat) ds ρ => ∃ cs, ∃ rs : List Int, ρ = [.sc ns, .va (.int (kk : Int)), .ow cs, .va (eY y), .va (eS s), .va (eD d), x6, x7, x8, x9, .no, x11] ∧ Ct (k + l.length) cs ∧ ds = rs.map PyData.int ∧ rs.length + l.length = 9 ∧ ∀ r ∈ rs, 0 ≤ r ∧ r < d.length)
    (fun a r ds ρ ⟨cs, rs, hρ, hc, hds, hlen, hb⟩ => by
      subst hρ hds
      rw [List.length_cons] at hc hlen
      obtain ⟨v, c1, f1, g1, g2, u1⟩ := l_pull (w := (d.length : Int)) (k := k + r.length) hc (by omega) (by omega)
      have lD : lenG [eD d] = some (.int d.length) := by simp [eD]
      refine ⟨[.sc ns, .va (.int (kk : Int)), .ow cs, .va (eY y), .va (eS s), .va (eD d), x6, x7, x8, x9, .va (.int (a : Int)), x11], true, [.sc ns, .va (.int (kk : Int)), .ow cs, .va (eY y), .va (eS s), .va (eD d), x6, x7, x8, x9, .va (.int (a : Int)), x11], by simp [itS], by simp, fun z => (by cases z), fun _ => ⟨.int v, [.sc ns, .va (.int (kk : Int)), .ow c1, .va (eY y), .va (eS s), .va (eD d), x6, x7, x8, x9, .va (.int (a : Int)), x11], ?_, .inr rfl, c1, rs ++ [v], ?_, u1, by simp, by simp; omega, fun z hz => ?_⟩⟩
      · simp [ev_nmE, lD, hc.noL, u1.noL, f1]
      · simp [wiS]
      · rcases List.mem_append.mp hz with h | h
        · exact hb z h
        · rw [List.mem_singleton.mp h]; exact ⟨g1, g2⟩)
    (List.range 9) [] [.sc ns, .va (.int (kk : Int)), .ow cs, .va (eY y), .va (eS s), .va (eD d), x6, x7, x8, x9, .no, x11] ⟨cs, [], rfl, by simpa using h, rfl, by simp, by simp⟩
  obtain ⟨es, ρ', e, cs', rs, hρ, hc, hds, hlen, hb⟩ := key
  subst hρ
  rw [List.nil_append] at hds
  subst hds
  exact ⟨rs, cs', by simpa using hlen, hb, by simpa using hc, e⟩
theorem ref_all {y : List (Option Int)} {s : List Int} {d : List Ask} (hy : OkY y) (hs : OkS y s) (hd : OkD y.length d) (hl : d.length ≤ 1000) {x : D} (hx : (isiB "int" x = false ∨ isiB "bool" x = true) ∨ ∃ i : Int, x = .int i ∧ (i < 0 ∨ (d.length : Int) ≤ i)) :
    m__law_refused [eY y, eS s, eD d, x] = .ok (.bool true) := by
  refine l_refused (p_no_ask hy hs hd hl ?_)
  rcases hx with hx | ⟨i, rfl, hi⟩
  · exact .inl (am_of hx)
  · by_cases h0 : 0 ≤ i
    · exact .inr ⟨by rw [p_amount]; simp [h0], i, rfl, by omega⟩
    · exact .inl (by rw [p_amount]; simp [h0])
theorem law_math (ns : List Int) (h1 : ns.length ≤ 63) (h2 : ∀ z ∈ ns, Builtin.Int.intBits z ≤ 1048576) : ∃ ρ, bodyF 11 f_law [.sc ns] = .ok (.bool true, ρ) := by
  have outer := forF_run (L := .bo) (g := nmG 1) (e := fun i : Nat => PyData.int (i : Int)) (f := lp_law_2)
    (fun (l : List Nat) ρ => (∀ k ∈ l, k < 100) ∧ ∃ x1 x2 x3 x4 x5 x6 x7 x8 x9 x10 x11, Pl x7 ∧ Pl x10 ∧ ρ = [.sc ns, x1, x2, x3, x4, x5, x6, x7, x8, x9, x10, x11])
    (fun k r ρ ⟨hk, x1, x2, x3, x4, x5, x6, x7, x8, x9, x10, x11, p7, p10, hρ⟩ => by
      subst hρ
      obtain ⟨cs, e, hc⟩ := l_cart (ns := ns) (hk k (List.mem_cons_self ..))
      obtain ⟨r1, d1, f1, g1, g2, u1⟩ := l_pull (w := 2) (k := 900000) hc (by decide) (by decide)
      obtain ⟨m1, i1, j1⟩ := two_of (a := 3) (b := 9) g1 g2
      obtain ⟨y, d2, f2, oy, yl, u2, yb⟩ := l_rooms (k := 800000) (m := m1) (u1.mono (by omega)) (by omega) (by omega)
      obtain ⟨s, d3, f3, os, u3, sb⟩ := l_things (k := 700000) (u2.mono (by omega)) oy yb
      obtain ⟨r2, d4, f4, g3, g4, u4⟩ := l_pull (w := 2) (k := 600000) u3 (by decide) (by decide)
      obtain ⟨m2, i2, j2⟩ := two_of (a := 8) (b := 59) g3 g4
      obtain ⟨d0, d5, f5, od0, dl0, u5⟩ := l_asks (k := 100000) (n := y.length) (m := m2) (u4.mono (by omega)) oy.hi (by omega)
      have h9 := oy.hi
      have hlo := oy.lo
      have oa : OkA y.length ([0], []) := ⟨⟨fun p hp => by rw [List.mem_singleton.mp hp]; omega, by simp⟩, ⟨fun p hp => by simp at hp, by simp⟩⟩
      have od : OkD y.length (d0 ++ [([0], [])]) := fun a ha => (List.mem_append.mp ha).elim (od0 a) fun h => by rw [List.mem_singleton.mp h]; exact oa
      have ea : eD [([0], [])] = .list [.tuple [.tuple [.int 0], .tuple []]] := rfl
      have ad : addD (eD d0) (.list [.tuple [.tuple [.int 0], .tuple []]]) = some (eD (d0 ++ [([0], [])])) := by rw [← ea]; exact addAD (by simp; omega)
      have dl : (d0 ++ [(([0], []) : Ask)]).length ≤ 60 := by rw [List.length_append]; simp; omega
      have dp : 0 < (d0 ++ [(([0], []) : Ask)]).length := by simp
      generalize d0 ++ [(([0], []) : Ask)] = d at od ad dl dp
      have dl' : d.length ≤ 1000 := by omega
      obtain ⟨T2, r2'⟩ : ∃ T, reprG [.list [eY y, eS s, eD d]] = some (.str T) := ⟨_, Fm.reprL ((Fm.list (a := 3) (b := 21000) (n := 3) (fun x hx => by
        simp at hx
        rcases hx with rfl | rfl | rfl
        · exact (fm_Y oy (fun i hi => by have := yb i hi; omega)).mono (by omega) (by omega)
        · exact (fm_S oy os (fun i hi => by have := sb i hi; omega)).mono (by omega) (by omega)
        · exact fm_D od h9 dl') (by simp)).mono (by omega) (by omega))⟩
      obtain ⟨rs, d6, rl, rb, u6, f6⟩ := l_draws (ns := ns) (kk := k) (k := 1000) (y := y) (s := s) (d := d) (x6 := .va (.str T2)) (x7 := x7) (x8 := x8) (x9 := x9) (x11 := x11) (u5.mono (by omega)) dp dl
      have rg9 : rg1D [.int 9] = some ((List.range 9).map fun i : Nat => PyData.int (i : Int)) := rg1_nat (n := 9) (by omega)
      have lD : lenG [eD d] = some (.int d.length) := by simp [eD]
      have lY : lenG [eY y] = some (.int y.length) := lenY
      have ok10 : okO [.sc ns, .va (.int (k : Int)), .ow d5, .va (eY y), .va (eS s), .va (eD d), .va (.str T2), x7, x8, x9, x10, x11] [10] = true := by rcases p10 with rfl | ⟨z, rfl⟩ <;> simp [okO]
      have adr : addD (.list (rs.map PyData.int)) (.list [.int 0, .int ((d.length : Int) - 1)]) = some (.list ((rs ++ [0, (d.length : Int) - 1]).map PyData.int)) := by
        have := addI (s := rs) (t := [0, (d.length : Int) - 1]) (by simp; omega)
        exact this
      have iD : intsD (.list (rs.map PyData.int ++ [.int 0, .int ((d.length : Int) - 1)])) = some (rs ++ [0, (d.length : Int) - 1]) := by
        have := intsD_map (l := rs ++ [0, (d.length : Int) - 1])
        rwa [List.map_append] at this
      have sp : ∀ z ∈ srtS (rs ++ [0, (d.length : Int) - 1]), ∃ p : Nat, z = (p : Int) ∧ p < d.length := fun z hz => by
        have hz := mem_srtS.mp hz
        rcases List.mem_append.mp hz with h | h
        · obtain ⟨a, b⟩ := rb z h
          exact ⟨z.toNat, by omega, by omega⟩
        · simp at h
          rcases h with h | h
          · exact ⟨0, h, dp⟩
          · exact ⟨d.length - 1, by omega, by omega⟩
      have spots := forF_run (L := .bo) (g := nmG 7) (e := PyData.int) (f := lp_law_1)
        (fun (l : List Int) ρ => (∀ z ∈ l, ∃ p : Nat, z = (p : Int) ∧ p < d.length) ∧ ∃ x7 x9 x10 x11, Pl x7 ∧ Pl x10 ∧ ρ = [.sc ns, .va (.int (k : Int)), .ow d6, .va (eY y), .va (eS s), .va (eD d), .va (.str T2), x7, x8, x9, x10, x11])
        (fun z r ρ ⟨hz, x7, x9, x10, x11, p7, p10, hρ⟩ => by
          subst hρ
          obtain ⟨p, rfl, hp⟩ := hz z (List.mem_cons_self ..)
          obtain ⟨x9', x10', x11', q10, e⟩ := l_spot (ns := ns) (k := k) (cs := d6) (x8 := x8) (x9 := x9) (x11 := x11) oy os od dl sb hp r2' p10
          exact ⟨_, _, by simp [itS], .inl e, fun w hw => hz w (List.mem_cons_of_mem _ hw), .va (.int (p : Int)), x9', x10', x11', .inr ⟨_, rfl⟩, q10, rfl⟩)
        (srtS (rs ++ [0, (d.length : Int) - 1])) [.sc ns, .va (.int (k : Int)), .ow d6, .va (eY y), .va (eS s), .va (eD d), .va (.str T2), x7, x8, x9, x10, x11] ⟨sp, x7, x9, x10, x11, p7, p10, rfl⟩
      obtain ⟨ρ', e7, _, y7, y9, y10, y11, q7, q10, rfl⟩ := spots
      have odd : ∀ x ∈ [PyData.int (-1), .int (d.length : Int), .none, .bool true, .str "0", .tuple [], .list [.int 0], .int 100000000000], m__law_refused [eY y, eS s, eD d, x] = .ok (.bool true) := fun x hx => by
        refine ref_all oy os od dl' ?_
        simp only [List.mem_cons, List.not_mem_nil, or_false] at hx
        rcases hx with rfl | rfl | rfl | rfl | rfl | rfl | rfl | rfl
        · exact .inr ⟨_, rfl, .inl (by decide)⟩
        · exact .inr ⟨_, rfl, .inr (by omega)⟩
        · exact .inl (.inl rfl)
        · exact .inl (.inr rfl)
        · exact .inl (.inl rfl)
        · exact .inl (.inl rfl)
        · exact .inl (.inl rfl)
        · exact .inr ⟨_, rfl, .inr (by omega)⟩
      have nil1 := ref_all (d := []) (x := .int 0) oy os (fun a ha => by simp at ha) (by simp) (.inr ⟨0, rfl, .inr (by simp)⟩)
      have eD0 : eD [] = .list [] := rfl
      rw [eD0] at nil1
      have ok7 : ∀ v, okO [.sc ns, .va (.int (k : Int)), .ow d6, .va (eY y), .va (eS s), .va (eD d), .va (.str T2), y7, v, y9, y10, y11] [7] = true := fun v => by rcases q7 with rfl | ⟨z, rfl⟩ <;> simp [okO]
      have hcomp : compF .bp .an [7] (nmG 7) (ntT (asT (clE .an 4 m__law_refused (consA (nmE 3) (consA (nmE 4) (consA (nmE 5) (consA (nmE 7) nilA))))))) (nmE 7) ([PyData.int (-1), .int (d.length : Int), .none, .bool true, .str "0", .tuple [], .list [.int 0], .int 100000000000].map id)
          [.sc ns, .va (.int (k : Int)), .ow d6, .va (eY y), .va (eS s), .va (eD d), .va (.str T2), .no, .va (.list [PyData.int (-1), .int (d.length : Int), .none, .bool true, .str "0", .tuple [], .list [.int 0], .int 100000000000]), y9, y10, y11] =
          .ok (([PyData.int (-1), .int (d.length : Int), .none, .bool true, .str "0", .tuple [], .list [.int 0], .int 100000000000].filter fun _ => false).map id, [.sc ns, .va (.int (k : Int)), .ow d6, .va (eY y), .va (eS s), .va (eD d), .va (.str T2), .no, .va (.list [PyData.int (-1), .int (d.length : Int), .none, .bool true, .str "0", .tuple [], .list [.int 0], .int 100000000000]), y9, y10, y11]) :=
        compF_pure _ _ _ fun x hx => by
          have e := odd x hx
          by_cases hn : noL x = true
          · refine ⟨[.sc ns, .va (.int (k : Int)), .ow d6, .va (eY y), .va (eS s), .va (eD d), .va (.str T2), .va x, .va (.list [PyData.int (-1), .int (d.length : Int), .none, .bool true, .str "0", .tuple [], .list [.int 0], .int 100000000000]), y9, y10, y11], by simp [itS, hn], by simp [ev_nmE, e], by simp [wiS], fun z => by cases z⟩
          · refine ⟨[.sc ns, .va (.int (k : Int)), .ow d6, .va (eY y), .va (eS s), .va (eD d), .va (.str T2), .bo x, .va (.list [PyData.int (-1), .int (d.length : Int), .none, .bool true, .str "0", .tuple [], .list [.int 0], .int 100000000000]), y9, y10, y11], by simp [itS, hn], by simp [ev_nmE, e], by simp [wiS], fun z => by cases z⟩
      simp only [id, List.map_cons, List.map_nil, List.filter_cons, List.filter_nil, Bool.false_eq_true, if_false] at hcomp
      refine ⟨_, _, rfl, .inl ?_, fun j hj => hk j (List.mem_cons_of_mem _ hj), .va (.int (k : Int)), .ow d6, .va (eY y), .va (eS s), .va (eD d), .va (.str T2), y7, .va (.list [PyData.int (-1), .int (d.length : Int), .none, .bool true, .str "0", .tuple [], .list [.int 0], .int 100000000000]), y9, y10, y11, q7, q10, rfl⟩
      simp at i1 i2
      simp [itS, ev_nmE, boAll, e, hc.noL]
      simp [itS, ev_nmE, hc.noL, u1.noL, u2.noL, u3.noL, u4.noL, u5.noL, u6.noL, lY, f1, i1, f2, f3, f4, i2, f5, ad, r2', rg9, ok10, wiS, reS, lD, f6, adr, iD, e7, nil1, rl, ok7, hcomp])
  obtain ⟨n, hn, hr⟩ := turn_range (ns := ns) (T := 4) 4 rfl (by decide) (by decide)
  obtain ⟨ρ', e, _, x1, x2, x3, x4, x5, x6, x7, x8, x9, x10, x11, _, _, hρ⟩ := outer (List.range n) [.sc ns, .no, .no, .no, .no, .no, .no, .no, .no, .no, .no, .no] ⟨fun k hk => by have := List.mem_range.mp hk; omega, _, _, _, _, _, _, _, _, _, _, _, .inl rfl, .inl rfl, rfl⟩
  subst hρ
  refine ⟨[selF (.sc ns) (.sc ns)], ?_⟩
  simp [body_eq, f_law, ev_nmE]
  rw [hr]
  simp [e]
def topS (i : Nat) : Stmt := PySem.Challenge.pw_onemore_k14_an_ask_left_out.main.body.getD i (.Pass ⟨0, 0, 0, 0⟩)
abbrev st_is_amount : Stmt := topS 10
abbrev sc_N_is_amount : List Str := ["thing"]
theorem sc_is_amount : FnScope sc_N_is_amount ["thing"] (defScope st_is_amount) := ⟨rfl, rfl, rfl, by decide +kernel, rfl, by decide +kernel, by decide +kernel⟩
abbrev st_changed : Stmt := topS 20
abbrev sc_N_changed : List Str := ["standing", "place", "by"]
theorem sc_changed : FnScope sc_N_changed ["standing", "place", "by"] (defScope st_changed) := ⟨rfl, rfl, rfl, by decide +kernel, rfl, by decide +kernel, by decide +kernel⟩
abbrev st_taken_from : Stmt := topS 21
abbrev sc_N_taken_from : List Str := ["standing", "wants", "place"]
theorem sc_taken_from : FnScope sc_N_taken_from ["standing", "wants"] (defScope st_taken_from) := ⟨rfl, rfl, rfl, by decide +kernel, rfl, by decide +kernel, by decide +kernel⟩
abbrev st_left_at : Stmt := topS 22
abbrev sc_N_left_at : List Str := ["yard", "standing", "leaves", "place"]
theorem sc_left_at : FnScope sc_N_left_at ["yard", "standing", "leaves"] (defScope st_left_at) := ⟨rfl, rfl, rfl, by decide +kernel, rfl, by decide +kernel, by decide +kernel⟩
abbrev st_apart_by : Stmt := topS 25
abbrev sc_N_apart_by : List Str := ["one", "other", "here", "there"]
theorem sc_apart_by : FnScope sc_N_apart_by ["one", "other"] (defScope st_apart_by) := ⟨rfl, rfl, rfl, by decide +kernel, rfl, by decide +kernel, by decide +kernel⟩
abbrev st__law_cart : Stmt := topS 29
abbrev sc_N__law_cart : List Str := ["script", "k", "cell"]
theorem sc__law_cart : FnScope sc_N__law_cart ["script", "k"] (defScope st__law_cart) := ⟨rfl, rfl, rfl, by decide +kernel, rfl, by decide +kernel, by decide +kernel⟩
abbrev st__law_pull : Stmt := topS 30
abbrev sc_N__law_pull : List Str := ["cart", "wide", "found", "mixed"]
theorem sc__law_pull : FnScope sc_N__law_pull ["cart", "wide"] (defScope st__law_pull) := ⟨rfl, rfl, rfl, by decide +kernel, rfl, by decide +kernel, by decide +kernel⟩
abbrev st__law_gone : Stmt := topS 35
abbrev sc_N__law_gone : List Str := ["rooms", "lie", "asks", "now", "rows", "moments", "wants", "leaves", "full", "row", "free", "place"]
theorem sc__law_gone : FnScope sc_N__law_gone ["rooms", "lie", "asks"] (defScope st__law_gone) := ⟨rfl, rfl, rfl, by decide +kernel, rfl, by decide +kernel, by decide +kernel⟩
abbrev st_is_yard : Stmt := topS 11
abbrev sc_N_is_yard : List Str := ["thing", "room"]
theorem sc_is_yard : FnScope sc_N_is_yard ["thing"] (defScope st_is_yard) := ⟨rfl, rfl, rfl, by decide +kernel, rfl, by decide +kernel, by decide +kernel⟩
abbrev st_is_place : Stmt := topS 13
abbrev sc_N_is_place : List Str := ["yard", "thing"]
theorem sc_is_place : FnScope sc_N_is_place ["yard", "thing"] (defScope st_is_place) := ⟨rfl, rfl, rfl, by decide +kernel, rfl, by decide +kernel, by decide +kernel⟩
abbrev st_asked : Stmt := topS 23
abbrev sc_N_asked : List Str := ["yard", "standing", "ask", "wants", "leaves", "place", "other"]
theorem sc_asked : FnScope sc_N_asked ["yard", "standing", "ask"] (defScope st_asked) := ⟨rfl, rfl, rfl, by decide +kernel, rfl, by decide +kernel, by decide +kernel⟩
abbrev st__law_rooms : Stmt := topS 31
abbrev sc_N__law_rooms : List Str := ["cart", "most", "lean", "found", "k"]
theorem sc__law_rooms : FnScope sc_N__law_rooms ["cart", "most"] (defScope st__law_rooms) := ⟨rfl, rfl, rfl, by decide +kernel, rfl, by decide +kernel, by decide +kernel⟩
abbrev st__law_things : Stmt := topS 32
abbrev sc_N__law_things : List Str := ["cart", "rooms", "found", "room", "some"]
theorem sc__law_things : FnScope sc_N__law_things ["cart", "rooms"] (defScope st__law_things) := ⟨rfl, rfl, rfl, by decide +kernel, rfl, by decide +kernel, by decide +kernel⟩
abbrev st__law_some : Stmt := topS 33
abbrev sc_N__law_some : List Str := ["cart", "size", "left", "many", "k"]
theorem sc__law_some : FnScope sc_N__law_some ["cart", "size"] (defScope st__law_some) := ⟨rfl, rfl, rfl, by decide +kernel, rfl, by decide +kernel, by decide +kernel⟩
abbrev st__law_due : Stmt := topS 36
abbrev sc_N__law_due : List Str := ["rooms", "lie", "asks", "spot", "ones", "twos", "k", "p"]
theorem sc__law_due : FnScope sc_N__law_due ["rooms", "lie", "asks", "spot"] (defScope st__law_due) := ⟨rfl, rfl, rfl, by decide +kernel, rfl, by decide +kernel, by decide +kernel⟩
abbrev st_are_places : Stmt := topS 14
abbrev sc_N_are_places : List Str := ["yard", "thing", "one"]
theorem sc_are_places : FnScope sc_N_are_places ["yard", "thing"] (defScope st_are_places) := ⟨rfl, rfl, rfl, by decide +kernel, rfl, by decide +kernel, by decide +kernel⟩
abbrev st_need_yard : Stmt := topS 17
abbrev sc_N_need_yard : List Str := ["yard"]
theorem sc_need_yard : FnScope sc_N_need_yard ["yard"] (defScope st_need_yard) := ⟨rfl, rfl, rfl, by decide +kernel, rfl, by decide +kernel, by decide +kernel⟩
abbrev st_distances : Stmt := topS 26
abbrev sc_N_distances : List Str := ["yard", "one", "other", "day", "found", "ask"]
theorem sc_distances : FnScope sc_N_distances ["yard", "one", "other", "day"] (defScope st_distances) := ⟨rfl, rfl, rfl, by decide +kernel, rfl, by decide +kernel, by decide +kernel⟩
abbrev st__law_asks : Stmt := topS 34
abbrev sc_N__law_asks : List Str := ["cart", "size", "most", "k"]
theorem sc__law_asks : FnScope sc_N__law_asks ["cart", "size", "most"] (defScope st__law_asks) := ⟨rfl, rfl, rfl, by decide +kernel, rfl, by decide +kernel, by decide +kernel⟩
abbrev st_is_standing : Stmt := topS 12
abbrev sc_N_is_standing : List Str := ["yard", "thing", "one", "room"]
theorem sc_is_standing : FnScope sc_N_is_standing ["yard", "thing"] (defScope st_is_standing) := ⟨rfl, rfl, rfl, by decide +kernel, rfl, by decide +kernel, by decide +kernel⟩
abbrev st_is_ask : Stmt := topS 15
abbrev sc_N_is_ask : List Str := ["yard", "thing", "some"]
theorem sc_is_ask : FnScope sc_N_is_ask ["yard", "thing"] (defScope st_is_ask) := ⟨rfl, rfl, rfl, by decide +kernel, rfl, by decide +kernel, by decide +kernel⟩
abbrev st_is_day : Stmt := topS 16
abbrev sc_N_is_day : List Str := ["yard", "thing", "one"]
theorem sc_is_day : FnScope sc_N_is_day ["yard", "thing"] (defScope st_is_day) := ⟨rfl, rfl, rfl, by decide +kernel, rfl, by decide +kernel, by decide +kernel⟩
abbrev st_need_standing : Stmt := topS 18
abbrev sc_N_need_standing : List Str := ["yard", "standing"]
theorem sc_need_standing : FnScope sc_N_need_standing ["yard", "standing"] (defScope st_need_standing) := ⟨rfl, rfl, rfl, by decide +kernel, rfl, by decide +kernel, by decide +kernel⟩
abbrev st_need_day : Stmt := topS 19
abbrev sc_N_need_day : List Str := ["yard", "day"]
theorem sc_need_day : FnScope sc_N_need_day ["yard", "day"] (defScope st_need_day) := ⟨rfl, rfl, rfl, by decide +kernel, rfl, by decide +kernel, by decide +kernel⟩
abbrev st_left_out : Stmt := topS 27
abbrev sc_N_left_out : List Str := ["yard", "standing", "day", "number", "ask", "behind"]
theorem sc_left_out : FnScope sc_N_left_out ["yard", "standing", "day", "number"] (defScope st_left_out) := ⟨rfl, rfl, rfl, by decide +kernel, rfl, by decide +kernel, by decide +kernel⟩
abbrev st__law_refused : Stmt := topS 37
abbrev sc_N__law_refused : List Str := ["rooms", "lie", "asks", "spot", "caught", "e", "alone"]
theorem sc__law_refused : FnScope sc_N__law_refused ["rooms", "lie", "asks", "spot"] (defScope st__law_refused) := ⟨rfl, rfl, rfl, by decide +kernel, rfl, by decide +kernel, by decide +kernel⟩
abbrev st_law : Stmt := topS 38
abbrev sc_N_law : List Str := ["script", "k", "cart", "rooms", "lie", "asks", "text", "spot", "odd", "due", "turn", "told"]
theorem sc_law : FnScope sc_N_law ["script"] (defScope st_law) := ⟨rfl, rfl, rfl, by decide +kernel, rfl, by decide +kernel, by decide +kernel⟩
structure Txt (K : PySem.W.Frag) (mg : Str → Option Value) where
  a_is_amount : Addr
  d_is_amount : FuncData
  F_is_amount : Fun K "is_amount" "is_amount" st_is_amount a_is_amount d_is_amount
  g_is_amount : mg "is_amount" = some (.ref a_is_amount)
  a_changed : Addr
  d_changed : FuncData
  F_changed : Fun K "changed" "changed" st_changed a_changed d_changed
  g_changed : mg "changed" = some (.ref a_changed)
  a_taken_from : Addr
  d_taken_from : FuncData
  F_taken_from : Fun K "taken_from" "taken_from" st_taken_from a_taken_from d_taken_from
  g_taken_from : mg "taken_from" = some (.ref a_taken_from)
  a_left_at : Addr
  d_left_at : FuncData
  F_left_at : Fun K "left_at" "left_at" st_left_at a_left_at d_left_at
  g_left_at : mg "left_at" = some (.ref a_left_at)
  a_apart_by : Addr
  d_apart_by : FuncData
  F_apart_by : Fun K "apart_by" "apart_by" st_apart_by a_apart_by d_apart_by
  g_apart_by : mg "apart_by" = some (.ref a_apart_by)
  a__law_cart : Addr
  d__law_cart : FuncData
  F__law_cart : Fun K "_law_cart" "_law_cart" st__law_cart a__law_cart d__law_cart
  g__law_cart : mg "_law_cart" = some (.ref a__law_cart)
  a__law_pull : Addr
  d__law_pull : FuncData
  F__law_pull : Fun K "_law_pull" "_law_pull" st__law_pull a__law_pull d__law_pull
  g__law_pull : mg "_law_pull" = some (.ref a__law_pull)
  a__law_gone : Addr
  d__law_gone : FuncData
  F__law_gone : Fun K "_law_gone" "_law_gone" st__law_gone a__law_gone d__law_gone
  g__law_gone : mg "_law_gone" = some (.ref a__law_gone)
  a_is_yard : Addr
  d_is_yard : FuncData
  F_is_yard : Fun K "is_yard" "is_yard" st_is_yard a_is_yard d_is_yard
  g_is_yard : mg "is_yard" = some (.ref a_is_yard)
  a_is_place : Addr
  d_is_place : FuncData
  F_is_place : Fun K "is_place" "is_place" st_is_place a_is_place d_is_place
  g_is_place : mg "is_place" = some (.ref a_is_place)
  a_asked : Addr
  d_asked : FuncData
  F_asked : Fun K "asked" "asked" st_asked a_asked d_asked
  g_asked : mg "asked" = some (.ref a_asked)
  a__law_rooms : Addr
  d__law_rooms : FuncData
  F__law_rooms : Fun K "_law_rooms" "_law_rooms" st__law_rooms a__law_rooms d__law_rooms
  g__law_rooms : mg "_law_rooms" = some (.ref a__law_rooms)
  a__law_things : Addr
  d__law_things : FuncData
  F__law_things : Fun K "_law_things" "_law_things" st__law_things a__law_things d__law_things
  g__law_things : mg "_law_things" = some (.ref a__law_things)
  a__law_some : Addr
  d__law_some : FuncData
  F__law_some : Fun K "_law_some" "_law_some" st__law_some a__law_some d__law_some
  g__law_some : mg "_law_some" = some (.ref a__law_some)
  a__law_due : Addr
  d__law_due : FuncData
  F__law_due : Fun K "_law_due" "_law_due" st__law_due a__law_due d__law_due
  g__law_due : mg "_law_due" = some (.ref a__law_due)
  a_are_places : Addr
  d_are_places : FuncData
  F_are_places : Fun K "are_places" "are_places" st_are_places a_are_places d_are_places
  g_are_places : mg "are_places" = some (.ref a_are_places)
  a_need_yard : Addr
  d_need_yard : FuncData
  F_need_yard : Fun K "need_yard" "need_yard" st_need_yard a_need_yard d_need_yard
  g_need_yard : mg "need_yard" = some (.ref a_need_yard)
  a_distances : Addr
  d_distances : FuncData
  F_distances : Fun K "distances" "distances" st_distances a_distances d_distances
  g_distances : mg "distances" = some (.ref a_distances)
  a__law_asks : Addr
  d__law_asks : FuncData
  F__law_asks : Fun K "_law_asks" "_law_asks" st__law_asks a__law_asks d__law_asks
  g__law_asks : mg "_law_asks" = some (.ref a__law_asks)
  a_is_standing : Addr
  d_is_standing : FuncData
  F_is_standing : Fun K "is_standing" "is_standing" st_is_standing a_is_standing d_is_standing
  g_is_standing : mg "is_standing" = some (.ref a_is_standing)
  a_is_ask : Addr
  d_is_ask : FuncData
  F_is_ask : Fun K "is_ask" "is_ask" st_is_ask a_is_ask d_is_ask
  g_is_ask : mg "is_ask" = some (.ref a_is_ask)
  a_is_day : Addr
  d_is_day : FuncData
  F_is_day : Fun K "is_day" "is_day" st_is_day a_is_day d_is_day
  g_is_day : mg "is_day" = some (.ref a_is_day)
  a_need_standing : Addr
  d_need_standing : FuncData
  F_need_standing : Fun K "need_standing" "need_standing" st_need_standing a_need_standing d_need_standing
  g_need_standing : mg "need_standing" = some (.ref a_need_standing)
  a_need_day : Addr
  d_need_day : FuncData
  F_need_day : Fun K "need_day" "need_day" st_need_day a_need_day d_need_day
  g_need_day : mg "need_day" = some (.ref a_need_day)
  a_left_out : Addr
  d_left_out : FuncData
  F_left_out : Fun K "left_out" "left_out" st_left_out a_left_out d_left_out
  g_left_out : mg "left_out" = some (.ref a_left_out)
  a__law_refused : Addr
  d__law_refused : FuncData
  F__law_refused : Fun K "_law_refused" "_law_refused" st__law_refused a__law_refused d__law_refused
  g__law_refused : mg "_law_refused" = some (.ref a__law_refused)
  a_law : Addr
  d_law : FuncData
  F_law : Fun K "law" "law" st_law a_law d_law
  g_law : mg "law" = some (.ref a_law)
  k_MOST_PLACES : (t : Tok) ×' mg "MOST_PLACES" = some (.int 9 t)
  e_NoAsk : Addr
  mg_NoAsk : mg "NoAsk" = some (.ref e_NoAsk)
  E_NoAsk : ExK K "NoAsk" e_NoAsk
  S_NoAsk : PySem.W.subIn K (.ref e_NoAsk) (.ref e_NoAsk) = some true
  X_NoAsk : PySem.W.excIn K e_NoAsk veMro "ValueError.__new__" = true
  e_NoYard : Addr
  mg_NoYard : mg "NoYard" = some (.ref e_NoYard)
  E_NoYard : ExK K "NoYard" e_NoYard
  S_NoYard : PySem.W.subIn K (.ref e_NoYard) (.ref e_NoYard) = some true
  e_NoStanding : Addr
  mg_NoStanding : mg "NoStanding" = some (.ref e_NoStanding)
  E_NoStanding : ExK K "NoStanding" e_NoStanding
  S_NoStanding : PySem.W.subIn K (.ref e_NoStanding) (.ref e_NoStanding) = some true
  e_NoPlace : Addr
  mg_NoPlace : mg "NoPlace" = some (.ref e_NoPlace)
  E_NoPlace : ExK K "NoPlace" e_NoPlace
  S_NoPlace : PySem.W.subIn K (.ref e_NoPlace) (.ref e_NoPlace) = some true
  e_NoNumber : Addr
  mg_NoNumber : mg "NoNumber" = some (.ref e_NoNumber)
  E_NoNumber : ExK K "NoNumber" e_NoNumber
  S_NoNumber : PySem.W.subIn K (.ref e_NoNumber) (.ref e_NoNumber) = some true
  e_NoDay : Addr
  mg_NoDay : mg "NoDay" = some (.ref e_NoDay)
  E_NoDay : ExK K "NoDay" e_NoDay
  S_NoDay : PySem.W.subIn K (.ref e_NoDay) (.ref e_NoDay) = some true
  e_YardError : Addr
  mg_YardError : mg "YardError" = some (.ref e_YardError)
  E_YardError : ExK K "YardError" e_YardError
  S_YardError : PySem.W.subIn K (.ref e_YardError) (.ref e_YardError) = some true
  P_NoAsk_NoAsk : PySem.W.subIn K (.ref e_NoAsk) (.ref e_NoAsk) = some true
  P_NoAsk_NoYard : PySem.W.subIn K (.ref e_NoAsk) (.ref e_NoYard) = some false
  P_NoAsk_NoStanding : PySem.W.subIn K (.ref e_NoAsk) (.ref e_NoStanding) = some false
  P_NoAsk_NoPlace : PySem.W.subIn K (.ref e_NoAsk) (.ref e_NoPlace) = some false
  P_NoAsk_NoNumber : PySem.W.subIn K (.ref e_NoAsk) (.ref e_NoNumber) = some false
  P_NoAsk_NoDay : PySem.W.subIn K (.ref e_NoAsk) (.ref e_NoDay) = some false
  P_NoAsk_YardError : PySem.W.subIn K (.ref e_NoAsk) (.ref e_YardError) = some true
  z_abs : mg "abs" = none
  z_all : mg "all" = none
  z_bool : mg "bool" = none
  z_int : mg "int" = none
  z_isinstance : mg "isinstance" = none
  z_len : mg "len" = none
  z_list : mg "list" = none
  z_max : mg "max" = none
  z_min : mg "min" = none
  z_range : mg "range" = none
  z_repr : mg "repr" = none
  z_set : mg "set" = none
  z_sorted : mg "sorted" = none
  z_sum : mg "sum" = none
  z_tuple : mg "tuple" = none
  z_zip : mg "zip" = none
section
variable {P : Program} {w : World} {K : PySem.W.Frag} {mg : Str → Option Value} {base : Heap}
theorem b_is_amount (T : Txt K mg) : Binds K T.d_is_amount ["thing"] [] := T.F_is_amount.binds fun _ _ _ _ _ _ us hl => match us, hl with | [_], _ => rfl
set_option maxHeartbeats 4000000 in
theorem G_is_amount (T : Txt K mg) : GFn P w K mg base CX0 1 T.a_is_amount T.d_is_amount ["thing"] (spG K (fun _ _ _ => False) 1 (ofP m_is_amount)) :=
  g_pure (m := 0) (F := f_is_amount) T.F_is_amount sc_is_amount rfl fun np cdv A outer s H E hnp hr hgd => by
    have hgd : (cxOf CX0 P w K mg base sc_N_is_amount "is_amount" (defScope st_is_amount) T.a_is_amount cdv A outer s H E).nox.A.guards = some [] := hgd
    obtain ⟨nn, pa⟩ := np
    have hnp : nn = 1 := hnp
    subst hnp
    exact (dss_one (ds_ret (de_at .an (de_and (de_isi ok_int (by rfl) T.z_isinstance (by rfl) T.z_int (by decide +kernel) (de_nm 0)) (de_and (de_not (de_isi ok_bool (by rfl) T.z_isinstance (by rfl) T.z_bool (by decide +kernel) (de_nm 0))) (de_one (de_ge (de_nm 0) de_int)))))))
theorem b_changed (T : Txt K mg) : Binds K T.d_changed ["standing", "place", "by"] [] := T.F_changed.binds fun _ _ _ _ _ _ us hl => match us, hl with | [_, _, _], _ => rfl
set_option maxHeartbeats 4000000 in
theorem G_changed (T : Txt K mg) : GFn P w K mg base CX0 1 T.a_changed T.d_changed ["standing", "place", "by"] (spG K (fun _ _ _ => False) 3 (ofP m_changed)) :=
  g_pure (m := 0) (F := f_changed) T.F_changed sc_changed rfl fun np cdv A outer s H E hnp hr hgd => by
    have hgd : (cxOf CX0 P w K mg base sc_N_changed "changed" (defScope st_changed) T.a_changed cdv A outer s H E).nox.A.guards = some [] := hgd
    obtain ⟨nn, pa⟩ := np
    have hnp : nn = 3 := hnp
    subst hnp
    exact (dss_one (ds_ret (de_add (de_add (de_sl (de_nm 0) do_none (do_some (de_nm 1))) (de_tup (da_cons (de_add (de_ix (de_nm 0) (de_nm 1)) (de_nm 2)) da_nil))) (de_sl (de_nm 0) (do_some (de_at .an (de_add (de_nm 1) de_int))) do_none))))
theorem b_taken_from (T : Txt K mg) : Binds K T.d_taken_from ["standing", "wants"] [] := T.F_taken_from.binds fun _ _ _ _ _ _ us hl => match us, hl with | [_, _], _ => rfl
set_option maxHeartbeats 4000000 in
theorem G_taken_from (T : Txt K mg) : GFn P w K mg base CX0 1 T.a_taken_from T.d_taken_from ["standing", "wants"] (spG K (fun _ _ _ => False) 2 (ofP m_taken_from)) :=
  g_pure (m := 1) (F := f_taken_from) T.F_taken_from sc_taken_from rfl fun np cdv A outer s H E hnp hr hgd => by
    have hgd : (cxOf CX0 P w K mg base sc_N_taken_from "taken_from" (defScope st_taken_from) T.a_taken_from cdv A outer s H E).nox.A.guards = some [] := hgd
    obtain ⟨nn, pa⟩ := np
    have hnp : nn = 2 := hnp
    subst hnp
    exact (dss_cons (ds_for .bo PassesOwn.never rfl (di_seq (de_nm 1)) (dg_name sc_taken_from.nd rfl (by first | exact Or.inl rfl | exact Or.inr rfl)) (dss_one (ds_if .an (dt_gt (de_ix (de_nm 0) (de_nm 2)) de_int) (dss_one (ds_ret (de_nm 2))) dss_nil)))
    (dss_one (ds_ret de_non)))
theorem b_left_at (T : Txt K mg) : Binds K T.d_left_at ["yard", "standing", "leaves"] [] := T.F_left_at.binds fun _ _ _ _ _ _ us hl => match us, hl with | [_, _, _], _ => rfl
set_option maxHeartbeats 4000000 in
theorem G_left_at (T : Txt K mg) : GFn P w K mg base CX0 1 T.a_left_at T.d_left_at ["yard", "standing", "leaves"] (spG K (fun _ _ _ => False) 3 (ofP m_left_at)) :=
  g_pure (m := 1) (F := f_left_at) T.F_left_at sc_left_at rfl fun np cdv A outer s H E hnp hr hgd => by
    have hgd : (cxOf CX0 P w K mg base sc_N_left_at "left_at" (defScope st_left_at) T.a_left_at cdv A outer s H E).nox.A.guards = some [] := hgd
    obtain ⟨nn, pa⟩ := np
    have hnp : nn = 3 := hnp
    subst hnp
    exact (dss_cons (ds_for .bo PassesOwn.never rfl (di_seq (de_nm 2)) (dg_name sc_left_at.nd rfl (by first | exact Or.inl rfl | exact Or.inr rfl)) (dss_one (ds_if .an (DW.t (dw_or (dt_is (de_ix (de_nm 0) (de_nm 3)) de_non) (dw_or1 (dt_lt (de_ix (de_nm 1) (de_nm 3)) (de_ix (de_nm 0) (de_nm 3)))))) (dss_one (ds_ret (de_nm 3))) dss_nil)))
    (dss_one (ds_ret de_non)))
theorem b_apart_by (T : Txt K mg) : Binds K T.d_apart_by ["one", "other"] [] := T.F_apart_by.binds fun _ _ _ _ _ _ us hl => match us, hl with | [_, _], _ => rfl
set_option maxHeartbeats 4000000 in
theorem G_apart_by (T : Txt K mg) : GFn P w K mg base CX0 1 T.a_apart_by T.d_apart_by ["one", "other"] (spG K (fun _ _ _ => False) 2 (ofP m_apart_by)) :=
  g_pure (m := 2) (F := f_apart_by) T.F_apart_by sc_apart_by rfl fun np cdv A outer s H E hnp hr hgd => by
    have hgd : (cxOf CX0 P w K mg base sc_N_apart_by "apart_by" (defScope st_apart_by) T.a_apart_by cdv A outer s H E).nox.A.guards = some [] := hgd
    obtain ⟨nn, pa⟩ := np
    have hnp : nn = 2 := hnp
    subst hnp
    exact (dss_one (ds_ret (de_at .an (de_callB (cr_sumA rfl) cs_sumA (by rfl) T.z_sum (by decide +kernel) (da_cons (DN.de (dn_lc (own := [("here", 2), ("there", 3)]) .bp rfl sc_apart_by.nd (di_zip (by rfl) T.z_zip (da_cons (de_nm 0) (da_cons (de_nm 1) da_nil))) (blkOk_by (own := [("here", 2), ("there", 3)]) (N := sc_N_apart_by) (sc := defScope st_apart_by) (by decide +kernel)) (by decide) (off_tup (off_cons (off_nm 2) (off_cons (off_nm 3) off_nil))) (fun _ _ _ _ _ => (dg_tup rfl (dgs_cons (dg_name sc_apart_by.nd rfl (by first | exact Or.inl rfl | exact Or.inr rfl)) (dgs_cons (dg_name sc_apart_by.nd rfl (by first | exact Or.inl rfl | exact Or.inr rfl)) dgs_nil)))) (fun _ _ _ _ _ => dts_nil) (fun _ _ _ _ _ => (de_callB call_abs cs_abs (by rfl) T.z_abs (by decide +kernel) (da_cons (de_sub (de_nm 2) (de_nm 3)) da_nil))))) da_nil)))))
theorem b__law_cart (T : Txt K mg) : Binds K T.d__law_cart ["script", "k"] [] := T.F__law_cart.binds fun _ _ _ _ _ _ us hl => match us, hl with | [_, _], _ => rfl
set_option maxHeartbeats 4000000 in
theorem G__law_cart (T : Txt K mg) : GFn P w K mg base CX0 1 T.a__law_cart T.d__law_cart ["script", "k"] (spG K (fun _ _ _ => False) 2 (ofSc c__law_cart)) :=
  g_sc (m := 1) (F := f__law_cart) T.F__law_cart sc__law_cart rfl fun np cdv A outer s H E hnp hr hgd => by
    have hgd : (cxOf CX0 P w K mg base sc_N__law_cart "_law_cart" (defScope st__law_cart) T.a__law_cart cdv A outer s H E).nox.A.guards = some [] := hgd
    obtain ⟨nn, pa⟩ := np
    have hnp : nn = 2 := hnp
    subst hnp
    exact (dss_cons (ds_va sc__law_cart.nd rfl (by first | exact Or.inl rfl | exact Or.inr rfl) de_int)
    (dss_cons (ds_if .an (dt_lt (de_nm 1) (de_slen 0 (by rfl) T.z_len (pv 0))) (dss_one (ds_va sc__law_cart.nd rfl (by first | exact Or.inl rfl | exact Or.inr rfl) (de_six 0 (pv 0) (de_nm 1)))) dss_nil)
    (dss_one (ds_ret (de_lst (da_cons (de_at .an (de_callB (call_maxA rfl) cs_max (by rfl) T.z_max (by decide +kernel) (da_cons de_int (da_cons (de_sub (de_callB call_abs cs_abs (by rfl) T.z_abs (by decide +kernel) (da_cons (de_nm 2) da_nil)) (de_pow de_int de_int)) da_nil)))) (da_cons (de_at .an (de_add (de_mod (de_nm 2) (de_add (de_pow de_int de_int) de_int)) (de_mul de_int (de_nm 1)))) (da_cons de_int da_nil))))))))
theorem b__law_pull (T : Txt K mg) : Binds K T.d__law_pull ["cart", "wide"] [] := T.F__law_pull.binds fun _ _ _ _ _ _ us hl => match us, hl with | [_, _], _ => rfl
set_option maxHeartbeats 4000000 in
theorem G__law_pull (T : Txt K mg) : GFn P w K mg base CX0 1 T.a__law_pull T.d__law_pull ["cart", "wide"] (spG K (fun _ _ _ => False) 2 (ofO1 o__law_pull)) :=
  g_own (m := 2) (F := f__law_pull) T.F__law_pull sc__law_pull rfl fun np cdv A outer s H E hnp hr hgd => by
    have hgd : (cxOf CX0 P w K mg base sc_N__law_pull "_law_pull" (defScope st__law_pull) T.a__law_pull cdv A outer s H E).nox.A.guards = some [] := hgd
    obtain ⟨nn, pa⟩ := np
    have hnp : nn = 2 := hnp
    subst hnp
    exact (dss_cons (ds_if .an (dt_gt (de_ix (de_nm 0) de_int) de_int) (dss_cons (ds_va sc__law_pull.nd rfl (by first | exact Or.inl rfl | exact Or.inr rfl) (de_at .an (de_mod (de_ix (de_nm 0) de_int) (de_nm 1))))
    (dss_cons (ds_sub 0 (pv 0) (de_at .an (de_div (de_ix (de_nm 0) de_int) (de_nm 1))) de_int)
    (dss_one (ds_ret (de_nm 2))))) dss_nil)
    (dss_cons (ds_sub 0 (pv 0) (de_at .an (de_add (de_ix (de_nm 0) de_int) de_int)) de_int)
    (dss_cons (ds_va sc__law_pull.nd rfl (by first | exact Or.inl rfl | exact Or.inr rfl) (de_at .an (de_mod (de_pow (de_add (de_ix (de_nm 0) de_int) (de_mul de_int (de_ix (de_nm 0) de_int))) de_int) (de_add (de_pow de_int de_int) de_int))))
    (dss_cons (ds_va sc__law_pull.nd rfl (by first | exact Or.inl rfl | exact Or.inr rfl) (de_at .an (de_mod (de_pow (de_add (de_nm 3) (de_mul de_int (de_ix (de_nm 0) de_int))) de_int) (de_add (de_pow de_int de_int) de_int))))
    (dss_one (ds_ret (de_at .an (de_mod (de_div (de_nm 3) de_int) (de_nm 1)))))))))
theorem b__law_gone (T : Txt K mg) : Binds K T.d__law_gone ["rooms", "lie", "asks"] [] := T.F__law_gone.binds fun _ _ _ _ _ _ us hl => match us, hl with | [_, _, _], _ => rfl
set_option maxHeartbeats 4000000 in
theorem G__law_gone (T : Txt K mg) : GFn P w K mg base CX0 1 T.a__law_gone T.d__law_gone ["rooms", "lie", "asks"] (spG K (fun _ _ _ => False) 3 (ofP m__law_gone)) :=
  g_pure (m := 9) (F := f__law_gone) T.F__law_gone sc__law_gone rfl fun np cdv A outer s H E hnp hr hgd => by
    have hgd : (cxOf CX0 P w K mg base sc_N__law_gone "_law_gone" (defScope st__law_gone) T.a__law_gone cdv A outer s H E).nox.A.guards = some [] := hgd
    obtain ⟨nn, pa⟩ := np
    have hnp : nn = 3 := hnp
    subst hnp
    exact (dss_cons (ds_ow sc__law_gone.nd rfl (by first | exact Or.inl rfl | exact Or.inr rfl) (dn_list (by rfl) T.z_list (by decide +kernel) (de_nm 1)))
    (dss_cons (ds_ow sc__law_gone.nd rfl (by first | exact Or.inl rfl | exact Or.inr rfl) (dn_lst da_nil))
    (dss_cons (ds_ow sc__law_gone.nd rfl (by first | exact Or.inl rfl | exact Or.inr rfl) (dn_lst (da_cons (de_at .an (de_callTy call_tupX cs_tuple (by rfl) T.z_tuple (by decide +kernel) (da_cons (de_nm 3) da_nil))) da_nil)))
    (dss_cons (ds_for .bo PassesOwn.never rfl (di_seq (de_nm 2)) (dg_tup rfl (dgs_cons (dg_name sc__law_gone.nd rfl (by first | exact Or.inl rfl | exact Or.inr rfl)) (dgs_cons (dg_name sc__law_gone.nd rfl (by first | exact Or.inl rfl | exact Or.inr rfl)) dgs_nil))) (dss_cons (ds_asg_of (ps_setLc (i := 8) (own := [("place", 11)]) rfl sc__law_gone.nd rfl rfl (sw_true rfl rfl rfl (by decide +kernel)) (di_seq (de_nm 6)) (blkOk_by (own := [("place", 11)]) (N := sc_N__law_gone) (sc := defScope st__law_gone) (by decide +kernel)) (fun _ _ _ _ _ => (dg_name sc__law_gone.nd rfl (by first | exact Or.inl rfl | exact Or.inr rfl))) (fun _ _ _ _ _ => by exact (dts_one (dt_at .an (dt_ne hr (de_ix (de_nm 3) (de_nm 11)) de_int)))) (fun _ _ _ _ _ => by exact (de_nm 11))) (fun σ H Q h => (lc_main (by decide) (off_nm 11) (tN_lv h))))
    (dss_cons (ds_va sc__law_gone.nd rfl (by first | exact Or.inl rfl | exact Or.inr rfl) de_non)
    (dss_cons (ds_if .an (dt_ne hr (de_nm 8) (de_lst da_nil)) (dss_cons (ds_sub 3 (pv 3) (de_at .an (de_sub (de_ix (de_nm 3) (de_ix (de_nm 8) de_int)) de_int)) (de_ix (de_nm 8) de_int))
    (dss_cons (ds_asg_of (ps_setLc (i := 10) (own := [("place", 11)]) rfl sc__law_gone.nd rfl rfl (sw_true rfl rfl rfl (by decide +kernel)) (di_seq (de_nm 7)) (blkOk_by (own := [("place", 11)]) (N := sc_N__law_gone) (sc := defScope st__law_gone) (by decide +kernel)) (fun _ _ _ _ _ => (dg_name sc__law_gone.nd rfl (by first | exact Or.inl rfl | exact Or.inr rfl))) (fun _ _ _ _ _ => by exact (dts_one (dt_at .an (DW.t (dw_or (dt_is (de_ix (de_nm 0) (de_nm 11)) de_non) (dw_or1 (dt_ne hr (de_ix (de_nm 3) (de_nm 11)) (de_ix (de_nm 0) (de_nm 11))))))))) (fun _ _ _ _ _ => by exact (de_nm 11))) (fun σ H Q h => (lc_main (by decide) (off_nm 11) (tN_lv h))))
    (dss_cons (ds_va sc__law_gone.nd rfl (by first | exact Or.inl rfl | exact Or.inr rfl) (de_tup (da_cons (de_ix (de_nm 8) de_int) (da_cons (de_ix (de_add (de_nm 10) (de_lst (da_cons de_non da_nil))) de_int) da_nil))))
    (dss_one (ds_if .an (dt_ne hr (de_nm 10) (de_lst da_nil)) (dss_one (ds_sub 3 (pv 3) (de_at .an (de_add (de_ix (de_nm 3) (de_ix (de_nm 10) de_int)) de_int)) (de_ix (de_nm 10) de_int))) dss_nil))))) dss_nil)
    (dss_cons (ds_append 4 (pv 4) (de_nm 9) (hpe := fun h => pe_bm PySem.F.plainAttrs_list PySem.F.slot_list_append PySem.F.type_list_append mt_append (pv 4) (pa_cons h pa_nil)))
    (dss_one (ds_append 5 (pv 5) (de_at .an (de_callTy call_tupX cs_tuple (by rfl) T.z_tuple (by decide +kernel) (da_cons (de_nm 3) da_nil))) (hpe := fun h => pe_bm PySem.F.plainAttrs_list PySem.F.slot_list_append PySem.F.type_list_append mt_append (pv 5) (pa_cons h pa_nil)))))))))
    (dss_one (ds_ret (de_tup (da_cons (de_nm 4) (da_cons (de_nm 5) da_nil)))))))))
theorem b_is_yard (T : Txt K mg) : Binds K T.d_is_yard ["thing"] [] := T.F_is_yard.binds fun _ _ _ _ _ _ us hl => match us, hl with | [_], _ => rfl
set_option maxHeartbeats 4000000 in
theorem G_is_yard (T : Txt K mg) : GFn P w K mg base CX0 2 T.a_is_yard T.d_is_yard ["thing"] (spG K (fun _ _ _ => False) 1 (ofP m_is_yard)) :=
  g_pure (m := 1) (F := f_is_yard) T.F_is_yard sc_is_yard rfl fun np cdv A outer s H E hnp hr hgd => by
    have hgd : (cxOf CX0 P w K mg base sc_N_is_yard "is_yard" (defScope st_is_yard) T.a_is_yard cdv A outer s H E).nox.A.guards = some [] := hgd
    obtain ⟨nn, pa⟩ := np
    have hnp : nn = 1 := hnp
    subst hnp
    exact (dss_cons (ds_if .an (DW.t (dw_or (dt_not (dt_val (de_isi ok_tuple (by rfl) T.z_isinstance (by rfl) T.z_tuple (by decide +kernel) (de_nm 0)))) (dw_or1 (dt_not (dt_chain op_le os_B2 op_le os_B2 de_int (de_callB call_len cs_len (by rfl) T.z_len (by decide +kernel) (da_cons (de_nm 0) da_nil)) (de_glob (v := .int 9) (by rfl) T.k_MOST_PLACES.2 ⟨_, rfl⟩ fun _ _ => .int _)))))) (dss_one (ds_ret de_bl)) dss_nil)
    (dss_one (ds_ret (de_at .an (de_callB (cr_all rfl) cs_all (by rfl) T.z_all (by decide +kernel) (da_cons (DN.de (dn_lc (own := [("room", 1)]) .bp rfl sc_is_yard.nd (di_seq (de_nm 0)) (blkOk_by (own := [("room", 1)]) (N := sc_N_is_yard) (sc := defScope st_is_yard) (by decide +kernel)) (by decide) (off_nm 1) (fun _ _ _ _ _ => (dg_name sc_is_yard.nd rfl (by first | exact Or.inl rfl | exact Or.inr rfl))) (fun _ _ _ _ _ => dts_nil) (fun _ _ _ _ _ => (de_or (de_is (de_nm 1) de_non) (de_one (de_call .an (G_is_amount T) (hr.mono (by decide)) hgd (by rfl) T.g_is_amount T.F_is_amount.kp (b_is_amount T) pass0 (fun _ _ z => z) (da_cons (de_nm 1) da_nil))))))) da_nil))))))
theorem b_is_place (T : Txt K mg) : Binds K T.d_is_place ["yard", "thing"] [] := T.F_is_place.binds fun _ _ _ _ _ _ us hl => match us, hl with | [_, _], _ => rfl
set_option maxHeartbeats 4000000 in
theorem G_is_place (T : Txt K mg) : GFn P w K mg base CX0 2 T.a_is_place T.d_is_place ["yard", "thing"] (spG K (fun _ _ _ => False) 2 (ofP m_is_place)) :=
  g_pure (m := 0) (F := f_is_place) T.F_is_place sc_is_place rfl fun np cdv A outer s H E hnp hr hgd => by
    have hgd : (cxOf CX0 P w K mg base sc_N_is_place "is_place" (defScope st_is_place) T.a_is_place cdv A outer s H E).nox.A.guards = some [] := hgd
    obtain ⟨nn, pa⟩ := np
    have hnp : nn = 2 := hnp
    subst hnp
    exact (dss_one (ds_ret (de_at .an (de_and (de_call .an (G_is_amount T) (hr.mono (by decide)) hgd (by rfl) T.g_is_amount T.F_is_amount.kp (b_is_amount T) pass0 (fun _ _ z => z) (da_cons (de_nm 1) da_nil)) (de_one (de_lt (de_nm 1) (de_callB call_len cs_len (by rfl) T.z_len (by decide +kernel) (da_cons (de_nm 0) da_nil))))))))
theorem b_asked (T : Txt K mg) : Binds K T.d_asked ["yard", "standing", "ask"] [] := T.F_asked.binds fun _ _ _ _ _ _ us hl => match us, hl with | [_, _, _], _ => rfl
set_option maxHeartbeats 4000000 in
theorem G_asked (T : Txt K mg) : GFn P w K mg base CX0 2 T.a_asked T.d_asked ["yard", "standing", "ask"] (spG K (fun _ _ _ => False) 3 (ofP m_asked)) :=
  g_pure (m := 4) (F := f_asked) T.F_asked sc_asked rfl fun np cdv A outer s H E hnp hr hgd => by
    have hgd : (cxOf CX0 P w K mg base sc_N_asked "asked" (defScope st_asked) T.a_asked cdv A outer s H E).nox.A.guards = some [] := hgd
    obtain ⟨nn, pa⟩ := np
    have hnp : nn = 3 := hnp
    subst hnp
    exact (dss_cons (ds_tg .va (de_nm 2) (dg_tup rfl (dgs_cons (dg_name sc_asked.nd rfl (by first | exact Or.inl rfl | exact Or.inr rfl)) (dgs_cons (dg_name sc_asked.nd rfl (by first | exact Or.inl rfl | exact Or.inr rfl)) dgs_nil))))
    (dss_cons (ds_va sc_asked.nd rfl (by first | exact Or.inl rfl | exact Or.inr rfl) (de_call .an (G_taken_from T) (hr.mono (by decide)) hgd (by rfl) T.g_taken_from T.F_taken_from.kp (b_taken_from T) pass0 (fun _ _ z => z) (da_cons (de_nm 1) (da_cons (de_nm 3) da_nil))))
    (dss_cons (ds_if .an (dt_is (de_nm 5) de_non) (dss_one (ds_ret (de_tup (da_cons de_non (da_cons (de_nm 1) da_nil))))) dss_nil)
    (dss_cons (ds_va sc_asked.nd rfl (by first | exact Or.inl rfl | exact Or.inr rfl) (de_call .an (G_changed T) (hr.mono (by decide)) hgd (by rfl) T.g_changed T.F_changed.kp (b_changed T) pass0 (fun _ _ z => z) (da_cons (de_nm 1) (da_cons (de_nm 5) (da_cons (de_neg de_int) da_nil)))))
    (dss_cons (ds_va sc_asked.nd rfl (by first | exact Or.inl rfl | exact Or.inr rfl) (de_call .an (G_left_at T) (hr.mono (by decide)) hgd (by rfl) T.g_left_at T.F_left_at.kp (b_left_at T) pass0 (fun _ _ z => z) (da_cons (de_nm 0) (da_cons (de_nm 1) (da_cons (de_nm 4) da_nil)))))
    (dss_one (ds_ret (de_tup (da_cons (de_tup (da_cons (de_nm 5) (da_cons (de_nm 6) da_nil))) (da_cons (de_if (dt_at .an (dt_is (de_nm 6) de_non)) (de_nm 1) (de_call .an (G_changed T) (hr.mono (by decide)) hgd (by rfl) T.g_changed T.F_changed.kp (b_changed T) pass0 (fun _ _ z => z) (da_cons (de_nm 1) (da_cons (de_nm 6) (da_cons de_int da_nil))))) da_nil))))))))))
theorem b__law_rooms (T : Txt K mg) : Binds K T.d__law_rooms ["cart", "most"] [] := T.F__law_rooms.binds fun _ _ _ _ _ _ us hl => match us, hl with | [_, _], _ => rfl
set_option maxHeartbeats 4000000 in
theorem G__law_rooms (T : Txt K mg) : GFn P w K mg base CX0 2 T.a__law_rooms T.d__law_rooms ["cart", "most"] (spG K (fun _ _ _ => False) 2 (ofO1 o__law_rooms)) :=
  g_own (m := 3) (F := f__law_rooms) T.F__law_rooms sc__law_rooms rfl fun np cdv A outer s H E hnp hr hgd => by
    have hgd : (cxOf CX0 P w K mg base sc_N__law_rooms "_law_rooms" (defScope st__law_rooms) T.a__law_rooms cdv A outer s H E).nox.A.guards = some [] := hgd
    obtain ⟨nn, pa⟩ := np
    have hnp : nn = 2 := hnp
    subst hnp
    exact (dss_cons (ds_va sc__law_rooms.nd rfl (by first | exact Or.inl rfl | exact Or.inr rfl) (de_callO (G__law_pull T) (hr.mono (by decide)) hgd (by rfl) T.g__law_pull T.F__law_pull.kp (b__law_pull T) pass0 (fun _ _ z => z) (pv 0) (da_cons de_int da_nil)))
    (dss_cons (ds_ow sc__law_rooms.nd rfl (by first | exact Or.inl rfl | exact Or.inr rfl) (dn_lst da_nil))
    (dss_cons (ds_for .bo PassesOwn.never rfl (di_range1 (by rfl) T.z_range (da_cons (de_add de_int (de_callO (G__law_pull T) (hr.mono (by decide)) hgd (by rfl) T.g__law_pull T.F__law_pull.kp (b__law_pull T) pass0 (fun _ _ z => z) (pv 0) (da_cons (de_nm 1) da_nil))) da_nil)) (dg_name sc__law_rooms.nd rfl (by first | exact Or.inl rfl | exact Or.inr rfl)) (dss_one (ds_append 3 (pv 3) (de_ix (de_lst (da_cons de_non (da_cons (de_callO (G__law_pull T) (hr.mono (by decide)) hgd (by rfl) T.g__law_pull T.F__law_pull.kp (b__law_pull T) pass0 (fun _ _ z => z) (pv 0) (da_cons de_int da_nil)) (da_cons (de_callO (G__law_pull T) (hr.mono (by decide)) hgd (by rfl) T.g__law_pull T.F__law_pull.kp (b__law_pull T) pass0 (fun _ _ z => z) (pv 0) (da_cons (de_at .an (de_pow de_int de_int)) da_nil)) da_nil)))) (de_callO (G__law_pull T) (hr.mono (by decide)) hgd (by rfl) T.g__law_pull T.F__law_pull.kp (b__law_pull T) pass0 (fun _ _ z => z) (pv 0) (da_cons (de_at .an (de_add de_int (de_nm 2))) da_nil))) (hpe := fun h => pe_bm PySem.F.plainAttrs_list PySem.F.slot_list_append PySem.F.type_list_append mt_append (pv 3) (pa_cons h pa_nil)))))
    (dss_one (ds_ret (de_callTy call_tupX cs_tuple (by rfl) T.z_tuple (by decide +kernel) (da_cons (de_nm 3) da_nil)))))))
theorem b__law_things (T : Txt K mg) : Binds K T.d__law_things ["cart", "rooms"] [] := T.F__law_things.binds fun _ _ _ _ _ _ us hl => match us, hl with | [_, _], _ => rfl
set_option maxHeartbeats 4000000 in
theorem G__law_things (T : Txt K mg) : GFn P w K mg base CX0 2 T.a__law_things T.d__law_things ["cart", "rooms"] (spG K (fun _ _ _ => False) 2 (ofO1 o__law_things)) :=
  g_own (m := 3) (F := f__law_things) T.F__law_things sc__law_things rfl fun np cdv A outer s H E hnp hr hgd => by
    have hgd : (cxOf CX0 P w K mg base sc_N__law_things "_law_things" (defScope st__law_things) T.a__law_things cdv A outer s H E).nox.A.guards = some [] := hgd
    obtain ⟨nn, pa⟩ := np
    have hnp : nn = 2 := hnp
    subst hnp
    exact (dss_cons (ds_ow sc__law_things.nd rfl (by first | exact Or.inl rfl | exact Or.inr rfl) (dn_lst da_nil))
    (dss_cons (ds_for .bo PassesOwn.never rfl (di_seq (de_nm 1)) (dg_name sc__law_things.nd rfl (by first | exact Or.inl rfl | exact Or.inr rfl)) (dss_cons (ds_va sc__law_things.nd rfl (by first | exact Or.inl rfl | exact Or.inr rfl) (de_ix (de_lst (da_cons de_int (da_cons de_int (da_cons de_int (da_cons (de_callO (G__law_pull T) (hr.mono (by decide)) hgd (by rfl) T.g__law_pull T.F__law_pull.kp (b__law_pull T) pass0 (fun _ _ z => z) (pv 0) (da_cons de_int da_nil)) (da_cons (de_callO (G__law_pull T) (hr.mono (by decide)) hgd (by rfl) T.g__law_pull T.F__law_pull.kp (b__law_pull T) pass0 (fun _ _ z => z) (pv 0) (da_cons (de_at .an (de_pow de_int de_int)) da_nil)) da_nil)))))) (de_callO (G__law_pull T) (hr.mono (by decide)) hgd (by rfl) T.g__law_pull T.F__law_pull.kp (b__law_pull T) pass0 (fun _ _ z => z) (pv 0) (da_cons de_int da_nil))))
    (dss_cons (ds_if .an (dt_isnot (de_nm 3) de_non) (dss_one (ds_va sc__law_things.nd rfl (by first | exact Or.inl rfl | exact Or.inr rfl) (de_ix (de_lst (da_cons (de_at .an (de_callB (call_minA rfl) cs_min (by rfl) T.z_min (by decide +kernel) (da_cons (de_nm 4) (da_cons (de_nm 3) da_nil)))) (da_cons (de_nm 3) da_nil))) (de_div (de_callO (G__law_pull T) (hr.mono (by decide)) hgd (by rfl) T.g__law_pull T.F__law_pull.kp (b__law_pull T) pass0 (fun _ _ z => z) (pv 0) (da_cons de_int da_nil)) de_int)))) dss_nil)
    (dss_one (ds_append 2 (pv 2) (de_nm 4) (hpe := fun h => pe_bm PySem.F.plainAttrs_list PySem.F.slot_list_append PySem.F.type_list_append mt_append (pv 2) (pa_cons h pa_nil)))))))
    (dss_one (ds_ret (de_callTy call_tupX cs_tuple (by rfl) T.z_tuple (by decide +kernel) (da_cons (de_nm 2) da_nil))))))
theorem b__law_some (T : Txt K mg) : Binds K T.d__law_some ["cart", "size"] [] := T.F__law_some.binds fun _ _ _ _ _ _ us hl => match us, hl with | [_, _], _ => rfl
set_option maxHeartbeats 4000000 in
theorem G__law_some (T : Txt K mg) : GFn P w K mg base CX0 2 T.a__law_some T.d__law_some ["cart", "size"] (spG K (fun _ _ _ => False) 2 (ofO1 o__law_some)) :=
  g_own (m := 3) (F := f__law_some) T.F__law_some sc__law_some rfl fun np cdv A outer s H E hnp hr hgd => by
    have hgd : (cxOf CX0 P w K mg base sc_N__law_some "_law_some" (defScope st__law_some) T.a__law_some cdv A outer s H E).nox.A.guards = some [] := hgd
    obtain ⟨nn, pa⟩ := np
    have hnp : nn = 2 := hnp
    subst hnp
    exact (dss_cons (ds_ow sc__law_some.nd rfl (by first | exact Or.inl rfl | exact Or.inr rfl) (dn_lrng rfl (by rfl) T.z_list (by rfl) T.z_range (de_nm 1)))
    (dss_cons (ds_va sc__law_some.nd rfl (by first | exact Or.inl rfl | exact Or.inr rfl) (de_callO (G__law_pull T) (hr.mono (by decide)) hgd (by rfl) T.g__law_pull T.F__law_pull.kp (b__law_pull T) pass0 (fun _ _ z => z) (pv 0) (da_cons (de_add de_int (de_ix (de_lst (da_cons (de_at .an (de_callB (call_minA rfl) cs_min (by rfl) T.z_min (by decide +kernel) (da_cons de_int (da_cons (de_nm 1) da_nil)))) (da_cons (de_nm 1) da_nil))) (de_div (de_callO (G__law_pull T) (hr.mono (by decide)) hgd (by rfl) T.g__law_pull T.F__law_pull.kp (b__law_pull T) pass0 (fun _ _ z => z) (pv 0) (da_cons de_int da_nil)) de_int))) da_nil)))
    (dss_one (ds_rete (de_callTy call_tupX cs_tuple (by rfl) T.z_tuple (by decide +kernel) (da_cons (DN.de (dn_lc (own := [("k", 4)]) .bo rfl sc__law_some.nd (di_range1 (by rfl) T.z_range (da_cons (de_nm 3) da_nil)) (blkOk_by (own := [("k", 4)]) (N := sc_N__law_some) (sc := defScope st__law_some) (by decide +kernel)) (by decide) (off_nm 4) (fun _ _ _ _ _ => (dg_name sc__law_some.nd rfl (by first | exact Or.inl rfl | exact Or.inr rfl))) (fun _ _ _ _ _ => dts_nil) (fun _ _ _ _ _ => (by exact de_pop 2 (pv 2) (de_callO (G__law_pull T) (hr.mono (by decide)) hgd (by rfl) T.g__law_pull T.F__law_pull.kp (b__law_pull T) pass0 (fun _ _ z => z) (pv 0) (da_cons (de_at .an (de_callB call_len cs_len (by rfl) T.z_len (by decide +kernel) (da_cons (de_nm 2) da_nil))) da_nil)) fun h => pe_bm PySem.F.plainAttrs_list PySem.F.slot_list_pop PySem.F.type_list_pop mt_popAt (pv 2) (pa_cons h pa_nil))))) da_nil))))))
theorem b__law_due (T : Txt K mg) : Binds K T.d__law_due ["rooms", "lie", "asks", "spot"] [] := T.F__law_due.binds fun _ _ _ _ _ _ us hl => match us, hl with | [_, _, _, _], _ => rfl
set_option maxHeartbeats 4000000 in
theorem G__law_due (T : Txt K mg) : GFn P w K mg base CX0 2 T.a__law_due T.d__law_due ["rooms", "lie", "asks", "spot"] (spG K (fun _ _ _ => False) 4 (ofP m__law_due)) :=
  g_pure (m := 4) (F := f__law_due) T.F__law_due sc__law_due rfl fun np cdv A outer s H E hnp hr hgd => by
    have hgd : (cxOf CX0 P w K mg base sc_N__law_due "_law_due" (defScope st__law_due) T.a__law_due cdv A outer s H E).nox.A.guards = some [] := hgd
    obtain ⟨nn, pa⟩ := np
    have hnp : nn = 4 := hnp
    subst hnp
    exact (dss_cons (ds_va sc__law_due.nd rfl (by first | exact Or.inl rfl | exact Or.inr rfl) (de_ix (de_call .an (G__law_gone T) (hr.mono (by decide)) hgd (by rfl) T.g__law_gone T.F__law_gone.kp (b__law_gone T) pass0 (fun _ _ z => z) (da_cons (de_nm 0) (da_cons (de_nm 1) (da_cons (de_nm 2) da_nil)))) de_int))
    (dss_cons (ds_va sc__law_due.nd rfl (by first | exact Or.inl rfl | exact Or.inr rfl) (de_ix (de_call .an (G__law_gone T) (hr.mono (by decide)) hgd (by rfl) T.g__law_gone T.F__law_gone.kp (b__law_gone T) pass0 (fun _ _ z => z) (da_cons (de_nm 0) (da_cons (de_nm 1) (da_cons (de_add (de_sl (de_nm 2) do_none (do_some (de_nm 3))) (de_sl (de_nm 2) (do_some (de_add (de_nm 3) de_int)) do_none)) da_nil)))) de_int))
    (dss_cons (ds_va sc__law_due.nd rfl (by first | exact Or.inl rfl | exact Or.inr rfl) (de_add (de_sl (de_nm 5) do_none (do_some (de_at .an (de_add (de_nm 3) de_int)))) (de_sl (de_nm 5) (do_some (de_nm 3)) do_none)))
    (dss_one (ds_ret (DN.de (dn_lc (own := [("k", 6)]) .bp rfl sc__law_due.nd (di_range1 (by rfl) T.z_range (da_cons (de_at .an (de_callB call_len cs_len (by rfl) T.z_len (by decide +kernel) (da_cons (de_nm 4) da_nil))) da_nil)) (blkOk_by (own := [("k", 6)]) (N := sc_N__law_due) (sc := defScope st__law_due) (by decide +kernel)) (by decide) (off_nm 6) (fun _ _ _ _ _ => (dg_name sc__law_due.nd rfl (by first | exact Or.inl rfl | exact Or.inr rfl))) (fun _ _ _ _ _ => dts_nil) (fun _ _ _ _ _ => (de_at .an (de_callB (cr_sumA rfl) cs_sumA (by rfl) T.z_sum (by decide +kernel) (da_cons (DN.de (dn_lc (own := [("p", 7)]) .bp rfl sc__law_due.nd (di_range1 (by rfl) T.z_range (da_cons (de_at .an (de_callB call_len cs_len (by rfl) T.z_len (by decide +kernel) (da_cons (de_nm 0) da_nil))) da_nil)) (blkOk_by (own := [("p", 7)]) (by first | decide +kernel | rfl)) (by decide) (off_nm 7) (fun _ _ _ _ _ => (dg_name sc__law_due.nd rfl (by first | exact Or.inl rfl | exact Or.inr rfl))) (fun _ _ _ _ _ => dts_nil) (fun _ _ _ _ _ => (de_callB call_abs cs_abs (by rfl) T.z_abs (by decide +kernel) (da_cons (de_sub (de_ix (de_ix (de_nm 4) (de_nm 6)) (de_nm 7)) (de_ix (de_ix (de_nm 5) (de_nm 6)) (de_nm 7))) da_nil))))) da_nil)))))))))))
theorem b_are_places (T : Txt K mg) : Binds K T.d_are_places ["yard", "thing"] [] := T.F_are_places.binds fun _ _ _ _ _ _ us hl => match us, hl with | [_, _], _ => rfl
set_option maxHeartbeats 4000000 in
theorem G_are_places (T : Txt K mg) : GFn P w K mg base CX0 3 T.a_are_places T.d_are_places ["yard", "thing"] (spG K (fun _ _ _ => False) 2 (ofP m_are_places)) :=
  g_pure (m := 1) (F := f_are_places) T.F_are_places sc_are_places rfl fun np cdv A outer s H E hnp hr hgd => by
    have hgd : (cxOf CX0 P w K mg base sc_N_are_places "are_places" (defScope st_are_places) T.a_are_places cdv A outer s H E).nox.A.guards = some [] := hgd
    obtain ⟨nn, pa⟩ := np
    have hnp : nn = 2 := hnp
    subst hnp
    exact (dss_cons (ds_if .an (DW.t (dw_or (dt_not (dt_val (de_isi ok_tuple (by rfl) T.z_isinstance (by rfl) T.z_tuple (by decide +kernel) (de_nm 1)))) (dw_or1 (dt_not (dt_val (de_callB (cr_all rfl) cs_all (by rfl) T.z_all (by decide +kernel) (da_cons (DN.de (dn_lc (own := [("one", 2)]) .bp rfl sc_are_places.nd (di_seq (de_nm 1)) (blkOk_by (own := [("one", 2)]) (N := sc_N_are_places) (sc := defScope st_are_places) (by decide +kernel)) (by decide) (off_nm 2) (fun _ _ _ _ _ => (dg_name sc_are_places.nd rfl (by first | exact Or.inl rfl | exact Or.inr rfl))) (fun _ _ _ _ _ => dts_nil) (fun _ _ _ _ _ => (de_call .an (G_is_place T) (hr.mono (by decide)) hgd (by rfl) T.g_is_place T.F_is_place.kp (b_is_place T) pass0 (fun _ _ z => z) (da_cons (de_nm 0) (da_cons (de_nm 2) da_nil)))))) da_nil))))))) (dss_one (ds_ret de_bl)) dss_nil)
    (dss_one (ds_ret (de_at .an (de_eq hr (de_lset (by rfl) T.z_len (by rfl) T.z_set (de_nm 1)) (de_callB call_len cs_len (by rfl) T.z_len (by decide +kernel) (da_cons (de_nm 1) da_nil)))))))
theorem b_need_yard (T : Txt K mg) : Binds K T.d_need_yard ["yard"] [] := T.F_need_yard.binds fun _ _ _ _ _ _ us hl => match us, hl with | [_], _ => rfl
set_option maxHeartbeats 4000000 in
theorem G_need_yard (T : Txt K mg) : GFn P w K mg base CX0 3 T.a_need_yard T.d_need_yard ["yard"] (spG K (fun _ _ _ => False) 1 (ofP m_need_yard)) :=
  g_pure (m := 0) (F := f_need_yard) T.F_need_yard sc_need_yard rfl fun np cdv A outer s H E hnp hr hgd => by
    have hgd : (cxOf CX0 P w K mg base sc_N_need_yard "need_yard" (defScope st_need_yard) T.a_need_yard cdv A outer s H E).nox.A.guards = some [] := hgd
    obtain ⟨nn, pa⟩ := np
    have hnp : nn = 1 := hnp
    subst hnp
    exact (dss_one (ds_if .an (dt_not (dt_val (de_call .an (G_is_yard T) (hr.mono (by decide)) hgd (by rfl) T.g_is_yard T.F_is_yard.kp (b_is_yard T) pass0 (fun _ _ z => z) (da_cons (de_nm 0) da_nil)))) (dss_one ds_never) dss_nil))
theorem b_distances (T : Txt K mg) : Binds K T.d_distances ["yard", "one", "other", "day"] [] := T.F_distances.binds fun _ _ _ _ _ _ us hl => match us, hl with | [_, _, _, _], _ => rfl
set_option maxHeartbeats 4000000 in
theorem G_distances (T : Txt K mg) : GFn P w K mg base CX0 3 T.a_distances T.d_distances ["yard", "one", "other", "day"] (spG K (fun _ _ _ => False) 4 (ofP m_distances)) :=
  g_pure (m := 2) (F := f_distances) T.F_distances sc_distances rfl fun np cdv A outer s H E hnp hr hgd => by
    have hgd : (cxOf CX0 P w K mg base sc_N_distances "distances" (defScope st_distances) T.a_distances cdv A outer s H E).nox.A.guards = some [] := hgd
    obtain ⟨nn, pa⟩ := np
    have hnp : nn = 4 := hnp
    subst hnp
    exact (dss_cons (ds_ow sc_distances.nd rfl (by first | exact Or.inl rfl | exact Or.inr rfl) (dn_lst (da_cons (de_call .an (G_apart_by T) (hr.mono (by decide)) hgd (by rfl) T.g_apart_by T.F_apart_by.kp (b_apart_by T) pass0 (fun _ _ z => z) (da_cons (de_nm 1) (da_cons (de_nm 2) da_nil))) da_nil)))
    (dss_cons (ds_for .bo PassesOwn.never rfl (di_seq (de_nm 3)) (dg_name sc_distances.nd rfl (by first | exact Or.inl rfl | exact Or.inr rfl)) (dss_cons (ds_va sc_distances.nd rfl (by first | exact Or.inl rfl | exact Or.inr rfl) (de_ix (de_call .an (G_asked T) (hr.mono (by decide)) hgd (by rfl) T.g_asked T.F_asked.kp (b_asked T) pass0 (fun _ _ z => z) (da_cons (de_nm 0) (da_cons (de_nm 1) (da_cons (de_nm 5) da_nil)))) de_int))
    (dss_cons (ds_va sc_distances.nd rfl (by first | exact Or.inl rfl | exact Or.inr rfl) (de_ix (de_call .an (G_asked T) (hr.mono (by decide)) hgd (by rfl) T.g_asked T.F_asked.kp (b_asked T) pass0 (fun _ _ z => z) (da_cons (de_nm 0) (da_cons (de_nm 2) (da_cons (de_nm 5) da_nil)))) de_int))
    (dss_one (ds_append 4 (pv 4) (de_call .an (G_apart_by T) (hr.mono (by decide)) hgd (by rfl) T.g_apart_by T.F_apart_by.kp (b_apart_by T) pass0 (fun _ _ z => z) (da_cons (de_nm 1) (da_cons (de_nm 2) da_nil))) (hpe := fun h => pe_bm PySem.F.plainAttrs_list PySem.F.slot_list_append PySem.F.type_list_append mt_append (pv 4) (pa_cons h pa_nil)))))))
    (dss_one (ds_ret (de_nm 4)))))
theorem b__law_asks (T : Txt K mg) : Binds K T.d__law_asks ["cart", "size", "most"] [] := T.F__law_asks.binds fun _ _ _ _ _ _ us hl => match us, hl with | [_, _, _], _ => rfl
set_option maxHeartbeats 4000000 in
theorem G__law_asks (T : Txt K mg) : GFn P w K mg base CX0 3 T.a__law_asks T.d__law_asks ["cart", "size", "most"] (spG K (fun _ _ _ => False) 3 (ofO1 o__law_asks)) :=
  g_own (m := 1) (F := f__law_asks) T.F__law_asks sc__law_asks rfl fun np cdv A outer s H E hnp hr hgd => by
    have hgd : (cxOf CX0 P w K mg base sc_N__law_asks "_law_asks" (defScope st__law_asks) T.a__law_asks cdv A outer s H E).nox.A.guards = some [] := hgd
    obtain ⟨nn, pa⟩ := np
    have hnp : nn = 3 := hnp
    subst hnp
    exact (dss_one (ds_rete (DN.de (dn_lc (own := [("k", 3)]) .bo rfl sc__law_asks.nd (di_range1 (by rfl) T.z_range (da_cons (de_callO (G__law_pull T) (hr.mono (by decide)) hgd (by rfl) T.g__law_pull T.F__law_pull.kp (b__law_pull T) pass0 (fun _ _ z => z) (pv 0) (da_cons (de_at .an (de_add (de_nm 2) de_int)) da_nil)) da_nil)) (blkOk_by (own := [("k", 3)]) (N := sc_N__law_asks) (sc := defScope st__law_asks) (by decide +kernel)) (by decide) (off_nm 3) (fun _ _ _ _ _ => (dg_name sc__law_asks.nd rfl (by first | exact Or.inl rfl | exact Or.inr rfl))) (fun _ _ _ _ _ => dts_nil) (fun _ _ _ _ _ => (de_tup (da_cons (de_callO (G__law_some T) (hr.mono (by decide)) hgd (by rfl) T.g__law_some T.F__law_some.kp (b__law_some T) pass0 (fun _ _ z => z) (pv 0) (da_cons (de_nm 1) da_nil)) (da_cons (de_callO (G__law_some T) (hr.mono (by decide)) hgd (by rfl) T.g__law_some T.F__law_some.kp (b__law_some T) pass0 (fun _ _ z => z) (pv 0) (da_cons (de_nm 1) da_nil)) da_nil))))))))
theorem b_is_standing (T : Txt K mg) : Binds K T.d_is_standing ["yard", "thing"] [] := T.F_is_standing.binds fun _ _ _ _ _ _ us hl => match us, hl with | [_, _], _ => rfl
set_option maxHeartbeats 4000000 in
theorem G_is_standing (T : Txt K mg) : GFn P w K mg base CX0 4 T.a_is_standing T.d_is_standing ["yard", "thing"] (spG K (fun _ _ _ => False) 2 (ofP m_is_standing)) :=
  g_pure (m := 2) (F := f_is_standing) T.F_is_standing sc_is_standing rfl fun np cdv A outer s H E hnp hr hgd => by
    have hgd : (cxOf CX0 P w K mg base sc_N_is_standing "is_standing" (defScope st_is_standing) T.a_is_standing cdv A outer s H E).nox.A.guards = some [] := hgd
    obtain ⟨nn, pa⟩ := np
    have hnp : nn = 2 := hnp
    subst hnp
    exact (dss_cons (ds_expr .an (de_call .an (G_need_yard T) (hr.mono (by decide)) hgd (by rfl) T.g_need_yard T.F_need_yard.kp (b_need_yard T) pass0 (fun _ _ z => z) (da_cons (de_nm 0) da_nil)))
    (dss_cons (ds_if .an (DW.t (dw_or (dt_not (dt_val (de_isi ok_tuple (by rfl) T.z_isinstance (by rfl) T.z_tuple (by decide +kernel) (de_nm 1)))) (dw_or (dt_ne hr (de_callB call_len cs_len (by rfl) T.z_len (by decide +kernel) (da_cons (de_nm 1) da_nil)) (de_callB call_len cs_len (by rfl) T.z_len (by decide +kernel) (da_cons (de_nm 0) da_nil))) (dw_or1 (dt_not (dt_val (de_callB (cr_all rfl) cs_all (by rfl) T.z_all (by decide +kernel) (da_cons (DN.de (dn_lc (own := [("one", 2)]) .bp rfl sc_is_standing.nd (di_seq (de_nm 1)) (blkOk_by (own := [("one", 2)]) (N := sc_N_is_standing) (sc := defScope st_is_standing) (by decide +kernel)) (by decide) (off_nm 2) (fun _ _ _ _ _ => (dg_name sc_is_standing.nd rfl (by first | exact Or.inl rfl | exact Or.inr rfl))) (fun _ _ _ _ _ => dts_nil) (fun _ _ _ _ _ => (de_call .an (G_is_amount T) (hr.mono (by decide)) hgd (by rfl) T.g_is_amount T.F_is_amount.kp (b_is_amount T) pass0 (fun _ _ z => z) (da_cons (de_nm 2) da_nil))))) da_nil)))))))) (dss_one (ds_ret de_bl)) dss_nil)
    (dss_one (ds_ret (de_at .an (de_callB (cr_all rfl) cs_all (by rfl) T.z_all (by decide +kernel) (da_cons (DN.de (dn_lc (own := [("one", 2), ("room", 3)]) .bp rfl sc_is_standing.nd (di_zip (by rfl) T.z_zip (da_cons (de_nm 1) (da_cons (de_nm 0) da_nil))) (blkOk_by (own := [("one", 2), ("room", 3)]) (N := sc_N_is_standing) (sc := defScope st_is_standing) (by decide +kernel)) (by decide) (off_tup (off_cons (off_nm 2) (off_cons (off_nm 3) off_nil))) (fun _ _ _ _ _ => (dg_tup rfl (dgs_cons (dg_name sc_is_standing.nd rfl (by first | exact Or.inl rfl | exact Or.inr rfl)) (dgs_cons (dg_name sc_is_standing.nd rfl (by first | exact Or.inl rfl | exact Or.inr rfl)) dgs_nil)))) (fun _ _ _ _ _ => dts_nil) (fun _ _ _ _ _ => (de_or (de_is (de_nm 3) de_non) (de_one (de_le (de_nm 2) (de_nm 3))))))) da_nil)))))))
theorem b_is_ask (T : Txt K mg) : Binds K T.d_is_ask ["yard", "thing"] [] := T.F_is_ask.binds fun _ _ _ _ _ _ us hl => match us, hl with | [_, _], _ => rfl
set_option maxHeartbeats 4000000 in
theorem G_is_ask (T : Txt K mg) : GFn P w K mg base CX0 4 T.a_is_ask T.d_is_ask ["yard", "thing"] (spG K (fun _ _ _ => False) 2 (ofP m_is_ask)) :=
  g_pure (m := 1) (F := f_is_ask) T.F_is_ask sc_is_ask rfl fun np cdv A outer s H E hnp hr hgd => by
    have hgd : (cxOf CX0 P w K mg base sc_N_is_ask "is_ask" (defScope st_is_ask) T.a_is_ask cdv A outer s H E).nox.A.guards = some [] := hgd
    obtain ⟨nn, pa⟩ := np
    have hnp : nn = 2 := hnp
    subst hnp
    exact (dss_one (ds_ret (de_at .an (de_and (de_isi ok_tuple (by rfl) T.z_isinstance (by rfl) T.z_tuple (by decide +kernel) (de_nm 1)) (de_and (de_eq hr (de_callB call_len cs_len (by rfl) T.z_len (by decide +kernel) (da_cons (de_nm 1) da_nil)) de_int) (de_one (de_callB (cr_all rfl) cs_all (by rfl) T.z_all (by decide +kernel) (da_cons (DN.de (dn_lc (own := [("some", 2)]) .bp rfl sc_is_ask.nd (di_seq (de_nm 1)) (blkOk_by (own := [("some", 2)]) (N := sc_N_is_ask) (sc := defScope st_is_ask) (by decide +kernel)) (by decide) (off_nm 2) (fun _ _ _ _ _ => (dg_name sc_is_ask.nd rfl (by first | exact Or.inl rfl | exact Or.inr rfl))) (fun _ _ _ _ _ => dts_nil) (fun _ _ _ _ _ => (de_call .an (G_are_places T) (hr.mono (by decide)) hgd (by rfl) T.g_are_places T.F_are_places.kp (b_are_places T) pass0 (fun _ _ z => z) (da_cons (de_nm 0) (da_cons (de_nm 2) da_nil)))))) da_nil))))))))
theorem b_is_day (T : Txt K mg) : Binds K T.d_is_day ["yard", "thing"] [] := T.F_is_day.binds fun _ _ _ _ _ _ us hl => match us, hl with | [_, _], _ => rfl
set_option maxHeartbeats 4000000 in
theorem G_is_day (T : Txt K mg) : GFn P w K mg base CX0 5 T.a_is_day T.d_is_day ["yard", "thing"] (spG K (fun _ _ _ => False) 2 (ofP m_is_day)) :=
  g_pure (m := 1) (F := f_is_day) T.F_is_day sc_is_day rfl fun np cdv A outer s H E hnp hr hgd => by
    have hgd : (cxOf CX0 P w K mg base sc_N_is_day "is_day" (defScope st_is_day) T.a_is_day cdv A outer s H E).nox.A.guards = some [] := hgd
    obtain ⟨nn, pa⟩ := np
    have hnp : nn = 2 := hnp
    subst hnp
    exact (dss_cons (ds_expr .an (de_call .an (G_need_yard T) (hr.mono (by decide)) hgd (by rfl) T.g_need_yard T.F_need_yard.kp (b_need_yard T) pass0 (fun _ _ z => z) (da_cons (de_nm 0) da_nil)))
    (dss_one (ds_ret (de_at .an (de_and (de_isi ok_list (by rfl) T.z_isinstance (by rfl) T.z_list (by decide +kernel) (de_nm 1)) (de_one (de_callB (cr_all rfl) cs_all (by rfl) T.z_all (by decide +kernel) (da_cons (DN.de (dn_lc (own := [("one", 2)]) .bp rfl sc_is_day.nd (di_seq (de_nm 1)) (blkOk_by (own := [("one", 2)]) (N := sc_N_is_day) (sc := defScope st_is_day) (by decide +kernel)) (by decide) (off_nm 2) (fun _ _ _ _ _ => (dg_name sc_is_day.nd rfl (by first | exact Or.inl rfl | exact Or.inr rfl))) (fun _ _ _ _ _ => dts_nil) (fun _ _ _ _ _ => (de_call .an (G_is_ask T) (hr.mono (by decide)) hgd (by rfl) T.g_is_ask T.F_is_ask.kp (b_is_ask T) pass0 (fun _ _ z => z) (da_cons (de_nm 0) (da_cons (de_nm 2) da_nil)))))) da_nil))))))))
theorem b_need_standing (T : Txt K mg) : Binds K T.d_need_standing ["yard", "standing"] [] := T.F_need_standing.binds fun _ _ _ _ _ _ us hl => match us, hl with | [_, _], _ => rfl
set_option maxHeartbeats 4000000 in
theorem G_need_standing (T : Txt K mg) : GFn P w K mg base CX0 5 T.a_need_standing T.d_need_standing ["yard", "standing"] (spG K (fun _ _ _ => False) 2 (ofP m_need_standing)) :=
  g_pure (m := 0) (F := f_need_standing) T.F_need_standing sc_need_standing rfl fun np cdv A outer s H E hnp hr hgd => by
    have hgd : (cxOf CX0 P w K mg base sc_N_need_standing "need_standing" (defScope st_need_standing) T.a_need_standing cdv A outer s H E).nox.A.guards = some [] := hgd
    obtain ⟨nn, pa⟩ := np
    have hnp : nn = 2 := hnp
    subst hnp
    exact (dss_one (ds_if .an (dt_not (dt_val (de_call .an (G_is_standing T) (hr.mono (by decide)) hgd (by rfl) T.g_is_standing T.F_is_standing.kp (b_is_standing T) pass0 (fun _ _ z => z) (da_cons (de_nm 0) (da_cons (de_nm 1) da_nil))))) (dss_one ds_never) dss_nil))
theorem b_need_day (T : Txt K mg) : Binds K T.d_need_day ["yard", "day"] [] := T.F_need_day.binds fun _ _ _ _ _ _ us hl => match us, hl with | [_, _], _ => rfl
set_option maxHeartbeats 4000000 in
theorem G_need_day (T : Txt K mg) : GFn P w K mg base CX0 6 T.a_need_day T.d_need_day ["yard", "day"] (spG K (fun _ _ _ => False) 2 (ofP m_need_day)) :=
  g_pure (m := 0) (F := f_need_day) T.F_need_day sc_need_day rfl fun np cdv A outer s H E hnp hr hgd => by
    have hgd : (cxOf CX0 P w K mg base sc_N_need_day "need_day" (defScope st_need_day) T.a_need_day cdv A outer s H E).nox.A.guards = some [] := hgd
    obtain ⟨nn, pa⟩ := np
    have hnp : nn = 2 := hnp
    subst hnp
    exact (dss_one (ds_if .an (dt_not (dt_val (de_call .an (G_is_day T) (hr.mono (by decide)) hgd (by rfl) T.g_is_day T.F_is_day.kp (b_is_day T) pass0 (fun _ _ z => z) (da_cons (de_nm 0) (da_cons (de_nm 1) da_nil))))) (dss_one ds_never) dss_nil))
theorem b_left_out (T : Txt K mg) : Binds K T.d_left_out ["yard", "standing", "day", "number"] [] := T.F_left_out.binds fun _ _ _ _ _ _ us hl => match us, hl with | [_, _, _, _], _ => rfl
set_option maxHeartbeats 4000000 in
theorem G_left_out (T : Txt K mg) : GFn P w K mg base (L2.CX P w) 7 T.a_left_out T.d_left_out ["yard", "standing", "day", "number"] (spG K (xoX K) 4 (ofP m_left_out)) :=
  g_pureX (m := 2) (F := f_left_out) T.F_left_out sc_left_out rfl fun np cdv A outer s H E hnp hr hgd => by
    have hgd : (cxOf (L2.CX P w) P w K mg base sc_N_left_out "left_out" (defScope st_left_out) T.a_left_out cdv A outer s H E).A.guards = some [] := hgd
    obtain ⟨nn, pa⟩ := np
    have hnp : nn = 4 := hnp
    subst hnp
    exact (dss_cons (ds_expr .an (de_call .an ((G_need_yard T).nx (xo' := fun _ _ _ => True)) (hr.mono (by decide)) hgd (by rfl) T.g_need_yard T.F_need_yard.kp (b_need_yard T) pass0 (fun _ _ _ => trivial) (da_cons (de_nm 0) da_nil)))
    (dss_cons (ds_expr .an (de_call .an ((G_need_standing T).nx (xo' := fun _ _ _ => True)) (hr.mono (by decide)) hgd (by rfl) T.g_need_standing T.F_need_standing.kp (b_need_standing T) pass0 (fun _ _ _ => trivial) (da_cons (de_nm 0) (da_cons (de_nm 1) da_nil))))
    (dss_cons (ds_expr .an (de_call .an ((G_need_day T).nx (xo' := fun _ _ _ => True)) (hr.mono (by decide)) hgd (by rfl) T.g_need_day T.F_need_day.kp (b_need_day T) pass0 (fun _ _ _ => trivial) (da_cons (de_nm 0) (da_cons (de_nm 2) da_nil))))
    (dss_cons (ds_if .an (DW.t (dw_or (dt_not (dt_val (de_call .an ((G_is_amount T).nx (xo' := fun _ _ _ => True)) (hr.mono (by decide)) hgd (by rfl) T.g_is_amount T.F_is_amount.kp (b_is_amount T) pass0 (fun _ _ _ => trivial) (da_cons (de_nm 3) da_nil)))) (dw_or1 (dt_ge (de_nm 3) (de_callB call_len cs_len (by rfl) T.z_len (by decide +kernel) (da_cons (de_nm 2) da_nil)))))) (dss_one (ds_raise T.E_NoAsk T.X_NoAsk T.mg_NoAsk (by rfl) rfl (takes_of rfl rfl rfl rfl))) dss_nil)
    (dss_cons (ds_for .bo (passes_of rfl) rfl (di_seq (de_sl (de_nm 2) do_none (do_some (de_nm 3)))) (dg_name sc_left_out.nd rfl (by first | exact Or.inl rfl | exact Or.inr rfl)) (dss_one (ds_va sc_left_out.nd rfl (by first | exact Or.inl rfl | exact Or.inr rfl) (de_ix (de_call .an ((G_asked T).nx (xo' := fun _ _ _ => True)) (hr.mono (by decide)) hgd (by rfl) T.g_asked T.F_asked.kp (b_asked T) pass0 (fun _ _ _ => trivial) (da_cons (de_nm 0) (da_cons (de_nm 1) (da_cons (de_nm 4) da_nil)))) de_int))))
    (dss_cons (ds_va sc_left_out.nd rfl (by first | exact Or.inl rfl | exact Or.inr rfl) (de_ix (de_call .an ((G_asked T).nx (xo' := fun _ _ _ => True)) (hr.mono (by decide)) hgd (by rfl) T.g_asked T.F_asked.kp (b_asked T) pass0 (fun _ _ _ => trivial) (da_cons (de_nm 0) (da_cons (de_nm 1) (da_cons (de_ix (de_nm 2) (de_nm 3)) da_nil)))) de_int))
    (dss_one (ds_ret (DN.de (dn_add (de_mul (de_lst (da_cons de_int da_nil)) (de_add (de_nm 3) de_int)) (de_call .an ((G_distances T).nx (xo' := fun _ _ _ => True)) (hr.mono (by decide)) hgd (by rfl) T.g_distances T.F_distances.kp (b_distances T) pass0 (fun _ _ _ => trivial) (da_cons (de_nm 0) (da_cons (de_nm 5) (da_cons (de_nm 1) (da_cons (de_sl (de_nm 2) (do_some (de_add (de_nm 3) de_int)) do_none) da_nil)))))))))))))))
theorem b__law_refused (T : Txt K mg) : Binds K T.d__law_refused ["rooms", "lie", "asks", "spot"] [] := T.F__law_refused.binds fun _ _ _ _ _ _ us hl => match us, hl with | [_, _, _, _], _ => rfl
set_option maxHeartbeats 4000000 in
theorem G__law_refused (T : Txt K mg) : GFn P w K mg base CX0 8 T.a__law_refused T.d__law_refused ["rooms", "lie", "asks", "spot"] (spG K (fun _ _ _ => False) 4 (ofP m__law_refused)) :=
  g_pure (m := 3) (F := f__law_refused) T.F__law_refused sc__law_refused rfl fun np cdv A outer s H E hnp hr hgd => by
    have hgd : (cxOf CX0 P w K mg base sc_N__law_refused "_law_refused" (defScope st__law_refused) T.a__law_refused cdv A outer s H E).nox.A.guards = some [] := hgd
    obtain ⟨nn, pa⟩ := np
    have hnp : nn = 4 := hnp
    subst hnp
    exact (dss_cons (ds_va sc__law_refused.nd rfl (by first | exact Or.inl rfl | exact Or.inr rfl) de_non)
    (dss_cons (ds_try rfl rfl rfl sc__law_refused.nd rfl (by rfl) rfl (by first | exact Or.inl rfl | exact Or.inr rfl) T.E_NoAsk.ns (PySem.W.exm_ref T.E_YardError.bs T.E_YardError.ex.hd T.E_YardError.ty T.P_NoAsk_YardError) (by rfl) T.mg_YardError (try_call (j := 4) (dds := []) (G_left_out T) (hr.mono (by decide)) hgd (by rfl) T.g_left_out T.F_left_out.kp (b_left_out T) .nil (fun _ _ => .nil) rfl (fun _ _ => (da_cons (de_nm 0) (da_cons (de_nm 1) (da_cons (de_nm 2) (da_cons (de_nm 3) da_nil)))))) (by first | exact Or.inl rfl | exact Or.inr rfl) (by first | exact .inl rfl | exact .inr rfl))
    (dss_cons (ds_va sc__law_refused.nd rfl (by first | exact Or.inl rfl | exact Or.inr rfl) (de_at .an (de_not (de_isxT (pv 4) (by rfl) T.z_isinstance (pav_cons (by rfl) T.mg_NoDay (pav_cons (by rfl) T.mg_NoNumber (pav_cons (by rfl) T.mg_NoPlace (pav_cons (by rfl) T.mg_NoStanding (pav_cons (by rfl) T.mg_NoYard pav_nil))))) (.cons (.own _) (.cons (.own _) (.cons (.own _) (.cons (.own _) (.cons (.own _) .nil))))) (Nat.le_of_ble_eq_true rfl) T.E_NoAsk.ns T.E_NoAsk.ex (kitAny_cons (kit_no T.P_NoAsk_NoDay T.S_NoDay T.E_NoDay.ex.hd T.E_NoDay.ty) (fun _ => (kitAny_cons (kit_no T.P_NoAsk_NoNumber T.S_NoNumber T.E_NoNumber.ex.hd T.E_NoNumber.ty) (fun _ => (kitAny_cons (kit_no T.P_NoAsk_NoPlace T.S_NoPlace T.E_NoPlace.ex.hd T.E_NoPlace.ty) (fun _ => (kitAny_cons (kit_no T.P_NoAsk_NoStanding T.S_NoStanding T.E_NoStanding.ex.hd T.E_NoStanding.ty) (fun _ => (kitAny_cons (kit_no T.P_NoAsk_NoYard T.S_NoYard T.E_NoYard.ex.hd T.E_NoYard.ty) (fun _ => kitAny_nil) (fun z => Bool.noConfusion z))) (fun z => Bool.noConfusion z))) (fun z => Bool.noConfusion z))) (fun z => Bool.noConfusion z))) (fun z => Bool.noConfusion z))))))
    (dss_one (ds_ret (de_at .an (de_and (de_isx (pv 4) (by rfl) T.z_isinstance (by rfl) T.mg_NoAsk T.E_NoAsk.ns T.E_NoAsk.ex (kit_yes T.P_NoAsk_NoAsk T.E_NoAsk.ex.hd T.E_NoAsk.ty)) (de_one (de_nm 6)))))))))
theorem b_law (T : Txt K mg) : Binds K T.d_law ["script"] [] := T.F_law.binds fun _ _ _ _ _ _ us hl => match us, hl with | [_], _ => rfl
set_option maxHeartbeats 4000000 in
theorem G_law (T : Txt K mg) : GFn P w K mg base CX0 9 T.a_law T.d_law ["script"] (spG K (fun _ _ _ => False) 1 (bodyF 11 f_law)) :=
  g_fn (m := 11) (F := f_law) T.F_law sc_law rfl fun np cdv A outer s H E hnp hr hgd => by
    have hgd : (cxOf CX0 P w K mg base sc_N_law "law" (defScope st_law) T.a_law cdv A outer s H E).nox.A.guards = some [] := hgd
    obtain ⟨nn, pa⟩ := np
    have hnp : nn = 1 := hnp
    subst hnp
    exact (dss_cons (ds_for .bo PassesOwn.never rfl (di_range1 (by rfl) T.z_range (da_cons (de_at .an (de_callB (call_maxA rfl) cs_max (by rfl) T.z_max (by decide +kernel) (da_cons de_int (da_cons (de_callB (call_minA rfl) cs_min (by rfl) T.z_min (by decide +kernel) (da_cons de_int (da_cons (de_slen 0 (by rfl) T.z_len (pv 0)) da_nil))) da_nil)))) da_nil)) (dg_name sc_law.nd rfl (by first | exact Or.inl rfl | exact Or.inr rfl)) (dss_cons (ds_uo 2 (ds_un sc_law.nd rfl (by first | exact Or.inl rfl | exact Or.inr rfl) (de_callSc (G__law_cart T) (hr.mono (by decide)) hgd (by rfl) T.g__law_cart T.F__law_cart.kp (b__law_cart T) pass0 (fun _ _ z => z) (pv 0) (da_cons (de_nm 1) da_nil))))
    (dss_cons (ds_va sc_law.nd rfl (by first | exact Or.inl rfl | exact Or.inr rfl) (de_callO (G__law_rooms T) (hr.mono (by decide)) hgd (by rfl) T.g__law_rooms T.F__law_rooms.kp (b__law_rooms T) pass0 (fun _ _ z => z) (pv 2) (da_cons (de_ix (de_lst (da_cons de_int (da_cons de_int da_nil))) (de_callO (G__law_pull T) (hr.mono (by decide)) hgd (by rfl) T.g__law_pull T.F__law_pull.kp (b__law_pull T) pass0 (fun _ _ z => z) (pv 2) (da_cons de_int da_nil))) da_nil)))
    (dss_cons (ds_va sc_law.nd rfl (by first | exact Or.inl rfl | exact Or.inr rfl) (de_callO (G__law_things T) (hr.mono (by decide)) hgd (by rfl) T.g__law_things T.F__law_things.kp (b__law_things T) pass0 (fun _ _ z => z) (pv 2) (da_cons (de_nm 3) da_nil)))
    (dss_cons (ds_va sc_law.nd rfl (by first | exact Or.inl rfl | exact Or.inr rfl) (de_add (de_callO (G__law_asks T) (hr.mono (by decide)) hgd (by rfl) T.g__law_asks T.F__law_asks.kp (b__law_asks T) pass0 (fun _ _ z => z) (pv 2) (da_cons (de_at .an (de_callB call_len cs_len (by rfl) T.z_len (by decide +kernel) (da_cons (de_nm 3) da_nil))) (da_cons (de_ix (de_lst (da_cons de_int (da_cons de_int da_nil))) (de_callO (G__law_pull T) (hr.mono (by decide)) hgd (by rfl) T.g__law_pull T.F__law_pull.kp (b__law_pull T) pass0 (fun _ _ z => z) (pv 2) (da_cons de_int da_nil))) da_nil))) (de_lst (da_cons (de_tup (da_cons (de_tup (da_cons de_int da_nil)) (da_cons (de_tup da_nil) da_nil))) da_nil))))
    (dss_cons (ds_va sc_law.nd rfl (by first | exact Or.inl rfl | exact Or.inr rfl) (de_at .an (de_callB (call_reprA hr hgd) cs_repr (by rfl) T.z_repr (by decide +kernel) (da_cons (de_lst (da_cons (de_nm 3) (da_cons (de_nm 4) (da_cons (de_nm 5) da_nil)))) da_nil))))
    (dss_cons (ds_for .bo PassesOwn.never rfl (di_seq (DN.de (dn_sortSet (by rfl) T.z_sorted (by rfl) T.z_set (de_add (DN.de (dn_lc (own := [("turn", 10)]) .bo rfl sc_law.nd (di_range1 (by rfl) T.z_range (da_cons de_int da_nil)) (blkOk_by (own := [("turn", 10)]) (N := sc_N_law) (sc := defScope st_law) (by decide +kernel)) (by decide) (off_nm 10) (fun _ _ _ _ _ => (dg_name sc_law.nd rfl (by first | exact Or.inl rfl | exact Or.inr rfl))) (fun _ _ _ _ _ => dts_nil) (fun _ _ _ _ _ => (de_callO (G__law_pull T) (hr.mono (by decide)) hgd (by rfl) T.g__law_pull T.F__law_pull.kp (b__law_pull T) pass0 (fun _ _ z => z) (pv 2) (da_cons (de_at .an (de_callB call_len cs_len (by rfl) T.z_len (by decide +kernel) (da_cons (de_nm 5) da_nil))) da_nil))))) (de_lst (da_cons de_int (da_cons (de_at .an (de_sub (de_callB call_len cs_len (by rfl) T.z_len (by decide +kernel) (da_cons (de_nm 5) da_nil)) de_int)) da_nil))))))) (dg_name sc_law.nd rfl (by first | exact Or.inl rfl | exact Or.inr rfl)) (dss_cons (ds_va sc_law.nd rfl (by first | exact Or.inl rfl | exact Or.inr rfl) (de_call .an (G__law_due T) (hr.mono (by decide)) hgd (by rfl) T.g__law_due T.F__law_due.kp (b__law_due T) pass0 (fun _ _ z => z) (da_cons (de_nm 3) (da_cons (de_nm 4) (da_cons (de_nm 5) (da_cons (de_nm 7) da_nil))))))
    (dss_cons (ds_for .bo PassesOwn.never rfl (di_range1 (by rfl) T.z_range (da_cons de_int da_nil)) (dg_name sc_law.nd rfl (by first | exact Or.inl rfl | exact Or.inr rfl)) (dss_cons (ds_un sc_law.nd rfl (by first | exact Or.inl rfl | exact Or.inr rfl) (de_call .an (G_left_out T) (hr.mono (by decide)) hgd (by rfl) T.g_left_out T.F_left_out.kp (b_left_out T) passL (fun _ _ z => z.elim) (da_cons (de_nm 3) (da_cons (de_nm 4) (da_cons (de_nm 5) (da_cons (de_nm 7) da_nil))))))
    (dss_cons (ds_if .an (DW.t (dw_or (dt_ne hr (de_callB (call_reprA hr hgd) cs_repr (by rfl) T.z_repr (by decide +kernel) (da_cons (de_nm 11) da_nil)) (de_callB (call_reprA hr hgd) cs_repr (by rfl) T.z_repr (by decide +kernel) (da_cons (de_nm 9) da_nil))) (dw_or1 (dt_ne hr (de_callB (call_reprA hr hgd) cs_repr (by rfl) T.z_repr (by decide +kernel) (da_cons (de_lst (da_cons (de_nm 3) (da_cons (de_nm 4) (da_cons (de_nm 5) da_nil)))) da_nil)) (de_nm 6))))) (dss_one (ds_ret de_bl)) dss_nil)
    (dss_cons (ds_um0 11 ml_reverse (pv 11) (pe_bm0 PySem.F.plainAttrs_list PySem.F.slot_list_reverse PySem.F.type_list_reverse mt_reverse (pv 11)))
    (dss_one (ds_uapp 11 (pv 11) de_int (hpe := fun h => pe_bm PySem.F.plainAttrs_list PySem.F.slot_list_append PySem.F.type_list_append mt_append (pv 11) (pa_cons h pa_nil))))))))
    (dss_one (ds_if .an (dt_ne hr (de_callK0 (G_left_out T) rfl (hr.mono (by decide)) hgd (by rfl) T.g_left_out T.F_left_out.kp (kb_of (ks := ["number", "day", "standing", "yard"]) (is := [3, 2, 1, 0]) (by simp) (fun_kbinds T.F_left_out fun _ _ _ _ _ _ us ws h1 h2 => match us, ws, h1, h2 with | [], [_, _, _, _], _, _ => rfl)) passL (fun _ _ z => z.elim) (dk_cons (de_nm 7) (dk_cons (de_nm 5) (dk_cons (de_nm 4) (dk_cons (de_nm 3) dk_nil))))) (de_nm 9)) (dss_one (ds_ret de_bl)) dss_nil)))))
    (dss_cons (ds_va sc_law.nd rfl (by first | exact Or.inl rfl | exact Or.inr rfl) (de_lst (da_cons (de_at .an (de_neg de_int)) (da_cons (de_at .an (de_callB call_len cs_len (by rfl) T.z_len (by decide +kernel) (da_cons (de_nm 5) da_nil))) (da_cons de_non (da_cons de_bl (da_cons de_str (da_cons (de_tup da_nil) (da_cons (de_lst (da_cons de_int da_nil)) (da_cons (de_at .an (de_pow de_int de_int)) da_nil))))))))))
    (dss_cons (ds_if .an (dt_ne hr (DN.de (dn_lc (own := [("spot", 7)]) .bp rfl sc_law.nd (di_seq (de_nm 8)) (blkOk_by (own := [("spot", 7)]) (N := sc_N_law) (sc := defScope st_law) (by decide +kernel)) (by decide) (off_nm 7) (fun _ _ _ _ _ => (dg_name sc_law.nd rfl (by first | exact Or.inl rfl | exact Or.inr rfl))) (fun _ _ _ _ _ => (dts_one (dt_not (dt_val (de_call .an (G__law_refused T) (hr.mono (by decide)) hgd (by rfl) T.g__law_refused T.F__law_refused.kp (b__law_refused T) pass0 (fun _ _ z => z) (da_cons (de_nm 3) (da_cons (de_nm 4) (da_cons (de_nm 5) (da_cons (de_nm 7) da_nil))))))))) (fun _ _ _ _ _ => (de_nm 7)))) (de_lst da_nil)) (dss_one (ds_ret de_bl)) dss_nil)
    (dss_one (ds_if .an (dt_not (dt_val (de_call .an (G__law_refused T) (hr.mono (by decide)) hgd (by rfl) T.g__law_refused T.F__law_refused.kp (b__law_refused T) pass0 (fun _ _ z => z) (da_cons (de_nm 3) (da_cons (de_nm 4) (da_cons (de_lst da_nil) (da_cons de_int da_nil))))))) (dss_one (ds_ret de_bl)) dss_nil)))))))))))
    (dss_one (ds_ret de_bl)))
end
theorem all_mk {w : World} {K : PySem.W.Frag} {h : Heap} {mg : Str → Option Value} {fa : Addr} (X : K.In h) (G : h.Ns mainGlobals mg) (hfa : mg "law" = some (.ref fa))
    {E0 E1 E2 E3 E4 E5 E6 : Addr} {f0 f1 f2 f3 f4 f5 f6 f7 f8 f9 f10 f11 f12 f13 f14 f15 f16 f17 f18 f19 f20 f21 f22 f23 f24 f25 f26 : Addr} {od0 an0 od1 an1 od2 an2 od3 an3 od4 an4 od5 an5 od6 an6 od7 an7 od8 an8 od9 an9 od10 an10 od11 an11 od12 an12 od13 an13 od14 an14 od15 an15 od16 an16 od17 an17 od18 an18 od19 an19 od20 an20 od21 an21 od22 an22 od23 an23 od24 an24 od25 an25 od26 an26 : Option Addr} {sl0 sl1 sl2 sl3 sl4 sl5 sl6 sl7 sl8 sl9 sl10 sl11 sl12 sl13 sl14 sl15 sl16 sl17 sl18 sl19 sl20 sl21 sl22 sl23 sl24 sl25 sl26 : Array (Option Value)} {oc0 kV0 dc0 pm0 cd0 ct0 oc1 kV1 dc1 pm1 cd1 ct1 oc2 kV2 dc2 pm2 cd2 ct2 oc3 kV3 dc3 pm3 cd3 ct3 oc4 kV4 dc4 pm4 cd4 ct4 oc5 kV5 dc5 pm5 cd5 ct5 oc6 kV6 dc6 pm6 cd6 ct6 oc7 kV7 dc7 pm7 cd7 ct7 oc8 kV8 dc8 pm8 cd8 ct8 oc9 kV9 dc9 pm9 cd9 ct9 oc10 kV10 dc10 pm10 cd10 ct10 oc11 kV11 dc11 pm11 cd11 ct11 oc12 kV12 dc12 pm12 cd12 ct12 oc13 kV13 dc13 pm13 cd13 ct13 oc14 kV14 dc14 pm14 cd14 ct14 oc15 kV15 dc15 pm15 cd15 ct15 oc16 kV16 dc16 pm16 cd16 ct16 oc17 kV17 dc17 pm17 cd17 ct17 oc18 kV18 dc18 pm18 cd18 ct18 oc19 kV19 dc19 pm19 cd19 ct19 oc20 kV20 dc20 pm20 cd20 ct20 oc21 kV21 dc21 pm21 cd21 ct21 oc22 kV22 dc22 pm22 cd22 ct22 oc23 kV23 dc23 pm23 cd23 ct23 oc24 kV24 dc24 pm24 cd24 ct24 oc25 kV25 dc25 pm25 cd25 ct25 oc26 kV26 dc26 pm26 cd26 ct26 : Value}
    (E0a : PySem.W.nsIn K mainGlobals "NoAsk" = some (some (.ref E0))) (E0k : PySem.W.keepIn K (.ref E0) = true) (E0b : PySem.W.subIn K (.ref E0) (.type "BaseException") = some true) (E0t : PySem.W.typeIn K (.ref E0) = some (.type "type")) (E0g : PySem.W.findIn K (.ref E0) "__getattribute__" = some (some (.builtin "BaseException.__getattribute__"))) (E0h : PySem.W.findIn K (.ref E0) "__getattr__" = some none) (E0d : PySem.W.hasDictIn K E0 = true) (E0c : PySem.W.findIn K (.ref E0) "__class__" = some (some (.builtin "object.__class__"))) (E0m : PySem.W.mroIn K E0 (.type "object") = some true) (E0s : PySem.W.subIn K (.ref E0) (.ref E0) = some true)
    (E0x : PySem.W.excIn K E0 veMro "ValueError.__new__" = true)
    (E1a : PySem.W.nsIn K mainGlobals "NoYard" = some (some (.ref E1))) (E1k : PySem.W.keepIn K (.ref E1) = true) (E1b : PySem.W.subIn K (.ref E1) (.type "BaseException") = some true) (E1t : PySem.W.typeIn K (.ref E1) = some (.type "type")) (E1g : PySem.W.findIn K (.ref E1) "__getattribute__" = some (some (.builtin "BaseException.__getattribute__"))) (E1h : PySem.W.findIn K (.ref E1) "__getattr__" = some none) (E1d : PySem.W.hasDictIn K E1 = true) (E1c : PySem.W.findIn K (.ref E1) "__class__" = some (some (.builtin "object.__class__"))) (E1m : PySem.W.mroIn K E1 (.type "object") = some true) (E1s : PySem.W.subIn K (.ref E1) (.ref E1) = some true)
    (E2a : PySem.W.nsIn K mainGlobals "NoStanding" = some (some (.ref E2))) (E2k : PySem.W.keepIn K (.ref E2) = true) (E2b : PySem.W.subIn K (.ref E2) (.type "BaseException") = some true) (E2t : PySem.W.typeIn K (.ref E2) = some (.type "type")) (E2g : PySem.W.findIn K (.ref E2) "__getattribute__" = some (some (.builtin "BaseException.__getattribute__"))) (E2h : PySem.W.findIn K (.ref E2) "__getattr__" = some none) (E2d : PySem.W.hasDictIn K E2 = true) (E2c : PySem.W.findIn K (.ref E2) "__class__" = some (some (.builtin "object.__class__"))) (E2m : PySem.W.mroIn K E2 (.type "object") = some true) (E2s : PySem.W.subIn K (.ref E2) (.ref E2) = some true)
    (E3a : PySem.W.nsIn K mainGlobals "NoPlace" = some (some (.ref E3))) (E3k : PySem.W.keepIn K (.ref E3) = true) (E3b : PySem.W.subIn K (.ref E3) (.type "BaseException") = some true) (E3t : PySem.W.typeIn K (.ref E3) = some (.type "type")) (E3g : PySem.W.findIn K (.ref E3) "__getattribute__" = some (some (.builtin "BaseException.__getattribute__"))) (E3h : PySem.W.findIn K (.ref E3) "__getattr__" = some none) (E3d : PySem.W.hasDictIn K E3 = true) (E3c : PySem.W.findIn K (.ref E3) "__class__" = some (some (.builtin "object.__class__"))) (E3m : PySem.W.mroIn K E3 (.type "object") = some true) (E3s : PySem.W.subIn K (.ref E3) (.ref E3) = some true)
    (E4a : PySem.W.nsIn K mainGlobals "NoNumber" = some (some (.ref E4))) (E4k : PySem.W.keepIn K (.ref E4) = true) (E4b : PySem.W.subIn K (.ref E4) (.type "BaseException") = some true) (E4t : PySem.W.typeIn K (.ref E4) = some (.type "type")) (E4g : PySem.W.findIn K (.ref E4) "__getattribute__" = some (some (.builtin "BaseException.__getattribute__"))) (E4h : PySem.W.findIn K (.ref E4) "__getattr__" = some none) (E4d : PySem.W.hasDictIn K E4 = true) (E4c : PySem.W.findIn K (.ref E4) "__class__" = some (some (.builtin "object.__class__"))) (E4m : PySem.W.mroIn K E4 (.type "object") = some true) (E4s : PySem.W.subIn K (.ref E4) (.ref E4) = some true)
    (E5a : PySem.W.nsIn K mainGlobals "NoDay" = some (some (.ref E5))) (E5k : PySem.W.keepIn K (.ref E5) = true) (E5b : PySem.W.subIn K (.ref E5) (.type "BaseException") = some true) (E5t : PySem.W.typeIn K (.ref E5) = some (.type "type")) (E5g : PySem.W.findIn K (.ref E5) "__getattribute__" = some (some (.builtin "BaseException.__getattribute__"))) (E5h : PySem.W.findIn K (.ref E5) "__getattr__" = some none) (E5d : PySem.W.hasDictIn K E5 = true) (E5c : PySem.W.findIn K (.ref E5) "__class__" = some (some (.builtin "object.__class__"))) (E5m : PySem.W.mroIn K E5 (.type "object") = some true) (E5s : PySem.W.subIn K (.ref E5) (.ref E5) = some true)
    (E6a : PySem.W.nsIn K mainGlobals "YardError" = some (some (.ref E6))) (E6k : PySem.W.keepIn K (.ref E6) = true) (E6b : PySem.W.subIn K (.ref E6) (.type "BaseException") = some true) (E6t : PySem.W.typeIn K (.ref E6) = some (.type "type")) (E6g : PySem.W.findIn K (.ref E6) "__getattribute__" = some (some (.builtin "BaseException.__getattribute__"))) (E6h : PySem.W.findIn K (.ref E6) "__getattr__" = some none) (E6d : PySem.W.hasDictIn K E6 = true) (E6c : PySem.W.findIn K (.ref E6) "__class__" = some (some (.builtin "object.__class__"))) (E6m : PySem.W.mroIn K E6 (.type "object") = some true) (E6s : PySem.W.subIn K (.ref E6) (.ref E6) = some true)
    (EXn : PySem.W.specialIn K (.builtin "object.__class__") "__get__" = some (some (.builtin "getset_descriptor.__get__"))) (EXt : PySem.W.takesIn K (.builtin "object.__class__") = some true)
    (EP0_0 : PySem.W.subIn K (.ref E0) (.ref E0) = some true)
    (EP0_1 : PySem.W.subIn K (.ref E0) (.ref E1) = some false)
    (EP0_2 : PySem.W.subIn K (.ref E0) (.ref E2) = some false)
    (EP0_3 : PySem.W.subIn K (.ref E0) (.ref E3) = some false)
    (EP0_4 : PySem.W.subIn K (.ref E0) (.ref E4) = some false)
    (EP0_5 : PySem.W.subIn K (.ref E0) (.ref E5) = some false)
    (EP0_6 : PySem.W.subIn K (.ref E0) (.ref E6) = some true)
    (a0 : PySem.W.nsIn K mainGlobals "is_amount" = some (some (.ref f0))) (l0 : K.lookup f0 = some ⟨oc0, od0, .func (PySem.W.fnOf "is_amount" "is_amount" (defArgs st_is_amount) (defBody st_is_amount) (defScope st_is_amount) .none kV0 dc0 pm0 an0 cd0 ct0), sl0⟩) (c0 : PySem.W.codeIn K cd0 "is_amount" = true) (k0 : PySem.W.keepIn K (.ref f0) = true)
    (a1 : PySem.W.nsIn K mainGlobals "changed" = some (some (.ref f1))) (l1 : K.lookup f1 = some ⟨oc1, od1, .func (PySem.W.fnOf "changed" "changed" (defArgs st_changed) (defBody st_changed) (defScope st_changed) .none kV1 dc1 pm1 an1 cd1 ct1), sl1⟩) (c1 : PySem.W.codeIn K cd1 "changed" = true) (k1 : PySem.W.keepIn K (.ref f1) = true)
    (a2 : PySem.W.nsIn K mainGlobals "taken_from" = some (some (.ref f2))) (l2 : K.lookup f2 = some ⟨oc2, od2, .func (PySem.W.fnOf "taken_from" "taken_from" (defArgs st_taken_from) (defBody st_taken_from) (defScope st_taken_from) .none kV2 dc2 pm2 an2 cd2 ct2), sl2⟩) (c2 : PySem.W.codeIn K cd2 "taken_from" = true) (k2 : PySem.W.keepIn K (.ref f2) = true)
    (a3 : PySem.W.nsIn K mainGlobals "left_at" = some (some (.ref f3))) (l3 : K.lookup f3 = some ⟨oc3, od3, .func (PySem.W.fnOf "left_at" "left_at" (defArgs st_left_at) (defBody st_left_at) (defScope st_left_at) .none kV3 dc3 pm3 an3 cd3 ct3), sl3⟩) (c3 : PySem.W.codeIn K cd3 "left_at" = true) (k3 : PySem.W.keepIn K (.ref f3) = true)
    (a4 : PySem.W.nsIn K mainGlobals "apart_by" = some (some (.ref f4))) (l4 : K.lookup f4 = some ⟨oc4, od4, .func (PySem.W.fnOf "apart_by" "apart_by" (defArgs st_apart_by) (defBody st_apart_by) (defScope st_apart_by) .none kV4 dc4 pm4 an4 cd4 ct4), sl4⟩) (c4 : PySem.W.codeIn K cd4 "apart_by" = true) (k4 : PySem.W.keepIn K (.ref f4) = true)
    (a5 : PySem.W.nsIn K mainGlobals "_law_cart" = some (some (.ref f5))) (l5 : K.lookup f5 = some ⟨oc5, od5, .func (PySem.W.fnOf "_law_cart" "_law_cart" (defArgs st__law_cart) (defBody st__law_cart) (defScope st__law_cart) .none kV5 dc5 pm5 an5 cd5 ct5), sl5⟩) (c5 : PySem.W.codeIn K cd5 "_law_cart" = true) (k5 : PySem.W.keepIn K (.ref f5) = true)
    (a6 : PySem.W.nsIn K mainGlobals "_law_pull" = some (some (.ref f6))) (l6 : K.lookup f6 = some ⟨oc6, od6, .func (PySem.W.fnOf "_law_pull" "_law_pull" (defArgs st__law_pull) (defBody st__law_pull) (defScope st__law_pull) .none kV6 dc6 pm6 an6 cd6 ct6), sl6⟩) (c6 : PySem.W.codeIn K cd6 "_law_pull" = true) (k6 : PySem.W.keepIn K (.ref f6) = true)
    (a7 : PySem.W.nsIn K mainGlobals "_law_gone" = some (some (.ref f7))) (l7 : K.lookup f7 = some ⟨oc7, od7, .func (PySem.W.fnOf "_law_gone" "_law_gone" (defArgs st__law_gone) (defBody st__law_gone) (defScope st__law_gone) .none kV7 dc7 pm7 an7 cd7 ct7), sl7⟩) (c7 : PySem.W.codeIn K cd7 "_law_gone" = true) (k7 : PySem.W.keepIn K (.ref f7) = true)
    (a8 : PySem.W.nsIn K mainGlobals "is_yard" = some (some (.ref f8))) (l8 : K.lookup f8 = some ⟨oc8, od8, .func (PySem.W.fnOf "is_yard" "is_yard" (defArgs st_is_yard) (defBody st_is_yard) (defScope st_is_yard) .none kV8 dc8 pm8 an8 cd8 ct8), sl8⟩) (c8 : PySem.W.codeIn K cd8 "is_yard" = true) (k8 : PySem.W.keepIn K (.ref f8) = true)
    (a9 : PySem.W.nsIn K mainGlobals "is_place" = some (some (.ref f9))) (l9 : K.lookup f9 = some ⟨oc9, od9, .func (PySem.W.fnOf "is_place" "is_place" (defArgs st_is_place) (defBody st_is_place) (defScope st_is_place) .none kV9 dc9 pm9 an9 cd9 ct9), sl9⟩) (c9 : PySem.W.codeIn K cd9 "is_place" = true) (k9 : PySem.W.keepIn K (.ref f9) = true)
    (a10 : PySem.W.nsIn K mainGlobals "asked" = some (some (.ref f10))) (l10 : K.lookup f10 = some ⟨oc10, od10, .func (PySem.W.fnOf "asked" "asked" (defArgs st_asked) (defBody st_asked) (defScope st_asked) .none kV10 dc10 pm10 an10 cd10 ct10), sl10⟩) (c10 : PySem.W.codeIn K cd10 "asked" = true) (k10 : PySem.W.keepIn K (.ref f10) = true)
    (a11 : PySem.W.nsIn K mainGlobals "_law_rooms" = some (some (.ref f11))) (l11 : K.lookup f11 = some ⟨oc11, od11, .func (PySem.W.fnOf "_law_rooms" "_law_rooms" (defArgs st__law_rooms) (defBody st__law_rooms) (defScope st__law_rooms) .none kV11 dc11 pm11 an11 cd11 ct11), sl11⟩) (c11 : PySem.W.codeIn K cd11 "_law_rooms" = true) (k11 : PySem.W.keepIn K (.ref f11) = true)
    (a12 : PySem.W.nsIn K mainGlobals "_law_things" = some (some (.ref f12))) (l12 : K.lookup f12 = some ⟨oc12, od12, .func (PySem.W.fnOf "_law_things" "_law_things" (defArgs st__law_things) (defBody st__law_things) (defScope st__law_things) .none kV12 dc12 pm12 an12 cd12 ct12), sl12⟩) (c12 : PySem.W.codeIn K cd12 "_law_things" = true) (k12 : PySem.W.keepIn K (.ref f12) = true)
    (a13 : PySem.W.nsIn K mainGlobals "_law_some" = some (some (.ref f13))) (l13 : K.lookup f13 = some ⟨oc13, od13, .func (PySem.W.fnOf "_law_some" "_law_some" (defArgs st__law_some) (defBody st__law_some) (defScope st__law_some) .none kV13 dc13 pm13 an13 cd13 ct13), sl13⟩) (c13 : PySem.W.codeIn K cd13 "_law_some" = true) (k13 : PySem.W.keepIn K (.ref f13) = true)
    (a14 : PySem.W.nsIn K mainGlobals "_law_due" = some (some (.ref f14))) (l14 : K.lookup f14 = some ⟨oc14, od14, .func (PySem.W.fnOf "_law_due" "_law_due" (defArgs st__law_due) (defBody st__law_due) (defScope st__law_due) .none kV14 dc14 pm14 an14 cd14 ct14), sl14⟩) (c14 : PySem.W.codeIn K cd14 "_law_due" = true) (k14 : PySem.W.keepIn K (.ref f14) = true)
    (a15 : PySem.W.nsIn K mainGlobals "are_places" = some (some (.ref f15))) (l15 : K.lookup f15 = some ⟨oc15, od15, .func (PySem.W.fnOf "are_places" "are_places" (defArgs st_are_places) (defBody st_are_places) (defScope st_are_places) .none kV15 dc15 pm15 an15 cd15 ct15), sl15⟩) (c15 : PySem.W.codeIn K cd15 "are_places" = true) (k15 : PySem.W.keepIn K (.ref f15) = true)
    (a16 : PySem.W.nsIn K mainGlobals "need_yard" = some (some (.ref f16))) (l16 : K.lookup f16 = some ⟨oc16, od16, .func (PySem.W.fnOf "need_yard" "need_yard" (defArgs st_need_yard) (defBody st_need_yard) (defScope st_need_yard) .none kV16 dc16 pm16 an16 cd16 ct16), sl16⟩) (c16 : PySem.W.codeIn K cd16 "need_yard" = true) (k16 : PySem.W.keepIn K (.ref f16) = true)
    (a17 : PySem.W.nsIn K mainGlobals "distances" = some (some (.ref f17))) (l17 : K.lookup f17 = some ⟨oc17, od17, .func (PySem.W.fnOf "distances" "distances" (defArgs st_distances) (defBody st_distances) (defScope st_distances) .none kV17 dc17 pm17 an17 cd17 ct17), sl17⟩) (c17 : PySem.W.codeIn K cd17 "distances" = true) (k17 : PySem.W.keepIn K (.ref f17) = true)
    (a18 : PySem.W.nsIn K mainGlobals "_law_asks" = some (some (.ref f18))) (l18 : K.lookup f18 = some ⟨oc18, od18, .func (PySem.W.fnOf "_law_asks" "_law_asks" (defArgs st__law_asks) (defBody st__law_asks) (defScope st__law_asks) .none kV18 dc18 pm18 an18 cd18 ct18), sl18⟩) (c18 : PySem.W.codeIn K cd18 "_law_asks" = true) (k18 : PySem.W.keepIn K (.ref f18) = true)
    (a19 : PySem.W.nsIn K mainGlobals "is_standing" = some (some (.ref f19))) (l19 : K.lookup f19 = some ⟨oc19, od19, .func (PySem.W.fnOf "is_standing" "is_standing" (defArgs st_is_standing) (defBody st_is_standing) (defScope st_is_standing) .none kV19 dc19 pm19 an19 cd19 ct19), sl19⟩) (c19 : PySem.W.codeIn K cd19 "is_standing" = true) (k19 : PySem.W.keepIn K (.ref f19) = true)
    (a20 : PySem.W.nsIn K mainGlobals "is_ask" = some (some (.ref f20))) (l20 : K.lookup f20 = some ⟨oc20, od20, .func (PySem.W.fnOf "is_ask" "is_ask" (defArgs st_is_ask) (defBody st_is_ask) (defScope st_is_ask) .none kV20 dc20 pm20 an20 cd20 ct20), sl20⟩) (c20 : PySem.W.codeIn K cd20 "is_ask" = true) (k20 : PySem.W.keepIn K (.ref f20) = true)
    (a21 : PySem.W.nsIn K mainGlobals "is_day" = some (some (.ref f21))) (l21 : K.lookup f21 = some ⟨oc21, od21, .func (PySem.W.fnOf "is_day" "is_day" (defArgs st_is_day) (defBody st_is_day) (defScope st_is_day) .none kV21 dc21 pm21 an21 cd21 ct21), sl21⟩) (c21 : PySem.W.codeIn K cd21 "is_day" = true) (k21 : PySem.W.keepIn K (.ref f21) = true)
    (a22 : PySem.W.nsIn K mainGlobals "need_standing" = some (some (.ref f22))) (l22 : K.lookup f22 = some ⟨oc22, od22, .func (PySem.W.fnOf "need_standing" "need_standing" (defArgs st_need_standing) (defBody st_need_standing) (defScope st_need_standing) .none kV22 dc22 pm22 an22 cd22 ct22), sl22⟩) (c22 : PySem.W.codeIn K cd22 "need_standing" = true) (k22 : PySem.W.keepIn K (.ref f22) = true)
    (a23 : PySem.W.nsIn K mainGlobals "need_day" = some (some (.ref f23))) (l23 : K.lookup f23 = some ⟨oc23, od23, .func (PySem.W.fnOf "need_day" "need_day" (defArgs st_need_day) (defBody st_need_day) (defScope st_need_day) .none kV23 dc23 pm23 an23 cd23 ct23), sl23⟩) (c23 : PySem.W.codeIn K cd23 "need_day" = true) (k23 : PySem.W.keepIn K (.ref f23) = true)
    (a24 : PySem.W.nsIn K mainGlobals "left_out" = some (some (.ref f24))) (l24 : K.lookup f24 = some ⟨oc24, od24, .func (PySem.W.fnOf "left_out" "left_out" (defArgs st_left_out) (defBody st_left_out) (defScope st_left_out) .none kV24 dc24 pm24 an24 cd24 ct24), sl24⟩) (c24 : PySem.W.codeIn K cd24 "left_out" = true) (k24 : PySem.W.keepIn K (.ref f24) = true)
    (a25 : PySem.W.nsIn K mainGlobals "_law_refused" = some (some (.ref f25))) (l25 : K.lookup f25 = some ⟨oc25, od25, .func (PySem.W.fnOf "_law_refused" "_law_refused" (defArgs st__law_refused) (defBody st__law_refused) (defScope st__law_refused) .none kV25 dc25 pm25 an25 cd25 ct25), sl25⟩) (c25 : PySem.W.codeIn K cd25 "_law_refused" = true) (k25 : PySem.W.keepIn K (.ref f25) = true)
    (a26 : PySem.W.nsIn K mainGlobals "law" = some (some (.ref f26))) (l26 : K.lookup f26 = some ⟨oc26, od26, .func (PySem.W.fnOf "law" "law" (defArgs st_law) (defBody st_law) (defScope st_law) .none kV26 dc26 pm26 an26 cd26 ct26), sl26⟩) (c26 : PySem.W.codeIn K cd26 "law" = true) (k26 : PySem.W.keepIn K (.ref f26) = true)
    {tk0 : Tok} (q0 : PySem.W.nsIn K mainGlobals "MOST_PLACES" = some (some (.int 9 tk0)))
    (z0 : PySem.W.nsIn K mainGlobals "abs" = some none)
    (z1 : PySem.W.nsIn K mainGlobals "all" = some none)
    (z2 : PySem.W.nsIn K mainGlobals "bool" = some none)
    (z3 : PySem.W.nsIn K mainGlobals "int" = some none)
    (z4 : PySem.W.nsIn K mainGlobals "isinstance" = some none)
    (z5 : PySem.W.nsIn K mainGlobals "len" = some none)
    (z6 : PySem.W.nsIn K mainGlobals "list" = some none)
    (z7 : PySem.W.nsIn K mainGlobals "max" = some none)
    (z8 : PySem.W.nsIn K mainGlobals "min" = some none)
    (z9 : PySem.W.nsIn K mainGlobals "range" = some none)
    (z10 : PySem.W.nsIn K mainGlobals "repr" = some none)
    (z11 : PySem.W.nsIn K mainGlobals "set" = some none)
    (z12 : PySem.W.nsIn K mainGlobals "sorted" = some none)
    (z13 : PySem.W.nsIn K mainGlobals "sum" = some none)
    (z14 : PySem.W.nsIn K mainGlobals "tuple" = some none)
    (z15 : PySem.W.nsIn K mainGlobals "zip" = some none) :
    ∃ fd : FuncData, (∀ (s : Shared) (u : Value), BindsTo s fd ⟨[u], []⟩ [("script", u)]) ∧ ∀ base : Heap, K.In base → base.Ns mainGlobals mg → GFn PySem.Challenge.rw_onemore_k14_an_ask_left_out.prog w K mg base CX0 9 fa fd ["script"] (spG K (fun _ _ _ => False) 1 (bodyF 11 f_law)) := by
  let T : Txt K mg := {
    e_NoAsk := E0, mg_NoAsk := PySem.W.mg_of X G E0a, E_NoAsk := ⟨E0a, E0k, E0b, E0t, ⟨E0g, E0h, E0b, E0d, E0c, EXn, EXt, E0m⟩⟩, S_NoAsk := E0s,
    X_NoAsk := E0x,
    e_NoYard := E1, mg_NoYard := PySem.W.mg_of X G E1a, E_NoYard := ⟨E1a, E1k, E1b, E1t, ⟨E1g, E1h, E1b, E1d, E1c, EXn, EXt, E1m⟩⟩, S_NoYard := E1s,
    e_NoStanding := E2, mg_NoStanding := PySem.W.mg_of X G E2a, E_NoStanding := ⟨E2a, E2k, E2b, E2t, ⟨E2g, E2h, E2b, E2d, E2c, EXn, EXt, E2m⟩⟩, S_NoStanding := E2s,
    e_NoPlace := E3, mg_NoPlace := PySem.W.mg_of X G E3a, E_NoPlace := ⟨E3a, E3k, E3b, E3t, ⟨E3g, E3h, E3b, E3d, E3c, EXn, EXt, E3m⟩⟩, S_NoPlace := E3s,
    e_NoNumber := E4, mg_NoNumber := PySem.W.mg_of X G E4a, E_NoNumber := ⟨E4a, E4k, E4b, E4t, ⟨E4g, E4h, E4b, E4d, E4c, EXn, EXt, E4m⟩⟩, S_NoNumber := E4s,
    e_NoDay := E5, mg_NoDay := PySem.W.mg_of X G E5a, E_NoDay := ⟨E5a, E5k, E5b, E5t, ⟨E5g, E5h, E5b, E5d, E5c, EXn, EXt, E5m⟩⟩, S_NoDay := E5s,
    e_YardError := E6, mg_YardError := PySem.W.mg_of X G E6a, E_YardError := ⟨E6a, E6k, E6b, E6t, ⟨E6g, E6h, E6b, E6d, E6c, EXn, EXt, E6m⟩⟩, S_YardError := E6s,
    P_NoAsk_NoAsk := EP0_0,
    P_NoAsk_NoYard := EP0_1,
    P_NoAsk_NoStanding := EP0_2,
    P_NoAsk_NoPlace := EP0_3,
    P_NoAsk_NoNumber := EP0_4,
    P_NoAsk_NoDay := EP0_5,
    P_NoAsk_YardError := EP0_6,
    a_is_amount := f0, d_is_amount := _, F_is_amount := fun_mk (st := st_is_amount) l0 c0 k0, g_is_amount := PySem.W.mg_of X G a0,
    a_changed := f1, d_changed := _, F_changed := fun_mk (st := st_changed) l1 c1 k1, g_changed := PySem.W.mg_of X G a1,
    a_taken_from := f2, d_taken_from := _, F_taken_from := fun_mk (st := st_taken_from) l2 c2 k2, g_taken_from := PySem.W.mg_of X G a2,
    a_left_at := f3, d_left_at := _, F_left_at := fun_mk (st := st_left_at) l3 c3 k3, g_left_at := PySem.W.mg_of X G a3,
    a_apart_by := f4, d_apart_by := _, F_apart_by := fun_mk (st := st_apart_by) l4 c4 k4, g_apart_by := PySem.W.mg_of X G a4,
    a__law_cart := f5, d__law_cart := _, F__law_cart := fun_mk (st := st__law_cart) l5 c5 k5, g__law_cart := PySem.W.mg_of X G a5,
    a__law_pull := f6, d__law_pull := _, F__law_pull := fun_mk (st := st__law_pull) l6 c6 k6, g__law_pull := PySem.W.mg_of X G a6,
    a__law_gone := f7, d__law_gone := _, F__law_gone := fun_mk (st := st__law_gone) l7 c7 k7, g__law_gone := PySem.W.mg_of X G a7,
    a_is_yard := f8, d_is_yard := _, F_is_yard := fun_mk (st := st_is_yard) l8 c8 k8, g_is_yard := PySem.W.mg_of X G a8,
    a_is_place := f9, d_is_place := _, F_is_place := fun_mk (st := st_is_place) l9 c9 k9, g_is_place := PySem.W.mg_of X G a9,
    a_asked := f10, d_asked := _, F_asked := fun_mk (st := st_asked) l10 c10 k10, g_asked := PySem.W.mg_of X G a10,
    a__law_rooms := f11, d__law_rooms := _, F__law_rooms := fun_mk (st := st__law_rooms) l11 c11 k11, g__law_rooms := PySem.W.mg_of X G a11,
    a__law_things := f12, d__law_things := _, F__law_things := fun_mk (st := st__law_things) l12 c12 k12, g__law_things := PySem.W.mg_of X G a12,
    a__law_some := f13, d__law_some := _, F__law_some := fun_mk (st := st__law_some) l13 c13 k13, g__law_some := PySem.W.mg_of X G a13,
    a__law_due := f14, d__law_due := _, F__law_due := fun_mk (st := st__law_due) l14 c14 k14, g__law_due := PySem.W.mg_of X G a14,
    a_are_places := f15, d_are_places := _, F_are_places := fun_mk (st := st_are_places) l15 c15 k15, g_are_places := PySem.W.mg_of X G a15,
    a_need_yard := f16, d_need_yard := _, F_need_yard := fun_mk (st := st_need_yard) l16 c16 k16, g_need_yard := PySem.W.mg_of X G a16,
    a_distances := f17, d_distances := _, F_distances := fun_mk (st := st_distances) l17 c17 k17, g_distances := PySem.W.mg_of X G a17,
    a__law_asks := f18, d__law_asks := _, F__law_asks := fun_mk (st := st__law_asks) l18 c18 k18, g__law_asks := PySem.W.mg_of X G a18,
    a_is_standing := f19, d_is_standing := _, F_is_standing := fun_mk (st := st_is_standing) l19 c19 k19, g_is_standing := PySem.W.mg_of X G a19,
    a_is_ask := f20, d_is_ask := _, F_is_ask := fun_mk (st := st_is_ask) l20 c20 k20, g_is_ask := PySem.W.mg_of X G a20,
    a_is_day := f21, d_is_day := _, F_is_day := fun_mk (st := st_is_day) l21 c21 k21, g_is_day := PySem.W.mg_of X G a21,
    a_need_standing := f22, d_need_standing := _, F_need_standing := fun_mk (st := st_need_standing) l22 c22 k22, g_need_standing := PySem.W.mg_of X G a22,
    a_need_day := f23, d_need_day := _, F_need_day := fun_mk (st := st_need_day) l23 c23 k23, g_need_day := PySem.W.mg_of X G a23,
    a_left_out := f24, d_left_out := _, F_left_out := fun_mk (st := st_left_out) l24 c24 k24, g_left_out := PySem.W.mg_of X G a24,
    a__law_refused := f25, d__law_refused := _, F__law_refused := fun_mk (st := st__law_refused) l25 c25 k25, g__law_refused := PySem.W.mg_of X G a25,
    a_law := f26, d_law := _, F_law := fun_mk (st := st_law) l26 c26 k26, g_law := PySem.W.mg_of X G a26,
    k_MOST_PLACES := ⟨tk0, PySem.W.mg_of X G q0⟩,
    z_abs := PySem.W.mg_none_of X G z0,
    z_all := PySem.W.mg_none_of X G z1,
    z_bool := PySem.W.mg_none_of X G z2,
    z_int := PySem.W.mg_none_of X G z3,
    z_isinstance := PySem.W.mg_none_of X G z4,
    z_len := PySem.W.mg_none_of X G z5,
    z_list := PySem.W.mg_none_of X G z6,
    z_max := PySem.W.mg_none_of X G z7,
    z_min := PySem.W.mg_none_of X G z8,
    z_range := PySem.W.mg_none_of X G z9,
    z_repr := PySem.W.mg_none_of X G z10,
    z_set := PySem.W.mg_none_of X G z11,
    z_sorted := PySem.W.mg_none_of X G z12,
    z_sum := PySem.W.mg_none_of X G z13,
    z_tuple := PySem.W.mg_none_of X G z14,
    z_zip := PySem.W.mg_none_of X G z15 }
  have e : fa = T.a_law := by
    have := hfa.symm.trans T.g_law
    cases this; rfl
  subst e
  exact ⟨T.d_law, fun s u => .of_eq rfl, fun base _ _ => G_law T⟩
end
end W
open PySem PySem.W PyProof.Rows
set_option maxHeartbeats 0 in
theorem PySem.Challenge.cw_onemore_k14_an_ask_left_out_holds : PySem.Challenge.rw_onemore_k14_an_ask_left_out.Holds := by
  w_on; o_law; k_head; (case hw => w_witness2)
  k_fill
  refine Dm.g_walk (l := PySem.Challenge.rw_onemore_k14_an_ask_left_out) (n := 63) (k := 9) (m := 11) (x := "script") (F := W.f_law) rfl (by decide) rfl ⟨rfl, by decide, by decide⟩ (fun w h Y => PySem.W.kIn_of Y) ?F (fun ns h1 h2 => W.law_math ns h1 h2)
  case F =>
    intro w mg fa h KX G hmg
    refine' W.all_mk KX G hmg ?E0a ?E0k ?E0b ?E0t ?E0g ?E0h ?E0d ?E0c ?E0m ?E0s ?E0x ?E1a ?E1k ?E1b ?E1t ?E1g ?E1h ?E1d ?E1c ?E1m ?E1s ?E2a ?E2k ?E2b ?E2t ?E2g ?E2h ?E2d ?E2c ?E2m ?E2s ?E3a ?E3k ?E3b ?E3t ?E3g ?E3h ?E3d ?E3c ?E3m ?E3s ?E4a ?E4k ?E4b ?E4t ?E4g ?E4h ?E4d ?E4c ?E4m ?E4s ?E5a ?E5k ?E5b ?E5t ?E5g ?E5h ?E5d ?E5c ?E5m ?E5s ?E6a ?E6k ?E6b ?E6t ?E6g ?E6h ?E6d ?E6c ?E6m ?E6s ?EXn ?EXt ?EP0_0 ?EP0_1 ?EP0_2 ?EP0_3 ?EP0_4 ?EP0_5 ?EP0_6 ?a0 ?l0 ?c0 ?k0 ?a1 ?l1 ?c1 ?k1 ?a2 ?l2 ?c2 ?k2 ?a3 ?l3 ?c3 ?k3 ?a4 ?l4 ?c4 ?k4 ?a5 ?l5 ?c5 ?k5 ?a6 ?l6 ?c6 ?k6 ?a7 ?l7 ?c7 ?k7 ?a8 ?l8 ?c8 ?k8 ?a9 ?l9 ?c9 ?k9 ?a10 ?l10 ?c10 ?k10 ?a11 ?l11 ?c11 ?k11 ?a12 ?l12 ?c12 ?k12 ?a13 ?l13 ?c13 ?k13 ?a14 ?l14 ?c14 ?k14 ?a15 ?l15 ?c15 ?k15 ?a16 ?l16 ?c16 ?k16 ?a17 ?l17 ?c17 ?k17 ?a18 ?l18 ?c18 ?k18 ?a19 ?l19 ?c19 ?k19 ?a20 ?l20 ?c20 ?k20 ?a21 ?l21 ?c21 ?k21 ?a22 ?l22 ?c22 ?k22 ?a23 ?l23 ?c23 ?k23 ?a24 ?l24 ?c24 ?k24 ?a25 ?l25 ?c25 ?k25 ?a26 ?l26 ?c26 ?k26 ?q0 ?z0 ?z1 ?z2 ?z3 ?z4 ?z5 ?z6 ?z7 ?z8 ?z9 ?z10 ?z11 ?z12 ?z13 ?z14 ?z15
    (case E0a => first | k_is | rfl); (case E0k => first | k_is | rfl); (case E0b => first | k_is | rfl); (case E0t => first | k_is | rfl); (case E0g => first | k_is | rfl); (case E0h => first | k_is | rfl); (case E0d => first | k_is | rfl); (case E0c => first | k_is | rfl); (case E0m => first | k_is | rfl); (case E0s => first | k_is | rfl); (case E0x => k_exc); (case E1a => first | k_is | rfl); (case E1k => first | k_is | rfl); (case E1b => first | k_is | rfl); (case E1t => first | k_is | rfl); (case E1g => first | k_is | rfl); (case E1h => first | k_is | rfl); (case E1d => first | k_is | rfl); (case E1c => first | k_is | rfl); (case E1m => first | k_is | rfl); (case E1s => first | k_is | rfl); (case E2a => first | k_is | rfl); (case E2k => first | k_is | rfl); (case E2b => first | k_is | rfl); (case E2t => first | k_is | rfl); (case E2g => first | k_is | rfl); (case E2h => first | k_is | rfl); (case E2d => first | k_is | rfl); (case E2c => first | k_is | rfl); (case E2m => first | k_is | rfl); (case E2s => first | k_is | rfl); (case E3a => first | k_is | rfl); (case E3k => first | k_is | rfl); (case E3b => first | k_is | rfl); (case E3t => first | k_is | rfl); (case E3g => first | k_is | rfl); (case E3h => first | k_is | rfl); (case E3d => first | k_is | rfl); (case E3c => first | k_is | rfl); (case E3m => first | k_is | rfl); (case E3s => first | k_is | rfl); (case E4a => first | k_is | rfl); (case E4k => first | k_is | rfl); (case E4b => first | k_is | rfl); (case E4t => first | k_is | rfl); (case E4g => first | k_is | rfl); (case E4h => first | k_is | rfl); (case E4d => first | k_is | rfl); (case E4c => first | k_is | rfl); (case E4m => first | k_is | rfl); (case E4s => first | k_is | rfl); (case E5a => first | k_is | rfl); (case E5k => first | k_is | rfl); (case E5b => first | k_is | rfl); (case E5t => first | k_is | rfl); (case E5g => first | k_is | rfl); (case E5h => first | k_is | rfl); (case E5d => first | k_is | rfl); (case E5c => first | k_is | rfl); (case E5m => first | k_is | rfl); (case E5s => first | k_is | rfl); (case E6a => first | k_is | rfl); (case E6k => first | k_is | rfl); (case E6b => first | k_is | rfl); (case E6t => first | k_is | rfl); (case E6g => first | k_is | rfl); (case E6h => first | k_is | rfl); (case E6d => first | k_is | rfl); (case E6c => first | k_is | rfl); (case E6m => first | k_is | rfl); (case E6s => first | k_is | rfl); (case EXn => first | k_is | rfl); (case EXt => first | k_is | rfl); (case EP0_0 => first | k_is | rfl); (case EP0_1 => first | k_is | rfl); (case EP0_2 => first | k_is | rfl); (case EP0_3 => first | k_is | rfl); (case EP0_4 => first | k_is | rfl); (case EP0_5 => first | k_is | rfl); (case EP0_6 => first | k_is | rfl); (case a0 => k_is); (case l0 => k_is); (case c0 => k_is); (case k0 => k_is); (case a1 => k_is); (case l1 => k_is); (case c1 => k_is); (case k1 => k_is); (case a2 => k_is); (case l2 => k_is); (case c2 => k_is); (case k2 => k_is); (case a3 => k_is); (case l3 => k_is); (case c3 => k_is); (case k3 => k_is); (case a4 => k_is); (case l4 => k_is); (case c4 => k_is); (case k4 => k_is); (case a5 => k_is); (case l5 => k_is); (case c5 => k_is); (case k5 => k_is); (case a6 => k_is); (case l6 => k_is); (case c6 => k_is); (case k6 => k_is); (case a7 => k_is); (case l7 => k_is); (case c7 => k_is); (case k7 => k_is); (case a8 => k_is); (case l8 => k_is); (case c8 => k_is); (case k8 => k_is); (case a9 => k_is); (case l9 => k_is); (case c9 => k_is); (case k9 => k_is); (case a10 => k_is); (case l10 => k_is); (case c10 => k_is); (case k10 => k_is); (case a11 => k_is); (case l11 => k_is); (case c11 => k_is); (case k11 => k_is); (case a12 => k_is); (case l12 => k_is); (case c12 => k_is); (case k12 => k_is); (case a13 => k_is); (case l13 => k_is); (case c13 => k_is); (case k13 => k_is); (case a14 => k_is); (case l14 => k_is); (case c14 => k_is); (case k14 => k_is); (case a15 => k_is); (case l15 => k_is); (case c15 => k_is); (case k15 => k_is); (case a16 => k_is); (case l16 => k_is); (case c16 => k_is); (case k16 => k_is); (case a17 => k_is); (case l17 => k_is); (case c17 => k_is); (case k17 => k_is); (case a18 => k_is); (case l18 => k_is); (case c18 => k_is); (case k18 => k_is); (case a19 => k_is); (case l19 => k_is); (case c19 => k_is); (case k19 => k_is); (case a20 => k_is); (case l20 => k_is); (case c20 => k_is); (case k20 => k_is); (case a21 => k_is); (case l21 => k_is); (case c21 => k_is); (case k21 => k_is); (case a22 => k_is); (case l22 => k_is); (case c22 => k_is); (case k22 => k_is); (case a23 => k_is); (case l23 => k_is); (case c23 => k_is); (case k23 => k_is); (case a24 => k_is); (case l24 => k_is); (case c24 => k_is); (case k24 => k_is); (case a25 => k_is); (case l25 => k_is); (case c25 => k_is); (case k25 => k_is); (case a26 => k_is); (case l26 => k_is); (case c26 => k_is); (case k26 => k_is); (case q0 => k_is); (case z0 => k_is); (case z1 => k_is); (case z2 => k_is); (case z3 => k_is); (case z4 => k_is); (case z5 => k_is); (case z6 => k_is); (case z7 => k_is); (case z8 => k_is); (case z9 => k_is); (case z10 => k_is); (case z11 => k_is); (case z12 => k_is); (case z13 => k_is); (case z14 => k_is); (case z15 => k_is)
