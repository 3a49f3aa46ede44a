import PyProof.Rows.All
import HandS.ForMost
import HandS.TupAny
import HandS.IsInst
import HandS.Wide
import HandS.EndBits
import HandS.Zip
import HandS.Conv
import HandS.Deep
import HandS.ExcOwn
import HandS.TryOnly
import HandS.WordsExc
import HandS.SetFor
import HandS.RaiseMore
import KE.KTupSum
import HandS.TupMul
import HandS.SortInts
import HandS.SortKw
import HandS.Style
import HandS.Zip0
import HandS.Iter
import HandS.Strs
import HandS.DictComp
import KE.SortData
import KE.SortKeyHeap
import HandS.Defaults
import PySem.Challenge.RW_onemore_k23_whole_asks_of_one_want
set_option Elab.async false
set_option linter.all false
set_option maxRecDepth 100000
/-! Dm: a second layer over the hand layer: what a def computes, as a plain function of data. -/
namespace Dm
noncomputable section
open PySem PySem.Spec PyProof.Rows L2

abbrev D := PyData

mutual
/-- no list, no dict within: nobody can change it -/
def noL : D → Bool
  | .none => true
  | .bool _ => true
  | .int _ => true
  | .str _ => true
  | .list _ => false
  | .tuple xs => noLs xs
  | .dict _ => false
def noLs : List D → Bool
  | [] => true
  | x :: r => noL x && noLs r
end

/-- a number within bounds; so said that nobody computes it -/
theorem inB_ex (a b : Int) : ∃ f : Int → Bool, ∀ i, f i = (decide (a ≤ i) && decide (i < b)) := ⟨_, fun _ => rfl⟩
def inB (a b : Int) : Int → Bool := Classical.choose (inB_ex a b)
theorem inB_eq {a b i : Int} : inB a b i = (decide (a ≤ i) && decide (i < b)) := Classical.choose_spec (inB_ex a b) i
theorem inB_t {a b i : Int} (h : a ≤ i) (h2 : i < b) : inB a b i = true := by rw [inB_eq, decide_eq_true h, decide_eq_true h2]; rfl
/-- what happens: nothing known, a value, an exception -/
structure Exn where
  cls : Str
  arg : Option Int := none
inductive Re (α : Type) where
  | bad
  | ok (a : α)
  | ex (c : Exn)
def Re.bind {α β : Type} (r : Re α) (k : α → Re β) : Re β := match r with
  | .bad => .bad
  | .ok a => k a
  | .ex c => .ex c
def wp {α : Type} (r : Re α) (Q : α → Prop) (E : Exn → Prop) : Prop := match r with
  | .bad => False
  | .ok a => Q a
  | .ex c => E c
theorem wp_bind {α β : Type} {r : Re α} {k : α → Re β} {Q : β → Prop} {E : Exn → Prop} : wp (r.bind k) Q E ↔ wp r (fun a => wp (k a) Q E) E := by
  cases r <;> exact Iff.rfl
theorem wp_mono {α : Type} {r : Re α} {Q Q' : α → Prop} {E E' : Exn → Prop} (h : wp r Q E) (hq : ∀ a, r = .ok a → Q a → Q' a) (he : ∀ c, E c → E' c) : wp r Q' E' := by
  cases r with
  | bad => exact h
  | ok a => exact hq a rfl h
  | ex c => exact he c h
@[simp] theorem bind_ok {α β : Type} (a : α) (k : α → Re β) : (Re.ok a).bind k = k a := Eq.trans rfl rfl
@[simp] theorem bind_ex {α β : Type} (c : Exn) (k : α → Re β) : (Re.ex c : Re α).bind k = .ex c := Eq.trans rfl rfl
@[simp] theorem bind_bad {α β : Type} (k : α → Re β) : (Re.bad : Re α).bind k = .bad := Eq.trans rfl rfl

/-! ### representation -/
def Imm : HO → Prop
  | .tup _ => True
  | .frz _ _ => True
  | _ => False
/-- a list that nobody changes: the script, a list of the written part -/
def SqF (K : PySem.W.Frag) (H : Hp) (a : Addr) (xs : List V) : Prop :=
  (∃ o, H a = some (.frz o (.lst xs))) ∨
    ∃ (o : Obj) (its : Array Value) (n : Nat), K.lookup a = some o ∧ o.cls = .type "list" ∧ o.dict = none ∧ o.data = .seq its n ∧ its.size ≤ sizeLine ∧ Vals xs its.toList
theorem SqF.sq {K : PySem.W.Frag} {H : Hp} {a : Addr} {xs : List V} (h : SqF K H a xs) : SqL K H a xs := by
  rcases h with ⟨o, h⟩ | h
  · exact .inl (.inr ⟨o, h⟩)
  · exact .inr h
/-- a tuple, by its object: it has no dict of its own -/
def SqX (K : PySem.W.Frag) (H : Hp) (a : Addr) (xs : List V) : Prop :=
  (∃ o, H a = some (.frz o (.tup xs)) ∧ o.dict = none) ∨
    ∃ (o : Obj) (its : Array Value) (n : Nat), K.lookup a = some o ∧ o.cls = .type "tuple" ∧ o.dict = none ∧ o.data = .seq its n ∧ its.size ≤ sizeLine ∧ Vals xs its.toList
theorem SqX.sq {K : PySem.W.Frag} {H : Hp} {a : Addr} {xs : List V} (h : SqX K H a xs) : SqT K H a xs := by
  rcases h with ⟨o, h, _⟩ | ⟨o, its, n, h1, h2, _, h3⟩
  · exact .inl (.inr ⟨o, h⟩)
  · exact .inr ⟨o, its, n, h1, h2, h3⟩
theorem SqX.keep {K : PySem.W.Frag} {H H' : Hp} {a : Addr} {xs : List V} (h : SqX K H a xs) (k : ∀ b o, H b = some o → Imm o → H' b = some o) : SqX K H' a xs := by
  rcases h with ⟨o, h, d⟩ | h
  · exact .inl ⟨o, k _ _ h trivial, d⟩
  · exact .inr h
mutual
/-- the value v stands for the data d; its lists stand where P allows -/
inductive Rp (K : PySem.W.Frag) (H : Hp) (P : Addr → Prop) : V → D → Prop
  | non : Rp K H P .non .none
  | bl (b : Bool) : Rp K H P (.bl b) (.bool b)
  | int (i : Int) : Rp K H P (.int i) (.int i)
  | str (x : Str) : Rp K H P (.str x) (.str x)
  | lst {a : Addr} {xs : List V} {ds : List D} : H a = some (.lst xs) → P a → RpA K H P xs ds → Rp K H P (.ref a) (.list ds)
  | tup {a : Addr} {xs : List V} {ds : List D} : SqX K H a xs → RpA K H P xs ds → Rp K H P (.ref a) (.tuple ds)
inductive RpA (K : PySem.W.Frag) (H : Hp) (P : Addr → Prop) : List V → List D → Prop
  | nil : RpA K H P [] []
  | cons {v : V} {vs : List V} {d : D} {ds : List D} : Rp K H P v d → RpA K H P vs ds → RpA K H P (v :: vs) (d :: ds)
end

section
variable {K : PySem.W.Frag} {H H' : Hp} {P P' : Addr → Prop}
mutual
/-- carried to another heap: the lists that P allows stand, what never changes stands -/
theorem Rp.move (hl : ∀ a xs, P a → H a = some (.lst xs) → H' a = some (.lst xs) ∧ P' a) (hi : ∀ a o, H a = some o → Imm o → H' a = some o) :
    ∀ {d : D} {v : V}, Rp K H P v d → Rp K H' P' v d
  | _, _, .non => .non
  | _, _, .bl b => .bl b
  | _, _, .int i => .int i
  | _, _, .str x => .str x
  | _, _, .lst h p r => .lst (hl _ _ p h).1 (hl _ _ p h).2 (RpA.move hl hi r)
  | _, _, .tup h r => .tup (h.keep hi) (RpA.move hl hi r)
theorem RpA.move (hl : ∀ a xs, P a → H a = some (.lst xs) → H' a = some (.lst xs) ∧ P' a) (hi : ∀ a o, H a = some o → Imm o → H' a = some o) :
    ∀ {ds : List D} {vs : List V}, RpA K H P vs ds → RpA K H' P' vs ds
  | _, _, .nil => .nil
  | _, _, .cons h t => .cons (Rp.move hl hi h) (RpA.move hl hi t)
end
theorem Rp.imp (h : ∀ a, P a → P' a) {d : D} {v : V} (r : Rp K H P v d) : Rp K H P' v d := r.move (fun a _ p e => ⟨e, h a p⟩) fun _ _ e _ => e
theorem RpA.imp (h : ∀ a, P a → P' a) {d : List D} {v : List V} (r : RpA K H P v d) : RpA K H P' v d := r.move (fun a _ p e => ⟨e, h a p⟩) fun _ _ e _ => e
theorem Rp.same (h : Same H H') {d : D} {v : V} (r : Rp K H P v d) : Rp K H' P v d := r.move (fun a _ p e => ⟨h _ _ e, p⟩) fun _ _ e _ => h _ _ e
theorem RpA.same (h : Same H H') {d : List D} {v : List V} (r : RpA K H P v d) : RpA K H' P v d := r.move (fun a _ p e => ⟨h _ _ e, p⟩) fun _ _ e _ => h _ _ e
mutual
theorem Rp.free : ∀ {d : D} {v : V}, noL d = true → Rp K H P v d → Rp K H P' v d
  | _, _, _, .non => .non
  | _, _, _, .bl b => .bl b
  | _, _, _, .int i => .int i
  | _, _, _, .str x => .str x
  | _, _, e, .lst _ _ _ => by simp [noL] at e
  | _, _, e, .tup h r => .tup h (RpA.free (by simpa [noL] using e) r)
theorem RpA.free : ∀ {ds : List D} {vs : List V}, noLs ds = true → RpA K H P vs ds → RpA K H P' vs ds
  | _, _, _, .nil => .nil
  | d :: ds, _, e, .cons h t => by
    have e' : noL d = true ∧ noLs ds = true := by simpa [noLs] using e
    exact .cons (Rp.free e'.1 h) (RpA.free e'.2 t)
end
mutual
theorem Rp.dp : ∀ {d : D} {v : V}, Rp K H P v d → Dp K H v d
  | _, _, .non => .non
  | _, _, .bl b => .bl b
  | _, _, .int i => .int i
  | _, _, .str x => .str x
  | _, _, .lst h _ r => .lst (.of h) (RpA.dp r)
  | _, _, .tup h r => .tup h.sq (RpA.dp r)
theorem RpA.dp : ∀ {ds : List D} {vs : List V}, RpA K H P vs ds → DpAll K H vs ds
  | _, _, .nil => .nil
  | _, _, .cons h t => .cons (Rp.dp h) (RpA.dp t)
end
theorem RpA.len : ∀ {ds : List D} {vs : List V}, RpA K H P vs ds → vs.length = ds.length
  | _, _, .nil => rfl
  | _, _, .cons _ t => by rw [List.length_cons, List.length_cons, RpA.len t]
theorem RpA.get : ∀ {ds : List D} {vs : List V} {i : Nat} {d : D}, RpA K H P vs ds → ds[i]? = some d → ∃ v, vs[i]? = some v ∧ Rp K H P v d
  | _, _, _, _, .nil, e => by simp at e
  | _, _, 0, _, .cons h _, e => by simp at e; subst e; exact ⟨_, rfl, h⟩
  | _, _, i + 1, d, .cons _ t, e => by
    obtain ⟨v, a, b⟩ := RpA.get (i := i) (d := d) t (by simpa using e)
    exact ⟨v, by simpa using a, b⟩
theorem RpA.getV : ∀ {ds : List D} {vs : List V} {i : Nat} {v : V}, RpA K H P vs ds → vs[i]? = some v → ∃ d, ds[i]? = some d ∧ Rp K H P v d
  | _, _, _, _, .nil, e => by simp at e
  | _, _, 0, _, .cons h _, e => by simp at e; subst e; exact ⟨_, rfl, h⟩
  | _, _, i + 1, d, .cons _ t, e => by
    obtain ⟨v, a, b⟩ := RpA.getV (i := i) (v := d) t (by simpa using e)
    exact ⟨v, by simpa using a, b⟩
theorem RpA.app : ∀ {ds es : List D} {vs ws : List V}, RpA K H P vs ds → RpA K H P ws es → RpA K H P (vs ++ ws) (ds ++ es)
  | _, _, _, _, .nil, s => s
  | _, _, _, _, .cons h t, s => .cons h (RpA.app t s)
theorem RpA.take : ∀ {ds : List D} {vs : List V} (n : Nat), RpA K H P vs ds → RpA K H P (vs.take n) (ds.take n)
  | _, _, 0, _ => .nil
  | _, _, _ + 1, .nil => .nil
  | _, _, n + 1, .cons h t => .cons h (RpA.take n t)
theorem RpA.drop : ∀ {ds : List D} {vs : List V} (n : Nat), RpA K H P vs ds → RpA K H P (vs.drop n) (ds.drop n)
  | _, _, 0, r => r
  | _, _, _ + 1, .nil => .nil
  | _, _, n + 1, .cons _ t => RpA.drop n t
theorem RpA.set : ∀ {ds : List D} {vs : List V} (i : Nat) {d : D} {v : V}, RpA K H P vs ds → Rp K H P v d → RpA K H P (vs.set i v) (ds.set i d)
  | _, _, _, _, _, .nil, _ => .nil
  | _, _, 0, _, _, .cons _ t, r => .cons r t
  | _, _, i + 1, _, _, .cons h t, r => .cons h (RpA.set i t r)
theorem RpA.erase : ∀ {ds : List D} {vs : List V} (i : Nat), RpA K H P vs ds → RpA K H P (vs.eraseIdx i) (ds.eraseIdx i)
  | _, _, _, .nil => .nil
  | _, _, 0, .cons _ t => t
  | _, _, i + 1, .cons h t => .cons h (RpA.erase i t)
theorem RpA.rev {ds : List D} {vs : List V} (r : RpA K H P vs ds) : RpA K H P vs.reverse ds.reverse := by
  induction ds generalizing vs with
  | nil => cases r; exact .nil
  | cons d ds ih =>
    cases r with
    | cons h t => rw [List.reverse_cons, List.reverse_cons]; exact (ih t).app (.cons h .nil)
end

/-! ### levels: which lists an expression may hand out -/
inductive Lv where
  /-- lists of the def's own that all may hold; effects are allowed -/
  | va
  /-- .. and those that were handed in -/
  | bo
  /-- any; no effects -/
  | an
  /-- as va, as bo; no effects -/
  | vp
  | bp
  /-- the def's own ones, kept ones too (at a return); no effects -/
  | rt (np : Nat)
  /-- those made by the expression itself; no effects -/
  | fr
  deriving DecidableEq
def Lv.okb : Lv → Nat → Bool
  | .va, c => c == 0
  | .bo, c => decide (c ≤ 1)
  | .an, _ => true
  | .vp, c => c == 0
  | .bp, c => decide (c ≤ 1)
  | .rt np, c => c == 0 || decide (np + 3 ≤ c)
  | .fr, c => c == 0
def Lv.pure : Lv → Bool
  | .va => false
  | .bo => false
  | _ => true
theorem Lv.ok0 (L : Lv) : L.okb 0 = true := by cases L <;> simp [Lv.okb]

/-! ### slots -/
/-- a def: how many parameters, where those stand that it may change -/
structure Fp where
  n : Nat
  pa : Nat → Addr
/-- what an object's attribute holds: flat data, or a list of the object's own with flat items -/
inductive Fd where
  | va (d : D)
  | ow (ds : List D)
/-- a class of the program's own: its name, its attributes in the order in which they are made -/
structure Kl where
  nm : Str
  ks : List Str
  deriving DecidableEq
inductive Sl where
  | no
  | va (d : D)
  | bo (d : D)
  | ow (ds : List D)
  | un (d : D)
  /-- the script: ints -/
  | sc (ns : List Int)
  /-- an object of the class kl, its attributes -/
  | ob (kl : Kl) (xs : List Fd)
  /-- a dict of one's own: ints to plain things -/
  | dc (kvs : List (Int × D))
abbrev Slots := List Sl
abbrev Col := Addr → Nat
def Cof (C : Col) (L : Lv) : Addr → Prop := fun a => L.okb (C a) = true
inductive FdR (K : PySem.W.Frag) (H : Hp) (C : Col) (c : Nat) : V → Fd → Prop
  | va {v : V} {d : D} : noL d = true → Rp K H (fun _ => False) v d → FdR K H C c v (.va d)
  | ow {b : Addr} {vs : List V} {ds : List D} : H b = some (.lst vs) → C b = c → noLs ds = true → RpA K H (fun _ => False) vs ds → FdR K H C c (.ref b) (.ow ds)
structure ObR (K : PySem.W.Frag) (H : Hp) (C : Col) (c : Nat) (ks : List Str) (us : List (Str × V)) (xs : List Fd) : Prop where
  le : xs.length ≤ ks.length
  keys : us.map (·.1) = ks.take xs.length
  get : ∀ (k : Nat) x, xs[k]? = some x → ∃ f v, us[k]? = some (f, v) ∧ FdR K H C c v x
  dis : ∀ (k l : Nat) ds es b f g, k ≠ l → xs[k]? = some (.ow ds) → xs[l]? = some (.ow es) → us[k]? = some (f, V.ref b) → us[l]? = some (g, V.ref b) → False
theorem FdR.move {K : PySem.W.Frag} {H H' : Hp} {C C' : Col} {c c' : Nat} {v : V} {x : Fd} (hl : ∀ b xs, C b = c → H b = some (.lst xs) → H' b = some (.lst xs) ∧ C' b = c') (hi : ∀ a o, H a = some o → Imm o → H' a = some o) (r : FdR K H C c v x) : FdR K H' C' c' v x := by
  cases r with
  | va n r => exact .va n (r.move (fun _ _ p => p.elim) hi)
  | ow h e n r => exact .ow (hl _ _ e h).1 (hl _ _ e h).2 n (r.move (fun _ _ p => p.elim) hi)
theorem ObR.move {K : PySem.W.Frag} {H H' : Hp} {C C' : Col} {c c' : Nat} {ks : List Str} {us : List (Str × V)} {fs : List Fd} (hl : ∀ b xs, C b = c → H b = some (.lst xs) → H' b = some (.lst xs) ∧ C' b = c') (hi : ∀ a o, H a = some o → Imm o → H' a = some o) (r : ObR K H C c ks us fs) : ObR K H' C' c' ks us fs :=
  ⟨r.le, r.keys, fun k x e => let ⟨f, v, l, q⟩ := r.get k x e; ⟨f, v, l, q.move hl hi⟩, r.dis⟩
/-- a dict's pairs -/
inductive KvR (K : PySem.W.Frag) (H : Hp) : List (Key × V) → List (Int × D) → Prop
  | nil : KvR K H [] []
  | cons {i : Int} {v : V} {d : D} {r : List (Key × V)} {s : List (Int × D)} : noL d = true → Rp K H (fun _ => False) v d → KvR K H r s → KvR K H ((.inl i, v) :: r) ((i, d) :: s)
theorem KvR.move {K : PySem.W.Frag} {H H' : Hp} (hi : ∀ a o, H a = some o → Imm o → H' a = some o) : ∀ {us : List (Key × V)} {ds : List (Int × D)}, KvR K H us ds → KvR K H' us ds
  | _, _, .nil => .nil
  | _, _, .cons n r t => .cons n (r.move (fun _ _ p => p.elim) hi) (t.move hi)
inductive SlotR (K : PySem.W.Frag) (np : Fp) (H : Hp) (C : Col) (i : Nat) : Option (Option V) → Sl → Prop
  | no {o : Option (Option V)} : SlotR K np H C i o .no
  | va {v : V} {d : D} : Rp K H (fun a => C a = 0) v d → SlotR K np H C i (some (some v)) (.va d)
  | bo {v : V} {d : D} : Rp K H (fun a => C a ≤ 1) v d → SlotR K np H C i (some (some v)) (.bo d)
  | ow {a : Addr} {vs : List V} {ds : List D} : H a = some (.lst vs) → C a = i + 3 → RpA K H (fun a => C a = 0) vs ds → (i < np.n → a = np.pa i) → SlotR K np H C i (some (some (.ref a))) (.ow ds)
  | un {v : V} {d : D} : Rp K H (fun a => C a = i + 3) v d → SlotR K np H C i (some (some v)) (.un d)
  | sc {a : Addr} {ns : List Int} : SqF K H a (ns.map V.int) → SlotR K np H C i (some (some (.ref a))) (.sc ns)
  | ob {a Cc dx : Addr} {us : List (Str × V)} {kl : Kl} {fs : List Fd} : H a = some (.ins Cc dx us) → C a = i + 3 → PySem.W.nsIn K mainGlobals kl.nm = some (some (.ref Cc)) → ObR K H C (i + 3) kl.ks us fs → (i < np.n → a = np.pa i) →
      SlotR K np H C i (some (some (.ref a))) (.ob kl fs)
  | dc {a : Addr} {us : List (Key × V)} {ds : List (Int × D)} : H a = some (.dK us) → C a = i + 3 → KvR K H us ds → (i < np.n → a = np.pa i) → SlotR K np H C i (some (some (.ref a))) (.dc ds)
structure Rel (K : PySem.W.Frag) (np : Fp) (H : Hp) (C : Col) (σ : L2.St) (ρ : Slots) : Prop where
  len : σ.length = ρ.length
  get : ∀ i s, ρ[i]? = some s → SlotR K np H C i σ[i]? s

/-- what an evaluation may change -/
structure Stp (np : Fp) (H : Hp) (C : Col) (H' : Hp) (C' : Col) : Prop where
  keep : ∀ b x, H b = some x → C b ≤ 2 ∨ Imm x → H' b = some x
  there : ∀ b, H b ≠ none → H' b ≠ none
  colo : ∀ b, H b ≠ none → C b ≤ np.n + 2 → C' b = C b
  colh : ∀ b, H b ≠ none → np.n + 3 ≤ C b → C' b = 0 ∨ np.n + 3 ≤ C' b
structure PStp (H : Hp) (C : Col) (H' : Hp) (C' : Col) : Prop where
  same : Same H H'
  col : ∀ b, H b ≠ none → C' b = C b
section
variable {np : Fp} {H H' H'' : Hp} {C C' C'' : Col}
theorem Stp.refl : Stp np H C H C := ⟨fun _ _ h _ => h, fun _ h => h, fun _ _ _ => rfl, fun _ _ h => .inr h⟩
theorem PStp.refl : PStp H C H C := ⟨Same.refl _, fun _ _ => rfl⟩
theorem Stp.trans (a : Stp np H C H' C') (b : Stp np H' C' H'' C'') : Stp np H C H'' C'' where
  keep := fun c x h k => by
    have h1 := a.keep c x h k
    refine b.keep c x h1 ?_
    rcases k with k | k
    · by_cases hn : C c ≤ np.n + 2
      · rw [a.colo c (by rw [h]; simp) hn]; exact .inl k
      · omega
    · exact .inr k
  there := fun c h => b.there c (a.there c h)
  colo := fun c h k => by
    have e := a.colo c h k
    rw [b.colo c (a.there c h) (by omega), e]
  colh := fun c h k => by
    rcases a.colh c h k with e | e
    · left; rw [b.colo c (a.there c h) (by omega), e]
    · exact b.colh c (a.there c h) e
theorem PStp.trans (a : PStp H C H' C') (b : PStp H' C' H'' C'') : PStp H C H'' C'' :=
  ⟨a.same.trans b.same, fun c h => by
    rw [b.col c ?_, a.col c h]
    intro z
    cases q : H c with
    | none => exact h q
    | some x => rw [a.same c x q] at z; cases z⟩
theorem PStp.stp (a : PStp H C H' C') : Stp np H C H' C' :=
  ⟨fun b x h _ => a.same b x h, fun b h z => (by
    cases q : H b with
    | none => exact h q
    | some x => rw [a.same b x q] at z; cases z), fun b h _ => a.col b h, fun b h k => (by rw [a.col b h]; exact .inr k)⟩
end
end
end Dm

namespace Dm
noncomputable section
open PySem PySem.Spec PyProof.Rows L2

/-- behind an evaluation at level L -/
structure Aft (np : Fp) (L : Lv) (ρ : Slots) (H : Hp) (C : Col) (ρ' : Slots) (H' : Hp) (C' : Col) : Prop where
  stp : Stp np H C H' C'
  pu : L.pure = true → ρ' = ρ ∧ PStp H C H' C'
section
variable {np : Fp} {L : Lv} {ρ ρ1 ρ2 : Slots} {H H1 H2 : Hp} {C C1 C2 : Col} {K : PySem.W.Frag} {σ : L2.St}
theorem Aft.refl : Aft np L ρ H C ρ H C := ⟨.refl, fun _ => ⟨rfl, .refl⟩⟩
theorem Aft.trans (a : Aft np L ρ H C ρ1 H1 C1) (b : Aft np L ρ1 H1 C1 ρ2 H2 C2) : Aft np L ρ H C ρ2 H2 C2 :=
  ⟨a.stp.trans b.stp, fun h => ⟨(b.pu h).1.trans (a.pu h).1, (a.pu h).2.trans (b.pu h).2⟩⟩
theorem Aft.of (a : PStp H C H1 C1) : Aft np L ρ H C ρ H1 C1 := ⟨a.stp, fun _ => ⟨rfl, a⟩⟩
theorem okb_le1 {L : Lv} (h : L.pure = false) {c : Nat} (hc : L.okb c = true) : c ≤ 1 := by
  cases L <;> simp [Lv.pure, Lv.okb] at h hc <;> omega
theorem Aft.moves (a : Aft np L ρ H C ρ1 H1 C1) : (∀ b xs, Cof C L b → H b = some (.lst xs) → H1 b = some (.lst xs) ∧ Cof C1 L b) ∧ ∀ b o, H b = some o → Imm o → H1 b = some o := by
  refine ⟨fun b xs p h => ?_, fun b o h i => a.stp.keep b o h (.inr i)⟩
  have hn : H b ≠ none := by rw [h]; simp
  cases e : L.pure with
  | true => exact ⟨(a.pu e).2.same b _ h, by unfold Cof; rw [(a.pu e).2.col b hn]; exact p⟩
  | false =>
    have l1 := okb_le1 e p
    exact ⟨a.stp.keep b _ h (.inl (by omega)), by unfold Cof; rw [a.stp.colo b hn (by omega)]; exact p⟩
theorem Aft.rp (a : Aft np L ρ H C ρ1 H1 C1) {v : V} {d : D} (r : Rp K H (Cof C L) v d) : Rp K H1 (Cof C1 L) v d := r.move a.moves.1 a.moves.2
theorem Aft.rpA (a : Aft np L ρ H C ρ1 H1 C1) {v : List V} {d : List D} (r : RpA K H (Cof C L) v d) : RpA K H1 (Cof C1 L) v d := r.move a.moves.1 a.moves.2
theorem PStp.rp {P : Nat → Prop} (a : PStp H C H1 C1) {v : V} {d : D} (r : Rp K H (fun b => P (C b)) v d) : Rp K H1 (fun b => P (C1 b)) v d :=
  r.move (fun b xs p h => ⟨a.same b _ h, by rw [a.col b (by rw [h]; simp)]; exact p⟩) fun b o h _ => a.same b o h
theorem PStp.rpA {P : Nat → Prop} (a : PStp H C H1 C1) {v : List V} {d : List D} (r : RpA K H (fun b => P (C b)) v d) : RpA K H1 (fun b => P (C1 b)) v d :=
  r.move (fun b xs p h => ⟨a.same b _ h, by rw [a.col b (by rw [h]; simp)]; exact p⟩) fun b o h _ => a.same b o h
theorem SlotR.pstp {i : Nat} {o : Option (Option V)} {s : Sl} (a : PStp H C H1 C1) (r : SlotR K np H C i o s) : SlotR K np H1 C1 i o s := by
  cases r with
  | no => exact .no
  | va r => exact .va (a.rp (P := fun c => c = 0) r)
  | bo r => exact .bo (a.rp (P := fun c => c ≤ 1) r)
  | ow h c r pn => exact .ow (a.same _ _ h) (by rw [a.col _ (by rw [h]; simp)]; exact c) (a.rpA (P := fun c => c = 0) r) pn
  | un r => exact .un (a.rp (P := fun c => c = i + 3) r)
  | sc h => exact .sc (h.elim (fun ⟨o, h⟩ => .inl ⟨o, a.same _ _ h⟩) .inr)
  | ob h c n r pn => exact .ob (a.same _ _ h) (by rw [a.col _ (by rw [h]; simp)]; exact c) n (r.move (fun b xs e h => ⟨a.same _ _ h, by rw [a.col b (by rw [h]; simp)]; exact e⟩) fun b o h _ => a.same b o h) pn
  | dc h c r pn => exact .dc (a.same _ _ h) (by rw [a.col _ (by rw [h]; simp)]; exact c) (r.move fun b o h _ => a.same b o h) pn
theorem Rel.pstp (R : Rel K np H C σ ρ) (a : PStp H C H1 C1) : Rel K np H1 C1 σ ρ := ⟨R.len, fun i s h => (R.get i s h).pstp a⟩
end

/-- an expression of data: the level, the slots; the data and the slots behind -/
abbrev ES := Lv → Slots → Re (D × Slots)
abbrev AS := Lv → Slots → Re (List D × Slots)
abbrev BS := Lv → Slots → Re (Bool × Slots)
/-- what is wanted of an exception -/
abbrev XW := Exn → Hp → Prop
section
variable (K : PySem.W.Frag) (np : Fp) (EW : XW)
def tE (f : ES) : TE := fun σ H Q => ∃ L C ρ, Rel K np H C σ ρ ∧
  wp (f L ρ) (fun p => ∀ v H' C', Aft np L ρ H C p.2 H' C' → Rel K np H' C' σ p.2 → Rp K H' (Cof C' L) v p.1 → Q v H') (fun c => ∀ H' C', Stp np H C H' C' → EW c H')
def tA (f : AS) : TA := fun σ H Q => ∃ L C ρ, Rel K np H C σ ρ ∧
  wp (f L ρ) (fun p => ∀ v H' C', Aft np L ρ H C p.2 H' C' → Rel K np H' C' σ p.2 → RpA K H' (Cof C' L) v p.1 → Q v H') (fun c => ∀ H' C', Stp np H C H' C' → EW c H')
def tT (f : BS) : TT := fun σ H Q => ∃ L C ρ, Rel K np H C σ ρ ∧
  wp (f L ρ) (fun p => ∀ H' C', Aft np L ρ H C p.2 H' C' → Rel K np H' C' σ p.2 → Q p.1 H') (fun c => ∀ H' C', Stp np H C H' C' → EW c H')
end
abbrev DE (X : Cx) (np : Fp) (EW : XW) (e : Expr) (f : ES) : Prop := PE X e (tE X.K np EW f)
abbrev DA (X : Cx) (np : Fp) (EW : XW) (e : List Expr) (f : AS) : Prop := PA X e (tA X.K np EW f)
abbrev DT (X : Cx) (np : Fp) (EW : XW) (e : Expr) (f : BS) : Prop := PT X e (tT X.K np EW f)
abbrev DW (X : Cx) (np : Fp) (EW : XW) (e : Expr) (f : BS) : Prop := PW X e (tT X.K np EW f)
theorem PE.weak {X : Cx} {e : Expr} {t t' : TE} (h : PE X e t) (w : ∀ σ H Q, t' σ H Q → t σ H Q) : PE X e t' := ⟨fun pins s σ H Q I q => h.run pins s σ H Q I (w σ H Q q)⟩
theorem PA.weak {X : Cx} {e : List Expr} {t t' : TA} (h : PA X e t) (w : ∀ σ H Q, t' σ H Q → t σ H Q) : PA X e t' := ⟨fun pos pins s σ H Q I q => h.run pos pins s σ H Q I (w σ H Q q)⟩
theorem PT.weak {X : Cx} {e : Expr} {t t' : TT} (h : PT X e t) (w : ∀ σ H Q, t' σ H Q → t σ H Q) : PT X e t' := ⟨fun pins s σ H Q I q => h.run pins s σ H Q I (w σ H Q q)⟩
theorem PW.weak {X : Cx} {e : Expr} {t t' : TT} (h : PW X e t) (w : ∀ σ H Q, t' σ H Q → t σ H Q) : PW X e t' := ⟨fun wh pins s σ H Q I q => h.run wh pins s σ H Q I (w σ H Q q)⟩

def ofO {α : Type} : Option α → Re α
  | none => .bad
  | some a => .ok a
@[simp] theorem ofO_some {α : Type} (a : α) : ofO (some a) = .ok a := Eq.trans rfl rfl
@[simp] theorem ofO_none {α : Type} : ofO (none : Option α) = .bad := Eq.trans rfl rfl
theorem wp_ofO {α : Type} {o : Option α} {Q : α → Prop} {E : Exn → Prop} (h : wp (ofO o) Q E) : ∃ a, o = some a ∧ Q a := by
  cases o with
  | none => exact h.elim
  | some a => exact ⟨a, rfl, h⟩
section
variable {X : Cx} {np : Fp} {EW : XW} {a b c e : Expr} {fa fb fc : ES} {pos : Pos}
/-! ### chaining -/
section
variable {K : PySem.W.Frag} {L : Lv} {C : Col} {ρ : Slots} {σ : L2.St} {H : Hp}
/-- the expression is at hand, what follows is known -/
theorem tE_of {f : ES} {Q : V → Hp → Prop} (R : Rel K np H C σ ρ) {α : Type} {k : D × Slots → Re α} {Qr : α → Prop}
    (h : wp ((f L ρ).bind k) Qr (fun c => ∀ H' C', Stp np H C H' C' → EW c H'))
    (hq : ∀ p v H' C', Aft np L ρ H C p.2 H' C' → Rel K np H' C' σ p.2 → Rp K H' (Cof C' L) v p.1 → wp (k p) Qr (fun c => ∀ H'' C'', Stp np H' C' H'' C'' → EW c H'') → Q v H') : tE K np EW f σ H Q := by
  refine ⟨L, C, ρ, R, wp_mono (wp_bind.mp h) (fun p _ hp v H' C' A R' r => hq p v H' C' A R' r (wp_mono hp (fun _ _ z => z) fun c z H'' C'' S => z H'' C'' (A.stp.trans S))) fun c z => z⟩
theorem tA_of {f : AS} {Q : List V → Hp → Prop} (R : Rel K np H C σ ρ) {α : Type} {k : List D × Slots → Re α} {Qr : α → Prop}
    (h : wp ((f L ρ).bind k) Qr (fun c => ∀ H' C', Stp np H C H' C' → EW c H'))
    (hq : ∀ p v H' C', Aft np L ρ H C p.2 H' C' → Rel K np H' C' σ p.2 → RpA K H' (Cof C' L) v p.1 → wp (k p) Qr (fun c => ∀ H'' C'', Stp np H' C' H'' C'' → EW c H'') → Q v H') : tA K np EW f σ H Q := by
  refine ⟨L, C, ρ, R, wp_mono (wp_bind.mp h) (fun p _ hp v H' C' A R' r => hq p v H' C' A R' r (wp_mono hp (fun _ _ z => z) fun c z H'' C'' S => z H'' C'' (A.stp.trans S))) fun c z => z⟩
theorem tT_of {f : BS} {Q : Bool → Hp → Prop} (R : Rel K np H C σ ρ) {α : Type} {k : Bool × Slots → Re α} {Qr : α → Prop}
    (h : wp ((f L ρ).bind k) Qr (fun c => ∀ H' C', Stp np H C H' C' → EW c H'))
    (hq : ∀ p H' C', Aft np L ρ H C p.2 H' C' → Rel K np H' C' σ p.2 → wp (k p) Qr (fun c => ∀ H'' C'', Stp np H' C' H'' C'' → EW c H'') → Q p.1 H') : tT K np EW f σ H Q := by
  refine ⟨L, C, ρ, R, wp_mono (wp_bind.mp h) (fun p _ hp H' C' A R' => hq p H' C' A R' (wp_mono hp (fun _ _ z => z) fun c z H'' C'' S => z H'' C'' (A.stp.trans S))) fun c z => z⟩
end

/-! ### names, constants -/
def csE (d : D) : ES := fun _ ρ => .ok (d, ρ)
theorem de_int {i : Int} {j pos} : DE X np EW (.Constant (.int i) j pos) (csE (.int i)) := PE.weak pe_int fun σ H Q ⟨L, C, ρ, R, h⟩ => h (.int i) H C .refl R (.int i)
theorem de_bl {b : Bool} {j pos} : DE X np EW (.Constant (.bool b) j pos) (csE (.bool b)) := PE.weak pe_bl fun σ H Q ⟨L, C, ρ, R, h⟩ => h (.bl b) H C .refl R (.bl b)
theorem de_non {j pos} : DE X np EW (.Constant .none j pos) (csE .none) := PE.weak pe_non fun σ H Q ⟨L, C, ρ, R, h⟩ => h .non H C .refl R .non
theorem de_str {x : Str} {j pos} : DE X np EW (.Constant (.str x) j pos) (csE (.str x)) := PE.weak pe_str fun σ H Q ⟨L, C, ρ, R, h⟩ => h (.str x) H C .refl R (.str x)
/-- a name of the module that holds an int, a text, .. -/
theorem de_glob {x : Str} {u : Value} {v : V} {d : D} (hg : Gl X x) (hm : X.mg x = some u) (r : RelV v u) (q : ∀ H P, Rp X.K H P v d) (hd : (x == ("__debug__" : Str)) = false := by decide) : DE X np EW (.Name x pos) (csE d) :=
  PE.weak (pe_glob hg hm r hd) fun σ H Q ⟨L, C, ρ, R, h⟩ => h v H C .refl R (q _ _)

def slD (L : Lv) (i : Nat) : Sl → Re D
  | .no => .bad
  | .va d => .ok d
  | .bo d => if L.okb 1 || noL d then .ok d else .bad
  | .ow ds => if L.okb (i + 3) then .ok (.list ds) else .bad
  | .un d => if L.okb (i + 3) || noL d then .ok d else .bad
  | .sc _ => .bad
  | .ob _ _ => .bad
  | .dc _ => .bad
def nmE (i : Nat) : ES := fun L ρ => match ρ[i]? with
  | some s => (slD L i s).bind fun d => .ok (d, ρ)
  | none => .bad
theorem okb_mono1 {L : Lv} (h : L.okb 1 = true) {c : Nat} (hc : c ≤ 1) : L.okb c = true := by
  have : c = 0 ∨ c = 1 := by omega
  rcases this with rfl | rfl
  · exact L.ok0
  · exact h
theorem nm_ok {np : Fp} {K : PySem.W.Frag} {H : Hp} {C : Col} {σ : L2.St} {ρ : Slots} {L : Lv} {i : Nat} {Q : D × Slots → Prop} {E : Exn → Prop} (R : Rel K np H C σ ρ) (h : wp (nmE i L ρ) Q E) :
    ∃ v d, σ[i]? = some (some v) ∧ Rp K H (Cof C L) v d ∧ Q (d, ρ) := by
  unfold nmE at h
  cases e : ρ[i]? with
  | none => rw [e] at h; exact h.elim
  | some s =>
    rw [e] at h
    have r := R.get i s e
    generalize σ[i]? = o at r
    cases r with
    | no => exact h.elim
    | va r => exact ⟨_, _, rfl, r.imp fun b hb => by unfold Cof; rw [hb]; exact L.ok0, h⟩
    | bo r =>
      rename_i v d
      have h' : wp ((if L.okb 1 || noL d then Re.ok d else .bad).bind fun d => .ok (d, ρ)) Q E := h
      by_cases c1 : L.okb 1 = true
      · rw [c1, Bool.true_or, if_pos rfl] at h'
        exact ⟨_, _, rfl, r.imp fun b hb => okb_mono1 c1 hb, h'⟩
      · by_cases c2 : noL d = true
        · rw [c2, Bool.or_true, if_pos rfl] at h'
          exact ⟨_, _, rfl, r.free c2, h'⟩
        · rw [Bool.eq_false_iff.mpr c1, Bool.eq_false_iff.mpr c2] at h'
          exact h'.elim
    | ow ha hc r pn =>
      rename_i a vs ds
      have h' : wp ((if L.okb (i + 3) then Re.ok (.list ds) else .bad).bind fun d => .ok (d, ρ)) Q E := h
      by_cases c1 : L.okb (i + 3) = true
      · rw [if_pos c1] at h'
        exact ⟨_, _, rfl, .lst ha (by unfold Cof; rw [hc]; exact c1) (r.imp fun b hb => by unfold Cof; rw [hb]; exact L.ok0), h'⟩
      · rw [if_neg c1] at h'; exact h'.elim
    | sc _ => exact h.elim
    | ob _ _ _ _ _ => exact h.elim
    | dc _ _ _ _ => exact h.elim
    | un r =>
      rename_i v d
      have h' : wp ((if L.okb (i + 3) || noL d then Re.ok d else .bad).bind fun d => .ok (d, ρ)) Q E := h
      by_cases c1 : L.okb (i + 3) = true
      · rw [c1, Bool.true_or, if_pos rfl] at h'
        exact ⟨_, _, rfl, r.imp fun b hb => by unfold Cof; rw [hb]; exact c1, h'⟩
      · by_cases c2 : noL d = true
        · rw [c2, Bool.or_true, if_pos rfl] at h'
          exact ⟨_, _, rfl, r.free c2, h'⟩
        · rw [Bool.eq_false_iff.mpr c1, Bool.eq_false_iff.mpr c2] at h'
          exact h'.elim
theorem de_nm (i : Nat) {x : Str} {pos : Pos} (hN : X.N[i]? = some x := by rfl) (hv : Vis X.env.scope x := by first | exact Or.inl rfl | exact Or.inr (Or.inl rfl) | exact Or.inr (Or.inr rfl)) (hd : (x == ("__debug__" : Str)) = false := by decide)
    (hcd : (x == ("__classdict__" : Str)) = false := by decide) : DE X np EW (.Name x pos) (nmE i) :=
  PE.weak (pe_var hN hv hd hcd) fun σ H Q ⟨L, C, ρ, R, h⟩ => by
    obtain ⟨v, d, e, r, q⟩ := nm_ok R h
    exact ⟨v, e, q v H C .refl R r⟩

/-! ### another level within -/
def atE (k : Lv) (f : ES) : ES := fun L ρ => if k.pure || !L.pure then (f k ρ).bind fun p => if noL p.1 then .ok p else .bad else .bad
theorem Aft.lev {K : PySem.W.Frag} {L k : Lv} {ρ ρ1 : Slots} {H H1 : Hp} {C C1 : Col} (hk : (k.pure || !L.pure) = true) (a : Aft np k ρ H C ρ1 H1 C1) : Aft np L ρ H C ρ1 H1 C1 :=
  ⟨a.stp, fun h => by
    rw [h] at hk
    exact a.pu (by simpa using hk)⟩
theorem de_at (k : Lv) {f : ES} (h : DE X np EW e f) : DE X np EW e (atE k f) :=
  PE.weak h fun σ H Q ⟨L, C, ρ, R, q⟩ => by
    unfold atE at q
    by_cases hk : (k.pure || !L.pure) = true
    · rw [if_pos hk] at q
      refine ⟨k, C, ρ, R, wp_mono (wp_bind.mp q) (fun p _ hp v H' C' A R' r => ?_) fun c z => z⟩
      by_cases hn : noL p.1 = true
      · rw [if_pos hn] at hp
        exact hp v H' C' (A.lev (K := X.K) hk) R' (r.free hn)
      · rw [if_neg hn] at hp; exact hp.elim
    · rw [if_neg hk] at q; exact q.elim
def atT (k : Lv) (f : BS) : BS := fun L ρ => if k.pure || !L.pure then f k ρ else .bad
theorem dt_at (k : Lv) {f : BS} (h : DT X np EW e f) : DT X np EW e (atT k f) :=
  PT.weak h fun σ H Q ⟨L, C, ρ, R, q⟩ => by
    unfold atT at q
    by_cases hk : (k.pure || !L.pure) = true
    · rw [if_pos hk] at q
      exact ⟨k, C, ρ, R, wp_mono q (fun p _ hp H' C' A R' => hp H' C' (A.lev (K := X.K) hk) R') fun c z => z⟩
    · rw [if_neg hk] at q; exact q.elim

/-! ### operators -/
def OpS (K : PySem.W.Frag) (r : R2) (g : D → D → Option D) : Prop := ∀ (H : Hp) (C : Col) (L : Lv) (x y : V) (dx dy d : D) (Q : VK), Rp K H (Cof C L) x dx → Rp K H (Cof C L) y dy → g dx dy = some d →
  (∀ v H' C', PStp H C H' C' → Rp K H' (Cof C' L) v d → Q v H') → r x y H Q
def opE (g : D → D → Option D) (fa fb : ES) : ES := fun L ρ => (fa L ρ).bind fun p => (fb L p.2).bind fun q => (ofO (g p.1 q.1)).bind fun d => .ok (d, q.2)
theorem op_fin {K : PySem.W.Frag} {r : R2} {g : D → D → Option D} (hg : OpS K r g) {σ : L2.St} {H : Hp} {Q : VK} {L : Lv} {C : Col} {ρ : Slots} (R : Rel K np H C σ ρ)
    (h : wp (opE g fa fb L ρ) (fun p => ∀ v H' C', Aft np L ρ H C p.2 H' C' → Rel K np H' C' σ p.2 → Rp K H' (Cof C' L) v p.1 → Q v H') (fun c => ∀ H' C', Stp np H C H' C' → EW c H')) :
    tE K np EW fa σ H fun x H1 => tE K np EW fb σ H1 fun y H2 => r x y H2 Q := by
  refine tE_of R h fun p x H1 C1 A1 R1 r1 h1 => ?_
  refine tE_of R1 h1 fun q y H2 C2 A2 R2 r2 h2 => ?_
  obtain ⟨d, e, h3⟩ := wp_ofO (wp_bind.mp h2)
  exact hg H2 C2 L x y p.1 q.1 d Q (A2.rp r1) r2 e fun v H' C' S r' => h3 v H' C' ((A1.trans A2).trans (.of S)) (R2.pstp S) r'
theorem de_op {op : Operator} {r : R2} {g : D → D → Option D} (ho : OpR X (binaryOp op) r) (hg : OpS X.K r g) (ha : DE X np EW a fa) (hb : DE X np EW b fb) : DE X np EW (.BinOp a op b pos) (opE g fa fb) :=
  PE.weak (pe_op ho ha hb) fun σ H Q ⟨L, C, ρ, R, h⟩ => op_fin hg R h
theorem de_cmp {op : CmpOp} {r : R2} {g : D → D → Option D} (ho : OpR X (compareOp op) r) (hg : OpS X.K r g) (ha : DE X np EW a fa) (hb : DE X np EW b fb) (hm : behindInMarks op b = false := by first | exact nomark _ | rfl) :
    DE X np EW (.Compare a [op] [b] pos) (opE g fa fb) :=
  PE.weak (pe_cmpR ho ha hb hm) fun σ H Q ⟨L, C, ρ, R, h⟩ => op_fin hg R h
/-- the data is a truth -/
def isB : D → Re Bool
  | .bool b => .ok b
  | _ => .bad
def asT (f : ES) : BS := fun L ρ => (f L ρ).bind fun p => (isB p.1).bind fun b => .ok (b, p.2)
theorem dt_cmp {op : CmpOp} {r : R2} {g : D → D → Option D} (ho : OpR X (compareOp op) r) (hg : OpS X.K r g) (ha : DE X np EW a fa) (hb : DE X np EW b fb) (hm : behindInMarks op b = false := by first | exact nomark _ | rfl) :
    DT X np EW (.Compare a [op] [b] pos) (asT (opE g fa fb)) :=
  PT.weak (pt_cmpR ho ha hb hm) fun σ H Q ⟨L, C, ρ, R, h⟩ => by
    refine op_fin (Q := fun x H' => ∃ k, x = V.bl k ∧ Q k H') (L := L) hg R ?_
    refine wp_mono (wp_bind.mp h) (fun p _ hp v H' C' A R' r' => ?_) fun c z => z
    obtain ⟨d, ρ'⟩ := p
    cases d with
    | bool b => cases r'; exact ⟨b, rfl, hp H' C' A R'⟩
    | _ => exact hp.elim
/-- any expression of a truth, as a test -/
theorem dt_val {f : ES} (h : DE X np EW e f) (he : ∀ whole, isTrue e X.env whole = (do let v ← whole; standAt e.pos; holding [v] (truthy v)) := by intro _; rfl) : DT X np EW e (asT f) :=
  PT.weak (pt_val h he) fun σ H Q ⟨L, C, ρ, R, h⟩ => by
    refine ⟨L, C, ρ, R, wp_mono (wp_bind.mp h) (fun p _ hp v H' C' A R' r' => ?_) fun c z => z⟩
    obtain ⟨d, ρ'⟩ := p
    cases d with
    | bool b => cases r'; exact ⟨b, rfl, hp H' C' A R'⟩
    | _ => exact hp.elim

/-! ### and, or, not, if -/
def ntT (f : BS) : BS := fun L ρ => (f L ρ).bind fun p => .ok (!p.1, p.2)
def anT (f g : BS) : BS := fun L ρ => (f L ρ).bind fun p => if p.1 then g L p.2 else .ok (false, p.2)
def orT (f g : BS) : BS := fun L ρ => (f L ρ).bind fun p => if p.1 then .ok (true, p.2) else g L p.2
variable {ga gb gc : BS} {rest : List Expr}
theorem dt_not (h : DT X np EW a ga) : DT X np EW (.UnaryOp .Not a pos) (ntT ga) :=
  PT.weak (pt_not h) fun σ H Q ⟨L, C, ρ, R, h⟩ => tT_of R h fun p H' C' A R' hp => hp H' C' A R'
theorem dw_and1 (h : DT X np EW a ga) : DW X np EW (.BoolOp .And [a] pos) ga := pw_and1 h
theorem dw_or1 (h : DT X np EW a ga) : DW X np EW (.BoolOp .Or [a] pos) ga := pw_or1 h
theorem dw_and (h : DT X np EW a ga) (hb : DW X np EW (.BoolOp .And (b :: rest) pos) gb) : DW X np EW (.BoolOp .And (a :: b :: rest) pos) (anT ga gb) :=
  PW.weak (pw_and h hb) fun σ H Q ⟨L, C, ρ, R, h⟩ => tT_of R h fun p H' C' A R' hp => by
    cases e : p.1 with
    | true =>
      rw [e] at hp
      exact iteT ⟨L, C', p.2, R', wp_mono hp (fun q _ hq H'' C'' A' R'' => hq H'' C'' (A.trans A') R'') fun c z => z⟩
    | false =>
      rw [e] at hp
      exact iteF (hp H' C' A R')
theorem dw_or (h : DT X np EW a ga) (hb : DW X np EW (.BoolOp .Or (b :: rest) pos) gb) : DW X np EW (.BoolOp .Or (a :: b :: rest) pos) (orT ga gb) :=
  PW.weak (pw_or h hb) fun σ H Q ⟨L, C, ρ, R, h⟩ => tT_of R h fun p H' C' A R' hp => by
    cases e : p.1 with
    | false =>
      rw [e] at hp
      exact iteF ⟨L, C', p.2, R', wp_mono hp (fun q _ hq H'' C'' A' R'' => hq H'' C'' (A.trans A') R'') fun c z => z⟩
    | true =>
      rw [e] at hp
      exact iteT (hp H' C' A R')
theorem DW.t {f : BS} (h : DW X np EW e f) : DT X np EW e f := h.pt
def ifE (g : BS) (fa fb : ES) : ES := fun L ρ => (g L ρ).bind fun p => if p.1 then fa L p.2 else fb L p.2
theorem de_if (h : DT X np EW c gc) (ha : DE X np EW a fa) (hb : DE X np EW b fb) : DE X np EW (.IfExp c a b pos) (ifE gc fa fb) :=
  PE.weak (pe_ifExp h ha hb) fun σ H Q ⟨L, C, ρ, R, h⟩ => tT_of R h fun p H' C' A R' hp => by
    cases e : p.1 with
    | false =>
      rw [e] at hp
      exact iteF ⟨L, C', p.2, R', wp_mono hp (fun q _ hq v H'' C'' A' R'' r => hq v H'' C'' (A.trans A') R'' r) fun c z => z⟩
    | true =>
      rw [e] at hp
      exact iteT ⟨L, C', p.2, R', wp_mono hp (fun q _ hq v H'' C'' A' R'' r => hq v H'' C'' (A.trans A') R'' r) fun c z => z⟩
/-- as values: truths -/
def anE (fa fb : ES) : ES := fun L ρ => (fa L ρ).bind fun p => (isB p.1).bind fun b => if b then fb L p.2 else .ok (.bool false, p.2)
def orE (fa fb : ES) : ES := fun L ρ => (fa L ρ).bind fun p => (isB p.1).bind fun b => if b then .ok (.bool true, p.2) else fb L p.2
def ntE (fa : ES) : ES := fun L ρ => (fa L ρ).bind fun p => (isB p.1).bind fun b => .ok (.bool (!b), p.2)
theorem de_one {op} {f : ES} (h : DE X np EW a f) : DE X np EW (.BoolOp op [a] pos) f := pe_one h
theorem de_and (h : DE X np EW a fa) (hb : DE X np EW (.BoolOp .And (b :: rest) pos) fb) : DE X np EW (.BoolOp .And (a :: b :: rest) pos) (anE fa fb) :=
  PE.weak (pe_and h hb) fun σ H Q ⟨L, C, ρ, R, h⟩ => tE_of R h fun p v H' C' A R' r hp => by
    obtain ⟨d, ρ'⟩ := p
    cases d with
    | bool k =>
      cases r
      refine ⟨k, rfl, ?_⟩
      cases k with
      | true => exact iteT ⟨L, C', ρ', R', wp_mono hp (fun q _ hq v H'' C'' A' R'' r => hq v H'' C'' (A.trans A') R'' r) fun c z => z⟩
      | false => exact iteF (hp (.bl false) H' C' A R' (.bl false))
    | _ => exact hp.elim
theorem de_or (h : DE X np EW a fa) (hb : DE X np EW (.BoolOp .Or (b :: rest) pos) fb) : DE X np EW (.BoolOp .Or (a :: b :: rest) pos) (orE fa fb) :=
  PE.weak (pe_or h hb) fun σ H Q ⟨L, C, ρ, R, h⟩ => tE_of R h fun p v H' C' A R' r hp => by
    obtain ⟨d, ρ'⟩ := p
    cases d with
    | bool k =>
      cases r
      refine ⟨k, rfl, ?_⟩
      cases k with
      | false => exact iteF ⟨L, C', ρ', R', wp_mono hp (fun q _ hq v H'' C'' A' R'' r => hq v H'' C'' (A.trans A') R'' r) fun c z => z⟩
      | true => exact iteT (hp (.bl true) H' C' A R' (.bl true))
    | _ => exact hp.elim
theorem de_not (h : DE X np EW a fa) : DE X np EW (.UnaryOp .Not a pos) (ntE fa) :=
  PE.weak (pe_not h) fun σ H Q ⟨L, C, ρ, R, h⟩ => tE_of R h fun p v H' C' A R' r hp => by
    obtain ⟨d, ρ'⟩ := p
    cases d with
    | bool k => cases r; exact ⟨k, rfl, hp (.bl (!k)) H' C' A R' (.bl (!k))⟩
    | _ => exact hp.elim

/-! ### arguments, displays -/
def nilA : AS := fun _ ρ => .ok ([], ρ)
def consA (f : ES) (g : AS) : AS := fun L ρ => (f L ρ).bind fun p => (g L p.2).bind fun q => .ok (p.1 :: q.1, q.2)
theorem da_nil : DA X np EW [] nilA := PA.weak pa_nil fun σ H Q ⟨L, C, ρ, R, h⟩ => h [] H C .refl R .nil
theorem da_cons {es : List Expr} {fs : AS} (ha : DE X np EW a fa) (hr : DA X np EW es fs) (hs : starEach (a :: es) X.env = (false, eval a X.env) :: starEach es X.env := by rfl) : DA X np EW (a :: es) (consA fa fs) :=
  PA.weak (pa_cons ha hr hs) fun σ H Q ⟨L, C, ρ, R, h⟩ => tE_of R h fun p v H1 C1 A1 R1 r1 h1 =>
    tA_of R1 h1 fun q vs H2 C2 A2 R2 r2 h2 => h2 (v :: vs) H2 C2 (A1.trans A2) R2 (.cons (A2.rp r1) r2)
/-- a new object at p -/
theorem same_new {H : Hp} {p : Addr} {o : HO} (h : H p = none) : Same H (upd H p o) := fun b x e => by
  rw [upd_ne (ne_of_none e h)]; exact e
def setC (C : Col) (p : Addr) (n : Nat) : Col := fun b => if b = p then n else C b
theorem setC_same {C : Col} {p : Addr} {n : Nat} : setC C p n p = n := if_pos rfl
theorem setC_ne {C : Col} {p b : Addr} {n : Nat} (h : b ≠ p) : setC C p n b = C b := if_neg h
theorem pstp_new {H : Hp} {C : Col} {p : Addr} {o : HO} {n : Nat} (h : H p = none) : PStp H C (upd H p o) (setC C p n) :=
  ⟨same_new h, fun b hb => by
    have : b ≠ p := fun e => hb (e ▸ h)
    exact setC_ne this⟩
theorem pstp_id {H : Hp} {C : Col} {p : Addr} {o : HO} (h : H p = none) : PStp H C (upd H p o) C := ⟨same_new h, fun _ _ => rfl⟩
section
variable {X : Cx} {pins : List (Addr × Obj)} {σ : L2.St} {H : Hp} {s : Shared} {xs : List V} {its : List Value} {Q : VK} {es : List Expr} {t : TA} {pos : Pos}
/-- a new tuple, known by its object -/
theorem laid_tupX (I : Inv X pins σ H s) (r : Vals xs its) (hz : xs.length ≤ sizeLine) (q : ∀ p ob, H p = none → ob.dict = none → Q (.ref p) (upd H p (.frz ob (.tup xs)))) :
    EP X pins σ Q (.ref s.heap.objs.size) { s with heap := s.heap.push { cls := .type "tuple", data := .seq its.toArray } } := by
  have e := Heap.get?_push_size s.heap (o := { cls := .type "tuple", data := .seq its.toArray }) rfl
  refine ⟨.ref s.heap.objs.size, _, I.laid (t' := s.toks) (o := .frz { cls := .type "tuple", data := .seq its.toArray } (.tup xs)) (fun b u w => Heap.get?_push_of_some _ w) (Nat.le_refl _) ⟨e, hz, its, r, ⟨_, e, rfl, _, rfl⟩⟩, rfl, q _ _ (I.hok.fresh (Nat.le_refl _)) rfl⟩
theorem pe_tupX {x1} (h : PA X es t) : PE X (.Tuple es x1 pos) (fun σ H Q => t σ H fun xs H1 => xs.length ≤ sizeLine ∧ ∀ p ob, H1 p = none → ob.dict = none → Q (.ref p) (upd H1 p (.frz ob (.tup xs)))) :=
  ⟨fun pins s σ H Q I hq => wpAny_Tuple_spliced (thn (h.run pos pins s σ H _ I hq) fun us s1 ⟨xs, H1, I1, r, z, q⟩ => ⟨by rw [← r.length]; exact z, laid_tupX I1 r z q⟩)⟩
theorem newX {K : PySem.W.Frag} {H : Hp} {p : Addr} {ob : Obj} (hd : ob.dict = none) : SqX K (upd H p (.frz ob (.tup xs))) p xs := .inl ⟨ob, upd_same, hd⟩
end
def tuE (f : AS) : ES := fun L ρ => (f L ρ).bind fun p => if p.1.length ≤ sizeLine then .ok (.tuple p.1, p.2) else .bad
def liE (f : AS) : ES := fun L ρ => (f L ρ).bind fun p => if p.1.length ≤ sizeLine then .ok (.list p.1, p.2) else .bad
theorem de_tup {es : List Expr} {fs : AS} {x1} (ha : DA X np EW es fs) : DE X np EW (.Tuple es x1 pos) (tuE fs) :=
  PE.weak (pe_tupX ha) fun σ H Q ⟨L, C, ρ, R, h⟩ => tA_of R h fun p vs H1 C1 A1 R1 r1 h1 => by
    by_cases hz : p.1.length ≤ sizeLine
    · rw [if_pos hz] at h1
      refine ⟨by rw [r1.len]; exact hz, fun t ob ht hd => ?_⟩
      have S := pstp_id (C := C1) (o := .frz ob (.tup vs)) ht
      exact h1 (.ref t) _ C1 (A1.trans (.of S)) (R1.pstp S) (.tup (newX hd) (r1.same S.same))
    · rw [if_neg hz] at h1; exact h1.elim
theorem de_lst {es : List Expr} {fs : AS} (ha : DA X np EW es fs) : DE X np EW (.List es pos) (liE fs) :=
  PE.weak (pe_lst ha) fun σ H Q ⟨L, C, ρ, R, h⟩ => tA_of R h fun p vs H1 C1 A1 R1 r1 h1 => by
    by_cases hz : p.1.length ≤ sizeLine
    · rw [if_pos hz] at h1
      refine ⟨by rw [r1.len]; exact hz, fun t ht => ?_⟩
      have S := pstp_new (C := C1) (o := .lst vs) (n := 0) ht
      exact h1 (.ref t) _ _ (A1.trans (.of S)) (R1.pstp S) (.lst upd_same (by unfold Cof; rw [setC_same]; exact L.ok0) (S.rpA (P := fun c => L.okb c = true) r1))
    · rw [if_neg hz] at h1; exact h1.elim
end
end
end Dm

namespace Dm
noncomputable section
open PySem PySem.Spec PyProof.Rows L2

theorem OpR.or {X : Cx} {f : Value → Value → Sem Value} {r r' : R2} (h : OpR X f r) (h' : OpR X f r') : OpR X f (fun x y H Q => r x y H Q ∨ r' x y H Q) := by
  intro pins s σ H x y v u Q I rx ry q
  rcases q with q | q
  · exact h pins s σ H x y v u Q I rx ry q
  · exact h' pins s σ H x y v u Q I rx ry q
section
variable {K : PySem.W.Frag} {H : Hp} {P : Addr → Prop}
theorem Rp.int_inv {v : V} {i : Int} (r : Rp K H P v (.int i)) : v = .int i := by cases r; rfl
theorem Rp.bl_inv {v : V} {i : Bool} (r : Rp K H P v (.bool i)) : v = .bl i := by cases r; rfl
theorem Rp.non_inv {v : V} (r : Rp K H P v .none) : v = .non := by cases r; rfl
theorem Rp.str_inv {v : V} {i : Str} (r : Rp K H P v (.str i)) : v = .str i := by cases r; rfl
theorem Rp.lst_inv {v : V} {ds : List D} (r : Rp K H P v (.list ds)) : ∃ a xs, v = .ref a ∧ H a = some (.lst xs) ∧ P a ∧ RpA K H P xs ds := by cases r with | lst h p r => exact ⟨_, _, rfl, h, p, r⟩
theorem Rp.tup_inv {v : V} {ds : List D} (r : Rp K H P v (.tuple ds)) : ∃ a xs, v = .ref a ∧ SqT K H a xs ∧ RpA K H P xs ds := by cases r with | tup h r => exact ⟨_, _, rfl, h.sq, r⟩
theorem Rp.tup_invX {v : V} {ds : List D} (r : Rp K H P v (.tuple ds)) : ∃ a xs, v = .ref a ∧ SqX K H a xs ∧ RpA K H P xs ds := by cases r with | tup h r => exact ⟨_, _, rfl, h, r⟩
theorem RpA.ints : ∀ {ns : List Int} {vs : List V}, RpA K H P vs (ns.map PyData.int) → vs = ns.map V.int
  | [], _, .nil => rfl
  | n :: ns, _, .cons h t => by rw [List.map_cons, h.int_inv, RpA.ints t]
theorem RpA.bls : ∀ {ns : List Bool} {vs : List V}, RpA K H P vs (ns.map PyData.bool) → vs = ns.map V.bl
  | [], _, .nil => rfl
  | n :: ns, _, .cons h t => by rw [List.map_cons, h.bl_inv, RpA.bls t]
theorem RpA.nil_iff {ds : List D} {vs : List V} (r : RpA K H P vs ds) : vs = [] ↔ ds = [] := by
  cases r with
  | nil => simp
  | cons _ _ => simp
end

/-! ### operators on ints -/
def gI2 (f : Int → Int → Int) : D → D → Option D
  | .int i, .int j => some (.int (f i j))
  | _, _ => none
def gI2c (c : Int → Int → Bool) (f : Int → Int → Int) : D → D → Option D
  | .int i, .int j => if c i j then some (.int (f i j)) else none
  | _, _ => none
def gB2 (f : Int → Int → Bool) : D → D → Option D
  | .int i, .int j => some (.bool (f i j))
  | _, _ => none
theorem os_I2 {K : PySem.W.Frag} {f : Int → Int → Int} : OpS K (rI0 fun i j => .int (f i j)) (gI2 f) := by
  intro H C L x y dx dy d Q r1 r2 e q
  cases dx <;> cases dy <;> simp [gI2] at e
  cases r1; cases r2; subst e
  exact ⟨_, _, rfl, rfl, q _ H C .refl (.int _)⟩
theorem os_I2c {K : PySem.W.Frag} {f : Int → Int → Int} {c : Int → Int → Bool} {Cn : Int → Int → Prop} (hc : ∀ i j, c i j = true → Cn i j) : OpS K (rI Cn fun i j => .int (f i j)) (gI2c c f) := by
  intro H C L x y dx dy d Q r1 r2 e q
  cases dx <;> cases dy <;> simp [gI2c] at e
  cases r1; cases r2; obtain ⟨e1, e2⟩ := e; subst e2
  exact ⟨_, _, rfl, rfl, hc _ _ e1, q _ H C .refl (.int _)⟩
theorem os_B2 {K : PySem.W.Frag} {f : Int → Int → Bool} : OpS K (rI0 fun i j => .bl (f i j)) (gB2 f) := by
  intro H C L x y dx dy d Q r1 r2 e q
  cases dx <;> cases dy <;> simp [gB2] at e
  cases r1; cases r2; subst e
  exact ⟨_, _, rfl, rfl, q _ H C .refl (.bl _)⟩

def bigI (i : Int) : Bool := decide (i.natAbs.log2 < 400000)
def subD : D → D → Option D := gI2 (· - ·)
/-- % by a positive number -/
def modD : D → D → Option D := gI2c (fun _ j => decide (0 < j)) (· % ·)
/-- // by a positive number below 2^9000 -/
def divD : D → D → Option D := gI2c (fun _ j => decide (0 < j) && decide (j.natAbs.log2 < 9000)) (· / ·)
def powD : D → D → Option D := gI2c (fun i j => decide (0 ≤ j) && decide ((Builtin.Int.intBits i : Int) * j ≤ 134217728)) (fun i j => i ^ j.toNat)
def ltD : D → D → Option D := gB2 fun i j => decide (i < j)
def leD : D → D → Option D := gB2 fun i j => decide (i ≤ j)
def gtD : D → D → Option D := gB2 fun i j => decide (j < i)
def geD : D → D → Option D := gB2 fun i j => decide (j ≤ i)
section
variable {X : Cx} {np : Fp} {EW : XW} {a b c e : Expr} {fa fb fc : ES} {pos : Pos}
theorem op_powW : OpR X (binaryOp .Pow) (rI (fun i j => 0 ≤ j ∧ (Builtin.Int.intBits i : Int) * j ≤ 134217728) fun i j => .int (i ^ j.toNat)) := opI fun _ _ _ _ _ _ _ hc q => pow_int hc.1 (by simpa using hc.2) q
theorem de_sub (ha : DE X np EW a fa) (hb : DE X np EW b fb) : DE X np EW (.BinOp a .Sub b pos) (opE subD fa fb) := de_op op_sub os_I2 ha hb
theorem de_mod (ha : DE X np EW a fa) (hb : DE X np EW b fb) : DE X np EW (.BinOp a .Mod b pos) (opE modD fa fb) := de_op op_mod (os_I2c fun _ _ h => by simpa using h) ha hb
theorem de_div (ha : DE X np EW a fa) (hb : DE X np EW b fb) : DE X np EW (.BinOp a .FloorDiv b pos) (opE divD fa fb) := de_op op_fdivW (os_I2c fun _ _ h => by simpa [CDivW] using h) ha hb
theorem de_pow (ha : DE X np EW a fa) (hb : DE X np EW b fb) : DE X np EW (.BinOp a .Pow b pos) (opE powD fa fb) := de_op op_powW (os_I2c fun _ _ h => by simpa using h) ha hb
theorem de_lt (ha : DE X np EW a fa) (hb : DE X np EW b fb) : DE X np EW (.Compare a [.Lt] [b] pos) (opE ltD fa fb) := de_cmp op_lt os_B2 ha hb (nomark _)
theorem de_le (ha : DE X np EW a fa) (hb : DE X np EW b fb) : DE X np EW (.Compare a [.LtE] [b] pos) (opE leD fa fb) := de_cmp op_le os_B2 ha hb (nomark _)
theorem de_gt (ha : DE X np EW a fa) (hb : DE X np EW b fb) : DE X np EW (.Compare a [.Gt] [b] pos) (opE gtD fa fb) := de_cmp op_gt os_B2 ha hb (nomark _)
theorem de_ge (ha : DE X np EW a fa) (hb : DE X np EW b fb) : DE X np EW (.Compare a [.GtE] [b] pos) (opE geD fa fb) := de_cmp op_ge os_B2 ha hb (nomark _)
theorem dt_lt (ha : DE X np EW a fa) (hb : DE X np EW b fb) : DT X np EW (.Compare a [.Lt] [b] pos) (asT (opE ltD fa fb)) := dt_cmp op_lt os_B2 ha hb (nomark _)
theorem dt_le (ha : DE X np EW a fa) (hb : DE X np EW b fb) : DT X np EW (.Compare a [.LtE] [b] pos) (asT (opE leD fa fb)) := dt_cmp op_le os_B2 ha hb (nomark _)
theorem dt_gt (ha : DE X np EW a fa) (hb : DE X np EW b fb) : DT X np EW (.Compare a [.Gt] [b] pos) (asT (opE gtD fa fb)) := dt_cmp op_gt os_B2 ha hb (nomark _)
theorem dt_ge (ha : DE X np EW a fa) (hb : DE X np EW b fb) : DT X np EW (.Compare a [.GtE] [b] pos) (asT (opE geD fa fb)) := dt_cmp op_ge os_B2 ha hb (nomark _)

/-! ### + and * of all kinds -/
def addD : D → D → Option D
  | .int i, .int j => some (.int (i + j))
  | .tuple xs, .tuple ys => if xs.length + ys.length ≤ sizeLine then some (.tuple (xs ++ ys)) else none
  | .list xs, .list ys => if xs.length + ys.length ≤ sizeLine then some (.list (xs ++ ys)) else none
  | .str x, .str y => if x.length + y.length ≤ sizeLine then some (.str (x ++ y)) else none
  | _, _ => none
/-- t + u, t[lo:hi], of tuples known by their objects -/
def rCatX (K : PySem.W.Frag) : R2 := fun x y H Q => ∃ a b xs ys, x = .ref a ∧ y = .ref b ∧ SqT K H a xs ∧ SqT K H b ys ∧ xs.length + ys.length ≤ sizeLine ∧
  (xs = [] → Q (.ref b) H) ∧ (xs ≠ [] → ys = [] → Q (.ref a) H) ∧ (xs ≠ [] → ys ≠ [] → ∀ p ob, H p = none → ob.dict = none → Q (.ref p) (upd H p (.frz ob (.tup (xs ++ ys)))))
theorem op_catX {X : Cx} : OpR X (binaryOp .Add) (rCatX X.K) := by
  intro pins s σ H x y v u Q I rx ry h
  obtain ⟨a, b, xs, ys, rfl, rfl, ha, hb, hz, q0, q1, q2⟩ := h
  by_cases hx : xs = []
  · subst hx
    exact op_catA pins s σ H _ _ v u Q I rx ry ⟨a, b, [], ys, rfl, rfl, ha, hb, hz, q0, fun z => absurd rfl z, fun z => absurd rfl z⟩
  · by_cases hy : ys = []
    · subst hy
      exact op_catA pins s σ H _ _ v u Q I rx ry ⟨a, b, xs, [], rfl, rfl, ha, hb, hz, fun z => absurd z hx, fun _ _ => q1 hx rfl, fun _ z => absurd rfl z⟩
    · cases rx
      cases ry
      obtain ⟨i1, r1, p1, _⟩ := I.tuple ha
      obtain ⟨i2, r2, p2, _⟩ := I.tuple hb
      refine HT.cat_tup p1 p2 (fun z => hx (r1.nil_iff.mp z)) (fun z => absurd (r2.nil_iff.mp z) hy) (fun z => ?_) (by rw [← r1.length, ← r2.length]; exact hz)
      exact laid_tupX I (r1.append r2) (by rw [List.length_append]; exact hz) (q2 hx hy)
def rSlX (K : PySem.W.Frag) : V → Option Int → Option Int → Hp → VK → Prop := fun x lo hi H Q => ∃ a xs, x = .ref a ∧ SqT K H a xs ∧
  (HT.sIx xs.length 0 lo = 0 ∧ HT.sIx xs.length xs.length hi = xs.length → Q (.ref a) H) ∧ (¬ (HT.sIx xs.length 0 lo = 0 ∧ HT.sIx xs.length xs.length hi = xs.length) → ∀ p ob, H p = none → ob.dict = none → Q (.ref p) (upd H p (.frz ob (.tup (cutV xs lo hi)))))
theorem sl_tupX {X : Cx} : SlR X (rSlX X.K) := by
  intro pins s σ H x v vl vu lo hi sl Q I rx hs pl pu h
  obtain ⟨a, xs, rfl, hx, q1, q2⟩ := h
  by_cases hw : HT.sIx xs.length 0 lo = 0 ∧ HT.sIx xs.length xs.length hi = xs.length
  · exact sl_tupA pins s σ H _ v vl vu lo hi sl Q I rx hs pl pu ⟨a, xs, rfl, hx, q1, fun z => absurd hw z⟩
  · cases rx
    obtain ⟨its, r, ht, hz⟩ := I.tuple hx
    have hn : its.toArray.size = xs.length := by rw [List.size_toArray]; exact r.length.symm
    refine ⟨"tuple", _, PyProof.Rows.slot_tuple_getitem.lookup, ht.typeIs, HT.getItem_tuple_cut ht hs pl pu (by rw [hn]; exact hw) ?_ (by rw [hn]; exact hz)⟩
    rw [hn]
    exact laid_tupX I ((r.drop (HT.sIx xs.length 0 lo)).take (HT.sIx xs.length xs.length hi - HT.sIx xs.length 0 lo)) (Nat.le_trans (cutV_length xs lo hi) hz) (q2 hw)
def rAddAll (K : PySem.W.Frag) : R2 := fun x y H Q => (∃ i j, x = .int i ∧ y = .int j ∧ Q (.int (i + j)) H) ∨ rCatX K x y H Q ∨ rCat x y H Q ∨ ∃ i j, x = .str i ∧ y = .str j ∧ i.length + j.length ≤ sizeLine ∧ Q (.str (i ++ j)) H
theorem op_addAll : OpR X (binaryOp .Add) (rAddAll X.K) := OpR.or op_add (OpR.or op_catX (OpR.or op_cat op_add_str))
theorem os_add {K : PySem.W.Frag} : OpS K (rAddAll K) addD := by
  intro H C L x y dx dy d Q r1 r2 e q
  cases dx <;> cases dy <;> simp only [addD, reduceCtorEq] at e
  · cases r1; cases r2; cases e
    exact .inl ⟨_, _, rfl, rfl, q _ H C .refl (.int _)⟩
  · obtain rfl := r1.str_inv
    obtain rfl := r2.str_inv
    rename_i i j
    by_cases hz : i.length + j.length ≤ sizeLine
    · rw [if_pos hz] at e; cases e
      exact .inr (.inr (.inr ⟨_, _, rfl, rfl, hz, q _ H C .refl (.str _)⟩))
    · rw [if_neg hz] at e; cases e
  · obtain ⟨p, us, rfl, hp, cp, rp⟩ := r1.lst_inv
    obtain ⟨p2, us2, rfl, hp2, cp2, rp2⟩ := r2.lst_inv
    rename_i xs ys
    by_cases hz : xs.length + ys.length ≤ sizeLine
    · rw [if_pos hz] at e; cases e
      refine .inr (.inr (.inl ⟨_, _, _, _, rfl, rfl, hp, hp2, by rw [rp.len, rp2.len]; exact hz, fun t ht => ?_⟩))
      have S := pstp_new (C := C) (o := .lst (us ++ us2)) (n := 0) ht
      exact q _ _ _ S (.lst upd_same (by unfold Cof; rw [setC_same]; exact L.ok0) (S.rpA (P := fun c => L.okb c = true) (rp.app rp2)))
    · rw [if_neg hz] at e; cases e
  · obtain ⟨p, us, rfl, hp, rp⟩ := r1.tup_invX
    obtain ⟨p2, us2, rfl, hp2, rp2⟩ := r2.tup_invX
    rename_i xs ys
    by_cases hz : xs.length + ys.length ≤ sizeLine
    · rw [if_pos hz] at e; cases e
      refine .inr (.inl ⟨_, _, _, _, rfl, rfl, hp.sq, hp2.sq, by rw [rp.len, rp2.len]; exact hz, fun h0 => ?_, fun h0 h1 => ?_, fun h0 h1 t ob ht hd => ?_⟩)
      · have := rp.nil_iff.mp h0; subst this
        exact q _ H C .refl (.tup hp2 rp2)
      · have := rp2.nil_iff.mp h1; subst this
        exact q _ H C .refl (.tup hp (by rw [List.append_nil]; exact rp))
      · have S := pstp_id (C := C) (o := .frz ob (.tup (us ++ us2))) ht
        exact q _ _ _ S (.tup (newX hd) ((rp.app rp2).same S.same))
    · rw [if_neg hz] at e; cases e
theorem de_add (ha : DE X np EW a fa) (hb : DE X np EW b fb) : DE X np EW (.BinOp a .Add b pos) (opE addD fa fb) := de_op op_addAll os_add ha hb
def fitI (k : Int) : Bool := inB (-(2 ^ 63)) (2 ^ 63) k
/-- ints; a list times an int -/
def mulD : D → D → Option D
  | .int i, .int j => if i.natAbs.log2 + j.natAbs.log2 < 1000000 then some (.int (i * j)) else none
  | .list xs, .int k => if fitI k && decide (xs.length * k.toNat ≤ sizeLine) then some (.list (List.replicate k.toNat xs).flatten) else none
  | _, _ => none
theorem rep_rp {K : PySem.W.Frag} {H : Hp} {P : Addr → Prop} {us : List V} {xs : List D} (r : RpA K H P us xs) : ∀ n : Nat, RpA K H P (List.replicate n us).flatten (List.replicate n xs).flatten
  | 0 => .nil
  | n + 1 => by
    rw [List.replicate_succ, List.replicate_succ, List.flatten_cons, List.flatten_cons]
    exact r.app (rep_rp r n)
theorem op_mulAll : OpR X (binaryOp .Mult) (fun x y H Q => rI CMulW (fun i j => .int (i * j)) x y H Q ∨ rRep x y H Q) := OpR.or op_mulW op_rep
theorem os_mul {K : PySem.W.Frag} : OpS K (fun x y H Q => rI CMulW (fun i j => .int (i * j)) x y H Q ∨ rRep x y H Q) mulD := by
  intro H C L x y dx dy d Q r1 r2 e q
  cases dx <;> cases dy <;> simp only [mulD, reduceCtorEq] at e
  · obtain rfl := r1.int_inv
    obtain rfl := r2.int_inv
    rename_i i j
    by_cases hz : i.natAbs.log2 + j.natAbs.log2 < 1000000
    · rw [if_pos hz] at e; cases e
      exact .inl ⟨_, _, rfl, rfl, hz, q _ H C .refl (.int _)⟩
    · rw [if_neg hz] at e; cases e
  · obtain ⟨p, us, rfl, hp, cp, rp⟩ := r1.lst_inv
    obtain rfl := r2.int_inv
    rename_i xs k
    by_cases hz : (fitI k && decide (xs.length * k.toNat ≤ sizeLine)) = true
    · rw [if_pos hz] at e; cases e
      simp only [fitI, inB_eq, Bool.and_eq_true, decide_eq_true_eq] at hz
      refine .inr ⟨_, _, _, rfl, rfl, hp, hz.1.1, hz.1.2, by rw [rp.len]; exact hz.2, fun t ht => ?_⟩
      have S := pstp_new (C := C) (o := .lst (List.replicate k.toNat us).flatten) (n := 0) ht
      exact q _ _ _ S (.lst upd_same (by unfold Cof; rw [setC_same]; exact L.ok0) (S.rpA (P := fun c => L.okb c = true) (rep_rp rp k.toNat)))
    · rw [if_neg hz] at e; cases e
theorem de_mul (ha : DE X np EW a fa) (hb : DE X np EW b fb) : DE X np EW (.BinOp a .Mult b pos) (opE mulD fa fb) := de_op op_mulAll os_mul ha hb
def unE (g : D → Option D) (fa : ES) : ES := fun L ρ => (fa L ρ).bind fun p => (ofO (g p.1)).bind fun d => .ok (d, p.2)
def negD : D → Option D
  | .int i => some (.int (-i))
  | _ => none
theorem de_neg (ha : DE X np EW a fa) : DE X np EW (.UnaryOp .USub a pos) (unE negD fa) :=
  PE.weak (pe_un un_neg ha) fun σ H Q ⟨L, C, ρ, R, h⟩ => tE_of R h fun p v H1 C1 A1 R1 r1 h1 => by
    obtain ⟨d, e, h3⟩ := wp_ofO (wp_bind.mp h1)
    obtain ⟨dp, ρ1⟩ := p
    cases dp <;> simp [negD] at e
    obtain rfl := r1.int_inv
    subst e
    exact ⟨_, rfl, h3 _ H1 C1 A1 R1 (.int _)⟩

/-! ### ==, is None, in -/
def eqS0 (f : Bool → Bool) : D → D → Option D
  | .str a, .str b => some (.bool (f (decide (a = b))))
  | _, _ => none
def eqX (f : Bool → Bool) (x y : D) : Option D := match eqS0 f x y with
  | some d => some d
  | none => if SeqAt.shaped x && SeqAt.shaped y then some (.bool (f (PyData.eqv x y))) else none
def eqD : D → D → Option D := eqX fun b => b
def neD : D → D → Option D := eqX fun b => !b
theorem eqS0_some {f : Bool → Bool} {x y d : D} (h : eqS0 f x y = some d) : ∃ a b, x = .str a ∧ y = .str b ∧ d = .bool (f (decide (a = b))) := by
  unfold eqS0 at h
  split at h
  · cases h; exact ⟨_, _, rfl, rfl, rfl⟩
  · cases h
theorem os_eqX {K : PySem.W.Frag} {f : Bool → Bool} {r1 r2 : R2} (h1 : ∀ a b H Q, Q (.bl (f (decide (a = b)))) H → r1 (.str a) (.str b) H Q)
    (h2 : ∀ x y H Q d e, Dp K H x d → Dp K H y e → SeqAt.shaped d = true → SeqAt.shaped e = true → Q (.bl (f (PyData.eqv d e))) H → r2 x y H Q) : OpS K (fun x y H Q => r1 x y H Q ∨ r2 x y H Q) (eqX f) := by
  intro H C L x y dx dy d Q q1 q2 e q
  unfold eqX at e
  cases e0 : eqS0 f dx dy with
  | some d' =>
    rw [e0] at e
    obtain ⟨a, b, rfl, rfl, rfl⟩ := eqS0_some e0
    cases e
    obtain rfl := q1.str_inv
    obtain rfl := q2.str_inv
    exact .inl (h1 _ _ _ _ (q _ H C .refl (.bl _)))
  | none =>
    rw [e0] at e
    dsimp only at e
    by_cases hz : (SeqAt.shaped dx && SeqAt.shaped dy) = true
    · rw [if_pos hz] at e; cases e
      rw [Bool.and_eq_true] at hz
      exact .inr (h2 _ _ _ _ _ _ q1.dp q2.dp hz.1 hz.2 (q _ H C .refl (.bl _)))
    · rw [if_neg hz] at e; cases e
theorem dec_str {a b : Str} : decide (V.str a = V.str b) = decide (a = b) := by
  by_cases h : a = b
  · subst h; simp
  · rw [decide_eq_false h, decide_eq_false (fun z => h (by cases z; rfl))]
theorem os_eq {K : PySem.W.Frag} : OpS K (fun x y H Q => rEq x y H Q ∨ rEqD K x y H Q) eqD :=
  os_eqX (fun a b H Q h => ⟨rfl, by rw [dec_str]; exact h⟩) fun x y H Q d e h1 h2 h3 h4 h5 => ⟨d, e, h1, h2, h3, h4, h5⟩
theorem os_ne {K : PySem.W.Frag} : OpS K (fun x y H Q => rNe x y H Q ∨ rNeD K x y H Q) neD :=
  os_eqX (fun a b H Q h => ⟨rfl, by rw [dec_str]; exact h⟩) fun x y H Q d e h1 h2 h3 h4 h5 => ⟨d, e, h1, h2, h3, h4, h5⟩
theorem room64 {k : Nat} {A : Around} (hr : Room k A) : A.units + 64 < cLine := by have := hr.un; omega
theorem room65 {k : Nat} {A : Around} (hr : Room k A) : A.units + 65 < cLine := by have := hr.un; omega
theorem de_eq {k : Nat} (hr : Room k X.A) (ha : DE X np EW a fa) (hb : DE X np EW b fb) : DE X np EW (.Compare a [.Eq] [b] pos) (opE eqD fa fb) := de_cmp (op_eq.or (op_eqD (room64 hr))) os_eq ha hb (nomark _)
theorem de_ne {k : Nat} (hr : Room k X.A) (ha : DE X np EW a fa) (hb : DE X np EW b fb) : DE X np EW (.Compare a [.NotEq] [b] pos) (opE neD fa fb) := de_cmp (op_ne.or (op_neD (room64 hr))) os_ne ha hb (nomark _)
theorem dt_eq {k : Nat} (hr : Room k X.A) (ha : DE X np EW a fa) (hb : DE X np EW b fb) : DT X np EW (.Compare a [.Eq] [b] pos) (asT (opE eqD fa fb)) := dt_cmp (op_eq.or (op_eqD (room64 hr))) os_eq ha hb (nomark _)
theorem dt_ne {k : Nat} (hr : Room k X.A) (ha : DE X np EW a fa) (hb : DE X np EW b fb) : DT X np EW (.Compare a [.NotEq] [b] pos) (asT (opE neD fa fb)) := dt_cmp (op_ne.or (op_neD (room64 hr))) os_ne ha hb (nomark _)
def isNd : D → Bool
  | .none => true
  | _ => false
def isND (x y : D) : Option D := if isNd y then some (.bool (isNd x)) else none
def notND (x y : D) : Option D := if isNd y then some (.bool (!isNd x)) else none
theorem isNd_iff {K : PySem.W.Frag} {H : Hp} {P : Addr → Prop} {x : V} {d : D} (r : Rp K H P x d) : decide (x = .non) = isNd d := by
  cases r <;> simp [isNd]
theorem os_isN {K : PySem.W.Frag} : OpS K (fun x y H Q => y = .non ∧ Q (.bl (decide (x = .non))) H) isND := by
  intro H C L x y dx dy d Q r1 r2 e q
  cases dy <;> simp [isND, isNd] at e
  obtain rfl := r2.non_inv
  subst e
  refine ⟨rfl, ?_⟩
  rw [isNd_iff r1]
  exact q _ H C .refl (by cases dx <;> exact .bl _)
theorem os_notN {K : PySem.W.Frag} : OpS K (fun x y H Q => y = .non ∧ Q (.bl (!decide (x = .non))) H) notND := by
  intro H C L x y dx dy d Q r1 r2 e q
  cases dy <;> simp [notND, isNd] at e
  obtain rfl := r2.non_inv
  subst e
  refine ⟨rfl, ?_⟩
  rw [isNd_iff r1]
  exact q _ H C .refl (by cases dx <;> exact .bl _)
theorem de_is (ha : DE X np EW a fa) (hb : DE X np EW b fb) : DE X np EW (.Compare a [.Is] [b] pos) (opE isND fa fb) := de_cmp op_isN os_isN ha hb (nomark _)
theorem de_isnot (ha : DE X np EW a fa) (hb : DE X np EW b fb) : DE X np EW (.Compare a [.IsNot] [b] pos) (opE notND fa fb) := de_cmp op_notN os_notN ha hb (nomark _)
theorem dt_is (ha : DE X np EW a fa) (hb : DE X np EW b fb) : DT X np EW (.Compare a [.Is] [b] pos) (asT (opE isND fa fb)) := dt_cmp op_isN os_isN ha hb (nomark _)
theorem dt_isnot (ha : DE X np EW a fa) (hb : DE X np EW b fb) : DT X np EW (.Compare a [.IsNot] [b] pos) (asT (opE notND fa fb)) := dt_cmp op_notN os_notN ha hb (nomark _)

/-! ### a <= b <= c -/
def chE (g g' : D → D → Option D) (fa fb fc : ES) : ES := fun L ρ => (fa L ρ).bind fun p => (fb L p.2).bind fun q => (ofO (g p.1 q.1)).bind fun d => (isB d).bind fun k =>
  if k then (fc L q.2).bind fun r => (ofO (g' q.1 r.1)).bind fun d' => .ok (d', r.2) else .ok (.bool false, q.2)
theorem ch_fin {K : PySem.W.Frag} {r r' : R2} {g g' : D → D → Option D} (hg : OpS K r g) (hg' : OpS K r' g') {σ : L2.St} {H : Hp} {Q : VK} {L : Lv} {C : Col} {ρ : Slots} (R : Rel K np H C σ ρ)
    (h : wp (chE g g' fa fb fc L ρ) (fun p => ∀ v H' C', Aft np L ρ H C p.2 H' C' → Rel K np H' C' σ p.2 → Rp K H' (Cof C' L) v p.1 → Q v H') (fun c => ∀ H' C', Stp np H C H' C' → EW c H')) :
    tChain r r' (tE K np EW fa) (tE K np EW fb) (tE K np EW fc) σ H Q := by
  refine tE_of R h fun p x H1 C1 A1 R1 r1 h1 => ?_
  refine tE_of R1 h1 fun q y H2 C2 A2 R2 r2 h2 => ?_
  obtain ⟨d, e, h3⟩ := wp_ofO (wp_bind.mp h2)
  refine hg H2 C2 L x y p.1 q.1 d _ (A2.rp r1) r2 e fun v H' C' S r' => ?_
  cases d with
  | bool k =>
    obtain rfl := r'.bl_inv
    refine ⟨k, rfl, ?_⟩
    cases k with
    | false => exact iteF (h3 _ H' C' ((A1.trans A2).trans (.of S)) (R2.pstp S) (.bl _))
    | true =>
      have A3 : Aft np L q.2 H2 C2 q.2 H' C' := .of S
      refine iteT (tE_of (R2.pstp S) (wp_mono h3 (fun _ _ z => z) fun c z H'' C'' T => z H'' C'' (A3.stp.trans T)) fun w u H4 C4 A4 R4 r4 h4 => ?_)
      obtain ⟨d', e', h5⟩ := wp_ofO (wp_bind.mp h4)
      exact hg' H4 C4 L y u q.1 w.1 d' _ (A4.rp (A3.rp r2)) r4 e' fun v5 H5 C5 S5 r5 => h5 v5 H5 C5 (((A1.trans A2).trans A3).trans (A4.trans (.of S5))) (R4.pstp S5) r5
  | _ => exact h3.elim
theorem de_chain {op op' : CmpOp} {r r' : R2} {g g' : D → D → Option D} (ho : OpR X (compareOp op) r) (hg : OpS X.K r g) (ho' : OpR X (compareOp op') r') (hg' : OpS X.K r' g') (ha : DE X np EW a fa) (hb : DE X np EW b fb) (hc : DE X np EW c fc)
    (hm : lastMarks [op, op'] [b, c] = false := by with_unfolding_all rfl) : DE X np EW (.Compare a [op, op'] [b, c] pos) (chE g g' fa fb fc) :=
  PE.weak (pe_chain ho ho' ha hb hc hm) fun σ H Q ⟨L, C, ρ, R, h⟩ => ch_fin hg hg' R h
theorem dt_chain {op op' : CmpOp} {r r' : R2} {g g' : D → D → Option D} (ho : OpR X (compareOp op) r) (hg : OpS X.K r g) (ho' : OpR X (compareOp op') r') (hg' : OpS X.K r' g') (ha : DE X np EW a fa) (hb : DE X np EW b fb) (hc : DE X np EW c fc)
    (hm : lastMarks [op, op'] [b, c] = false := by with_unfolding_all rfl) : DT X np EW (.Compare a [op, op'] [b, c] pos) (asT (chE g g' fa fb fc)) :=
  PT.weak (pt_chain ho ho' ha hb hc hm) fun σ H Q ⟨L, C, ρ, R, h⟩ => by
    refine ch_fin (Q := fun x H' => ∃ k, x = V.bl k ∧ Q k H') (L := L) hg hg' R ?_
    refine wp_mono (wp_bind.mp h) (fun p _ hp v H' C' A R' r' => ?_) fun c z => z
    obtain ⟨d, ρ'⟩ := p
    cases d with
    | bool b => cases r'; exact ⟨b, rfl, hp H' C' A R'⟩
    | _ => exact hp.elim

/-! ### subscripts, slices -/
/-- xs[i], of a list, a tuple, a text -/
def ixD : D → D → Option D
  | .list xs, .int i => atI xs i
  | .tuple xs, .int i => atI xs i
  | .str z, .int i => if z.length ≤ sizeLine then (atI z.cps.toList i).map fun c => .str ⟨#[c]⟩ else none
  | _, _ => none
theorem atI_rp {K : PySem.W.Frag} {H : Hp} {P : Addr → Prop} {us : List V} {xs : List D} {i : Int} {d : D} (r : RpA K H P us xs) (h : atI xs i = some d) : ∃ v, atI us i = some v ∧ Rp K H P v d := by
  unfold atI at h ⊢
  rw [r.len]
  cases e : ixN xs.length i with
  | none => rw [e] at h; cases h
  | some j => rw [e] at h; exact r.get h
theorem os_ix {K : PySem.W.Frag} : OpS K (rIx K) ixD := by
  intro H C L x y dx dy d Q r1 r2 e q
  cases dx <;> cases dy <;> simp only [ixD, reduceCtorEq] at e
  · obtain rfl := r1.str_inv
    obtain rfl := r2.int_inv
    rename_i z i
    by_cases hz : z.length ≤ sizeLine
    · rw [if_pos hz] at e
      cases e2 : atI z.cps.toList i with
      | none => rw [e2] at e; cases e
      | some c => rw [e2] at e; cases e; exact .inr (.inr ⟨_, _, _, rfl, rfl, hz, e2, q _ H C .refl (.str _)⟩)
    · rw [if_neg hz] at e; cases e
  · obtain ⟨p, us, rfl, hp, cp, rp⟩ := r1.lst_inv
    obtain rfl := r2.int_inv
    obtain ⟨v, hv, rv⟩ := atI_rp rp e
    exact .inl ⟨_, _, _, _, rfl, rfl, .of hp, hv, q _ H C .refl rv⟩
  · obtain ⟨p, us, rfl, hp, rp⟩ := r1.tup_inv
    obtain rfl := r2.int_inv
    obtain ⟨v, hv, rv⟩ := atI_rp rp e
    exact .inr (.inl ⟨_, _, _, _, rfl, rfl, hp, hv, q _ H C .refl rv⟩)
theorem de_ix (ha : DE X np EW a fa) (hb : DE X np EW b fb) (hs : PlainIx b := by exact fun _ _ => rfl) : DE X np EW (.Subscript a b pos) (opE ixD fa fb) :=
  PE.weak (pe_ix ix_seq ha hb hs) fun σ H Q ⟨L, C, ρ, R, h⟩ => op_fin os_ix R h
abbrev OS := Lv → Slots → Re (Option Int × Slots)
def noO : OS := fun _ ρ => .ok (none, ρ)
def isI : D → Re Int
  | .int i => .ok i
  | _ => .bad
def soO (f : ES) : OS := fun L ρ => (f L ρ).bind fun p => (isI p.1).bind fun i => .ok (some i, p.2)
def tO (K : PySem.W.Frag) (np : Fp) (EW : XW) (f : OS) : TO := fun σ H Q => ∃ L C ρ, Rel K np H C σ ρ ∧
  wp (f L ρ) (fun p => ∀ H' C', Aft np L ρ H C p.2 H' C' → Rel K np H' C' σ p.2 → Q p.1 H') (fun c => ∀ H' C', Stp np H C H' C' → EW c H')
abbrev DO (X : Cx) (np : Fp) (EW : XW) (e : Option Expr) (f : OS) : Prop := PO X e (tO X.K np EW f)
theorem PO.weak {X : Cx} {e : Option Expr} {t t' : TO} (h : PO X e t) (w : ∀ σ H Q, t' σ H Q → t σ H Q) : PO X e t' := ⟨fun pins s σ H Q I q => h.run pins s σ H Q I (w σ H Q q)⟩
theorem do_none : DO X np EW none noO := PO.weak po_none fun σ H Q ⟨L, C, ρ, R, h⟩ => h H C .refl R
theorem do_some (h : DE X np EW a fa) : DO X np EW (some a) (soO fa) := PO.weak (po_some h) fun σ H Q ⟨L, C, ρ, R, h⟩ => tE_of R h fun p v H1 C1 A1 R1 r1 h1 => by
  obtain ⟨d, ρ1⟩ := p
  cases d with
  | int i =>
    obtain rfl := r1.int_inv
    exact ⟨i, rfl, h1 H1 C1 A1 R1⟩
  | _ => exact h1.elim
def cutD (xs : List D) (lo hi : Option Int) : List D := (xs.drop (HT.sIx xs.length 0 lo)).take (HT.sIx xs.length xs.length hi - HT.sIx xs.length 0 lo)
def slD2 (x : D) (lo hi : Option Int) : Option D := match x with
  | .list xs => some (.list (cutD xs lo hi))
  | .tuple xs => some (.tuple (cutD xs lo hi))
  | _ => none
def slE (fa : ES) (lo hi : OS) : ES := fun L ρ => (fa L ρ).bind fun p => (lo L p.2).bind fun q => (hi L q.2).bind fun r => (ofO (slD2 p.1 q.1 r.1)).bind fun d => .ok (d, r.2)
theorem cut_rp {K : PySem.W.Frag} {H : Hp} {P : Addr → Prop} {us : List V} {xs : List D} (r : RpA K H P us xs) (lo hi : Option Int) : RpA K H P (cutV us lo hi) (cutD xs lo hi) := by
  unfold cutV cutD
  rw [r.len]
  exact (r.drop _).take _
theorem sl_all : SlR X (fun x lo hi H Q => rSlL X.K x lo hi H Q ∨ rSlX X.K x lo hi H Q) := sl_list.or sl_tupX
theorem tO_of {K : PySem.W.Frag} {L : Lv} {C : Col} {ρ : Slots} {σ : L2.St} {H : Hp} {f : OS} {Q : Option Int → Hp → Prop} (R : Rel K np H C σ ρ) {α : Type} {k : Option Int × Slots → Re α} {Qr : α → Prop}
    (h : wp ((f L ρ).bind k) Qr (fun c => ∀ H' C', Stp np H C H' C' → EW c H'))
    (hq : ∀ p H' C', Aft np L ρ H C p.2 H' C' → Rel K np H' C' σ p.2 → wp (k p) Qr (fun c => ∀ H'' C'', Stp np H' C' H'' C'' → EW c H'') → Q p.1 H') : tO K np EW f σ H Q := by
  refine ⟨L, C, ρ, R, wp_mono (wp_bind.mp h) (fun p _ hp H' C' A R' => hq p H' C' A R' (wp_mono hp (fun _ _ z => z) fun c z H'' C'' S => z H'' C'' (A.stp.trans S))) fun c z => z⟩
theorem de_sl {lo hi : Option Expr} {fl fh : OS} {p2 : Pos} (ha : DE X np EW a fa) (hl : DO X np EW lo fl) (hh : DO X np EW hi fh) : DE X np EW (.Subscript a (.Slice lo hi none p2) pos) (slE fa fl fh) :=
  PE.weak (pe_slice sl_all ha hl hh) fun σ H Q ⟨L, C, ρ, R, h⟩ => tE_of R h fun p v H1 C1 A1 R1 r1 h1 => tO_of R1 h1 fun q H2 C2 A2 R2 h2 => tO_of R2 h2 fun r H3 C3 A3 R3 h3 => by
    obtain ⟨d, e, h4⟩ := wp_ofO (wp_bind.mp h3)
    obtain ⟨dp, ρ1⟩ := p
    have A := (A1.trans A2).trans A3
    have rp := A3.rp (A2.rp r1)
    cases dp <;> simp only [slD2, reduceCtorEq] at e
    · cases e
      obtain ⟨t, us, rfl, ht, ct, ru⟩ := rp.lst_inv
      refine .inl ⟨_, _, rfl, .of ht, fun z hz => ?_⟩
      have S := pstp_new (C := C3) (o := .lst (cutV us q.1 r.1)) (n := 0) hz
      exact h4 _ _ _ (A.trans (.of S)) (R3.pstp S) (.lst upd_same (by unfold Cof; rw [setC_same]; exact L.ok0) (S.rpA (P := fun c => L.okb c = true) (cut_rp ru _ _)))
    · cases e
      obtain ⟨t, us, rfl, ht, ru⟩ := rp.tup_invX
      rename_i xs
      refine .inr ⟨_, _, rfl, ht.sq, fun hw => ?_, fun hw z ob hz hd => ?_⟩
      · refine h4 _ H3 C3 A R3 (.tup ht ?_)
        have e1 : cutD xs q.1 r.1 = xs := by
          unfold cutD
          rw [← ru.len, hw.1, hw.2, List.drop_zero, Nat.sub_zero, ru.len, List.take_length]
        rw [e1]; exact ru
      · have S := pstp_id (C := C3) (o := .frz ob (.tup (cutV us q.1 r.1))) hz
        exact h4 _ _ _ (A.trans (.of S)) (R3.pstp S) (.tup (newX hd) ((cut_rp ru _ _).same S.same))
end
end
end Dm

namespace Dm
noncomputable section
open PySem PySem.Spec PyProof.Rows L2

/-! ### a def's promise, with what repr needs to know of the frames around -/
structure GFn (P : Program) (w : World) (K : PySem.W.Frag) (mg : Str → Option Value) (base : Heap) (Xc : CXT) (k : Nat) (f : Addr) (fd : FuncData) (ps : List Str) (sp : Sp) : Prop where
  len : ∀ vs H Q E, sp vs H Q E → vs.length = ps.length
  run : ∀ (A : Around) (outer : List PySem.Env) (s : Shared) (H : Hp) (args : Args) (us : List Value) (vs : List V) (Q : VK) (E : XK), Room k A → A.guards = some [] → Env0 P w K mg base A outer s H → BindsTo s fd args (ps.zip us) →
    Vals vs us → sp vs H Q E → codeAny (model P w) A (.call (.ref f) args) (CR Xc outer P w H s Q E) s
theorem GFn.mono {P : Program} {w : World} {K : PySem.W.Frag} {mg : Str → Option Value} {base : Heap} {Xc : CXT} {j k : Nat} {f : Addr} {fd : FuncData} {ps : List Str} {sp : Sp} (F : GFn P w K mg base Xc j f fd ps sp) (h : j ≤ k) :
    GFn P w K mg base Xc k f fd ps sp := ⟨F.len, fun A o s H a us vs Q E hr => F.run A o s H a us vs Q E (hr.mono h)⟩
theorem GFn.imp {P : Program} {w : World} {K : PySem.W.Frag} {mg : Str → Option Value} {base : Heap} {Xc : CXT} {k : Nat} {f : Addr} {fd : FuncData} {ps : List Str} {sp sp' : Sp} (F : GFn P w K mg base Xc k f fd ps sp)
    (h : ∀ vs H Q E, sp' vs H Q E → sp vs H Q E) : GFn P w K mg base Xc k f fd ps sp' :=
  ⟨fun vs H Q E q => F.len vs H Q E (h _ _ _ _ q), fun A o s H a us vs Q E hr hg e0 hb hv q => F.run A o s H a us vs Q E hr hg e0 hb hv (h _ _ _ _ q)⟩
theorem GFn.of {P : Program} {w : World} {K : PySem.W.Frag} {mg : Str → Option Value} {base : Heap} {Xc : CXT} {k : Nat} {f : Addr} {fd : FuncData} {ps : List Str} {sp : Sp} (F : FnOk P w K mg base Xc k f fd ps sp) : GFn P w K mg base Xc k f fd ps sp :=
  ⟨F.len, fun A o s H a us vs Q E hr _ => F.run A o s H a us vs Q E hr⟩

/-- what is wanted of an exception c, said by E -/
abbrev XO := XK → Exn → Hp → Prop
/-- the promise of a def that computes F: of the arguments' slots, the result and the slots behind -/
def spG (K : PySem.W.Frag) (xo : XO) (n : Nat) (F : Slots → Re (D × Slots)) : Sp := fun vs H Q E => vs.length = n ∧ ∃ (C : Col) (np : Fp) (as : Slots), np.n = n ∧ Rel K np H C (vs.map some) as ∧ (∀ b, H b ≠ none → 1 ≤ C b ∧ C b ≤ n + 2) ∧
  wp (F as) (fun p => ∀ v H' C', Stp np H C H' C' → Rel K np H' C' (vs.map some) p.2 → Rp K H' (fun b => C' b = 0) v p.1 → Q v H') (fun c => ∀ H' C', Stp np H C H' C' → xo E c H')

section
variable {X : Cx} {np : Fp} {EW : XW} {Xc : CXT} {k : Nat} {f : Addr} {fd : FuncData} {ps ks : List Str} {sp : Sp} {E : XK} {x : Str} {p pos kpos : Pos} {e : Expr} {es : List Expr}
theorem g_run {pins : List (Addr × Obj)} {σ : L2.St} {H : Hp} {s : Shared} {Q : VK} {args : Args} {us : List Value} {vs : List V} (F : GFn X.prog X.w X.K X.mg X.base Xc k f fd ps sp) (hr : Room k X.A) (hg : X.A.guards = some [])
    (hb : us.length = ps.length → BindsTo s fd args (ps.zip us)) (hx : Passes Xc X E) (I : Inv X pins σ H s) (r : Vals vs us) (h : sp vs H Q E) :
    codeAny (model X.prog X.w) X.A (.call (.ref f) args) (fun rr s' => match rr with | .ok (.ret u) => EP X pins σ Q u s' | .ok _ => False | .error e => X.xe e s') s := by
  refine codeAny_mono (F.run X.A X.stack s H args us vs Q E hr hg I.env0 (hb (by rw [← r.length]; exact F.len _ _ _ _ h)) r h) fun rr s' q => ?_
  cases rr with
  | error e => exact hx pins σ H s e s' I q
  | ok fl =>
    cases fl with
    | ret u => exact I.after q
    | next => exact q
    | brk => exact q
    | cont => exact q
/-- f(e, ..): what the callee's promise asks of the values -/
theorem gpe_call {t : TA} (F : GFn X.prog X.w X.K X.mg X.base Xc k f fd ps sp) (hr : Room k X.A) (hgd : X.A.guards = some []) (hg : Gl X x) (hm : X.mg x = some (.ref f)) (hk : PySem.W.keepIn X.K (.ref f) = true) (hb : Binds X.K fd ps []) (hx : Passes Xc X E)
    (ha : PA X (e :: es) t) (hdb : (x == ("__debug__" : Str)) = false := by decide) (he : starEach (e :: es) X.env = (false, eval e X.env) :: starEach es X.env := by rfl) (hpl : (backTo pos (starEach es X.env)).any (·.1) = false := by rfl) :
    PE X (.Call (.Name x p) (e :: es) [] pos) (fun σ H Q => t σ H fun vs H1 => sp vs H1 Q E) := by
  refine ⟨fun pins s σ H Q I h => ?_⟩
  refine wpAny_Call_Name_kw (ld_glob I hg hm (PySem.W.callWith_K (h₀ := X.base) I.ok.mod.kin hk (thn (ha.run pos pins s σ H _ I h) fun us s1 ⟨vs, H1, I1, r, q⟩ => ⟨I1.kIn, ?_⟩) he hpl) hdb)
  refine wpAny_call (codeAny_mono (g_run (args := ⟨us, []⟩) F hr hgd (fun hl => ?_) hx I1 r q) fun rr s' z => ?_)
  · have := hb s1 us I1.kIn (by simpa using hl)
    simpa using this
  · cases rr with
    | error e => exact z
    | ok fl => cases fl <;> exact z
theorem gpe_call0 (F : GFn X.prog X.w X.K X.mg X.base Xc k f fd ps sp) (hr : Room k X.A) (hgd : X.A.guards = some []) (hg : Gl X x) (hm : X.mg x = some (.ref f)) (hk : PySem.W.keepIn X.K (.ref f) = true) (hb : Binds X.K fd ps []) (hx : Passes Xc X E)
    (hdb : (x == ("__debug__" : Str)) = false := by decide) : PE X (.Call (.Name x p) [] [] pos) (fun σ H Q => sp [] H Q E) := by
  refine ⟨fun pins s σ H Q I h => ?_⟩
  refine wpAny_Call_Name_kw (ld_glob I hg hm (PySem.W.callWith_K0 I.kIn hk ?_) hdb)
  refine wpAny_call (codeAny_mono (g_run (us := []) (args := ⟨[], []⟩) F hr hgd (fun hl => ?_) hx I .nil h) fun rr s' z => ?_)
  · have := hb s [] I.kIn (by simpa using hl)
    simpa using this
  · cases rr with
    | error e => exact z
    | ok fl => cases fl <;> exact z
/-- f(e, .., k = v, ..), no defaults; gV: the parameters' order -/
theorem gpe_callK {t tk : TA} {kws : List Keyword} {g : List Value → List Value → List Value} {gV : List V → List V → List V} (F : GFn X.prog X.w X.K X.mg X.base Xc k f fd ps sp) (hr : Room k X.A) (hgd : X.A.guards = some []) (hg : Gl X x) (hm : X.mg x = some (.ref f))
    (hk : PySem.W.keepIn X.K (.ref f) = true) (hb : KBinds X.K fd ps ks g gV) (hx : Passes Xc X E) (ha : PA X (e :: es) t) (hkw : PK X kws tk) (hall : (backToKw pos (keywordEach kws X.env)).all (·.1.isSome) = true := by rfl)
    (hks : (backToKw pos (keywordEach kws X.env)).filterMap (·.1) = ks := by rfl) (hdb : (x == ("__debug__" : Str)) = false := by decide) (he : starEach (e :: es) X.env = (false, eval e X.env) :: starEach es X.env := by rfl)
    (hpl : ((backTo pos (starEach (e :: es) X.env)).any (·.1) || (backToKw pos (keywordEach kws X.env)).any (·.1.isNone)) = false := by rfl) :
    PE X (.Call (.Name x p) (e :: es) kws pos) (fun σ H Q => t σ H fun vs H1 => tk σ H1 fun zs H2 => sp (gV vs zs) H2 Q E) := by
  refine ⟨fun pins s σ H Q I h => ?_⟩
  refine wpAny_Call_Name_kw (ld_glob I hg hm (PySem.W.callWith_KW (h₀ := X.base) I.ok.mod.kin hk hall (thn (ha.run pos pins s σ H _ I h) fun us s1 ⟨vs, H1, I1, r, q⟩ => thn (hkw.run pos pins s1 σ H1 _ I1 q) fun ws s2 ⟨zs, H2, I2, rz, q2⟩ => ⟨I2.kIn, ?_⟩) hpl he) hdb)
  rw [hks]
  refine wpAny_call (codeAny_mono (g_run (args := ⟨us, ks.zip ws⟩) F hr hgd (fun hl => hb.to s2 us ws I2.kIn hl) hx I2 (hb.rel r rz) q2) fun rr s' z => ?_)
  cases rr with
  | error e => exact z
  | ok fl => cases fl <;> exact z
theorem gpe_callK0 {tk : TA} {kws : List Keyword} {g : List Value → List Value → List Value} {gV : List V → List V → List V} (F : GFn X.prog X.w X.K X.mg X.base Xc k f fd ps sp) (hr : Room k X.A) (hgd : X.A.guards = some []) (hg : Gl X x) (hm : X.mg x = some (.ref f))
    (hk : PySem.W.keepIn X.K (.ref f) = true) (hb : KBinds X.K fd ps ks g gV) (hx : Passes Xc X E) (hkw : PK X kws tk) (hall : (backToKw pos (keywordEach kws X.env)).all (·.1.isSome) = true := by rfl)
    (hks : (backToKw pos (keywordEach kws X.env)).filterMap (·.1) = ks := by rfl) (hdb : (x == ("__debug__" : Str)) = false := by decide)
    (hpl : ((backTo pos (starEach [] X.env)).any (·.1) || (backToKw pos (keywordEach kws X.env)).any (·.1.isNone)) = false := by rfl) :
    PE X (.Call (.Name x p) [] kws pos) (fun σ H Q => tk σ H fun zs H2 => sp (gV [] zs) H2 Q E) := by
  refine ⟨fun pins s σ H Q I h => ?_⟩
  refine wpAny_Call_Name_kw (ld_glob I hg hm (PySem.W.callWith_KW0 (h₀ := X.base) I.ok.mod.kin hk hall (thn (hkw.run pos pins s σ H _ I h) fun ws s2 ⟨zs, H2, I2, rz, q2⟩ => ⟨I2.kIn, ?_⟩) hpl) hdb)
  rw [hks]
  refine wpAny_call (codeAny_mono (g_run (args := ⟨[] ++ [], ks.zip ws⟩) F hr hgd (fun hl => hb.to s2 [] ws I2.kIn hl) hx I2 (hb.rel .nil rz) q2) fun rr s' z => ?_)
  cases rr with
  | error e => exact z
  | ok fl => cases fl <;> exact z

/-! ### the data's side of a call -/
/-- what a def without changes computes -/
abbrev PF := List D → Re D
def unbo : Sl → Option D
  | .bo d => some d
  | _ => none
def ofP (m : PF) : Slots → Re (D × Slots) := fun as => match as.mapM unbo with
  | some ds => (m ds).bind fun d => .ok (d, as.map fun _ => Sl.no)
  | none => .bad
def clE (k : Lv) (n : Nat) (m : PF) (fs : AS) : ES := fun L ρ => if k.pure || !L.pure then (fs k ρ).bind fun p => if p.1.length = n then (m p.1).bind fun d => .ok (d, p.2) else .bad else .bad
/-- the callee's colours: all that stands is the caller's -/
def colIn (H : Hp) : Col := fun b => match H b with | none => 0 | some _ => 1
theorem colIn_none {H : Hp} {b : Addr} (h : H b = none) : colIn H b = 0 := by unfold colIn; rw [h]
theorem colIn_some {H : Hp} {b : Addr} {o : HO} (h : H b = some o) : colIn H b = 1 := by unfold colIn; rw [h]
theorem ne_some {α : Type} {o : Option α} (h : o ≠ none) : ∃ a, o = some a := by cases o with
  | none => exact absurd rfl h
  | some a => exact ⟨a, rfl⟩
theorem rel_bo {K : PySem.W.Frag} {H : Hp} {P : Addr → Prop} {n : Nat} {pa : Nat → Addr} : ∀ {vs : List V} {ds : List D}, RpA K H P vs ds → Rel K ⟨n, pa⟩ H (colIn H) (vs.map some) (ds.map Sl.bo) := by
  intro vs ds r
  refine ⟨by rw [List.length_map, List.length_map, r.len], fun i s e => ?_⟩
  rw [List.getElem?_map] at e
  cases e2 : ds[i]? with
  | none => rw [e2] at e; cases e
  | some d =>
    rw [e2] at e; cases e
    obtain ⟨v, hv, rv⟩ := r.get e2
    rw [List.getElem?_map, hv]
    exact .bo (rv.move (fun b xs _ h => ⟨h, by rw [colIn_some h]; exact Nat.le_refl _⟩) fun _ _ h _ => h)
theorem mapM_bo (ds : List D) : (ds.map Sl.bo).mapM unbo = some ds := by
  induction ds with
  | nil => rfl
  | cons d r ih => simp [ih, unbo]
/-- a pure callee's promise from the data at hand -/
theorem spG_pure {K : PySem.W.Frag} {xo : XO} {n : Nat} {m : PF} {P : Addr → Prop} {vs : List V} {ds : List D} {H : Hp} {Q : VK} {E : XK} (r : RpA K H P vs ds) (hl : ds.length = n)
    (h : wp (m ds) (fun d => ∀ (v : V) (H' : Hp) (C' : Col), Same H H' → (∀ b, C' b = 0 → H b = none) → Rp K H' (fun b => C' b = 0) v d → Q v H') (fun c => ∀ (H' : Hp), Same H H' → xo E c H')) : spG K xo n (ofP m) vs H Q E := by
  refine ⟨by rw [r.len]; exact hl, colIn H, ⟨n, fun _ => 0⟩, ds.map Sl.bo, rfl, rel_bo r, fun b hb => ?_, ?_⟩
  · obtain ⟨o, ho⟩ := ne_some hb
    rw [colIn_some ho]; omega
  · have same : ∀ {H' : Hp} {C' : Col}, Stp ⟨n, fun _ => 0⟩ H (colIn H) H' C' → Same H H' := fun S b o e => S.keep b o e (.inl (by rw [colIn_some e]; omega))
    unfold ofP
    rw [mapM_bo]
    refine wp_bind.mpr (wp_mono h (fun d _ hd => fun v H' C' S _ rv => hd v H' C' (same S) (fun b hb => ?_) rv) fun c hc H' C' S => hc H' (same S))
    cases q : H b with
    | none => rfl
    | some o =>
      have := S.colo b (by rw [q]; simp) (by rw [colIn_some q]; show 1 ≤ n + 2; omega)
      rw [colIn_some q, hb] at this; cases this
theorem cl_fin {K : PySem.W.Frag} {xo : XO} {n : Nat} {m : PF} {σ : L2.St} {H : Hp} {Q : VK} {L : Lv} {C : Col} {ρ : Slots} {vs : List V} {ds : List D} (hE : ∀ c H', EW c H' → xo E c H') (hl : ds.length = n) {P : Addr → Prop} (R : Rel K np H C σ ρ) (r : RpA K H P vs ds)
    (h : wp ((m ds).bind fun d => .ok (d, ρ)) (fun p => ∀ v H' C', Aft np L ρ H C p.2 H' C' → Rel K np H' C' σ p.2 → Rp K H' (Cof C' L) v p.1 → Q v H') (fun c => ∀ H' C', Stp np H C H' C' → EW c H')) : spG K xo n (ofP m) vs H Q E := by
  refine spG_pure r hl (wp_mono (wp_bind.mp h) (fun d _ hd v H' C' S fr rv => ?_) fun c hc H' S => hE c H' (hc H' C (PStp.stp ⟨S, fun _ _ => rfl⟩)))
  have T : PStp H C H' (fun b => match H b with | none => 0 | some _ => C b) := ⟨S, fun b hb => by
    obtain ⟨o, ho⟩ := ne_some hb
    simp only [ho]⟩
  refine hd v H' _ (.of T) (R.pstp T) (rv.imp fun b hb => ?_)
  unfold Cof
  simp only [fr b hb]
  exact L.ok0
/-- f(e, ..) of a pure def -/
theorem de_call (kl : Lv) {xo : XO} {m : PF} {n : Nat} {fs : AS} (F : GFn X.prog X.w X.K X.mg X.base Xc k f fd ps (spG X.K xo n (ofP m))) (hr : Room k X.A) (hgd : X.A.guards = some []) (hg : Gl X x) (hm : X.mg x = some (.ref f))
    (hk : PySem.W.keepIn X.K (.ref f) = true) (hb : Binds X.K fd ps []) (hx : Passes Xc X E) (hE : ∀ c H', EW c H' → xo E c H') (ha : DA X np EW (e :: es) fs) (hdb : (x == ("__debug__" : Str)) = false := by decide)
    (he : starEach (e :: es) X.env = (false, eval e X.env) :: starEach es X.env := by rfl) (hpl : (backTo pos (starEach es X.env)).any (·.1) = false := by rfl) : DE X np EW (.Call (.Name x p) (e :: es) [] pos) (clE kl n m fs) :=
  PE.weak (gpe_call F hr hgd hg hm hk hb hx ha hdb he hpl) fun σ H Q ⟨L, C, ρ, R, h⟩ => by
    unfold clE at h
    by_cases hk : (kl.pure || !L.pure) = true
    · rw [if_pos hk] at h
      refine tA_of R (L := kl) h fun q vs H1 C1 A1 R1 r1 h1 => ?_
      by_cases hl : q.1.length = n
      · rw [if_pos hl] at h1
        exact cl_fin (L := L) hE hl R1 r1 (wp_mono h1 (fun p _ hp v H' C' A R' r => hp v H' C' ((A1.lev (K := X.K) hk).trans A) R' r) fun _ z => z)
      · rw [if_neg hl] at h1; exact h1.elim
    · rw [if_neg hk] at h; exact h.elim

/-- g() of a pure def -/
theorem de_call0 {xo : XO} {m : PF} (F : GFn X.prog X.w X.K X.mg X.base Xc k f fd ps (spG X.K xo 0 (ofP m))) (hr : Room k X.A) (hgd : X.A.guards = some []) (hg : Gl X x) (hm : X.mg x = some (.ref f))
    (hk : PySem.W.keepIn X.K (.ref f) = true) (hb : Binds X.K fd ps []) (hx : Passes Xc X E) (hE : ∀ c H', EW c H' → xo E c H') (hdb : (x == ("__debug__" : Str)) = false := by decide) : DE X np EW (.Call (.Name x p) [] [] pos) (clE .an 0 m nilA) :=
  PE.weak (gpe_call0 F hr hgd hg hm hk hb hx hdb) fun σ H Q ⟨L, C, ρ, R, h⟩ =>
    cl_fin (K := X.K) (L := L) (P := fun _ => True) hE rfl R .nil h
/-! ### keywords -/
def permG {α : Type} (a b : Nat) (d : α) (is : List Nat) (us ws : List α) : List α := if us.length = a ∧ ws.length = b then is.map fun i => (us ++ ws).getD i d else []
theorem kb_of {K : PySem.W.Frag} {a b : Nat} {is : List Nat} (h0 : ps ≠ []) (h : ∀ us ws : List Value, us.length = a → ws.length = b → bindArgs fd ⟨us, ks.zip ws⟩ = pure (ps.zip (is.map fun i => (us ++ ws).getD i Value.none))) :
    KBinds K fd ps ks (permG a b Value.none is) (permG a b V.non is) where
  to := fun s us ws _ hl => by
    unfold permG at hl ⊢
    by_cases q : us.length = a ∧ ws.length = b
    · rw [if_pos q]; exact .of_eq (h us ws q.1 q.2)
    · rw [if_neg q] at hl
      exact absurd (List.length_eq_zero_iff.mp hl.symm) h0
  rel := fun {vs us zs ws} r r2 => by
    unfold permG
    rw [r.length, r2.length]
    by_cases q : us.length = a ∧ ws.length = b
    · rw [if_pos q, if_pos q]
      have r3 := r.append r2
      clear q h
      induction is with
      | nil => exact .nil
      | cons i t ih =>
        rw [List.map_cons, List.map_cons]
        refine .cons ?_ ih
        rw [List.getD_eq_getElem?_getD, List.getD_eq_getElem?_getD]
        cases e : (vs ++ zs)[i]? with
        | none => rw [r3.none_of e]; exact rfl
        | some v =>
          obtain ⟨u, hu, ru⟩ := r3.get e
          rw [hu]; exact ru
    · rw [if_neg q, if_neg q]; exact .nil
abbrev DK (X : Cx) (np : Fp) (EW : XW) (kws : List Keyword) (f : AS) : Prop := PK X kws (tA X.K np EW f)
theorem PK.weak {kws : List Keyword} {t t' : TA} (h : PK X kws t) (w : ∀ σ H Q, t' σ H Q → t σ H Q) : PK X kws t' := ⟨fun pos pins s σ H Q I q => h.run pos pins s σ H Q I (w σ H Q q)⟩
theorem dk_nil : DK X np EW [] nilA := PK.weak pk_nil fun σ H Q ⟨L, C, ρ, R, h⟩ => h [] H C .refl R .nil
theorem dk_cons {nm : Option Str} {kws : List Keyword} {fa : ES} {fs : AS} (ha : DE X np EW e fa) (hr : DK X np EW kws fs) : DK X np EW (⟨nm, e, kpos⟩ :: kws) (consA fa fs) :=
  PK.weak (pk_cons ha hr) fun σ H Q ⟨L, C, ρ, R, h⟩ => tE_of R h fun p v H1 C1 A1 R1 r1 h1 =>
    tA_of R1 h1 fun q vs H2 C2 A2 R2 r2 h2 => h2 (v :: vs) H2 C2 (A1.trans A2) R2 (.cons (A2.rp r1) r2)
theorem perm_rp {K : PySem.W.Frag} {H : Hp} {P : Addr → Prop} {vs : List V} {ds : List D} (r : RpA K H P vs ds) : ∀ is : List Nat, RpA K H P (is.map fun i => vs.getD i V.non) (is.map fun i => ds.getD i PyData.none)
  | [] => .nil
  | i :: t => by
    rw [List.map_cons, List.map_cons]
    refine .cons ?_ (perm_rp r t)
    rw [List.getD_eq_getElem?_getD, List.getD_eq_getElem?_getD]
    cases e : ds[i]? with
    | none =>
      have : vs[i]? = none := List.getElem?_eq_none_iff.mpr (by rw [r.len]; exact List.getElem?_eq_none_iff.mp e)
      rw [this]; exact .non
    | some d =>
      obtain ⟨v, hv, rv⟩ := r.get e
      rw [hv]; exact rv
/-- the arguments by names: a of them by place, b by name, is: the parameters' order -/
def clK (a b : Nat) (is : List Nat) (m : PF) (fs ks : AS) : ES := fun L ρ => (fs .an ρ).bind fun p => (ks .an p.2).bind fun q => if p.1.length = a ∧ q.1.length = b then (m (is.map fun i => (p.1 ++ q.1).getD i PyData.none)).bind fun d => .ok (d, q.2) else .bad
theorem de_callK {xo : XO} {m : PF} {n a b : Nat} {is : List Nat} {fs gs : AS} {kws : List Keyword} (F : GFn X.prog X.w X.K X.mg X.base Xc k f fd ps (spG X.K xo n (ofP m))) (hn : is.length = n) (hr : Room k X.A) (hgd : X.A.guards = some []) (hg : Gl X x) (hm : X.mg x = some (.ref f))
    (hk : PySem.W.keepIn X.K (.ref f) = true) (hb : KBinds X.K fd ps ks (permG a b Value.none is) (permG a b V.non is)) (hx : Passes Xc X E) (hE : ∀ c H', EW c H' → xo E c H') (ha : DA X np EW (e :: es) fs) (hkw : DK X np EW kws gs)
    (hall : (backToKw pos (keywordEach kws X.env)).all (·.1.isSome) = true := by rfl)
    (hks : (backToKw pos (keywordEach kws X.env)).filterMap (·.1) = ks := by rfl) (hdb : (x == ("__debug__" : Str)) = false := by decide) (he : starEach (e :: es) X.env = (false, eval e X.env) :: starEach es X.env := by rfl)
    (hpl : ((backTo pos (starEach (e :: es) X.env)).any (·.1) || (backToKw pos (keywordEach kws X.env)).any (·.1.isNone)) = false := by rfl) : DE X np EW (.Call (.Name x p) (e :: es) kws pos) (clK a b is m fs gs) :=
  PE.weak (gpe_callK F hr hgd hg hm hk hb hx ha hkw hall hks hdb he hpl) fun σ H Q ⟨L, C, ρ, R, h⟩ => by
    refine tA_of R (L := .an) h fun q vs H1 C1 A1 R1 r1 h1 => ?_
    refine tA_of R1 (L := .an) h1 fun q2 zs H2 C2 A2 R2 r2 h2 => ?_
    by_cases hl : q.1.length = a ∧ q2.1.length = b
    · rw [if_pos hl] at h2
      have r3 := (A2.rpA r1).app r2
      have e1 : permG a b V.non is vs zs = is.map fun i => (vs ++ zs).getD i V.non := by unfold permG; rw [(A2.rpA r1).len, r2.len, if_pos hl]
      show spG _ _ _ _ (permG a b V.non is vs zs) _ _ _
      rw [e1]
      exact cl_fin (L := L) hE (by rw [List.length_map]; exact hn) R2 (perm_rp r3 is) (wp_mono h2 (fun p _ hp v H' C' A R' r => hp v H' C' (((A1.trans A2).lev (K := X.K) rfl).trans A) R' r) fun _ z => z)
    · rw [if_neg hl] at h2; exact h2.elim
theorem de_callK0 {xo : XO} {m : PF} {n b : Nat} {is : List Nat} {gs : AS} {kws : List Keyword} (F : GFn X.prog X.w X.K X.mg X.base Xc k f fd ps (spG X.K xo n (ofP m))) (hn : is.length = n) (hr : Room k X.A) (hgd : X.A.guards = some []) (hg : Gl X x) (hm : X.mg x = some (.ref f))
    (hk : PySem.W.keepIn X.K (.ref f) = true) (hb : KBinds X.K fd ps ks (permG 0 b Value.none is) (permG 0 b V.non is)) (hx : Passes Xc X E) (hE : ∀ c H', EW c H' → xo E c H') (hkw : DK X np EW kws gs)
    (hall : (backToKw pos (keywordEach kws X.env)).all (·.1.isSome) = true := by rfl)
    (hks : (backToKw pos (keywordEach kws X.env)).filterMap (·.1) = ks := by rfl) (hdb : (x == ("__debug__" : Str)) = false := by decide)
    (hpl : ((backTo pos (starEach [] X.env)).any (·.1) || (backToKw pos (keywordEach kws X.env)).any (·.1.isNone)) = false := by rfl) : DE X np EW (.Call (.Name x p) [] kws pos) (clK 0 b is m nilA gs) :=
  PE.weak (gpe_callK0 F hr hgd hg hm hk hb hx hkw hall hks hdb hpl) fun σ H Q ⟨L, C, ρ, R, h⟩ => by
    refine tA_of R (L := .an) h fun q2 zs H2 C2 A2 R2 r2 h2 => ?_
    by_cases hl : (0 = 0) ∧ q2.1.length = b
    · have hl' : ([] : List D).length = 0 ∧ q2.1.length = b := ⟨rfl, hl.2⟩
      rw [if_pos hl'] at h2
      have e1 : permG 0 b V.non is [] zs = is.map fun i => ([] ++ zs).getD i V.non := by unfold permG; rw [r2.len, if_pos ⟨rfl, hl.2⟩]
      show spG _ _ _ _ (permG 0 b V.non is [] zs) _ _ _
      rw [e1]
      exact cl_fin (L := L) hE (by rw [List.length_map]; exact hn) R2 (perm_rp (vs := [] ++ zs) (ds := [] ++ q2.1) r2 is) (wp_mono h2 (fun p _ hp v H' C' A R' r => hp v H' C' ((A2.lev (K := X.K) rfl).trans A) R' r) fun _ z => z)
    · have hl' : ¬ (([] : List D).length = 0 ∧ q2.1.length = b) := fun z => hl ⟨rfl, z.2⟩
      rw [if_neg hl'] at h2; exact h2.elim

/-! ### a def that changes its first argument, a list of plain things -/
abbrev OF := List D → List D → Re (D × List D)
def ofO1 (m : OF) : Slots → Re (D × Slots)
  | .ow cs :: as => match as.mapM unbo with
    | some ds => (m cs ds).bind fun p => .ok (p.1, .ow p.2 :: as.map fun _ => Sl.no)
    | none => .bad
  | _ => .bad
/-- the slots but j stand where lists of other colours stand -/
theorem SlotR.off {K : PySem.W.Frag} {H H' : Hp} {C C' : Col} {i j : Nat} {o : Option (Option V)} {s : Sl} (hij : i ≠ j) (hl : ∀ b xs, C b ≠ j + 3 → H b = some xs → H' b = some xs ∧ C' b = C b)
    (hi : ∀ b o, H b = some o → Imm o → H' b = some o) (r : SlotR K np H C i o s) : SlotR K np H' C' i o s := by
  have mv : ∀ {Pc : Nat → Prop} {v : V} {d : D}, (∀ c, Pc c → c ≠ j + 3) → Rp K H (fun b => Pc (C b)) v d → Rp K H' (fun b => Pc (C' b)) v d := fun {Pc v d} hp r =>
    r.move (fun b xs p h => ⟨(hl b _ (hp _ p) h).1, by rw [(hl b _ (hp _ p) h).2]; exact p⟩) hi
  have mvA : ∀ {Pc : Nat → Prop} {v : List V} {d : List D}, (∀ c, Pc c → c ≠ j + 3) → RpA K H (fun b => Pc (C b)) v d → RpA K H' (fun b => Pc (C' b)) v d := fun {Pc v d} hp r =>
    r.move (fun b xs p h => ⟨(hl b _ (hp _ p) h).1, by rw [(hl b _ (hp _ p) h).2]; exact p⟩) hi
  cases r with
  | no => exact .no
  | va r => exact .va (mv (Pc := fun c => c = 0) (fun c h => by omega) r)
  | bo r => exact .bo (mv (Pc := fun c => c ≤ 1) (fun c h => by omega) r)
  | @ow a _ _ h c r pn =>
    have hc : C a ≠ j + 3 := by rw [c]; omega
    exact .ow (hl _ _ hc h).1 (by rw [(hl _ _ hc h).2]; exact c) (mvA (Pc := fun c => c = 0) (fun c h => by omega) r) pn
  | un r => exact .un (mv (Pc := fun c => c = i + 3) (fun c h => by omega) r)
  | sc h => exact .sc (h.elim (fun ⟨o, h⟩ => .inl ⟨o, hi _ _ h trivial⟩) .inr)
  | @ob a _ _ _ _ _ h c n r pn =>
    have hc : C a ≠ j + 3 := by rw [c]; omega
    exact .ob (hl _ _ hc h).1 (by rw [(hl _ _ hc h).2]; exact c) n (r.move (fun b xs e h => by
      have := hl b _ (by omega) h
      exact ⟨this.1, by rw [this.2]; exact e⟩) hi) pn
  | @dc a _ _ h c r pn =>
    have hc : C a ≠ j + 3 := by rw [c]; omega
    exact .dc (hl _ _ hc h).1 (by rw [(hl _ _ hc h).2]; exact c) (r.move hi) pn
def isOw : Option Sl → Bool
  | some (.ow _) => true
  | _ => false
def clO (j n : Nat) (m : OF) (fs : AS) : ES := fun L ρ => if !L.pure && isOw ρ[j]? then (fs .bo ρ).bind fun p => match p.2[j]? with
  | some (.ow cs) => if noLs cs && decide (p.1.length = n) then (m cs p.1).bind fun q => if noLs q.2 then .ok (q.1, p.2.set j (.ow q.2)) else .bad else .bad
  | _ => .bad
  else .bad
theorem spG_own {K : PySem.W.Frag} {xo : XO} {n : Nat} {m : OF} {vs us : List V} {cs ds : List D} {H : Hp} {a : Addr} {Q : VK} {E : XK} (ha : H a = some (.lst us)) (rc : RpA K H (fun _ => False) us cs) (r : RpA K H (fun b => b ≠ a) vs ds) (hl : ds.length = n)
    (h : wp (m cs ds) (fun p => noLs p.2 = true ∧ ∀ (v : V) (H' : Hp) (C' : Col) (us' : List V), (∀ b o, b ≠ a → H b = some o → H' b = some o) → H' a = some (.lst us') → RpA K H' (fun _ => False) us' p.2 → (∀ b, C' b = 0 → H b = none) → Rp K H' (fun b => C' b = 0) v p.1 → Q v H')
      (fun c => ∀ (H' : Hp), (∀ b o, b ≠ a → H b = some o → H' b = some o) → (∀ b, H b ≠ none → H' b ≠ none) → xo E c H')) : spG K xo (n + 1) (ofO1 m) (.ref a :: vs) H Q E := by
  have hca : setC (colIn H) a 3 a = 3 := setC_same
  have hcn : ∀ b o, b ≠ a → H b = some o → setC (colIn H) a 3 b = 1 := fun b o e h => by rw [setC_ne e, colIn_some h]
  refine ⟨by rw [List.length_cons, r.len, hl], setC (colIn H) a 3, ⟨n + 1, fun _ => a⟩, .ow cs :: ds.map Sl.bo, rfl, ⟨?_, fun i s e => ?_⟩, fun b hb => ?_, ?_⟩
  · simp [r.len]
  · cases i with
    | zero =>
      cases e
      exact .ow ha hca (rc.imp fun _ h => h.elim) fun _ => rfl
    | succ i =>
      rw [List.getElem?_cons_succ, List.getElem?_map] at e
      cases e2 : ds[i]? with
      | none => rw [e2] at e; cases e
      | some d =>
        rw [e2] at e; cases e
        obtain ⟨v, hv, rv⟩ := r.get e2
        rw [List.map_cons, List.getElem?_cons_succ, List.getElem?_map, hv]
        exact .bo (rv.move (fun b xs hb h => ⟨h, by rw [hcn b _ hb h]; exact Nat.le_refl _⟩) fun _ _ h _ => h)
  · obtain ⟨o, ho⟩ := ne_some hb
    by_cases e : b = a
    · subst e; rw [hca]; omega
    · rw [hcn b o e ho]; omega
  · have same : ∀ {H' : Hp} {C' : Col}, Stp ⟨n + 1, fun _ => a⟩ H (setC (colIn H) a 3) H' C' → ∀ b o, b ≠ a → H b = some o → H' b = some o := fun S b o e h => S.keep b o h (.inl (by rw [hcn b o e h]; omega))
    have e1 : ofO1 m (.ow cs :: ds.map Sl.bo) = (m cs ds).bind fun p => .ok (p.1, .ow p.2 :: (ds.map Sl.bo).map fun _ => Sl.no) := by
      show (match (ds.map Sl.bo).mapM unbo with | some ds' => (m cs ds').bind fun p => Re.ok (p.1, Sl.ow p.2 :: (ds.map Sl.bo).map fun _ => Sl.no) | none => .bad) = _
      rw [mapM_bo]
    rw [e1]
    refine wp_bind.mpr (wp_mono h (fun p _ ⟨hn, hp⟩ => fun v H' C' S R' rv => ?_) fun c hc H' C' S => hc H' (same S) S.there)
    have r0 := R'.get 0 (.ow p.2) rfl
    have e0 : (List.map some (V.ref a :: vs))[0]? = some (some (V.ref a)) := rfl
    rw [e0] at r0
    cases r0 with
    | ow h0 _ rr _ =>
      refine hp v H' C' _ (same S) h0 (rr.free hn) (fun b hb => ?_) rv
      cases q : H b with
      | none => rfl
      | some o =>
        have hne : H b ≠ none := by rw [q]; simp
        have c1 : setC (colIn H) a 3 b = 1 ∨ setC (colIn H) a 3 b = 3 := by
          by_cases e : b = a
          · subst e; exact .inr hca
          · exact .inl (hcn b o e q)
        have := S.colo b hne (by show _ ≤ n + 1 + 2; omega)
        rw [hb] at this
        omega
/-- f(cart, ..): cart is the list at slot j -/
theorem de_callO {xo : XO} {m : OF} {n j : Nat} {fs : AS} {y : Str} {py : Pos} (F : GFn X.prog X.w X.K X.mg X.base Xc k f fd ps (spG X.K xo (n + 1) (ofO1 m))) (hr : Room k X.A) (hgd : X.A.guards = some []) (hg : Gl X x) (hm : X.mg x = some (.ref f))
    (hk : PySem.W.keepIn X.K (.ref f) = true) (hb : Binds X.K fd ps []) (hx : Passes Xc X E) (hE : ∀ c H', EW c H' → xo E c H') (hj : PE X (.Name y py) (tVar j)) (ha : DA X np EW es fs) (hdb : (x == ("__debug__" : Str)) = false := by decide)
    (he : starEach (.Name y py :: es) X.env = (false, eval (.Name y py) X.env) :: starEach es X.env := by rfl) (hpl : (backTo pos (starEach es X.env)).any (·.1) = false := by rfl) : DE X np EW (.Call (.Name x p) (.Name y py :: es) [] pos) (clO j n m fs) :=
  PE.weak (gpe_call F hr hgd hg hm hk hb hx (pa_cons hj ha he) hdb he hpl) fun σ H Q ⟨L, C, ρ, R, h⟩ => by
    unfold clO at h
    by_cases hL : (!L.pure && isOw ρ[j]?) = true
    · rw [if_pos hL] at h
      rw [Bool.and_eq_true] at hL
      have hLp : L.pure = false := by simpa using hL.1
      obtain ⟨a, hvj⟩ : ∃ a, σ[j]? = some (some (V.ref a)) := by
        have h2 := hL.2
        cases e : ρ[j]? with
        | none => rw [e] at h2; cases h2
        | some s =>
          rw [e] at h2
          have r := R.get j s e
          cases s with
          | ow ds =>
            generalize σ[j]? = o at r
            cases r with
            | ow _ _ _ _ => exact ⟨_, rfl⟩
          | _ => cases h2
      refine ⟨.ref a, hvj, tA_of R (L := .bo) h fun q vs H1 C1 A1 R1 r1 h1 => ?_⟩
      cases e : q.2[j]? with
      | none => rw [e] at h1; exact h1.elim
      | some s =>
        rw [e] at h1
        have sr := R1.get j s e
        rw [hvj] at sr
        cases s with
        | ow cs =>
          cases sr with
          | @ow _ us _ ha hc rc pn =>
            by_cases hq : (noLs cs && decide (q.1.length = n)) = true
            · simp only [hq, if_true] at h1
              simp only [Bool.and_eq_true, decide_eq_true_eq] at hq
              have tup_ne : ∀ {b : Addr} {o : HO}, H1 b = some o → Imm o → b ≠ a := fun {b o} h i z => by
                subst z; rw [ha] at h; cases h; exact i
              refine spG_own ha (rc.free hq.1) (r1.imp fun b hb z => ?_) hq.2 (wp_mono (wp_bind.mp h1) (fun p _ hp => ?_) fun c hc H' S T => hE c H' (hc H' C1 ⟨fun b x h k => S b x ?_ h, T, fun _ _ _ => rfl, fun _ _ h => .inr h⟩))
              · subst z
                have hb' : Lv.bo.okb (C1 b) = true := hb
                rw [hc] at hb'
                simp [Lv.okb] at hb'
              · by_cases hn : noLs p.2 = true
                · rw [if_pos hn] at hp
                  refine ⟨hn, fun v H' C' us' S h0 rr fr rv => ?_⟩
                  have tra : ∀ b, H1 b ≠ none → H' b ≠ none := fun b hb => by
                    obtain ⟨o, ho⟩ := ne_some hb
                    by_cases z : b = a
                    · subst z; rw [h0]; simp
                    · rw [S b o z ho]; simp
                  let C2 : Col := fun b => match H1 b with | none => 0 | some _ => C1 b
                  have hC2 : ∀ b, H1 b ≠ none → C2 b = C1 b := fun b hb => by
                    obtain ⟨o, ho⟩ := ne_some hb
                    show (match H1 b with | none => 0 | some _ => C1 b) = _
                    rw [ho]
                  have St : Stp np H1 C1 H' C2 := ⟨fun b x h k => S b x (fun z => by
                    rcases k with k | k
                    · subst z; omega
                    · exact tup_ne h k z) h, tra, fun b hb _ => hC2 b hb, fun b hb k => by rw [hC2 b hb]; exact .inr k⟩
                  refine hp v H' C2 ⟨A1.stp.trans St, fun z => by rw [hLp] at z; cases z⟩ ⟨by rw [List.length_set]; exact R1.len, fun i s es => ?_⟩ (rv.imp fun b hb => ?_)
                  · by_cases hij : i = j
                    · subst hij
                      rw [hvj]
                      have hlt : i < q.2.length := (List.getElem?_eq_some_iff.mp e).1
                      rw [List.getElem?_set_self hlt] at es
                      cases es
                      exact .ow h0 (by rw [hC2 a (by rw [ha]; simp)]; exact hc) (rr.imp fun _ z => z.elim) pn
                    · rw [List.getElem?_set_ne (Ne.symm hij)] at es
                      refine (R1.get i s es).off hij (fun b xs hb h => ?_) fun b o h im => S b o (tup_ne h im) h
                      have hba : b ≠ a := fun z => by subst z; exact hb hc
                      exact ⟨S b _ hba h, hC2 b (by rw [h]; simp)⟩
                  · unfold Cof
                    have : C2 b = 0 := by show (match H1 b with | none => 0 | some _ => C1 b) = _; rw [fr b hb]
                    rw [this]; exact L.ok0
                · rw [if_neg hn] at hp; exact hp.elim
              · intro z
                rcases k with k | k
                · subst z; omega
                · exact tup_ne h k z
            · simp only [hq] at h1; exact h1.elim
        | _ => exact h1.elim
    · rw [if_neg hL] at h; exact h.elim
end
end
end Dm

namespace Dm
noncomputable section
open PySem PySem.Spec PyProof.Rows L2

/-- how a statement ends -/
inductive Fl where
  | bad
  | nx (ρ : Slots)
  | rt (d : D) (ρ : Slots)
  | bk (ρ : Slots)
  | ct (ρ : Slots)
  | ex (c : Exn)
abbrev SS := Slots → Fl
/-- what a def's own lists may be handed out at a return -/
def RtC (np : Fp) (C : Col) : Addr → Prop := fun a => (Lv.rt np.n).okb (C a) = true
def pst (K : PySem.W.Frag) (np : Fp) (EW : XW) (Dn : Ends) (H : Hp) (C : Col) : Fl → Prop
  | .bad => False
  | .nx ρ' => ∀ σ' H' C', Stp np H C H' C' → Rel K np H' C' σ' ρ' → Dn.nx σ' H'
  | .bk ρ' => ∀ σ' H' C', Stp np H C H' C' → Rel K np H' C' σ' ρ' → Dn.bk σ' H'
  | .ct ρ' => ∀ σ' H' C', Stp np H C H' C' → Rel K np H' C' σ' ρ' → Dn.ct σ' H'
  | .rt d ρ' => ∀ v σ' H' C', Stp np H C H' C' → Rel K np H' C' σ' ρ' → Rp K H' (RtC np C') v d → Dn.rt v H'
  | .ex c => ∀ H' C', Stp np H C H' C' → EW c H'
def tS (K : PySem.W.Frag) (np : Fp) (EW : XW) (f : SS) : TS := fun Dn σ H => ∃ C ρ, Rel K np H C σ ρ ∧ pst K np EW Dn H C (f ρ)
abbrev DS (X : Cx) (np : Fp) (EW : XW) (st : Stmt) (f : SS) : Prop := PS X st (tS X.K np EW f)
abbrev DSs (X : Cx) (np : Fp) (EW : XW) (st : List Stmt) (f : SS) : Prop := PSs X st (tS X.K np EW f)
theorem PS.weak {X : Cx} {e : Stmt} {t t' : TS} (h : PS X e t) (w : ∀ Dn σ H, t' Dn σ H → t Dn σ H) : PS X e t' := ⟨fun pins s σ H Dn I q => h.run pins s σ H Dn I (w Dn σ H q)⟩
theorem PSs.weak {X : Cx} {e : List Stmt} {t t' : TS} (h : PSs X e t) (w : ∀ Dn σ H, t' Dn σ H → t Dn σ H) : PSs X e t' := ⟨fun pins s σ H Dn I q => h.run pins s σ H Dn I (w Dn σ H q)⟩
section
variable {K : PySem.W.Frag} {np : Fp} {EW : XW} {Dn : Ends} {H H1 : Hp} {C C1 : Col}
theorem pst_stp {r : Fl} (h : pst K np EW Dn H C r) (S : Stp np H C H1 C1) : pst K np EW Dn H1 C1 r := by
  cases r with
  | bad => exact h
  | nx ρ => exact fun σ' H' C' T => h σ' H' C' (S.trans T)
  | bk ρ => exact fun σ' H' C' T => h σ' H' C' (S.trans T)
  | ct ρ => exact fun σ' H' C' T => h σ' H' C' (S.trans T)
  | rt d ρ => exact fun v σ' H' C' T => h v σ' H' C' (S.trans T)
  | ex c => exact fun H' C' T => h H' C' (S.trans T)
end
/-- an expression ahead of a statement's end -/
def Re.to {α : Type} (r : Re α) (k : α → Fl) : Fl := match r with
  | .bad => .bad
  | .ok a => k a
  | .ex c => .ex c
@[simp] theorem to_ok {α : Type} (a : α) (k : α → Fl) : (Re.ok a).to k = k a := Eq.trans rfl rfl
@[simp] theorem to_ex {α : Type} (c : Exn) (k : α → Fl) : (Re.ex c : Re α).to k = .ex c := Eq.trans rfl rfl
@[simp] theorem to_bad {α : Type} (k : α → Fl) : (Re.bad : Re α).to k = .bad := Eq.trans rfl rfl
def Fl.seq (r : Fl) (k : Slots → Fl) : Fl := match r with
  | .nx ρ => k ρ
  | r => r
@[simp] theorem seq_nx (ρ : Slots) (k : Slots → Fl) : (Fl.nx ρ).seq k = k ρ := Eq.trans rfl rfl
@[simp] theorem seq_rt (d : D) (ρ : Slots) (k : Slots → Fl) : (Fl.rt d ρ).seq k = .rt d ρ := Eq.trans rfl rfl
@[simp] theorem seq_bad (k : Slots → Fl) : Fl.bad.seq k = .bad := Eq.trans rfl rfl
@[simp] theorem seq_ex (c : Exn) (k : Slots → Fl) : (Fl.ex c).seq k = .ex c := Eq.trans rfl rfl
@[simp] theorem seq_bk (ρ : Slots) (k : Slots → Fl) : (Fl.bk ρ).seq k = .bk ρ := Eq.trans rfl rfl
@[simp] theorem seq_ct (ρ : Slots) (k : Slots → Fl) : (Fl.ct ρ).seq k = .ct ρ := Eq.trans rfl rfl
section
variable {X : Cx} {np : Fp} {EW : XW} {e : Expr} {fe : ES} {st : Stmt} {rest : List Stmt} {f g : SS} {pos : Pos}
section
variable {K : PySem.W.Frag} {Dn : Ends} {H : Hp} {C : Col} {ρ : Slots} {σ : L2.St} {L : Lv}
theorem toE_of {f : ES} {Q : V → Hp → Prop} {k : D × Slots → Fl} (R : Rel K np H C σ ρ) (h : pst K np EW Dn H C ((f L ρ).to k))
    (hq : ∀ p v H' C', Aft np L ρ H C p.2 H' C' → Rel K np H' C' σ p.2 → Rp K H' (Cof C' L) v p.1 → pst K np EW Dn H' C' (k p) → Q v H') : tE K np EW f σ H Q := by
  refine ⟨L, C, ρ, R, ?_⟩
  cases e : f L ρ with
  | bad => rw [e] at h; exact h.elim
  | ok p => rw [e] at h; exact fun v H' C' A R' r => hq p v H' C' A R' r (pst_stp h A.stp)
  | ex c => rw [e] at h; exact h
theorem toT_of {f : BS} {Q : Bool → Hp → Prop} {k : Bool × Slots → Fl} (R : Rel K np H C σ ρ) (h : pst K np EW Dn H C ((f L ρ).to k))
    (hq : ∀ p H' C', Aft np L ρ H C p.2 H' C' → Rel K np H' C' σ p.2 → pst K np EW Dn H' C' (k p) → Q p.1 H') : tT K np EW f σ H Q := by
  refine ⟨L, C, ρ, R, ?_⟩
  cases e : f L ρ with
  | bad => rw [e] at h; exact h.elim
  | ok p => rw [e] at h; exact fun H' C' A R' => hq p H' C' A R' (pst_stp h A.stp)
  | ex c => rw [e] at h; exact h
theorem toA_of {f : AS} {Q : List V → Hp → Prop} {k : List D × Slots → Fl} (R : Rel K np H C σ ρ) (h : pst K np EW Dn H C ((f L ρ).to k))
    (hq : ∀ p v H' C', Aft np L ρ H C p.2 H' C' → Rel K np H' C' σ p.2 → RpA K H' (Cof C' L) v p.1 → pst K np EW Dn H' C' (k p) → Q v H') : tA K np EW f σ H Q := by
  refine ⟨L, C, ρ, R, ?_⟩
  cases e : f L ρ with
  | bad => rw [e] at h; exact h.elim
  | ok p => rw [e] at h; exact fun v H' C' A R' r => hq p v H' C' A R' r (pst_stp h A.stp)
  | ex c => rw [e] at h; exact h
end
/-! ### blocks -/
def skS : SS := fun ρ => .nx ρ
def sqS (f g : SS) : SS := fun ρ => (f ρ).seq g
theorem dss_nil : DSs X np EW [] skS := PSs.weak pss_nil fun Dn σ H ⟨C, ρ, R, h⟩ => h σ H C .refl R
theorem dss_one (h : DS X np EW st f) : DSs X np EW [st] f := pss_one h
theorem dss_cons (h : DS X np EW st f) (hr : DSs X np EW rest g) : DSs X np EW (st :: rest) (sqS f g) :=
  PSs.weak (pss_cons h hr) fun Dn σ H ⟨C, ρ, R, h⟩ => by
    refine ⟨C, ρ, R, ?_⟩
    have h' : pst X.K np EW Dn H C ((f ρ).seq g) := h
    cases e : f ρ with
    | bad => rw [e] at h'; exact h'
    | nx ρ' =>
      rw [e] at h'
      exact fun σ' H' C' S R' => ⟨C', ρ', R', pst_stp h' S⟩
    | rt d ρ' => rw [e] at h'; exact h'
    | bk ρ' => rw [e] at h'; exact h'
    | ct ρ' => rw [e] at h'; exact h'
    | ex c => rw [e] at h'; exact h'
def bkS : SS := fun ρ => .bk ρ
def ctS : SS := fun ρ => .ct ρ
def badS : SS := fun _ => .bad
theorem ds_pass : DS X np EW (.Pass pos) skS := PS.weak ps_pass fun Dn σ H ⟨C, ρ, R, h⟩ => h σ H C .refl R
theorem ds_break : DS X np EW (.Break pos) bkS := PS.weak ps_break fun Dn σ H ⟨C, ρ, R, h⟩ => h σ H C .refl R
theorem ds_continue : DS X np EW (.Continue pos) ctS := PS.weak ps_continue fun Dn σ H ⟨C, ρ, R, h⟩ => h σ H C .refl R
/-- what is never come to -/
theorem ds_never : DS X np EW st badS := PS.weak ps_never fun Dn σ H ⟨C, ρ, R, h⟩ => h.elim
def rtS (np : Nat) (fe : ES) : SS := fun ρ => (fe (.rt np) ρ).to fun p => .rt p.1 p.2
def rteS (fe : ES) : SS := fun ρ => (fe .va ρ).to fun p => .rt p.1 p.2
theorem ds_ret (h : DE X np EW e fe) : DS X np EW (.Return (some e) pos) (rtS np.n fe) :=
  PS.weak (ps_ret h) fun Dn σ H ⟨C, ρ, R, h⟩ => toE_of R h fun p v H' C' A R' r q => q v σ H' C' .refl R' r
/-- .. with effects -/
theorem ds_rete (h : DE X np EW e fe) : DS X np EW (.Return (some e) pos) (rteS fe) :=
  PS.weak (ps_ret h) fun Dn σ H ⟨C, ρ, R, h⟩ => toE_of (L := .va) R h fun p v H' C' A R' r q => q v σ H' C' .refl R' (r.imp fun b hb => by
    have hb' : Lv.va.okb (C' b) = true := hb
    simp [Lv.okb] at hb'
    unfold RtC
    rw [hb']; exact Lv.ok0 _)
theorem ds_retN : DS X np EW (.Return none pos) (fun ρ => .rt .none ρ) := PS.weak ps_retN fun Dn σ H ⟨C, ρ, R, h⟩ => h .non σ H C .refl R .non
/-- an expression alone -/
def exS (L : Lv) (fe : ES) : SS := fun ρ => (fe L ρ).to fun p => .nx p.2
theorem ds_expr (L : Lv) (h : DE X np EW e fe) (hs : swapsWith e none pos.line X.env = pure false := by rfl) : DS X np EW (.Expr e pos) (exS L fe) :=
  PS.weak (ps_expr h hs) fun Dn σ H ⟨C, ρ, R, h⟩ => toE_of R h fun p v H' C' A R' r q => q σ H' C' .refl R'
def ifS (L : Lv) (c : BS) (f g : SS) : SS := fun ρ => (c L ρ).to fun p => if p.1 then f p.2 else g p.2
theorem ds_if (L : Lv) {c : Expr} {fc : BS} {a b : List Stmt} (hc : DT X np EW c fc) (ha : DSs X np EW a f) (hb : DSs X np EW b g) : DS X np EW (.If c a b pos) (ifS L fc f g) :=
  PS.weak (ps_if hc ha hb) fun Dn σ H ⟨C, ρ, R, h⟩ => toT_of R h fun p H' C' A R' q => by
    cases e : p.1 with
    | true => rw [e] at q; exact iteT ⟨C', p.2, R', q⟩
    | false => rw [e] at q; exact iteF ⟨C', p.2, R', q⟩

/-! ### stores at names -/
theorem Rel.set {K : PySem.W.Frag} {H : Hp} {C : Col} {σ : L2.St} {ρ : Slots} {i : Nat} {v : V} {s : Sl} (R : Rel K np H C σ ρ) (h : SlotR K np H C i (some (some v)) s) : Rel K np H C (σ.set i (some v)) (ρ.set i s) := by
  refine ⟨by rw [List.length_set, List.length_set]; exact R.len, fun j s' e => ?_⟩
  by_cases hij : j = i
  · subst hij
    have hl : j < ρ.length := by
      have := (List.getElem?_eq_some_iff.mp e).1
      rw [List.length_set] at this; exact this
    rw [List.getElem?_set_self hl] at e
    cases e
    rw [List.getElem?_set_self (by rw [R.len]; exact hl)]
    exact h
  · rw [List.getElem?_set_ne (Ne.symm hij)] at e ⊢
    exact R.get j s' e
/-- x = e: as one's own, as what was handed in -/
def vaS (i : Nat) (fe : ES) : SS := fun ρ => (fe .va ρ).to fun p => .nx (p.2.set i (.va p.1))
def boS (i : Nat) (fe : ES) : SS := fun ρ => (fe .bo ρ).to fun p => .nx (p.2.set i (.bo p.1))
section
variable {i : Nat} {x : Str} {pos' : Pos}
theorem ds_va (hN : X.N.Nodup) (hi : X.N[i]? = some x) (hx : Loc X.env.scope x) (h : DE X np EW e fe) (hs : swapsWith e (some (.Name x pos')) pos.line X.env = pure false := by rfl) (hf : X.fn x = true ∨ X.env.scope.names.lookup x = some .local := by first | exact .inl rfl | exact .inr rfl | assumption) :
    DS X np EW (.Assign [.Name x pos'] e pos) (vaS i fe) :=
  PS.weak (ps_set hN hi hx h hs hf) fun Dn σ H ⟨C, ρ, R, h⟩ => toE_of (L := .va) R h fun p v H' C' A R' r q => q _ H' C' .refl (R'.set (.va (r.imp fun b hb => by
    have hb' : Lv.va.okb (C' b) = true := hb
    simpa [Lv.okb] using hb')))
theorem ds_bo (hN : X.N.Nodup) (hi : X.N[i]? = some x) (hx : Loc X.env.scope x) (h : DE X np EW e fe) (hs : swapsWith e (some (.Name x pos')) pos.line X.env = pure false := by rfl) (hf : X.fn x = true ∨ X.env.scope.names.lookup x = some .local := by first | exact .inl rfl | exact .inr rfl | assumption) :
    DS X np EW (.Assign [.Name x pos'] e pos) (boS i fe) :=
  PS.weak (ps_set hN hi hx h hs hf) fun Dn σ H ⟨C, ρ, R, h⟩ => toE_of (L := .bo) R h fun p v H' C' A R' r q => q _ H' C' .refl (R'.set (.bo (r.imp fun b hb => by
    have hb' : Lv.bo.okb (C' b) = true := hb
    simpa [Lv.okb] using hb')))
end
/-! ### a new list -/
/-- the expression makes a new list, of these items -/
def tN (K : PySem.W.Frag) (np : Fp) (EW : XW) (f : AS) : TE := fun σ H Q => ∃ L C ρ, Rel K np H C σ ρ ∧
  wp (f L ρ) (fun p => ∀ t vs H' C', Aft np L ρ H C p.2 H' C' → Rel K np H' C' σ p.2 → H' t = none → RpA K H' (Cof C' L) vs p.1 → Q (.ref t) (upd H' t (.lst vs))) (fun c => ∀ H' C', Stp np H C H' C' → EW c H')
abbrev DN (X : Cx) (np : Fp) (EW : XW) (e : Expr) (f : AS) : Prop := PE X e (tN X.K np EW f)
def lsE (f : AS) : ES := fun L ρ => (f L ρ).bind fun p => .ok (.list p.1, p.2)
theorem DN.de {f : AS} (h : DN X np EW e f) : DE X np EW e (lsE f) := PE.weak h fun σ H Q ⟨L, C, ρ, R, h⟩ =>
  ⟨L, C, ρ, R, wp_mono (wp_bind.mp h) (fun p _ hp t vs H' C' A R' ht r => by
    have S := pstp_new (C := C') (o := .lst vs) (n := 0) ht
    exact hp (.ref t) _ _ (A.trans (.of S)) (R'.pstp S) (.lst upd_same (by unfold Cof; rw [setC_same]; exact L.ok0) (S.rpA (P := fun c => L.okb c = true) r))) fun c z => z⟩
def szA (f : AS) : AS := fun L ρ => (f L ρ).bind fun p => if p.1.length ≤ sizeLine then .ok p else .bad
theorem dn_lst {es : List Expr} {fs : AS} (ha : DA X np EW es fs) : DN X np EW (.List es pos) (szA fs) :=
  PE.weak (pe_lst ha) fun σ H Q ⟨L, C, ρ, R, h⟩ => tA_of R h fun p vs H1 C1 A1 R1 r1 h1 => by
    by_cases hz : p.1.length ≤ sizeLine
    · rw [if_pos hz] at h1
      exact ⟨by rw [r1.len]; exact hz, fun t ht => h1 t vs H1 C1 A1 R1 ht r1⟩
    · rw [if_neg hz] at h1; exact h1.elim
/-- x = a new list that x alone holds -/
def owS (np i : Nat) (f : AS) : SS := fun ρ => if np ≤ i then (f .va ρ).to fun p => .nx (p.2.set i (.ow p.1)) else .bad
theorem ow_new {K : PySem.W.Frag} {H : Hp} {C : Col} {σ : L2.St} {ρ : Slots} {i : Nat} {t : Addr} {vs : List V} {ds : List D} (hi : np.n ≤ i) (R : Rel K np H C σ ρ) (ht : H t = none) (r : RpA K H (Cof C .va) vs ds) :
    PStp H C (upd H t (.lst vs)) (setC C t (i + 3)) ∧ Rel K np (upd H t (.lst vs)) (setC C t (i + 3)) (σ.set i (some (.ref t))) (ρ.set i (.ow ds)) := by
  have S := pstp_new (C := C) (o := .lst vs) (n := i + 3) ht
  refine ⟨S, (R.pstp S).set (.ow upd_same setC_same (S.rpA (P := fun c => c = 0) (r.imp fun b hb => ?_)) fun z => absurd hi (by omega))⟩
  have hb' : Lv.va.okb (C b) = true := hb
  simpa [Lv.okb] using hb'
theorem ds_ow {i : Nat} {x : Str} {pos' : Pos} {f : AS} (hN : X.N.Nodup) (hi : X.N[i]? = some x) (hx : Loc X.env.scope x) (h : DN X np EW e f) (hs : swapsWith e (some (.Name x pos')) pos.line X.env = pure false := by rfl)
    (hf : X.fn x = true ∨ X.env.scope.names.lookup x = some .local := by first | exact .inl rfl | exact .inr rfl | assumption) : DS X np EW (.Assign [.Name x pos'] e pos) (owS np.n i f) :=
  PS.weak (ps_set hN hi hx h hs hf) fun Dn σ H ⟨C, ρ, R, h⟩ => by
    unfold owS at h
    by_cases hn : np.n ≤ i
    · rw [if_pos hn] at h
      refine ⟨.va, C, ρ, R, ?_⟩
      cases e : f .va ρ with
      | bad => rw [e] at h; exact h.elim
      | ex c => rw [e] at h; exact h
      | ok p =>
        rw [e] at h
        intro t vs H' C' A R' ht r
        obtain ⟨S, R2⟩ := ow_new hn R' ht r
        exact h _ _ _ (A.stp.trans S.stp) R2
    · rw [if_neg hn] at h; exact h.elim
/-- the list at slot i is handed out: nobody changes it any more -/
def fzS (np i : Nat) (f : SS) : SS := fun ρ => match ρ[i]? with
  | some (.ow ds) => if np ≤ i then f (ρ.set i (.va (.list ds))) else .bad
  | _ => .bad
theorem set_self {α : Type} {l : List α} {i : Nat} {a : α} (h : l[i]? = some a) : l.set i a = l := by
  apply List.ext_getElem?
  intro j
  by_cases e : j = i
  · subst e
    rw [List.getElem?_set_self (List.getElem?_eq_some_iff.mp h).1, h]
  · rw [List.getElem?_set_ne (Ne.symm e)]
theorem fz_rel {K : PySem.W.Frag} {H : Hp} {C : Col} {σ : L2.St} {ρ : Slots} {i : Nat} {ds : List D} (hi : np.n ≤ i) (R : Rel K np H C σ ρ) (e : ρ[i]? = some (.ow ds)) : ∃ C', Stp np H C H C' ∧ Rel K np H C' σ (ρ.set i (.va (.list ds))) := by
  have r := R.get i _ e
  cases eo : σ[i]? with
  | none => rw [eo] at r; cases r
  | some o =>
    rw [eo] at r
    cases r with
    | @ow a vs _ ha hc rr pn =>
      have hC : ∀ b, C b ≠ i + 3 → (fun b => if C b = i + 3 then 0 else C b) b = C b := fun b h => if_neg h
      refine ⟨fun b => if C b = i + 3 then 0 else C b, ⟨fun b x h _ => h, fun b h => h, fun b _ h => hC b (by omega), fun b _ h => ?_⟩, ⟨by rw [List.length_set]; exact R.len, fun j s es => ?_⟩⟩
      · by_cases z : C b = i + 3
        · exact .inl (if_pos z)
        · right; show np.n + 3 ≤ if C b = i + 3 then 0 else C b; rw [if_neg z]; exact h
      · by_cases hij : j = i
        · subst hij
          rw [List.getElem?_set_self (List.getElem?_eq_some_iff.mp e).1] at es
          cases es
          rw [eo]
          refine .va (.lst ha (if_pos hc) (rr.imp fun b hb => ?_))
          show (if C b = j + 3 then 0 else C b) = 0
          rw [if_neg (by omega)]; exact hb
        · rw [List.getElem?_set_ne (Ne.symm hij)] at es
          exact (R.get j s es).off hij (fun b xs hb h => ⟨h, hC b hb⟩) fun b o h _ => h
theorem ds_fz (i : Nat) (h : DS X np EW st f) : DS X np EW st (fzS np.n i f) :=
  PS.weak h fun Dn σ H ⟨C, ρ, R, h⟩ => by
    unfold fzS at h
    cases e : ρ[i]? with
    | none => rw [e] at h; exact h.elim
    | some s =>
      rw [e] at h
      cases s with
      | ow ds =>
        by_cases hn : np.n ≤ i
        · have h' : pst X.K np EW Dn H C (f (ρ.set i (.va (.list ds)))) := by simpa [hn] using h
          obtain ⟨C', S, R'⟩ := fz_rel hn R e
          exact ⟨C', _, R', pst_stp h' S⟩
        · have h' : pst X.K np EW Dn H C .bad := by simpa [hn] using h
          exact h'.elim
      | _ => exact h.elim
/-! ### changes of a list at a slot -/
/-- the list at slot j is rewritten -/
theorem ow_upd {K : PySem.W.Frag} {H : Hp} {C : Col} {σ : L2.St} {ρ : Slots} {j : Nat} {a : Addr} {us ws : List V} {es : List D} (R : Rel K np H C σ ρ) (hj : ∃ ds, ρ[j]? = some (.ow ds)) (hs : σ[j]? = some (some (.ref a))) (ha : H a = some (.lst us)) (hc : C a = j + 3)
    (r : RpA K H (fun b => C b = 0) ws es) : Stp np H C (upd H a (.lst ws)) C ∧ Rel K np (upd H a (.lst ws)) C σ (ρ.set j (.ow es)) := by
  obtain ⟨ds, ej⟩ := hj
  have ne_of_col : ∀ b, C b ≠ j + 3 → b ≠ a := fun b h z => by subst z; exact h hc
  have imm_ne : ∀ {b : Addr} {o : HO}, H b = some o → Imm o → b ≠ a := fun {b o} h i z => by subst z; rw [ha] at h; cases h; exact i
  refine ⟨⟨fun b x h k => ?_, fun b h => ?_, fun _ _ _ => rfl, fun _ _ h => .inr h⟩, ⟨by rw [List.length_set]; exact R.len, fun i s e => ?_⟩⟩
  · rw [upd_ne ?_]; exact h
    rcases k with k | k
    · exact ne_of_col b (by omega)
    · exact imm_ne h k
  · by_cases z : b = a
    · subst z; rw [upd_same]; simp
    · rw [upd_ne z]; exact h
  · by_cases hij : i = j
    · subst hij
      rw [List.getElem?_set_self (List.getElem?_eq_some_iff.mp ej).1] at e
      cases e
      have r0 := R.get i _ ej
      rw [hs] at r0 ⊢
      cases r0 with
      | ow _ _ _ pn =>
        exact .ow upd_same hc (r.move (fun b xs hb h => ⟨by rw [upd_ne (ne_of_col b (by omega))]; exact h, hb⟩) fun b o h im => by rw [upd_ne (imm_ne h im)]; exact h) pn
    · rw [List.getElem?_set_ne (Ne.symm hij)] at e
      exact (R.get i s e).off hij (fun b xs hb h => ⟨by rw [upd_ne (ne_of_col b hb)]; exact h, rfl⟩) fun b o h im => by rw [upd_ne (imm_ne h im)]; exact h
theorem ow_get {K : PySem.W.Frag} {H : Hp} {C : Col} {σ : L2.St} {ρ : Slots} {j : Nat} {ds : List D} (R : Rel K np H C σ ρ) (e : ρ[j]? = some (.ow ds)) : ∃ a us, σ[j]? = some (some (.ref a)) ∧ H a = some (.lst us) ∧ C a = j + 3 ∧ RpA K H (fun b => C b = 0) us ds := by
  have r := R.get j _ e
  generalize σ[j]? = o at r
  cases r with
  | ow ha hc rr pn => exact ⟨_, _, rfl, ha, hc, rr⟩
theorem isOw_get {ρ : Slots} {j : Nat} (h : isOw ρ[j]? = true) : ∃ ds, ρ[j]? = some (.ow ds) := by
  cases e : ρ[j]? with
  | none => rw [e] at h; cases h
  | some s =>
    rw [e] at h
    cases s with
    | ow ds => exact ⟨ds, rfl⟩
    | _ => cases h
def owA (o : Option Sl) (k : List D → Fl) : Fl := match o with
  | some (.ow ds) => k ds
  | _ => .bad
@[simp] theorem owA_ow (ds : List D) (k : List D → Fl) : owA (some (.ow ds)) k = k ds := Eq.trans rfl rfl
theorem owA_of {o : Option Sl} {k : List D → Fl} {K : PySem.W.Frag} {Dn : Ends} {H : Hp} {C : Col} (h : pst K np EW Dn H C (owA o k)) : ∃ ds, o = some (.ow ds) ∧ pst K np EW Dn H C (k ds) := by
  cases o with
  | none => exact h.elim
  | some s =>
    cases s with
    | ow ds => exact ⟨ds, rfl, h⟩
    | _ => exact h.elim
/-- xs.append(e) -/
def apS (j : Nat) (fe : ES) : SS := fun ρ => if isOw ρ[j]? then (fe .va ρ).to fun p => owA p.2[j]? fun ds => if ds.length < sizeLine then .nx (p.2.set j (.ow (ds ++ [p.1]))) else .bad else .bad
/-- a method call of the list at slot j -/
theorem owm_pre {K : PySem.W.Frag} {H : Hp} {C : Col} {σ : L2.St} {ρ : Slots} {j : Nat} {Dn : Ends} {r : Fl} (R : Rel K np H C σ ρ) (h : pst K np EW Dn H C (if isOw ρ[j]? then r else .bad)) :
    ∃ a us, σ[j]? = some (some (V.ref a)) ∧ H a = some (.lst us) ∧ pst K np EW Dn H C r := by
  by_cases q : isOw ρ[j]? = true
  · rw [if_pos q] at h
    obtain ⟨ds, e⟩ := isOw_get q
    obtain ⟨a, us, h1, h2, _⟩ := ow_get R e
    exact ⟨a, us, h1, h2, h⟩
  · rw [if_neg q] at h; exact h.elim
theorem ds_append (j : Nat) {x : Str} {px apos : Pos} {cpos : Pos} (hj : PE X (.Name x px) (tVar j)) (h : DE X np EW e fe)
    (hs : swapsWith (.Call (.Attribute (.Name x px) "append" apos) [e] [] cpos) none pos.line X.env = pure false := by rfl) (hst : starEach [e] X.env = (false, eval e X.env) :: starEach [] X.env := by rfl)
    (hpe : ∀ {t : TE}, PE X e t → PE X (.Call (.Attribute (.Name x px) "append" apos) [e] [] cpos) (tBM X.K "list" rAppend (tVar j) (tCons t tNil))) :
    DS X np EW (.Expr (.Call (.Attribute (.Name x px) "append" apos) [e] [] cpos) pos) (apS j fe) :=
  PS.weak (ps_expr (hpe h) hs) fun Dn σ H ⟨C, ρ, R, h⟩ => by
    obtain ⟨a, us, hs, ha, h⟩ := owm_pre R h
    refine ⟨.ref a, hs, .inl ⟨rfl, _, .inl (.inl ha)⟩, toE_of (L := .va) R h fun p v H' C' A R' r q => ?_⟩
    obtain ⟨ds, e, q⟩ := owA_of q
    obtain ⟨a', us', hs', ha', hc', rr⟩ := ow_get R' e
    rw [hs] at hs'; cases hs'
    by_cases hz : ds.length < sizeLine
    · rw [if_pos hz] at q
      refine ⟨a, us', v, rfl, rfl, ha', by rw [rr.len]; exact hz, ?_⟩
      obtain ⟨S, R2⟩ := ow_upd R' ⟨ds, e⟩ hs ha' hc' (rr.app (.cons (r.imp fun b hb => by
        have hb' : Lv.va.okb (C' b) = true := hb
        simpa [Lv.okb] using hb') .nil))
      exact q _ _ _ S R2
    · rw [if_neg hz] at q; exact q.elim
end
end
end Dm

namespace Dm
noncomputable section
open PySem PySem.Spec PyProof.Rows L2

section
variable {P : Program} {w : World} {K : PySem.W.Frag} {mg : Str → Option Value} {base : Heap}
/-- the slots that a def gives back: the lists that it may change -/
def selF : Sl → Sl → Sl
  | .ow _, .ow ds => .ow ds
  | .ob _ _, .ob kl xs => .ob kl xs
  | _, _ => .no
def outF : Slots → Slots → Slots
  | [], _ => []
  | a :: as, [] => .no :: outF as []
  | a :: as, s :: r => selF a s :: outF as r
theorem outF_len : ∀ (as ρ : Slots), (outF as ρ).length = as.length
  | [], _ => rfl
  | _ :: as, [] => by rw [outF, List.length_cons, List.length_cons, outF_len as []]
  | _ :: as, _ :: r => by rw [outF, List.length_cons, List.length_cons, outF_len as r]
theorem outF_get : ∀ (as ρ : Slots) (i : Nat) (s : Sl), (outF as ρ)[i]? = some s → s = .no ∨ (∃ d0 ds, as[i]? = some (.ow d0) ∧ ρ[i]? = some (.ow ds) ∧ s = .ow ds) ∨ ∃ k0 x0 kl xs, as[i]? = some (.ob k0 x0) ∧ ρ[i]? = some (.ob kl xs) ∧ s = .ob kl xs
  | [], _, _, _, h => by simp [outF] at h
  | a :: as, [], 0, s, h => by rw [outF] at h; cases h; exact .inl rfl
  | a :: as, [], i + 1, s, h => by
    rw [outF, List.getElem?_cons_succ] at h
    rcases outF_get as [] i s h with h | ⟨d0, ds, _, h2, _⟩ | ⟨_, _, _, _, _, h2, _⟩
    · exact .inl h
    · simp at h2
    · simp at h2
  | a :: as, t :: r, 0, s, h => by
    rw [outF] at h
    have e : selF a t = s := Option.some.inj h
    subst e
    cases a <;> cases t <;> first
      | exact .inl rfl
      | exact .inr (.inl ⟨_, _, rfl, rfl, rfl⟩)
      | exact .inr (.inr ⟨_, _, _, _, rfl, rfl, rfl⟩)
  | a :: as, t :: r, i + 1, s, h => by
    rw [outF, List.getElem?_cons_succ] at h
    exact outF_get as r i s h
theorem outF_bo : ∀ (ds : List D) (ρ : Slots), outF (ds.map Sl.bo) ρ = (ds.map Sl.bo).map fun _ => Sl.no
  | [], _ => rfl
  | d :: ds, [] => by rw [List.map_cons, outF, outF_bo ds []]; rfl
  | d :: ds, s :: r => by rw [List.map_cons, outF, outF_bo ds r]; rfl
/-- what a body's end is for the caller -/
def finF (as : Slots) : Fl → Re (D × Slots)
  | .rt d ρ => .ok (d, outF as ρ)
  | .nx ρ => .ok (.none, outF as ρ)
  | .ex c => .ex c
  | _ => .bad
/-- a def by its body: m slots beside the parameters -/
def bodyF (m : Nat) (f : SS) : Slots → Re (D × Slots) := fun as => finF as (f (as ++ List.replicate m .no))
theorem rel_start {np : Fp} {H : Hp} {C : Col} {vs : List V} {as : Slots} {N : List Str} {m : Nat} (R : Rel K np H C (vs.map some) as) (hN : N.length = vs.length + m) : Rel K np H C (L2.start N vs) (as ++ List.replicate m .no) := by
  have hl := R.len
  rw [List.length_map] at hl
  unfold L2.start
  have e : N.length - vs.length = m := by omega
  rw [e]
  refine ⟨by simp [hl], fun i s es => ?_⟩
  by_cases hi : i < as.length
  · rw [List.getElem?_append_left hi] at es
    rw [List.getElem?_append_left (by simp [hl]; exact hi)]
    exact R.get i s es
  · rw [List.getElem?_append_right (by omega), List.getElem?_replicate] at es
    split at es
    · cases es; exact .no
    · cases es
/-- behind a body: the colours as the caller sees them -/
theorem fin_caller {np : Fp} {H H' : Hp} {C C' : Col} {σ' : L2.St} {as ρ' : Slots} {vs : List V} (h0 : ∀ b, H b ≠ none → 1 ≤ C b ∧ C b ≤ np.n + 2) (hv : vs.length = np.n) (R0 : Rel K np H C (vs.map some) as)
    (S : Stp np H C H' C') (R : Rel K np H' C' σ' ρ') : ∃ C'', Stp np H C H' C'' ∧ Rel K np H' C'' (vs.map some) (outF as ρ') ∧ (∀ v d, Rp K H' (RtC np C') v d → Rp K H' (fun b => C'' b = 0) v d) := by
  have lo : ∀ b, C' b ≤ np.n + 2 → (if np.n + 3 ≤ C' b then 0 else C' b) = C' b := fun b h => if_neg (by omega)
  refine ⟨fun b => if np.n + 3 ≤ C' b then 0 else C' b, ⟨S.keep, S.there, fun b hb hc => ?_, fun b hb hc => ?_⟩, ⟨?_, fun i s es => ?_⟩, fun v d r => r.imp fun b hb => ?_⟩
  · have := S.colo b hb hc
    rw [lo b (by rw [this]; exact hc), this]
  · have := (h0 b hb).2; omega
  · rw [outF_len, List.length_map, hv, ← hv]
    have := R0.len
    rw [List.length_map] at this
    exact this
  · rcases outF_get as ρ' i s es with rfl | ⟨d0, ds, e1, e2, rfl⟩ | ⟨k0, x0, kl, xs, e1, e2, rfl⟩
    · exact .no
    · have r0 := R0.get i _ e1
      have r1 := R.get i _ e2
      have hi : i < np.n := by
        have h1 := (List.getElem?_eq_some_iff.mp e1).1
        have h2 := R0.len
        rw [List.length_map] at h2
        omega
      generalize (vs.map some)[i]? = o at r0 ⊢
      generalize σ'[i]? = o' at r1
      cases r0 with
      | ow _ _ _ p0 =>
        cases r1 with
        | ow h1 c1 rr p1 =>
          rw [p0 hi, ← p1 hi]
          exact .ow h1 (by rw [lo _ (by rw [c1]; omega)]; exact c1) (rr.imp fun b hb => by rw [lo b (by omega)]; exact hb) p1
    · have r0 := R0.get i _ e1
      have r1 := R.get i _ e2
      have hi : i < np.n := by
        have h1 := (List.getElem?_eq_some_iff.mp e1).1
        have h2 := R0.len
        rw [List.length_map] at h2
        omega
      generalize (vs.map some)[i]? = o at r0 ⊢
      generalize σ'[i]? = o' at r1
      cases r0 with
      | ob _ _ _ _ p0 =>
        cases r1 with
        | ob h1 c1 n1 rr p1 =>
          rw [p0 hi, ← p1 hi]
          exact .ob h1 (by rw [lo _ (by rw [c1]; omega)]; exact c1) n1 (rr.move (fun b xs e h => ⟨h, by rw [lo b (by omega)]; exact e⟩) fun _ _ h _ => h) p1
  · have hb' : (C' b == 0 || decide (np.n + 3 ≤ C' b)) = true := hb
    simp only [Bool.or_eq_true, beq_iff_eq, decide_eq_true_eq] at hb'
    show (if np.n + 3 ≤ C' b then 0 else C' b) = 0
    by_cases z : np.n + 3 ≤ C' b
    · rw [if_pos z]
    · rw [if_neg z]; omega
/-- THE RULE for a def that raises nothing: its body's judgement gives its promise -/
theorem g_fn {x qual : Str} {st : Stmt} {f : Addr} {fd : FuncData} {N ps : List Str} {k m : Nat} {F : SS} (Fn : Fun K x qual st f fd) (Sc : FnScope N ps (defScope st)) (hN : N.length = ps.length + m)
    (hbody : ∀ (np : Fp) (cdv : Value) (A : Around) (outer : List PySem.Env) (s : Shared) (H : Hp) (E : XK), np.n = ps.length → Room k (A.deeper (envOfC qual (defScope st) s.heap.objs.size f cdv)) → A.guards = some [] →
      DSs (cxOf CX0 P w K mg base N qual (defScope st) f cdv A outer s H E).nox np (fun _ _ => False) (defBody st) F) : GFn P w K mg base CX0 (k + 1) f fd ps (spG K (fun _ _ _ => False) ps.length (bodyF m F)) := by
  refine ⟨fun vs H Q E h => h.1, fun A outer s H args us vs Q E hr hg e0 hb r hsp => ?_⟩
  obtain ⟨oc, od, kV, doc, pm, an, cdv, ct, osl, rfl, lk, hcd⟩ := Fn.ex
  obtain ⟨hl, C, np, as, hnp, R, h0, hw⟩ := hsp
  have hv : vs.length = np.n := by rw [hl, hnp]
  have kin : K.In s.heap := e0.mod.kin.keeps fun b o e => (e0.bs b o e).1
  have nlm : s.heap.NoLimit := e0.mod.nolimit.keeps fun b o e => (e0.bs b o e).1
  have kinds : ∀ y ∈ ps.zip us, (defScope st).names.lookup y.1 = some .local ∨ ((defScope st).names.lookup y.1 = some .cell ∧ ((cellsFrom (s.heap.objs.size + 1) (defScope st).names []).lookup y.1).isSome = true) := by
    intro y hy
    rcases Sc.par y.1 (List.of_mem_zip (show (y.1, y.2) ∈ ps.zip us from hy)).1 with q | q
    · exact .inl q
    · exact .inr ⟨q, PySem.W.cellsFrom_some _ _ _ (.inl q)⟩
  have toEnd : ∀ (X : Cx), X = cxOf CX0 P w K mg base N qual (defScope st) f cdv A outer s H E → ∀ {σ' : L2.St} {H' : Hp} {v : V} {u : Value} {s' : Shared}, Inv X [] σ' H' s' → RelV v u → Q v H' → CE outer P w H s Q u s' := by
    intro X hX σ' H' v u s' J rv q
    subst hX
    exact ⟨v, H', J.os, J.bare, J.base, J.hok, rv, q⟩
  refine codeAny_call_function hr.depth (kin _ _ lk) rfl Sc.co Sc.gen rfl (PySem.W.codeRec_of kin hcd) (hb _ _ _ _ (wpAny_newFunctionEnv_cells Sc.kind kinds fun env he s1 x => ?_))
  subst he
  refine ⟨nlm.keeps x.toInCall.keep, codeAny_func ?_⟩
  have B := hbody np cdv A outer s H E hnp (hr.deeper _) hg
  have I := inv_start (CX := CX0) (E := E) Sc hr.hd e0 hl r x
  have pre : tS K np (fun _ _ => False) F { nx := fun _ H' => Q .non H', rt := Q } (L2.start N vs) H := by
    refine ⟨C, _, rel_start (m := m) R (by rw [hN, hl]), ?_⟩
    have hw' : wp (finF as (F (as ++ List.replicate m .no))) _ _ := hw
    cases e : F (as ++ List.replicate m .no) with
    | bad => rw [e] at hw'; exact hw'.elim
    | bk _ => rw [e] at hw'; exact hw'.elim
    | ct _ => rw [e] at hw'; exact hw'.elim
    | ex c => rw [e] at hw'; exact fun H' C' S => hw' H' C' S
    | rt d ρ' =>
      rw [e] at hw'
      intro v σ' H' C' S R' rv
      obtain ⟨C'', S2, R2, r2⟩ := fin_caller (by rw [hnp]; exact h0) hv R S R'
      exact hw' v H' C'' S2 R2 (r2 v d rv)
    | nx ρ' =>
      rw [e] at hw'
      intro σ' H' C' S R'
      obtain ⟨C'', S2, R2, r2⟩ := fin_caller (by rw [hnp]; exact h0) hv R S R'
      exact hw' .non H' C'' S2 R2 .non
  refine wpAny_mono (B.nox.run [] s1 (L2.start N vs) H _ I pre) (fun fl s' hs => ?_) fun e s' hs => hs
  cases fl with
  | ret u =>
    obtain ⟨v, σ', H', J, rv, q⟩ := hs
    exact toEnd _ rfl J rv q
  | next =>
    obtain ⟨σ', H', J, q⟩ := hs
    exact toEnd _ rfl (v := V.non) (u := Value.none) J rfl q
  | brk => obtain ⟨_, _, _, q⟩ := hs; exact q.elim
  | cont => obtain ⟨_, _, _, q⟩ := hs; exact q.elim
/-- a def that computes data from data -/
def pfOf (m : Nat) (f : SS) : PF := fun ds => (bodyF m f (ds.map Sl.bo)).bind fun p => .ok p.1
def ofOf (m : Nat) (f : SS) : OF := fun cs ds => (bodyF m f (.ow cs :: ds.map Sl.bo)).bind fun p => match p.2 with
  | .ow cs' :: _ => .ok (p.1, cs')
  | _ => .bad
theorem mapM_unbo : ∀ {as : Slots} {ds : List D}, as.mapM unbo = some ds → as = ds.map Sl.bo
  | [], ds, h => by
    have : some [] = some ds := h
    cases this; rfl
  | a :: as, ds, h => by
    rw [List.mapM_cons] at h
    cases e : unbo a with
    | none => rw [e] at h; cases h
    | some d =>
      rw [e] at h
      cases e2 : as.mapM unbo with
      | none => rw [e2] at h; cases h
      | some r =>
        rw [e2] at h
        have h' : some (d :: r) = some ds := h
        cases h'
        cases a <;> simp [unbo] at e
        subst e
        rw [List.map_cons, mapM_unbo e2]
theorem finF_bo {ds : List D} {r : Fl} : finF (ds.map Sl.bo) r = ((finF (ds.map Sl.bo) r).bind fun p => .ok p.1).bind fun d => .ok (d, (ds.map Sl.bo).map fun _ => Sl.no) := by
  cases r <;> simp [finF, outF_bo]
theorem spG_of {xo : XO} {n m : Nat} {F : SS} {vs : List V} {H : Hp} {Q : VK} {E : XK} (h : spG K xo n (ofP (pfOf m F)) vs H Q E) : spG K xo n (bodyF m F) vs H Q E := by
  obtain ⟨h1, C, np, as, h2, h3, h4, hw⟩ := h
  refine ⟨h1, C, np, as, h2, h3, h4, ?_⟩
  cases e : as.mapM unbo with
  | none =>
    unfold ofP at hw
    rw [e] at hw; exact hw.elim
  | some ds =>
    have ea := mapM_unbo e
    subst ea
    have e2 : bodyF m F (ds.map Sl.bo) = ofP (pfOf m F) (ds.map Sl.bo) := by
      unfold ofP
      rw [mapM_bo]
      show finF _ _ = (pfOf m F ds).bind _
      unfold pfOf
      exact finF_bo
    rw [e2]; exact hw
theorem spG_ofO {xo : XO} {n m : Nat} {F : SS} {vs : List V} {H : Hp} {Q : VK} {E : XK} (h : spG K xo n (ofO1 (ofOf m F)) vs H Q E) : spG K xo n (bodyF m F) vs H Q E := by
  obtain ⟨h1, C, np, as, h2, h3, h4, hw⟩ := h
  refine ⟨h1, C, np, as, h2, h3, h4, ?_⟩
  cases as with
  | nil => exact hw.elim
  | cons a r =>
    cases a with
    | ow cs =>
      cases e : r.mapM unbo with
      | none =>
        unfold ofO1 at hw
        simp only [e] at hw; exact hw.elim
      | some ds =>
        have ea := mapM_unbo e
        subst ea
        have e1 : ofO1 (ofOf m F) (.ow cs :: ds.map Sl.bo) = (ofOf m F cs ds).bind fun p => .ok (p.1, .ow p.2 :: (ds.map Sl.bo).map fun _ => Sl.no) := by
          show (match (ds.map Sl.bo).mapM unbo with | some ds' => (ofOf m F cs ds').bind fun p => Re.ok (p.1, Sl.ow p.2 :: (ds.map Sl.bo).map fun _ => Sl.no) | none => .bad) = _
          rw [mapM_bo]
        rw [e1] at hw
        unfold ofOf at hw
        cases e2 : bodyF m F (.ow cs :: ds.map Sl.bo) with
        | bad => rw [e2] at hw; exact hw.elim
        | ex c => rw [e2] at hw; exact hw
        | ok p =>
          rw [e2] at hw
          have sh : ∃ x, p.2 = outF (.ow cs :: ds.map Sl.bo) x := by
            unfold bodyF at e2
            cases e3 : F (.ow cs :: ds.map Sl.bo ++ List.replicate m .no) <;> rw [e3] at e2 <;> simp [finF] at e2
            · exact ⟨_, by rw [← e2]⟩
            · exact ⟨_, by rw [← e2]⟩
          obtain ⟨x, hx⟩ := sh
          obtain ⟨d, ρ⟩ := p
          have hx' : ρ = outF (.ow cs :: ds.map Sl.bo) x := hx
          subst hx'
          cases x with
          | nil => exact hw.elim
          | cons s t =>
            cases s with
            | ow cs' =>
              rw [outF, outF_bo] at hw ⊢
              exact hw
            | _ => exact hw.elim
    | _ => exact hw.elim
theorem g_pure {x qual : Str} {st : Stmt} {f : Addr} {fd : FuncData} {N ps : List Str} {k m : Nat} {F : SS} (Fn : Fun K x qual st f fd) (Sc : FnScope N ps (defScope st)) (hN : N.length = ps.length + m)
    (hbody : ∀ (np : Fp) (cdv : Value) (A : Around) (outer : List PySem.Env) (s : Shared) (H : Hp) (E : XK), np.n = ps.length → Room k (A.deeper (envOfC qual (defScope st) s.heap.objs.size f cdv)) → A.guards = some [] →
      DSs (cxOf CX0 P w K mg base N qual (defScope st) f cdv A outer s H E).nox np (fun _ _ => False) (defBody st) F) : GFn P w K mg base CX0 (k + 1) f fd ps (spG K (fun _ _ _ => False) ps.length (ofP (pfOf m F))) :=
  (g_fn Fn Sc hN hbody).imp fun _ _ _ _ h => spG_of h
theorem g_own {x qual : Str} {st : Stmt} {f : Addr} {fd : FuncData} {N ps : List Str} {k m : Nat} {F : SS} (Fn : Fun K x qual st f fd) (Sc : FnScope N ps (defScope st)) (hN : N.length = ps.length + m)
    (hbody : ∀ (np : Fp) (cdv : Value) (A : Around) (outer : List PySem.Env) (s : Shared) (H : Hp) (E : XK), np.n = ps.length → Room k (A.deeper (envOfC qual (defScope st) s.heap.objs.size f cdv)) → A.guards = some [] →
      DSs (cxOf CX0 P w K mg base N qual (defScope st) f cdv A outer s H E).nox np (fun _ _ => False) (defBody st) F) : GFn P w K mg base CX0 (k + 1) f fd ps (spG K (fun _ _ _ => False) ps.length (ofO1 (ofOf m F))) :=
  (g_fn Fn Sc hN hbody).imp fun _ _ _ _ h => spG_ofO h
end
end
end Dm

namespace Dm
noncomputable section
open PySem PySem.Spec PyProof.Rows L2

/-! ### what is walked -/
/-- .. or, where it is unpacked at once, a tuple of which nothing more is known -/
def RpB (b : Bool) (K : PySem.W.Frag) (H : Hp) (P : Addr → Prop) (v : V) (d : D) : Prop := Rp K H P v d ∨ (b = true ∧ ∃ a xs ds, v = .ref a ∧ d = .tuple ds ∧ SqT K H a xs ∧ RpA K H P xs ds)
theorem RpB.ff {K : PySem.W.Frag} {H : Hp} {P : Addr → Prop} {v : V} {d : D} (h : RpB false K H P v d) : Rp K H P v d := by
  rcases h with h | ⟨h, _⟩
  · exact h
  · cases h
theorem RpB.tup {b : Bool} {K : PySem.W.Frag} {H : Hp} {P : Addr → Prop} {v : V} {ds : List D} (h : RpB b K H P v (.tuple ds)) : ∃ a xs, v = .ref a ∧ SqT K H a xs ∧ RpA K H P xs ds := by
  rcases h with h | ⟨_, a, xs, ds', rfl, e, h, r⟩
  · exact h.tup_inv
  · cases e; exact ⟨a, xs, rfl, h, r⟩
/-- the target unpacks -/
def isTupE : Expr → Bool
  | .Tuple _ _ _ => true
  | _ => false
/-- a walk of these items, while what stood at H0 stands -/
structure ItOk (b : Bool) (K : PySem.W.Frag) (np : Fp) (L : Lv) (ds : List D) (J : It) (H0 : Hp) (C0 : Col) : Prop where
  go : ∀ i H C ρ, Aft np L ρ H0 C0 ρ H C → i < ds.length → J.go i H
  stop : ∀ H C ρ, Aft np L ρ H0 C0 ρ H C → J.stop ds.length H
  yld : ∀ i H C ρ x H' d, Aft np L ρ H0 C0 ρ H C → ds[i]? = some d → J.yld i H x H' → PStp H C H' C ∧ (∀ b, H' b ≠ none → H b = none → ∃ o, H' b = some o) ∧ RpB b K H' (Cof C L) x d
theorem Aft.slots {np : Fp} {L : Lv} {ρ ρ' ρ2 : Slots} {H H1 : Hp} {C C1 : Col} (a : Aft np L ρ H C ρ' H1 C1) : Aft np L ρ2 H C ρ2 H1 C1 := ⟨a.stp, fun h => ⟨rfl, (a.pu h).2⟩⟩
def tI (b : Bool) (K : PySem.W.Frag) (np : Fp) (EW : XW) (f : AS) : TI := fun σ H R => ∃ L C ρ, Rel K np H C σ ρ ∧
  wp (f L ρ) (fun p => ∀ J H' C', Aft np L ρ H C p.2 H' C' → Rel K np H' C' σ p.2 → ItOk b K np L p.1 J H' C' → R J H') (fun c => ∀ H' C', Stp np H C H' C' → EW c H')
abbrev DI (X : Cx) (np : Fp) (EW : XW) (tg e : Expr) (f : AS) : Prop := PI X tg e (tI (isTupE tg) X.K np EW f)
theorem PI.weak {X : Cx} {tg e : Expr} {t t' : TI} (h : PI X tg e t) (w : ∀ σ H Q, t' σ H Q → t σ H Q) : PI X tg e t' := ⟨fun pins s σ H Q I q => h.run pins s σ H Q I (w σ H Q q)⟩
/-- a list or a tuple, walked -/
theorem pi_lt {X : Cx} {tg l : Expr} {tl : TE} (hl : PE X l tl) : PI X tg l (fun σ H R => tl σ H fun x H1 => ∃ a, x = .ref a ∧ (((∃ xs, SqL X.K H1 a xs) ∧ R (Itl X.K a) H1) ∨ ((∃ xs, SqT X.K H1 a xs) ∧ R (Itt X.K a) H1))) := by
  refine ⟨fun pins s σ H R I h => thn (hl.run pins s σ H _ I h) fun v s1 ⟨x, H1, I1, r1, a, e, q⟩ => ?_⟩
  subst e
  cases r1
  have fp : ∀ b ∈ [s1.heap.objs.size], FpOk X pins H1 b := fun b hb => by
    have e : b = s1.heap.objs.size := by simpa using hb
    subst e
    exact I1.fpOk (Nat.le_refl _) (I1.hok.fresh (Nat.le_refl _))
  rcases q with ⟨⟨xs, hq⟩, q⟩ | ⟨⟨xs, hq⟩, q⟩
  · obtain ⟨its, rv, p, hz⟩ := I1.list hq
    exact wpAny_pyIter_list p.isList ⟨_, [s1.heap.objs.size], _, _, H1, rfl, I1.kept (t' := s1.toks) fun b o e => Heap.get?_push_of_some _ e, turn_list a _, ⟨_, Heap.get?_push_size _ rfl, rfl, rfl⟩, fp, q⟩
  · obtain ⟨its, rv, p, hz⟩ := I1.tuple hq
    exact wpAny_pyIter_tuple (show s1.heap.IsTuple a its.toArray from p) ⟨_, [s1.heap.objs.size], _, _, H1, rfl, I1.kept (t' := s1.toks) fun b o e => Heap.get?_push_of_some _ e, turn_tuple a _, ⟨_, Heap.get?_push_size _ rfl, rfl, rfl⟩, fp, q⟩
/-- the items of a list, of a tuple -/
def itD : D → Option (List D)
  | .list xs => some xs
  | .tuple xs => some xs
  | _ => none
def itA (fe : ES) : AS := fun L ρ => (fe L ρ).bind fun p => (ofO (itD p.1)).bind fun ds => .ok (ds, p.2)
theorem okb_lt {L : Lv} {ρ : Slots} {K : PySem.W.Frag} {np : Fp} {H0 H : Hp} {C0 C : Col} {xs : List V} {a : Addr} (A : Aft np L ρ H0 C0 ρ H C) (ha : H0 a = some (.lst xs)) (hc : Cof C0 L a) : H a = some (.lst xs) := (A.moves.1 a xs hc ha).1
theorem it_list {bb : Bool} {K : PySem.W.Frag} {np : Fp} {L : Lv} {H0 : Hp} {C0 : Col} {a : Addr} {xs : List V} {ds : List D} (ha : H0 a = some (.lst xs)) (hc : Cof C0 L a) (r : RpA K H0 (Cof C0 L) xs ds) : ItOk bb K np L ds (Itl K a) H0 C0 where
  go := fun i H C ρ A hi => by
    have h1 := (A.moves.1 a xs hc ha).1
    have hi' : i < xs.length := by rw [r.len]; exact hi
    exact ⟨xs, xs[i], .of h1, by simp [hi']⟩
  stop := fun H C ρ A => ⟨xs, .of (A.moves.1 a xs hc ha).1, by rw [r.len]; exact Nat.le_refl _⟩
  yld := fun i H C ρ x H' d A e ⟨h1, h2⟩ => by
    subst h1
    have h3 := h2 xs (.of (A.moves.1 a xs hc ha).1)
    obtain ⟨v, hv, rv⟩ := r.get e
    rw [h3] at hv; cases hv
    exact ⟨.refl, fun b h h' => absurd h' h, .inl (A.rp rv)⟩
theorem SqT.keep {K : PySem.W.Frag} {H H' : Hp} {a : Addr} {xs : List V} (h : SqT K H a xs) (k : ∀ b o, H b = some o → Imm o → H' b = some o) : SqT K H' a xs := by
  rcases h with (h | ⟨o, h⟩) | h
  · exact .inl (.inl (k _ _ h trivial))
  · exact .inl (.inr ⟨o, k _ _ h trivial⟩)
  · exact .inr h
theorem it_tup {bb : Bool} {K : PySem.W.Frag} {np : Fp} {L : Lv} {H0 : Hp} {C0 : Col} {a : Addr} {xs : List V} {ds : List D} (ha : SqT K H0 a xs) (r : RpA K H0 (Cof C0 L) xs ds) : ItOk bb K np L ds (Itt K a) H0 C0 where
  go := fun i H C ρ A hi => by
    have hi' : i < xs.length := by rw [r.len]; exact hi
    exact ⟨xs, xs[i], SqT.keep ha A.moves.2, by simp [hi']⟩
  stop := fun H C ρ A => ⟨xs, SqT.keep ha A.moves.2, by rw [r.len]; exact Nat.le_refl _⟩
  yld := fun i H C ρ x H' d A e ⟨h1, h2⟩ => by
    subst h1
    have h3 := h2 xs (SqT.keep ha A.moves.2)
    obtain ⟨v, hv, rv⟩ := r.get e
    rw [h3] at hv; cases hv
    exact ⟨.refl, fun b h h' => absurd h' h, .inl (A.rp rv)⟩
section
variable {X : Cx} {np : Fp} {EW : XW} {tg e e2 : Expr} {fe fe2 : ES} {p pos : Pos}
theorem di_seq (h : DE X np EW e fe) : DI X np EW tg e (itA fe) := PI.weak (pi_lt h) fun σ H R ⟨L, C, ρ, Rl, h⟩ => tE_of Rl h fun p v H1 C1 A1 R1 r1 h1 => by
  obtain ⟨d, e, h2⟩ := wp_ofO (wp_bind.mp h1)
  obtain ⟨dp, ρ1⟩ := p
  cases dp <;> simp only [itD, reduceCtorEq] at e
  · cases e
    obtain ⟨a, us, rfl, ha, hc, rr⟩ := r1.lst_inv
    exact ⟨a, rfl, .inl ⟨⟨_, .of ha⟩, h2 _ H1 C1 A1 R1 (it_list ha hc rr)⟩⟩
  · cases e
    obtain ⟨a, us, rfl, ha, rr⟩ := r1.tup_inv
    exact ⟨a, rfl, .inr ⟨⟨_, ha⟩, h2 _ H1 C1 A1 R1 (it_tup ha rr)⟩⟩
def rgD (lo : Int) (n : Nat) : List D := (List.range n).map fun i => .int (lo + (i : Nat))
theorem rgD_get {lo : Int} {n i : Nat} {d : D} (h : (rgD lo n)[i]? = some d) : d = .int (lo + (i : Nat)) ∧ i < n := by
  unfold rgD at h
  rw [List.getElem?_map] at h
  cases e : (List.range n)[i]? with
  | none => rw [e] at h; cases h
  | some j =>
    rw [e] at h
    have := List.getElem?_eq_some_iff.mp e
    obtain ⟨h1, h2⟩ := this
    simp at h1 h2
    subst h2
    cases h
    exact ⟨rfl, h1⟩
theorem it_rng {bb : Bool} {K : PySem.W.Frag} {L : Lv} {H0 : Hp} {C0 : Col} {lo : Int} {n : Nat} : ItOk bb K np L (rgD lo n) (Itr lo n) H0 C0 where
  go := fun i H C ρ A hi => by simpa [rgD, Itr] using hi
  stop := fun H C ρ A => by simp [rgD, Itr]
  yld := fun i H C ρ x H' d A e ⟨h1, h2⟩ => by
    obtain ⟨h3, _⟩ := rgD_get e
    subst h1 h2 h3
    exact ⟨.refl, fun b h h' => absurd h' h, .inl (.int _)⟩
def fit62 (i : Int) : Bool := inB (-(2 ^ 62)) (2 ^ 62) i
def rg1D : List D → Option (List D)
  | [.int j] => if fit62 j then some (rgD 0 j.toNat) else none
  | _ => none
def rg2D : List D → Option (List D)
  | [.int i, .int j] => if fit62 i && fit62 j then some (rgD i (j - i).toNat) else none
  | _ => none
theorem rg1D_some : ∀ {ds r : List D}, rg1D ds = some r → ∃ j : Int, ds = [PyData.int j] ∧ fit62 j = true ∧ r = rgD 0 j.toNat := by
  intro ds r h
  unfold rg1D at h
  split at h
  · rename_i j
    by_cases hz : fit62 j = true
    · rw [if_pos hz] at h; cases h; exact ⟨j, rfl, hz, rfl⟩
    · rw [if_neg hz] at h; cases h
  · cases h
theorem rg2D_some : ∀ {ds r : List D}, rg2D ds = some r → ∃ i j : Int, ds = [PyData.int i, PyData.int j] ∧ (fit62 i && fit62 j) = true ∧ r = rgD i (j - i).toNat := by
  intro ds r h
  unfold rg2D at h
  split at h
  · rename_i i j
    by_cases hz : (fit62 i && fit62 j) = true
    · rw [if_pos hz] at h; cases h; exact ⟨i, j, rfl, hz, rfl⟩
    · rw [if_neg hz] at h; cases h
  · cases h
def agA (g : List D → Option (List D)) (fs : AS) : AS := fun L ρ => (fs L ρ).bind fun p => (ofO (g p.1)).bind fun ds => .ok (ds, p.2)
theorem di_range1 {fs : AS} (hg : Gl X "range") (hm : X.mg "range" = none) (ha : DA X np EW [e] fs) (hs : starEach [e] X.env = [(false, eval e X.env)] := by rfl) : DI X np EW tg (.Call (.Name "range" p) [e] [] pos) (agA rg1D fs) :=
  PI.weak (pi_range1 hg hm ha hs) fun σ H R ⟨L, C, ρ, Rl, h⟩ => tA_of Rl h fun q vs H1 C1 A1 R1 r1 h1 => by
    obtain ⟨d, e, h2⟩ := wp_ofO (wp_bind.mp h1)
    obtain ⟨ds, ρ1⟩ := q
    obtain ⟨j, rfl, hz, rfl⟩ := rg1D_some e
    cases r1 with
    | cons r r' =>
      cases r'
      obtain rfl := r.int_inv
      simp only [fit62, inB_eq, Bool.and_eq_true, decide_eq_true_eq] at hz
      exact ⟨j, rfl, hz.1, hz.2, h2 _ H1 C1 A1 R1 it_rng⟩
theorem di_range2 {fs : AS} (hg : Gl X "range") (hm : X.mg "range" = none) (ha : DA X np EW [e, e2] fs) (hs : starEach [e, e2] X.env = [(false, eval e X.env), (false, eval e2 X.env)] := by rfl) (hs2 : starEach [e2] X.env = [(false, eval e2 X.env)] := by rfl) :
    DI X np EW tg (.Call (.Name "range" p) [e, e2] [] pos) (agA rg2D fs) :=
  PI.weak (pi_range2 hg hm ha hs hs2) fun σ H R ⟨L, C, ρ, Rl, h⟩ => tA_of Rl h fun q vs H1 C1 A1 R1 r1 h1 => by
    obtain ⟨d, e, h2⟩ := wp_ofO (wp_bind.mp h1)
    obtain ⟨ds, ρ1⟩ := q
    obtain ⟨i, j, rfl, hz, rfl⟩ := rg2D_some e
    cases r1 with
    | cons r r' =>
      cases r' with
      | cons r2 r3 =>
        cases r3
        obtain rfl := r.int_inv
        obtain rfl := r2.int_inv
        simp only [fit62, inB_eq, Bool.and_eq_true, decide_eq_true_eq] at hz
        exact ⟨i, j, rfl, ⟨hz.1.1, hz.1.2, hz.2.1, hz.2.2⟩, h2 _ H1 C1 A1 R1 it_rng⟩

/-! ### targets -/
/-- data stored at a name's slot -/
def itS (L : Lv) (d : D) : Option Sl := if noL d then some (.va d) else match L with
  | .va => some (.va d)
  | .vp => some (.va d)
  | .bo => some (.bo d)
  | .bp => some (.bo d)
  | _ => none
theorem itS_ok {K : PySem.W.Frag} {H : Hp} {C : Col} {L : Lv} {d : D} {s : Sl} {v : V} {i : Nat} (r : Rp K H (Cof C L) v d) (h : itS L d = some s) : SlotR K np H C i (some (some v)) s := by
  unfold itS at h
  by_cases hn : noL d = true
  · rw [if_pos hn] at h; cases h; exact .va (r.free hn)
  · rw [if_neg hn] at h
    cases L <;> simp only [reduceCtorEq] at h <;> cases h
    · exact .va (r.imp fun b hb => by have : Lv.va.okb (C b) = true := hb; simpa [Lv.okb] using this)
    · exact .bo (r.imp fun b hb => by have : Lv.bo.okb (C b) = true := hb; simpa [Lv.okb] using this)
    · exact .va (r.imp fun b hb => by have : Lv.vp.okb (C b) = true := hb; simpa [Lv.okb] using this)
    · exact .bo (r.imp fun b hb => by have : Lv.bp.okb (C b) = true := hb; simpa [Lv.okb] using this)
abbrev GS := Lv → D → Slots → Option Slots
abbrev GSs := Lv → List D → Slots → Option Slots
def tG (b : Bool) (K : PySem.W.Frag) (np : Fp) (is : List Nat) (st : GS) : TG := fun v σ H Q => ∃ L C ρ d ρ', Rel K np H C σ ρ ∧ RpB b K H (Cof C L) v d ∧ st L d ρ = some ρ' ∧ ∀ σ', Rel K np H C σ' ρ' → σ'.length = σ.length → (∀ k, k ∉ is → σ'[k]? = σ[k]?) → Q σ' H
def tGs (K : PySem.W.Frag) (np : Fp) (is : List Nat) (st : GSs) : TGs := fun v σ H Q => ∃ L C ρ d ρ', Rel K np H C σ ρ ∧ RpA K H (Cof C L) v d ∧ st L d ρ = some ρ' ∧ ∀ σ', Rel K np H C σ' ρ' → σ'.length = σ.length → (∀ k, k ∉ is → σ'[k]? = σ[k]?) → Q σ' H
abbrev DG (X : Cx) (np : Fp) (tg : Expr) (is : List Nat) (st : GS) : Prop := PG X tg (tG (isTupE tg) X.K np is st)
abbrev DGs (X : Cx) (np : Fp) (tg : List Expr) (is : List Nat) (st : GSs) : Prop := PGs X tg (tGs X.K np is st)
theorem PG.weak {tg : Expr} {t t' : TG} (h : PG X tg t) (w : ∀ v σ H Q, t' v σ H Q → t v σ H Q) : PG X tg t' := ⟨fun pins s σ H v u Q I r q => h.run pins s σ H v u Q I r (w v σ H Q q)⟩
theorem PGs.weak {tg : List Expr} {t t' : TGs} (h : PGs X tg t) (w : ∀ v σ H Q, t' v σ H Q → t v σ H Q) : PGs X tg t' := ⟨fun pins s σ H v u Q I r q => h.run pins s σ H v u Q I r (w v σ H Q q)⟩
def nmG (i : Nat) : GS := fun L d ρ => (itS L d).map fun s => ρ.set i s
theorem dg_name {i : Nat} {x : Str} (hN : X.N.Nodup) (hi : X.N[i]? = some x) (hx : Loc X.env.scope x) (hf : X.fn x = true ∨ X.env.scope.names.lookup x = some .local := by first | exact .inl rfl | exact .inr rfl | assumption) : DG X np (.Name x pos) [i] (nmG i) :=
  PG.weak (pg_name hN hi hx hf) fun v σ H Q ⟨L, C, ρ, d, ρ', R, r, e, q⟩ => by
    unfold nmG at e
    cases e2 : itS L d with
    | none => rw [e2] at e; cases e
    | some s =>
      rw [e2] at e; cases e
      exact q _ (R.set (itS_ok r.ff e2)) (List.length_set ..) fun k hk => List.getElem?_set_ne (fun z => hk (by simp [z]))
def nilG : GSs := fun _ ds ρ => match ds with | [] => some ρ | _ => none
def consG (g : GS) (gs : GSs) : GSs := fun L ds ρ => match ds with
  | d :: r => (g L d ρ).bind fun ρ1 => gs L r ρ1
  | [] => none
theorem dgs_nil : DGs X np [] [] nilG := PGs.weak pgs_nil fun v σ H Q ⟨L, C, ρ, d, ρ', R, r, e, q⟩ => by
  cases d with
  | nil => cases r; cases e; exact ⟨rfl, q σ R rfl fun _ _ => rfl⟩
  | cons _ _ => cases e
theorem dgs_cons {t : Expr} {ts : List Expr} {is js : List Nat} {g : GS} {gs : GSs} (h1 : DG X np t is g) (h2 : DGs X np ts js gs) (hs : (assignEach (t :: ts) X.env).map (·.2) = assign t X.env :: (assignEach ts X.env).map (·.2) := by rfl) : DGs X np (t :: ts) (is ++ js) (consG g gs) :=
  PGs.weak (pgs_cons h1 h2 hs) fun v σ H Q ⟨L, C, ρ, d, ρ', R, r, e, q⟩ => by
    cases d with
    | nil => cases e
    | cons d0 dr =>
      cases r with
      | cons r0 rr =>
        have e' : (g L d0 ρ).bind (fun ρ1 => gs L dr ρ1) = some ρ' := e
        cases e1 : g L d0 ρ with
        | none => rw [e1] at e'; cases e'
        | some ρ1 =>
          rw [e1] at e'
          refine ⟨_, _, rfl, L, C, ρ, d0, ρ1, R, .inl r0, e1, fun σ1 R1 l1 k1 => ⟨L, C, ρ1, dr, ρ', R1, rr, e', fun σ2 R2 l2 k2 => q σ2 R2 (l2.trans l1) fun k hk => ?_⟩⟩
          rw [List.mem_append, not_or] at hk
          rw [k2 k hk.2, k1 k hk.1]
def tuG (n : Nat) (gs : GSs) : GS := fun L d ρ => match d with
  | .tuple ds => if ds.length = n then gs L ds ρ else none
  | _ => none
theorem dg_tup {es : List Expr} {is : List Nat} {gs : GSs} {kk n : Nat} (hc : X.calm = true) (h : DGs X np es is gs) (hn : (assignEach es X.env).length = n := by rfl) (hst : (assignEach es X.env).findIdx? (·.1) = none := by rfl) : DG X np (.Tuple es kk pos) is (tuG n gs) :=
  PG.weak (pg_tup hc h hn hst) fun v σ H Q ⟨L, C, ρ, d, ρ', R, r, e, q⟩ => by
    cases d <;> simp only [tuG, reduceCtorEq] at e
    rename_i ds
    obtain ⟨a, us, rfl, ha, rr⟩ := r.tup
    by_cases hl : ds.length = n
    · rw [if_pos hl] at e
      exact ⟨a, us, rfl, ha, by rw [rr.len, hl], L, C, ρ, ds, ρ', R, rr, e, q⟩
    · rw [if_neg hl] at e; cases e
/-- t = e, t a tuple of names -/
def tgS (L : Lv) (g : GS) (fe : ES) : SS := fun ρ => (fe L ρ).to fun p => match g L p.1 p.2 with
  | some ρ' => .nx ρ'
  | none => .bad
theorem ds_tg (L : Lv) {t : Expr} {is : List Nat} {g : GS} (h : DE X np EW e fe) (hg : DG X np t is g) (hs : swapsWithSole [t] e pos.line X.env = pure false := by rfl) (hw : swappedStores [t] e X.env = pure none := by rfl) (h1 : (assignEach [t] X.env).map (·.2) = [assign t X.env] := by rfl) : DS X np EW (.Assign [t] e pos) (tgS L g fe) :=
  PS.weak (ps_asg h hg hs hw (h1 := h1)) fun Dn σ H ⟨C, ρ, R, h⟩ => toE_of R h fun p v H' C' A R' r q => by
    cases e : g L p.1 p.2 with
    | none => rw [e] at q; exact q.elim
    | some ρ' =>
      rw [e] at q
      exact ⟨L, C', p.2, p.1, ρ', R', .inl r, e, fun σ' R2 _ _ => q σ' H' C' .refl R2⟩

/-! ### for -/
def forF (L : Lv) (g : GS) (body : SS) : List D → Slots → Fl
  | [], ρ => .nx ρ
  | d :: ds, ρ => match g L d ρ with
    | none => .bad
    | some ρ1 => match body ρ1 with
      | .nx ρ2 => forF L g body ds ρ2
      | .ct ρ2 => forF L g body ds ρ2
      | .bk ρ2 => .nx ρ2
      | r => r
def forS (L : Lv) (src : AS) (g : GS) (body : SS) : SS := fun ρ => if L.pure then .bad else (src L ρ).to fun p => forF L g body p.1 p.2
theorem pst_for {K : PySem.W.Frag} {Dn : Ends} {H : Hp} {C : Col} {r : Fl} (h : pst K np EW Dn H C r) (N : L2.St → Hp → Prop) (k : Slots → Fl)
    (hk : ∀ ρ2, (r = .nx ρ2 ∨ r = .ct ρ2) → ∀ σ' H' C', Stp np H C H' C' → Rel K np H' C' σ' ρ2 → N σ' H') : pst K np EW { Dn with nx := N, ct := N, bk := Dn.nx } H C r ∨ ∃ ρ2, r = .bk ρ2 := by
  cases r with
  | bad => exact .inl h
  | nx ρ2 => exact .inl fun σ' H' C' S R => hk ρ2 (.inl rfl) σ' H' C' S R
  | ct ρ2 => exact .inl fun σ' H' C' S R => hk ρ2 (.inr rfl) σ' H' C' S R
  | bk ρ2 => exact .inr ⟨ρ2, rfl⟩
  | rt d ρ2 => exact .inl h
  | ex c => exact .inl h
theorem ds_for (L : Lv) {t : Expr} {is : List Nat} {g : GS} {src : AS} {body : List Stmt} {fb : SS} (hp : PassesOwn (model X.prog X.w) X.A X.env X.xe) (hc : X.calm = true) (hi : DI X np EW t e src) (hg : DG X np t is g) (hb : DSs X np EW body fb)
    (hs : ∀ x, foldedSetIterable e X.env x = pure x := by intro _; rfl) : DS X np EW (.For t e body [] pos) (forS L src g fb) :=
  PS.weak (ps_for hp hc hi hg hb hs) fun Dn σ H ⟨C, ρ, R, h⟩ => by
    unfold forS at h
    cases hL : L.pure with
    | true => rw [hL, if_pos rfl] at h; exact h.elim
    | false =>
      rw [hL, if_neg Bool.false_ne_true] at h
      refine ⟨L, C, ρ, R, ?_⟩
      cases e1 : src L ρ with
      | bad => rw [e1] at h; exact h.elim
      | ex c => rw [e1] at h; exact h
      | ok p =>
        rw [e1] at h
        intro J H1 C1 A1 R1 ok
        have h1 : pst X.K np EW Dn H1 C1 (forF L g fb p.1 p.2) := pst_stp h A1.stp
        have aft : ∀ {H C ρ}, Stp np H1 C1 H C → Aft np L ρ H1 C1 ρ H C := fun S => ⟨S, fun z => by rw [hL] at z; cases z⟩
        refine ⟨fun i m σ2 H2 => ∃ C2 ρ2, m = p.1.length - i ∧ i ≤ p.1.length ∧ Stp np H1 C1 H2 C2 ∧ Rel X.K np H2 C2 σ2 ρ2 ∧ pst X.K np EW Dn H2 C2 (forF L g fb (p.1.drop i) ρ2), ⟨_, C1, p.2, rfl, Nat.zero_le _, .refl, R1, by rw [List.drop_zero]; exact h1⟩, ?_⟩
        rintro i m σ2 H2 ⟨C2, ρ2, rfl, hi', S2, R2, q2⟩
        by_cases hlt : i < p.1.length
        · obtain ⟨d, hd⟩ : ∃ d, p.1[i]? = some d := ⟨p.1[i], by simp [hlt]⟩
          have hdrop : p.1.drop i = d :: p.1.drop (i + 1) := by
            rw [List.drop_eq_getElem_cons hlt]
            congr 1
            rw [List.getElem?_eq_getElem hlt] at hd
            exact Option.some.inj hd
          rw [hdrop] at q2
          refine .inr ⟨ok.go i H2 C2 ρ2 (aft S2) hlt, fun σ3 H3 => ∃ C3 ρ3, Stp np H1 C1 H3 C3 ∧ Rel X.K np H3 C3 σ3 ρ3 ∧ pst X.K np EW Dn H3 C3 (forF L g fb (p.1.drop (i + 1)) ρ3), fun σ3 H3 ⟨C3, ρ3, a, b, c⟩ => ⟨p.1.length - (i + 1), by omega, C3, ρ3, rfl, hlt, a, b, c⟩, fun x H3 hy => ?_⟩
          obtain ⟨S3, _, rx⟩ := ok.yld i H2 C2 ρ2 x H3 d (aft S2) hd hy
          have q3 := pst_stp q2 S3.stp
          rw [forF] at q3
          cases eg : g L d ρ2 with
          | none => simp only [eg] at q3; exact q3.elim
          | some ρ3 =>
            simp only [eg] at q3
            refine ⟨L, C2, ρ2, d, ρ3, R2.pstp S3, rx, eg, fun σ4 R4 _ _ => ?_⟩
            refine ⟨C2, ρ3, R4, ?_⟩
            cases eb : fb ρ3 with
            | bad => simp only [eb] at q3; exact q3.elim
            | nx ρ4 => simp only [eb] at q3; exact fun σ' H' C' S R' => ⟨C', ρ4, (S2.trans S3.stp).trans S, R', pst_stp q3 S⟩
            | ct ρ4 => simp only [eb] at q3; exact fun σ' H' C' S R' => ⟨C', ρ4, (S2.trans S3.stp).trans S, R', pst_stp q3 S⟩
            | bk ρ4 => simp only [eb] at q3; exact fun σ' H' C' S R' => q3 σ' H' C' S R'
            | rt d ρ4 => simp only [eb] at q3; exact q3
            | ex c => simp only [eb] at q3; exact q3
        · have e : i = p.1.length := by omega
          subst e
          rw [List.drop_length, forF] at q2
          exact .inl ⟨ok.stop H2 C2 ρ2 (aft S2), q2 σ2 H2 C2 .refl R2⟩
/-! ### while, with fuel -/
def whF (L : Lv) (c : BS) (body : SS) : Nat → Slots → Fl
  | 0, _ => .bad
  | n + 1, ρ => (c L ρ).to fun p => if p.1 then (match body p.2 with
      | .nx ρ2 => whF L c body n ρ2
      | .ct ρ2 => whF L c body n ρ2
      | .bk ρ2 => .nx ρ2
      | r => r) else .nx p.2
theorem ds_while (L : Lv) (n : Nat) {c : Expr} {fc : BS} {body : List Stmt} {fb : SS} (hp : PassesOwn (model X.prog X.w) X.A X.env X.xe) (hc : DT X np EW c fc) (hb : DSs X np EW body fb) : DS X np EW (.While c body [] pos) (whF L fc fb n) :=
  PS.weak (ps_while hp hc hb) fun Dn σ H ⟨C, ρ, R, h⟩ => by
    refine ⟨fun m σ2 H2 => ∃ C2 ρ2, Rel X.K np H2 C2 σ2 ρ2 ∧ pst X.K np EW Dn H2 C2 (whF L fc fb m ρ2), ⟨n, C, ρ, R, h⟩, ?_⟩
    rintro m σ2 H2 ⟨C2, ρ2, R2, q2⟩
    cases m with
    | zero => exact q2.elim
    | succ m =>
      rw [whF] at q2
      refine toT_of R2 q2 fun p H' C' A R' q => ?_
      cases e : p.1 with
      | false => rw [e] at q; exact iteF (q σ2 H' C' .refl R')
      | true =>
        rw [e] at q
        refine iteT ⟨fun σ3 H3 => ∃ C3 ρ3, Rel X.K np H3 C3 σ3 ρ3 ∧ pst X.K np EW Dn H3 C3 (whF L fc fb m ρ3), fun σ3 H3 ⟨C3, ρ3, a, b⟩ => ⟨m, Nat.lt_succ_self _, C3, ρ3, a, b⟩, C', p.2, R', ?_⟩
        cases eb : fb p.2 with
        | bad => simp only [eb] at q; exact q.elim
        | nx ρ4 => simp only [eb] at q; exact fun σ' H' C' S R' => ⟨C', ρ4, R', pst_stp q S⟩
        | ct ρ4 => simp only [eb] at q; exact fun σ' H' C' S R' => ⟨C', ρ4, R', pst_stp q S⟩
        | bk ρ4 => simp only [eb] at q; exact fun σ' H' C' S R' => q σ' H' C' S R'
        | rt d ρ4 => simp only [eb] at q; exact q
        | ex c => simp only [eb] at q; exact q
end
end
end Dm

namespace Dm
noncomputable section
open PySem PySem.Spec PyProof.Rows L2

/-! ### comprehensions -/
def wiS (ρ : Slots) : List Nat → Slots
  | [] => ρ
  | v :: vs => (wiS ρ vs).set v .no
def reS (ρ0 ρ : Slots) : List Nat → Slots
  | [] => ρ
  | v :: vs => (reS ρ0 ρ vs).set v (ρ0.getD v .no)
def okO (ρ : Slots) (own : List Nat) : Bool := own.all fun i => match ρ[i]? with
  | some (.ow _) => false
  | some (.un _) => false
  | some (.sc _) => false
  | some (.ob _ _) => false
  | some (.dc _) => false
  | _ => true
theorem wiS_len (ρ : Slots) : ∀ vs, (wiS ρ vs).length = ρ.length
  | [] => rfl
  | v :: vs => by rw [wiS, List.length_set, wiS_len ρ vs]
theorem wiS_get {ρ : Slots} {i : Nat} {s : Sl} : ∀ {vs : List Nat}, (wiS ρ vs)[i]? = some s → (i ∈ vs ∧ s = .no) ∨ (i ∉ vs ∧ ρ[i]? = some s)
  | [], h => .inr ⟨by simp, h⟩
  | v :: vs, h => by
    rw [wiS] at h
    by_cases e : i = v
    · subst e
      by_cases hl : i < (wiS ρ vs).length
      · rw [List.getElem?_set_self hl] at h; cases h; exact .inl ⟨by simp, rfl⟩
      · rw [List.getElem?_eq_none (by simpa using hl)] at h; cases h
    · rw [List.getElem?_set_ne (Ne.symm e)] at h
      rcases wiS_get h with ⟨a, b⟩ | ⟨a, b⟩
      · exact .inl ⟨by simp [a], b⟩
      · exact .inr ⟨by simp [a, e], b⟩
theorem reS_len (ρ0 ρ : Slots) : ∀ vs, (reS ρ0 ρ vs).length = ρ.length
  | [] => rfl
  | v :: vs => by rw [reS, List.length_set, reS_len ρ0 ρ vs]
theorem reS_get {ρ0 ρ : Slots} {i : Nat} {s : Sl} : ∀ {vs : List Nat}, (reS ρ0 ρ vs)[i]? = some s → (i ∈ vs ∧ s = ρ0.getD i .no) ∨ (i ∉ vs ∧ ρ[i]? = some s)
  | [], h => .inr ⟨by simp, h⟩
  | v :: vs, h => by
    rw [reS] at h
    by_cases e : i = v
    · subst e
      by_cases hl : i < (reS ρ0 ρ vs).length
      · rw [List.getElem?_set_self hl] at h; cases h; exact .inl ⟨by simp, rfl⟩
      · rw [List.getElem?_eq_none (by simpa using hl)] at h; cases h
    · rw [List.getElem?_set_ne (Ne.symm e)] at h
      rcases reS_get h with ⟨a, b⟩ | ⟨a, b⟩
      · exact .inl ⟨by simp [a], b⟩
      · exact .inr ⟨by simp [a, e], b⟩
theorem reS_wiS (ρ : Slots) (vs : List Nat) : reS ρ (wiS ρ vs) vs = ρ := by
  apply List.ext_getElem?
  intro i
  by_cases hl : i < ρ.length
  · have h1 : i < (reS ρ (wiS ρ vs) vs).length := by rw [reS_len, wiS_len]; exact hl
    obtain ⟨s, hs⟩ : ∃ s, (reS ρ (wiS ρ vs) vs)[i]? = some s := ⟨_, List.getElem?_eq_getElem h1⟩
    rw [hs]
    rcases reS_get hs with ⟨a, b⟩ | ⟨a, b⟩
    · rw [b, List.getD_eq_getElem?_getD, List.getElem?_eq_getElem hl]; rfl
    · rcases wiS_get b with ⟨c, _⟩ | ⟨_, c⟩
      · exact absurd c a
      · exact c.symm
  · rw [List.getElem?_eq_none (by rw [reS_len, wiS_len]; omega), List.getElem?_eq_none (by omega)]
theorem wiS_eq {ρ ρ' : Slots} {vs : List Nat} (hl : ρ'.length = ρ.length) (h : ∀ k, k ∉ vs → ρ'[k]? = ρ[k]?) : wiS ρ' vs = wiS ρ vs := by
  apply List.ext_getElem?
  intro i
  by_cases hi : i < ρ.length
  · obtain ⟨s, hs⟩ : ∃ s, (wiS ρ' vs)[i]? = some s := ⟨_, List.getElem?_eq_getElem (by rw [wiS_len, hl]; exact hi)⟩
    obtain ⟨t, ht⟩ : ∃ s, (wiS ρ vs)[i]? = some s := ⟨_, List.getElem?_eq_getElem (by rw [wiS_len]; exact hi)⟩
    rw [hs, ht]
    rcases wiS_get hs with ⟨a, b⟩ | ⟨a, b⟩
    · rcases wiS_get ht with ⟨_, d⟩ | ⟨c, _⟩
      · rw [b, d]
      · exact absurd a c
    · rcases wiS_get ht with ⟨c, _⟩ | ⟨_, d⟩
      · exact absurd c a
      · rw [← b, ← d]; exact h i a
  · rw [List.getElem?_eq_none (by rw [wiS_len, hl]; omega), List.getElem?_eq_none (by rw [wiS_len]; omega)]
theorem wipe_get {σ : L2.St} {i : Nat} {s : Option V} : ∀ {vs : List Nat}, (wipe σ vs)[i]? = some s → (i ∈ vs ∧ s = none) ∨ (i ∉ vs ∧ σ[i]? = some s)
  | [], h => .inr ⟨by simp, h⟩
  | v :: vs, h => by
    unfold wipe at h
    by_cases e : i = v
    · subst e
      by_cases hl : i < (wipe σ vs).length
      · rw [List.getElem?_set_self hl] at h; cases h; exact .inl ⟨by simp, rfl⟩
      · rw [List.getElem?_eq_none (by simpa using hl)] at h; cases h
    · rw [List.getElem?_set_ne (Ne.symm e)] at h
      rcases wipe_get h with ⟨a, b⟩ | ⟨a, b⟩
      · exact .inl ⟨by simp [a], b⟩
      · exact .inr ⟨by simp [a, e], b⟩
theorem wipe_off {σ : L2.St} {i : Nat} {vs : List Nat} (h : i ∉ vs) : (wipe σ vs)[i]? = σ[i]? := by
  by_cases hl : i < σ.length
  · obtain ⟨s, hs⟩ : ∃ s, (wipe σ vs)[i]? = some s := ⟨_, List.getElem?_eq_getElem (by rw [wipe_length]; exact hl)⟩
    rw [hs]
    rcases wipe_get hs with ⟨a, _⟩ | ⟨_, b⟩
    · exact absurd a h
    · exact b.symm
  · rw [List.getElem?_eq_none (by rw [wipe_length]; omega), List.getElem?_eq_none (by omega)]
theorem wipe_eq {σ σ' : L2.St} {vs : List Nat} (hl : σ'.length = σ.length) (h : ∀ k, k ∉ vs → σ'[k]? = σ[k]?) : wipe σ' vs = wipe σ vs := by
  apply List.ext_getElem?
  intro i
  by_cases hv : i ∈ vs
  · by_cases hi : i < σ.length
    · obtain ⟨s, hs⟩ : ∃ s, (wipe σ' vs)[i]? = some s := ⟨_, List.getElem?_eq_getElem (by rw [wipe_length, hl]; exact hi)⟩
      obtain ⟨t, ht⟩ : ∃ s, (wipe σ vs)[i]? = some s := ⟨_, List.getElem?_eq_getElem (by rw [wipe_length]; exact hi)⟩
      rw [hs, ht]
      rcases wipe_get hs with ⟨_, b⟩ | ⟨a, _⟩
      · rcases wipe_get ht with ⟨_, d⟩ | ⟨c, _⟩
        · rw [b, d]
        · exact absurd hv c
      · exact absurd hv a
    · rw [List.getElem?_eq_none (by rw [wipe_length, hl]; omega), List.getElem?_eq_none (by rw [wipe_length]; omega)]
  · rw [wipe_off hv, wipe_off hv, h i hv]
theorem rel_wipe {K : PySem.W.Frag} {np : Fp} {H : Hp} {C : Col} {σ : L2.St} {ρ : Slots} (R : Rel K np H C σ ρ) (vs : List Nat) : Rel K np H C (wipe σ vs) (wiS ρ vs) :=
  ⟨by rw [wipe_length, wiS_len, R.len], fun i s e => by
    rcases wiS_get e with ⟨_, b⟩ | ⟨a, b⟩
    · rw [b]; exact .no
    · rw [wipe_off a]; exact R.get i s b⟩
/-- lists of another colour than c are where they were -/
theorem SlotR.offc {K : PySem.W.Frag} {np : Fp} {H H' : Hp} {C : Col} {i c : Nat} {o : Option (Option V)} {s : Sl} (h2 : 2 ≤ c) (hc : c ≠ i + 3) (hl : ∀ b xs, C b ≠ c → H b = some xs → H' b = some xs)
    (hi : ∀ b o, H b = some o → Imm o → H' b = some o) (r : SlotR K np H C i o s) : SlotR K np H' C i o s := by
  have mv : ∀ {Pc : Nat → Prop} {v : V} {d : D}, (∀ k, Pc k → k ≠ c) → Rp K H (fun b => Pc (C b)) v d → Rp K H' (fun b => Pc (C b)) v d := fun {Pc v d} hp r => r.move (fun b xs p h => ⟨hl b _ (hp _ p) h, p⟩) hi
  have mvA : ∀ {Pc : Nat → Prop} {v : List V} {d : List D}, (∀ k, Pc k → k ≠ c) → RpA K H (fun b => Pc (C b)) v d → RpA K H' (fun b => Pc (C b)) v d := fun {Pc v d} hp r => r.move (fun b xs p h => ⟨hl b _ (hp _ p) h, p⟩) hi
  cases r with
  | no => exact .no
  | va r => exact .va (mv (Pc := fun k => k = 0) (fun k h => by omega) r)
  | bo r => exact .bo (mv (Pc := fun k => k ≤ 1) (fun k h => by omega) r)
  | @ow a _ _ h c' r pn => exact .ow (hl _ _ (by rw [c']; exact fun z => hc z.symm) h) c' (mvA (Pc := fun k => k = 0) (fun k h => by omega) r) pn
  | un r => exact .un (mv (Pc := fun k => k = i + 3) (fun k h => by omega) r)
  | sc h => exact .sc (h.elim (fun ⟨o, h⟩ => .inl ⟨o, hi _ _ h trivial⟩) .inr)
  | @ob a _ _ _ _ _ h c' n r pn => exact .ob (hl _ _ (by rw [c']; exact fun z => hc z.symm) h) c' n (r.move (fun b xs e h => ⟨hl b _ (by omega) h, e⟩) hi) pn
  | @dc a _ _ h c' r pn => exact .dc (hl _ _ (by rw [c']; exact fun z => hc z.symm) h) c' (r.move hi) pn

def compF (ks L : Lv) (own : List Nat) (g : GS) (c : BS) (el : ES) : List D → Slots → Re (List D × Slots)
  | [], ρ => .ok ([], ρ)
  | d :: ds, ρ => match g ks d ρ with
    | none => .bad
    | some ρ1 => (c L ρ1).bind fun p => if p.1 then (el L p.2).bind fun q => if !L.okb 2 || noL q.1 then (compF ks L own g c el ds (wiS q.2 own)).bind fun r => .ok (q.1 :: r.1, r.2) else .bad
      else compF ks L own g c el ds (wiS p.2 own)
def noEx {α : Type} : Re α → Re α
  | .ex _ => .bad
  | r => r
@[simp] theorem noEx_ok {α : Type} (a : α) : noEx (.ok a) = .ok a := Eq.trans rfl rfl
theorem wp_noEx {α : Type} {r : Re α} {Q : α → Prop} {E : Exn → Prop} (h : wp (noEx r) Q E) : wp r Q (fun _ => False) := by
  cases r with
  | bad => exact h
  | ok a => exact h
  | ex c => exact h.elim
def lcA (ks : Lv) (own : List Nat) (src : AS) (g : GS) (c : BS) (el : ES) : AS := fun L ρ => if ks.pure == L.pure then (src ks ρ).bind fun p => if okO p.2 own then
    (noEx (compF ks L own g c el p.1 (wiS p.2 own))).bind fun r => if r.1.length ≤ sizeLine then .ok (r.1, reS p.2 r.2 own) else .bad else .bad else .bad
def noX : XW := fun _ _ => False
/-- the heap without the list at t -/
def hidH (H : Hp) (t : Addr) : Hp := fun b => if b = t then none else H b
theorem hidH_same {H : Hp} {t : Addr} : hidH H t t = none := if_pos rfl
theorem hidH_ne {H : Hp} {t b : Addr} (h : b ≠ t) : hidH H t b = H b := if_neg h
theorem hidH_upd {H : Hp} {t : Addr} {o : HO} (h : H t = some o) : upd (hidH H t) t o = H := by
  funext b
  by_cases e : b = t
  · subst e; rw [upd_same, h]
  · rw [upd_ne e, hidH_ne e]
/-- a target changes these slots alone -/
def GOff (is : List Nat) (g : GS) : Prop := ∀ L d ρ ρ', g L d ρ = some ρ' → ρ'.length = ρ.length ∧ ∀ k, k ∉ is → ρ'[k]? = ρ[k]?
def GsOff (is : List Nat) (g : GSs) : Prop := ∀ L d ρ ρ', g L d ρ = some ρ' → ρ'.length = ρ.length ∧ ∀ k, k ∉ is → ρ'[k]? = ρ[k]?
theorem off_nm (i : Nat) : GOff [i] (nmG i) := fun L d ρ ρ' h => by
  unfold nmG at h
  cases e : itS L d with
  | none => rw [e] at h; cases h
  | some s => rw [e] at h; cases h; exact ⟨List.length_set .., fun k hk => List.getElem?_set_ne fun z => hk (by simp [z])⟩
theorem off_nil : GsOff [] nilG := fun L d ρ ρ' h => by
  cases d with
  | nil => cases h; exact ⟨rfl, fun _ _ => rfl⟩
  | cons _ _ => cases h
theorem off_cons {is js : List Nat} {g : GS} {gs : GSs} (h1 : GOff is g) (h2 : GsOff js gs) : GsOff (is ++ js) (consG g gs) := fun L d ρ ρ' h => by
  cases d with
  | nil => cases h
  | cons d r =>
    have h' : (g L d ρ).bind (fun ρ1 => gs L r ρ1) = some ρ' := h
    cases e : g L d ρ with
    | none => rw [e] at h'; cases h'
    | some ρ1 =>
      rw [e] at h'
      obtain ⟨a, b⟩ := h1 _ _ _ _ e
      obtain ⟨a2, b2⟩ := h2 _ _ _ _ h'
      refine ⟨a2.trans a, fun k hk => ?_⟩
      rw [List.mem_append, not_or] at hk
      rw [b2 k hk.2, b k hk.1]
theorem off_tup {n : Nat} {is : List Nat} {gs : GSs} (h : GsOff is gs) : GOff is (tuG n gs) := fun L d ρ ρ' e => by
  cases d <;> simp only [tuG, reduceCtorEq] at e
  rename_i ds
  by_cases hl : ds.length = n
  · rw [if_pos hl] at e; exact h _ _ _ _ e
  · rw [if_neg hl] at e; cases e
theorem lc_main {bb : Bool} {K : PySem.W.Frag} {np : Fp} {EW : XW} {ks : Lv} {own is : List Nat} {src : AS} {g : GS} {c : BS} {el : ES} (hsub : ∀ i ∈ is, i ∈ own) (hoff : GOff is g) {σ : L2.St} {H : Hp} {Q : VK} (h : tN K np EW (lcA ks own src g c el) σ H Q) :
    tLc (tI bb K np EW src) (tG bb K np is g) (tT K np noX c) (tE K np noX el) own σ H Q := by
  obtain ⟨L, C, ρ, R, h⟩ := h
  unfold lcA at h
  by_cases hks : (ks.pure == L.pure) = true
  · rw [if_pos hks] at h
    have hpe : ks.pure = L.pure := by simpa using hks
    refine ⟨ks, C, ρ, R, wp_mono (wp_bind.mp h) (fun p _ hp J H1 C1 A1 R1 ok => ?_) fun _ z => z⟩
    by_cases ho : okO p.2 own = true
    · rw [if_pos ho] at hp
      have A1' : Aft np L ρ H C p.2 H1 C1 := ⟨A1.stp, fun z => A1.pu (by rw [hpe]; exact z)⟩
      intro T hT
      -- from H1 on
      have aft : ∀ {H2 C2 ρ2}, Stp np H1 C1 H2 C2 → (L.pure = true → PStp H1 C1 H2 C2) → Aft np ks ρ2 H1 C1 ρ2 H2 C2 := fun S P => ⟨S, fun z => ⟨rfl, P (by rw [← hpe]; exact z)⟩⟩
      refine ⟨fun i m H2 => ∃ C2 ρ2 acc dacc, m = p.1.length - i ∧ i ≤ p.1.length ∧ H2 T = some (.lst acc) ∧ C2 T = 2 ∧ Stp np H1 C1 H2 C2 ∧ (L.pure = true → PStp H1 C1 H2 C2 ∧ ρ2 = wiS p.2 own) ∧ Rel K np H2 C2 (wipe σ own) ρ2 ∧
          RpA K H2 (fun b => Cof C2 L b ∧ b ≠ T) acc dacc ∧ wp (compF ks L own g c el (p.1.drop i) ρ2) (fun r => (dacc ++ r.1).length ≤ sizeLine ∧ ∀ t vs H' C', Aft np L ρ H C (reS p.2 r.2 own) H' C' → Rel K np H' C' σ (reS p.2 r.2 own) → H' t = none → RpA K H' (Cof C' L) vs (dacc ++ r.1) → Q (.ref t) (upd H' t (.lst vs))) (fun _ => False), ?_, ?_⟩
      · have S0 := pstp_new (C := C1) (o := .lst []) (n := 2) hT
        refine ⟨_, setC C1 T 2, wiS p.2 own, [], [], rfl, Nat.zero_le _, upd_same, setC_same, S0.stp, fun _ => ⟨S0, rfl⟩, rel_wipe (R1.pstp S0) own, .nil, ?_⟩
        rw [List.drop_zero]
        refine wp_mono (wp_noEx (wp_bind.mp hp)) (fun r _ hr => ?_) fun _ z => z
        by_cases hz : r.1.length ≤ sizeLine
        · rw [if_pos hz] at hr
          exact ⟨hz, hr⟩
        · rw [if_neg hz] at hr; exact hr.elim
      · rintro i m H2 ⟨C2, ρ2, acc, dacc, rfl, hi, hD, hC, S2, P2, R2, ra, hw⟩
        have imm_ne : ∀ {H3 : Hp} {us : List V}, H3 T = some (.lst us) → ∀ {b : Addr} {o : HO}, H3 b = some o → Imm o → b ≠ T := fun {H3 us} ht {b o} h im z => by subst z; rw [ht] at h; cases h; exact im
        by_cases hlt : i < p.1.length
        · refine .inr ⟨ok.go i H2 C2 ρ2 (aft S2 fun z => (P2 z).1) hlt, fun H5 => ∃ C5 ρ5 acc5 dacc5, H5 T = some (.lst acc5) ∧ C5 T = 2 ∧ Stp np H1 C1 H5 C5 ∧ (L.pure = true → PStp H1 C1 H5 C5 ∧ ρ5 = wiS p.2 own) ∧ Rel K np H5 C5 (wipe σ own) ρ5 ∧
            RpA K H5 (fun b => Cof C5 L b ∧ b ≠ T) acc5 dacc5 ∧ wp (compF ks L own g c el (p.1.drop (i + 1)) ρ5) (fun r => (dacc5 ++ r.1).length ≤ sizeLine ∧ ∀ t vs H' C', Aft np L ρ H C (reS p.2 r.2 own) H' C' → Rel K np H' C' σ (reS p.2 r.2 own) → H' t = none → RpA K H' (Cof C' L) vs (dacc5 ++ r.1) → Q (.ref t) (upd H' t (.lst vs))) (fun _ => False),
            fun H5 ⟨C5, ρ5, acc5, dacc5, a1, a2, a3, a4, a5, a6, a7⟩ => ⟨p.1.length - (i + 1), by omega, C5, ρ5, acc5, dacc5, rfl, hlt, a1, a2, a3, a4, a5, a6, a7⟩, fun x H3 hy => ?_⟩
          obtain ⟨d, hd⟩ : ∃ d, p.1[i]? = some d := ⟨p.1[i], by simp [hlt]⟩
          have hdrop : p.1.drop i = d :: p.1.drop (i + 1) := by
            rw [List.drop_eq_getElem_cons hlt]
            congr 1
            rw [List.getElem?_eq_getElem hlt] at hd
            exact Option.some.inj hd
          rw [hdrop, compF] at hw
          obtain ⟨S3, _, rx⟩ := ok.yld i H2 C2 ρ2 x H3 d (aft S2 fun z => (P2 z).1) hd hy
          have hD3 := S3.same T _ hD
          have ra3 := ra.move (H' := H3) (P' := fun b => Cof C2 L b ∧ b ≠ T) (fun b xs pb h => ⟨S3.same b _ h, pb⟩) fun b o h _ => S3.same b o h
          have S13 : Stp np H1 C1 H3 C2 := S2.trans S3.stp
          have P13 : L.pure = true → PStp H1 C1 H3 C2 ∧ ρ2 = wiS p.2 own := fun z => ⟨(P2 z).1.trans S3, (P2 z).2⟩
          cases eg : g ks d ρ2 with
          | none => simp only [eg] at hw; exact hw.elim
          | some ρ3 =>
            simp only [eg] at hw
            refine ⟨ks, C2, ρ2, d, ρ3, R2.pstp S3, rx, eg, fun σ4 R4 l4 k4 => ?_⟩
            have hlr : ρ3.length = ρ2.length := by rw [← R4.len, l4, ← R2.len]
            have hwe : wipe σ4 own = wipe σ own := by
              have h1 := wipe_eq (σ := wipe σ own) (σ' := σ4) (vs := own) l4 fun k hk => k4 k fun z => hk (hsub k z)
              rw [h1]
              exact wipe_eq (wipe_length σ own) fun k hk => wipe_off hk
            have pur3 : L.pure = true → wiS ρ3 own = wiS p.2 own := fun z => by
              obtain ⟨o1, o2⟩ := hoff _ _ _ _ eg
              have h1 := wiS_eq (ρ := ρ2) (ρ' := ρ3) (vs := own) o1 fun k hk => o2 k fun z => hk (hsub k z)
              rw [h1, (P2 z).2]
              refine wiS_eq (wiS_len _ _) fun k hk => ?_
              by_cases hl : k < p.2.length
              · obtain ⟨s, hs⟩ : ∃ s, (wiS p.2 own)[k]? = some s := ⟨_, List.getElem?_eq_getElem (by rw [wiS_len]; exact hl)⟩
                rw [hs]
                rcases wiS_get hs with ⟨a, _⟩ | ⟨_, b⟩
                · exact absurd a hk
                · exact b.symm
              · rw [List.getElem?_eq_none (by rw [wiS_len]; omega), List.getElem?_eq_none (by omega)]
            refine ⟨hwe, L, C2, ρ3, R4, wp_mono (wp_bind.mp hw) (fun q _ hq H4 C4 A4 R4' => ?_) fun _ z => z.elim⟩
            have hD4 : H4 T = some (.lst acc) := A4.stp.keep T _ hD3 (.inl (by rw [hC]; exact Nat.le_refl _))
            have hC4 : C4 T = 2 := by rw [A4.stp.colo T (by rw [hD3]; simp) (by rw [hC]; omega)]; exact hC
            have mv : ∀ {ρa ρb : Slots} {Ha Hb : Hp} {Ca Cb : Col} {us : List V} {es : List D}, Aft np L ρa Ha Ca ρb Hb Cb → RpA K Ha (fun b => Cof Ca L b ∧ b ≠ T) us es → RpA K Hb (fun b => Cof Cb L b ∧ b ≠ T) us es := fun A r =>
              r.move (fun b xs pb h => ⟨(A.moves.1 b xs pb.1 h).1, (A.moves.1 b xs pb.1 h).2, pb.2⟩) A.moves.2
            cases eq1 : q.1 with
            | false =>
              rw [eq1] at hq
              refine iteF ⟨C4, wiS q.2 own, acc, dacc, hD4, hC4, S13.trans A4.stp, fun z => ⟨(P13 z).1.trans (A4.pu z).2, by rw [(A4.pu z).1]; exact pur3 z⟩, ?_, mv A4 ra3, hq⟩
              have := rel_wipe R4' own
              rw [hwe] at this; exact this
            | true =>
              rw [eq1] at hq
              refine iteT ⟨L, C4, q.2, R4', wp_mono (wp_bind.mp hq) (fun w _ hw2 y H6 C6 A6 R6 ry => ?_) fun _ z => z.elim⟩
              have hD6 : H6 T = some (.lst acc) := A6.stp.keep T _ hD4 (.inl (by rw [hC4]; exact Nat.le_refl _))
              have hC6 : C6 T = 2 := by rw [A6.stp.colo T (by rw [hD4]; simp) (by rw [hC4]; omega)]; exact hC4
              have ra6 := mv A6 (mv A4 ra3)
              by_cases hn : (!L.okb 2 || noL w.1) = true
              · rw [if_pos hn] at hw2
                have ry6 : Rp K H6 (fun b => Cof C6 L b ∧ b ≠ T) y w.1 := by
                  rw [Bool.or_eq_true] at hn
                  rcases hn with hn | hn
                  · refine ry.imp fun b hb => ⟨hb, fun z => ?_⟩
                    subst z
                    have hb' : L.okb (C6 b) = true := hb
                    rw [hC6] at hb'
                    rw [hb'] at hn; cases hn
                  · exact ry.free hn
                have ne_new : ∀ b, H1 b ≠ none → b ≠ T := fun b hb z => by subst z; exact hb hT
                have S16 := (S13.trans A4.stp).trans A6.stp
                have hsz : acc.length < sizeLine := by
                  have h3 := wp_bind.mp hw2
                  have hl := ra6.len
                  cases e5 : compF ks L own g c el (p.1.drop (i + 1)) (wiS w.2 own) with
                  | bad => rw [e5] at h3; exact h3.elim
                  | ex _ => rw [e5] at h3; exact h3.elim
                  | ok r5 =>
                    rw [e5] at h3
                    have h4 : (dacc ++ (w.1 :: r5.1)).length ≤ sizeLine := h3.1
                    rw [List.length_append, List.length_cons] at h4
                    omega
                refine ⟨acc, hD6, hsz, C6, wiS w.2 own, acc ++ [y], dacc ++ [w.1], upd_same, hC6, ⟨fun b x h k => ?_, fun b h => ?_, S16.colo, S16.colh⟩, fun z => ⟨⟨fun b x h => ?_, fun b h => ?_⟩, ?_⟩, ?_, ?_, ?_⟩
                · rw [upd_ne (ne_new b (by rw [h]; simp))]; exact S16.keep b x h k
                · rw [upd_ne (ne_new b h)]; exact S16.there b h
                · rw [upd_ne (ne_new b (by rw [h]; simp))]
                  exact (((P13 z).1.trans (A4.pu z).2).trans (A6.pu z).2).same b x h
                · exact (((P13 z).1.trans (A4.pu z).2).trans (A6.pu z).2).col b h
                · rw [(A6.pu z).1, (A4.pu z).1]; exact pur3 z
                · have h7 := rel_wipe R6 own
                  rw [hwe] at h7
                  exact ⟨h7.len, fun j s es => (h7.get j s es).offc (Nat.le_refl 2) (by omega) (fun b xs hb h => by rw [upd_ne (fun z => by subst z; exact hb hC6)]; exact h) fun b o h im => by rw [upd_ne (imm_ne hD6 h im)]; exact h⟩
                · have := ra6.app (.cons ry6 .nil)
                  exact this.move (fun b xs pb h => ⟨by rw [upd_ne pb.2]; exact h, pb⟩) fun b o h im => by rw [upd_ne (imm_ne hD6 h im)]; exact h
                · refine wp_mono (wp_bind.mp hw2) (fun r _ hr => ?_) fun _ z => z
                  have e9 : dacc ++ [w.1] ++ r.1 = dacc ++ (w.1 :: r.1) := by simp
                  rw [e9]; exact hr
              · rw [if_neg hn] at hw2; exact hw2.elim
        · have e : i = p.1.length := by omega
          subst e
          rw [List.drop_length, compF] at hw
          refine .inl ⟨ok.stop H2 C2 ρ2 (aft S2 fun z => (P2 z).1), ?_⟩
          have hq := hw.2 T acc (hidH H2 T) C2 ?_ ?_ hidH_same ?_
          · rw [hidH_upd hD] at hq; exact hq
          · have ne_new : ∀ b, H1 b ≠ none → b ≠ T := fun b hb z => by subst z; exact hb hT
            refine ⟨A1'.stp.trans ⟨fun b x h k => ?_, fun b h => ?_, S2.colo, S2.colh⟩, fun z => ?_⟩
            · rw [hidH_ne (ne_new b (by rw [h]; simp))]; exact S2.keep b x h k
            · rw [hidH_ne (ne_new b h)]; exact S2.there b h
            · refine ⟨?_, (A1'.pu z).2.trans ⟨fun b x h => ?_, fun b h => ?_⟩⟩
              · show reS p.2 ρ2 own = ρ
                rw [(P2 z).2, reS_wiS]; exact (A1'.pu z).1
              · rw [hidH_ne (ne_new b (by rw [h]; simp))]; exact (P2 z).1.same b x h
              · exact (P2 z).1.col b h
          · have hlen : p.2.length = ρ2.length := by rw [← R1.len, ← R2.len, wipe_length]
            refine ⟨by rw [reS_len, ← hlen]; exact R1.len, fun j s es => ?_⟩
            rcases reS_get es with ⟨a, b⟩ | ⟨a, b⟩
            · subst b
              by_cases hj : j < p.2.length
              · have e5 : p.2[j]? = some (p.2.getD j .no) := by rw [List.getD_eq_getElem?_getD, List.getElem?_eq_getElem hj]; rfl
                have r5 := R1.get j _ e5
                have o5 := List.all_eq_true.mp ho j a
                rw [e5] at o5
                generalize p.2.getD j .no = s5 at r5 o5
                have ne_new : ∀ b, H1 b ≠ none → b ≠ T := fun b hb z => by subst z; exact hb hT
                generalize σ[j]? = o at r5 ⊢
                have mvl : ∀ {Pc : Nat → Prop} {v : V} {d : D}, (∀ k, Pc k → k ≤ 1) → Rp K H1 (fun b => Pc (C1 b)) v d → Rp K (hidH H2 T) (fun b => Pc (C2 b)) v d := fun {Pc v d} hp r =>
                  r.move (fun b xs pb h => ⟨by rw [hidH_ne (ne_new b (by rw [h]; simp))]; exact S2.keep b _ h (.inl (by have := hp _ pb; omega)), by rw [S2.colo b (by rw [h]; simp) (by have := hp _ pb; omega)]; exact pb⟩) fun b o h im => by
                    rw [hidH_ne (ne_new b (by rw [h]; simp))]; exact S2.keep b o h (.inr im)
                cases r5 with
                | no => exact .no
                | va r => exact .va (mvl (Pc := fun k => k = 0) (fun k h => by omega) r)
                | bo r => exact .bo (mvl (Pc := fun k => k ≤ 1) (fun k h => by omega) r)
                | ow _ _ _ _ => cases o5
                | un _ => cases o5
                | sc _ => cases o5
                | ob _ _ _ _ _ => cases o5
                | dc _ _ _ _ => cases o5
              · have e5 : p.2.getD j .no = .no := by rw [List.getD_eq_getElem?_getD, List.getElem?_eq_none (by omega)]; rfl
                rw [e5]; exact .no
            · have r5 := R2.get j s b
              rw [wipe_off a] at r5
              exact r5.offc (Nat.le_refl 2) (by omega) (fun b xs hb h => by rw [hidH_ne (fun z => by subst z; exact hb hC)]; exact h) fun b o h im => by rw [hidH_ne (imm_ne hD h im)]; exact h
          · rw [List.append_nil]
            exact ra.move (fun b xs pb h => ⟨by rw [hidH_ne pb.2]; exact h, pb.1⟩) fun b o h im => by rw [hidH_ne (imm_ne hD h im)]; exact h
    · rw [if_neg ho] at hp; exact hp.elim
  · rw [if_neg hks] at h; exact h.elim

/-- no test, one test -/
def yesT : BS := fun _ ρ => .ok (true, ρ)
abbrev DTs (X : Cx) (np : Fp) (EW : XW) (e : List Expr) (f : BS) : Prop := PTs X e (tT X.K np EW f)
section
variable {X : Cx} {np : Fp} {EW : XW} {e elt tg iter : Expr} {fe el : ES} {p pos : Pos}
theorem PTs.weak {ifs : List Expr} {t t' : TT} (h : PTs X ifs t) (w : ∀ σ H Q, t' σ H Q → t σ H Q) : PTs X ifs t' := ⟨fun pins s σ H Q I q => h.run pins s σ H Q I (w σ H Q q)⟩
theorem dts_nil : DTs X np EW [] yesT := PTs.weak pts_nil fun σ H Q ⟨L, C, ρ, R, h⟩ => h H C .refl R
theorem dts_one {c : Expr} {f : BS} (h : DT X np EW c f) : DTs X np EW [c] f := pts_one h
variable {ifs : List Expr} {scope : Scope} {own : List (Str × Nat)} {src : AS} {g : GS} {c : BS} {is : List Nat}
theorem dn_lc (ks : Lv) (hc : X.calm = true) (hN : X.N.Nodup) (hi : DI X np EW tg iter src) (ok : BlkOk X.N X.env.scope scope own) (hsub : ∀ i ∈ is, i ∈ own.map (·.2)) (hoff : GOff is g)
    (hg : ∀ (s : Shared) (H : Hp) (C : Addr) (cl : List (Str × Addr)) (fp : List Addr), DG (X.blk s H scope (compEnvC scope cl C X.env) fp) np tg is g)
    (ht : ∀ (s : Shared) (H : Hp) (C : Addr) (cl : List (Str × Addr)) (fp : List Addr), DTs (X.blk s H scope (compEnvC scope cl C X.env) fp) np noX ifs c)
    (he : ∀ (s : Shared) (H : Hp) (C : Addr) (cl : List (Str × Addr)) (fp : List Addr), DE (X.blk s H scope (compEnvC scope cl C X.env) fp) np noX elt el) (hs : ∀ x, foldedSetIterable iter X.env x = pure x := by intro _; rfl) :
    DN X np EW (.ListComp elt [⟨tg, iter, ifs, 0⟩] scope pos) (lcA ks (own.map (·.2)) src g c el) :=
  PE.weak (pe_lc hc hN hi ok hg ht he hs) fun σ H Q h => lc_main hsub hoff h
/-- x = [.. for ..] on one line -/
theorem ds_asg_of {st : Stmt} {t : TE} {i : Nat} {f : AS} (h : PS X st (tAsg t (gName i))) (w : ∀ σ H Q, tN X.K np EW f σ H Q → t σ H Q) : DS X np EW st (vaS i (lsE f)) :=
  PS.weak h fun Dn σ H ⟨C, ρ, R, h⟩ => by
    refine w σ H _ ⟨.va, C, ρ, R, ?_⟩
    have h' : pst X.K np EW Dn H C (((f .va ρ).bind fun p => .ok (.list p.1, p.2)).to fun p => .nx (p.2.set i (.va p.1))) := h
    cases e : f .va ρ with
    | bad => rw [e] at h'; exact h'.elim
    | ex c => rw [e] at h'; exact h'
    | ok p =>
      rw [e] at h'
      intro t vs H' C' A R' ht r
      have S := pstp_new (C := C') (o := .lst vs) (n := 0) ht
      refine h' _ _ _ (A.stp.trans S.stp) ((R'.pstp S).set (.va (.lst upd_same setC_same ?_)))
      exact (S.rpA (P := fun c => c = 0) (r.imp fun b hb => by have : Lv.va.okb (C' b) = true := hb; simpa [Lv.okb] using this))
theorem ds_asg_bo {st : Stmt} {t : TE} {i : Nat} {f : AS} (h : PS X st (tAsg t (gName i))) (w : ∀ σ H Q, tN X.K np EW f σ H Q → t σ H Q) : DS X np EW st (boS i (lsE f)) :=
  PS.weak h fun Dn σ H ⟨C, ρ, R, h⟩ => by
    refine w σ H _ ⟨.bo, C, ρ, R, ?_⟩
    have h' : pst X.K np EW Dn H C (((f .bo ρ).bind fun p => .ok (.list p.1, p.2)).to fun p => .nx (p.2.set i (.bo p.1))) := h
    cases e : f .bo ρ with
    | bad => rw [e] at h'; exact h'.elim
    | ex c => rw [e] at h'; exact h'
    | ok p =>
      rw [e] at h'
      intro t vs H' C' A R' ht r
      have S := pstp_new (C := C') (o := .lst vs) (n := 0) ht
      refine h' _ _ _ (A.stp.trans S.stp) ((R'.pstp S).set (.bo (.lst upd_same (by rw [setC_same]; omega) ?_)))
      exact (S.rpA (P := fun c => c ≤ 1) (r.imp fun b hb => by have : Lv.bo.okb (C' b) = true := hb; simpa [Lv.okb] using this))
theorem ds_asg_ow {st : Stmt} {t : TE} {i : Nat} {f : AS} (h : PS X st (tAsg t (gName i))) (w : ∀ σ H Q, tN X.K np EW f σ H Q → t σ H Q) : DS X np EW st (owS np.n i f) :=
  PS.weak h fun Dn σ H ⟨C, ρ, R, h⟩ => by
    unfold owS at h
    by_cases hn : np.n ≤ i
    · rw [if_pos hn] at h
      refine w σ H _ ⟨.va, C, ρ, R, ?_⟩
      cases e : f .va ρ with
      | bad => rw [e] at h; exact h.elim
      | ex c => rw [e] at h; exact h
      | ok p =>
        rw [e] at h
        intro t vs H' C' A R' ht r
        obtain ⟨S, R2⟩ := ow_new hn R' ht r
        exact h _ _ _ (A.stp.trans S.stp) R2
    · rw [if_neg hn] at h; exact h.elim
end
end
end Dm

namespace Dm
noncomputable section
open PySem PySem.Spec PyProof.Rows L2

/-! ### built-ins -/
def CallS (K : PySem.W.Frag) (r : List V → Hp → VK → Prop) (g : List D → Option D) : Prop := ∀ (H : Hp) (C : Col) (L : Lv) (vs : List V) (ds : List D) (d : D) (Q : VK), RpA K H (Cof C L) vs ds → g ds = some d →
  (∀ v H' C', PStp H C H' C' → Rp K H' (Cof C' L) v d → Q v H') → r vs H Q
def cbE (g : List D → Option D) (fs : AS) : ES := fun L ρ => (fs L ρ).bind fun p => (ofO (g p.1)).bind fun d => .ok (d, p.2)
section
variable {X : Cx} {np : Fp} {EW : XW} {e : Expr} {es : List Expr} {fs : AS} {x : Str} {p pos : Pos} {id T : String} {r : List V → Hp → VK → Prop} {g : List D → Option D}
theorem cb_fin {K : PySem.W.Frag} (hs : CallS K r g) {σ : L2.St} {H : Hp} {Q : VK} (h : tE K np EW (cbE g fs) σ H Q) : tA K np EW fs σ H fun vs H1 => r vs H1 Q := by
  obtain ⟨L, C, ρ, R, h⟩ := h
  refine tA_of R h fun q vs H1 C1 A1 R1 r1 h1 => ?_
  obtain ⟨d, e, h2⟩ := wp_ofO (wp_bind.mp h1)
  exact hs H1 C1 L vs q.1 d Q r1 e fun v H' C' S rv => h2 v H' C' (A1.trans (.of S)) (R1.pstp S) rv
theorem de_callB (hc : CallR X (.builtin id) r) (hs : CallS X.K r g) (hg : Gl X x) (hm : X.mg x = none) (hv : bootBuiltins x = some (.builtin id)) (ha : DA X np EW (e :: es) fs) (hn : x ≠ "__name__" := by decide) (hdb : (x == ("__debug__" : Str)) = false := by decide)
    (he : starEach (e :: es) X.env = (false, eval e X.env) :: starEach es X.env := by rfl) (hpl : (backTo pos (starEach es X.env)).any (·.1) = false := by rfl) : DE X np EW (.Call (.Name x p) (e :: es) [] pos) (cbE g fs) :=
  PE.weak (pe_callB hc hg hm hv ha hn hdb he hpl) fun σ H Q h => cb_fin hs h
theorem de_callTy (hc : CallR X (.type T) r) (hs : CallS X.K r g) (hg : Gl X x) (hm : X.mg x = none) (hv : bootBuiltins x = some (.type T)) (ha : DA X np EW (e :: es) fs) (hn : x ≠ "__name__" := by decide) (hdb : (x == ("__debug__" : Str)) = false := by decide)
    (he : starEach (e :: es) X.env = (false, eval e X.env) :: starEach es X.env := by rfl) (hpl : (backTo pos (starEach es X.env)).any (·.1) = false := by rfl) : DE X np EW (.Call (.Name x p) (e :: es) [] pos) (cbE g fs) :=
  PE.weak (pe_callTy hc hg hm hv ha hn hdb he hpl) fun σ H Q h => cb_fin hs h
end
section
variable {K : PySem.W.Frag} {H : Hp} {P : Addr → Prop}
theorem RpA.one {vs : List V} {d : D} (r : RpA K H P vs [d]) : ∃ v, vs = [v] ∧ Rp K H P v d := by
  cases r with
  | cons a b => cases b; exact ⟨_, rfl, a⟩
theorem RpA.two {vs : List V} {d e : D} (r : RpA K H P vs [d, e]) : ∃ v w, vs = [v, w] ∧ Rp K H P v d ∧ Rp K H P w e := by
  cases r with
  | cons a b =>
    cases b with
    | cons b c => cases c; exact ⟨_, _, rfl, a, b⟩
end
/-! len -/
def lenG : List D → Option D
  | [.list xs] => some (.int xs.length)
  | [.tuple xs] => some (.int xs.length)
  | [.str z] => if z.length ≤ sizeLine then some (.int z.length) else none
  | _ => none
theorem cs_len {K : PySem.W.Frag} : CallS K (fun xs H Q => ∃ x n, xs = [x] ∧ LenV K x H n ∧ Q (.int n) H) lenG := by
  intro H C L vs ds d Q r e q
  unfold lenG at e
  split at e
  · cases e
    obtain ⟨v, rfl, rv⟩ := r.one
    obtain ⟨a, us, rfl, ha, _, rr⟩ := rv.lst_inv
    exact ⟨_, _, rfl, .inl ⟨_, .of ha, rr.len.symm⟩, q _ H C .refl (.int _)⟩
  · cases e
    obtain ⟨v, rfl, rv⟩ := r.one
    obtain ⟨a, us, rfl, ha, rr⟩ := rv.tup_inv
    exact ⟨_, _, rfl, .inr ⟨_, ha, rr.len.symm⟩, q _ H C .refl (.int _)⟩
  · rename_i z
    by_cases hz : z.length ≤ sizeLine
    · rw [if_pos hz] at e; cases e
      obtain ⟨v, rfl, rv⟩ := r.one
      obtain rfl := rv.str_inv
      exact ⟨_, _, rfl, ⟨hz, rfl⟩, q _ H C .refl (.int _)⟩
    · rw [if_neg hz] at e; cases e
  · cases e
/-! abs, min, max of two -/
def absG : List D → Option D
  | [.int i] => some (.int (if i < 0 then -i else i))
  | _ => none
theorem cs_abs {K : PySem.W.Frag} : CallS K (fun xs H Q => ∃ i, xs = [.int i] ∧ Q (.int (if i < 0 then -i else i)) H) absG := by
  intro H C L vs ds d Q r e q
  unfold absG at e
  split at e
  · cases e
    obtain ⟨v, rfl, rv⟩ := r.one
    obtain rfl := rv.int_inv
    exact ⟨_, rfl, q _ H C .refl (.int _)⟩
  · cases e
def maxL (ns : List Int) : Int := ns.foldl (fun a b => if b > a then b else a) (ns.headD 0)
def minL (ns : List Int) : Int := ns.foldl (fun a b => if b < a then b else a) (ns.headD 0)
def ints? : List D → Option (List Int)
  | [] => some []
  | .int i :: r => (ints? r).map (i :: ·)
  | _ => none
theorem ints?_some : ∀ {ds : List D} {ns : List Int}, ints? ds = some ns → ds = ns.map PyData.int
  | [], _, h => by cases h; rfl
  | .int i :: r, ns, h => by
    rw [ints?] at h
    cases e : ints? r with
    | none => rw [e] at h; cases h
    | some m => rw [e] at h; cases h; rw [List.map_cons, ints?_some e]
  | .none :: _, _, h => by simp [ints?] at h
  | .bool _ :: _, _, h => by simp [ints?] at h
  | .str _ :: _, _, h => by simp [ints?] at h
  | .list _ :: _, _, h => by simp [ints?] at h
  | .tuple _ :: _, _, h => by simp [ints?] at h
  | .dict _ :: _, _, h => by simp [ints?] at h
@[simp] theorem ints?_map : ∀ ns : List Int, ints? (ns.map PyData.int) = some ns
  | [] => rfl
  | n :: r => by simp [ints?, ints?_map r]
def bools? : List D → Option (List Bool)
  | [] => some []
  | .bool i :: r => (bools? r).map (i :: ·)
  | _ => none
theorem bools?_some : ∀ {ds : List D} {ns : List Bool}, bools? ds = some ns → ds = ns.map PyData.bool
  | [], _, h => by cases h; rfl
  | .bool i :: r, ns, h => by
    rw [bools?] at h
    cases e : bools? r with
    | none => rw [e] at h; cases h
    | some m => rw [e] at h; cases h; rw [List.map_cons, bools?_some e]
  | .none :: _, _, h => by simp [bools?] at h
  | .int _ :: _, _, h => by simp [bools?] at h
  | .str _ :: _, _, h => by simp [bools?] at h
  | .list _ :: _, _, h => by simp [bools?] at h
  | .tuple _ :: _, _, h => by simp [bools?] at h
  | .dict _ :: _, _, h => by simp [bools?] at h
@[simp] theorem bools?_map : ∀ ns : List Bool, bools? (ns.map PyData.bool) = some ns
  | [] => rfl
  | n :: r => by simp [bools?, bools?_map r]
theorem foldl_max : ∀ (ns : List Int) (a : Int), (a ≤ ns.foldl (fun a b => if b > a then b else a) a ∧ ∀ y ∈ ns, y ≤ ns.foldl (fun a b => if b > a then b else a) a) ∧ (ns.foldl (fun a b => if b > a then b else a) a = a ∨ ns.foldl (fun a b => if b > a then b else a) a ∈ ns)
  | [], a => ⟨⟨Int.le_refl _, fun y hy => nomatch hy⟩, .inl rfl⟩
  | b :: r, a => by
    rw [List.foldl_cons]
    obtain ⟨⟨h1, h2⟩, h3⟩ := foldl_max r (if b > a then b else a)
    have e1 : a ≤ (if b > a then b else a) ∧ b ≤ (if b > a then b else a) := by split <;> omega
    refine ⟨⟨by omega, fun y hy => ?_⟩, ?_⟩
    · rcases List.mem_cons.mp hy with rfl | hy
      · omega
      · exact h2 y hy
    · rcases h3 with h3 | h3
      · rw [h3]
        by_cases z : b > a
        · rw [if_pos z]; exact .inr (List.mem_cons_self ..)
        · rw [if_neg z]; exact .inl rfl
      · exact .inr (List.mem_cons_of_mem _ h3)
theorem foldl_min : ∀ (ns : List Int) (a : Int), (ns.foldl (fun a b => if b < a then b else a) a ≤ a ∧ ∀ y ∈ ns, ns.foldl (fun a b => if b < a then b else a) a ≤ y) ∧ (ns.foldl (fun a b => if b < a then b else a) a = a ∨ ns.foldl (fun a b => if b < a then b else a) a ∈ ns)
  | [], a => ⟨⟨Int.le_refl _, fun y hy => nomatch hy⟩, .inl rfl⟩
  | b :: r, a => by
    rw [List.foldl_cons]
    obtain ⟨⟨h1, h2⟩, h3⟩ := foldl_min r (if b < a then b else a)
    have e1 : (if b < a then b else a) ≤ a ∧ (if b < a then b else a) ≤ b := by split <;> omega
    refine ⟨⟨by omega, fun y hy => ?_⟩, ?_⟩
    · rcases List.mem_cons.mp hy with rfl | hy
      · omega
      · exact h2 y hy
    · rcases h3 with h3 | h3
      · rw [h3]
        by_cases z : b < a
        · rw [if_pos z]; exact .inr (List.mem_cons_self ..)
        · rw [if_neg z]; exact .inl rfl
      · exact .inr (List.mem_cons_of_mem _ h3)
theorem maxL_mem {ns : List Int} (h : 0 < ns.length) : maxL ns ∈ ns ∧ ∀ y ∈ ns, y ≤ maxL ns := by
  obtain ⟨⟨_, h2⟩, h3⟩ := foldl_max ns (ns.headD 0)
  refine ⟨?_, h2⟩
  rcases h3 with h3 | h3
  · unfold maxL; rw [h3]
    cases ns with
    | nil => simp at h
    | cons a r => simp
  · exact h3
theorem minL_mem {ns : List Int} (h : 0 < ns.length) : minL ns ∈ ns ∧ ∀ y ∈ ns, minL ns ≤ y := by
  obtain ⟨⟨_, h2⟩, h3⟩ := foldl_min ns (ns.headD 0)
  refine ⟨?_, h2⟩
  rcases h3 with h3 | h3
  · unfold minL; rw [h3]
    cases ns with
    | nil => simp at h
    | cons a r => simp
  · exact h3
def maxG : List D → Option D
  | [.int i, .int j] => some (.int (if j > i then j else i))
  | [.list ds] => match ints? ds with
    | some ns => if 0 < ns.length then some (.int (maxL ns)) else none
    | none => none
  | _ => none
def minG : List D → Option D
  | [.int i, .int j] => some (.int (if j < i then j else i))
  | [.list ds] => match ints? ds with
    | some ns => if 0 < ns.length then some (.int (minL ns)) else none
    | none => none
  | _ => none
def rMaxA (K : PySem.W.Frag) : List V → Hp → VK → Prop := fun xs H Q => (∃ i j, xs = [.int i, .int j] ∧ Q (.int (if j > i then j else i)) H) ∨ rMax K xs H Q
def rMinA (K : PySem.W.Frag) : List V → Hp → VK → Prop := fun xs H Q => (∃ i j, xs = [.int i, .int j] ∧ Q (.int (if j < i then j else i)) H) ∨ rMin K xs H Q
theorem call_maxA {X : Cx} (hc : X.calm = true) : CallR X (.builtin "max") (rMaxA X.K) := (call_max2 hc).or (cr_max hc)
theorem call_minA {X : Cx} (hc : X.calm = true) : CallR X (.builtin "min") (rMinA X.K) := (call_min2 hc).or (cr_min hc)
theorem cs_max {K : PySem.W.Frag} : CallS K (rMaxA K) maxG := by
  intro H C L vs ds d Q r e q
  unfold maxG at e
  split at e
  · cases e
    obtain ⟨v, w, rfl, rv, rw⟩ := r.two
    obtain rfl := rv.int_inv
    obtain rfl := rw.int_inv
    exact .inl ⟨_, _, rfl, q _ H C .refl (.int _)⟩
  · rename_i ds
    cases e2 : ints? ds with
    | none => rw [e2] at e; cases e
    | some ns =>
      rw [e2] at e
      by_cases hz : 0 < ns.length
      · simp only [hz, if_true] at e; cases e
        obtain ⟨v, rfl, rv⟩ := r.one
        obtain ⟨a, us, rfl, ha, _, rr⟩ := rv.lst_inv
        have := ints?_some e2
        subst this
        have eu := rr.ints
        subst eu
        refine .inr ⟨_, ns, rfl, .of ha, hz, fun m hm hy => ?_⟩
        have h1 := maxL_mem hz
        have : m = maxL ns := by have := hy _ h1.1; have := h1.2 _ hm; omega
        subst this
        exact q _ H C .refl (.int _)
      · simp only [hz, if_false] at e; cases e
  · cases e
theorem cs_min {K : PySem.W.Frag} : CallS K (rMinA K) minG := by
  intro H C L vs ds d Q r e q
  unfold minG at e
  split at e
  · cases e
    obtain ⟨v, w, rfl, rv, rw⟩ := r.two
    obtain rfl := rv.int_inv
    obtain rfl := rw.int_inv
    exact .inl ⟨_, _, rfl, q _ H C .refl (.int _)⟩
  · rename_i ds
    cases e2 : ints? ds with
    | none => rw [e2] at e; cases e
    | some ns =>
      rw [e2] at e
      by_cases hz : 0 < ns.length
      · simp only [hz, if_true] at e; cases e
        obtain ⟨v, rfl, rv⟩ := r.one
        obtain ⟨a, us, rfl, ha, _, rr⟩ := rv.lst_inv
        have := ints?_some e2
        subst this
        have eu := rr.ints
        subst eu
        refine .inr ⟨_, ns, rfl, .of ha, hz, fun m hm hy => ?_⟩
        have h1 := minL_mem hz
        have : m = minL ns := by have := hy _ h1.1; have := h1.2 _ hm; omega
        subst this
        exact q _ H C .refl (.int _)
      · simp only [hz, if_false] at e; cases e
  · cases e
def sumG : List D → Option D
  | [.list ds] => (ints? ds).map fun ns => .int ns.sum
  | _ => none
theorem cs_sum {K : PySem.W.Frag} : CallS K (rSum K) sumG := by
  intro H C L vs ds d Q r e q
  unfold sumG at e
  split at e
  · rename_i ds
    cases e2 : ints? ds with
    | none => rw [e2] at e; cases e
    | some ns =>
      rw [e2] at e; cases e
      obtain ⟨v, rfl, rv⟩ := r.one
      obtain ⟨a, us, rfl, ha, _, rr⟩ := rv.lst_inv
      have := ints?_some e2
      subst this
      have eu := rr.ints
      subst eu
      exact ⟨_, ns, rfl, .of ha, q _ H C .refl (.int _)⟩
  · cases e
def allG : List D → Option D
  | [.list ds] => (bools? ds).map fun bs => .bool (bs.all _root_.id)
  | _ => none
def anyG : List D → Option D
  | [.list ds] => (bools? ds).map fun bs => .bool (bs.any _root_.id)
  | _ => none
theorem cs_all {K : PySem.W.Frag} : CallS K (rAll K) allG := by
  intro H C L vs ds d Q r e q
  unfold allG at e
  split at e
  · rename_i ds
    cases e2 : bools? ds with
    | none => rw [e2] at e; cases e
    | some ns =>
      rw [e2] at e; cases e
      obtain ⟨v, rfl, rv⟩ := r.one
      obtain ⟨a, us, rfl, ha, _, rr⟩ := rv.lst_inv
      have := bools?_some e2
      subst this
      have eu := rr.bls
      subst eu
      exact ⟨_, ns, rfl, .of ha, q _ H C .refl (.bl _)⟩
  · cases e
theorem cs_any {K : PySem.W.Frag} : CallS K (rAny K) anyG := by
  intro H C L vs ds d Q r e q
  unfold anyG at e
  split at e
  · rename_i ds
    cases e2 : bools? ds with
    | none => rw [e2] at e; cases e
    | some ns =>
      rw [e2] at e; cases e
      obtain ⟨v, rfl, rv⟩ := r.one
      obtain ⟨a, us, rfl, ha, _, rr⟩ := rv.lst_inv
      have := bools?_some e2
      subst this
      have eu := rr.bls
      subst eu
      exact ⟨_, ns, rfl, .of ha, q _ H C .refl (.bl _)⟩
  · cases e
/-! tuple(x), list(x) -/
def tupG : List D → Option D
  | [.list xs] => some (.tuple xs)
  | [.tuple xs] => some (.tuple xs)
  | _ => none
def rTupX (K : PySem.W.Frag) : List V → Hp → VK → Prop := fun xs H Q => ∃ p ys, xs = [.ref p] ∧ ((SqL K H p ys ∧ ∀ l ob, H l = none → ob.dict = none → Q (.ref l) (upd H l (.frz ob (.tup ys)))) ∨ (SqT K H p ys ∧ Q (.ref p) H))
theorem call_tupX {X : Cx} : CallR X (.type "tuple") (rTupX X.K) := by
  intro pins s σ H xs us Q I r h
  obtain ⟨p, ys, rfl, h⟩ := h
  rcases h with ⟨hq, q⟩ | ⟨hq, q⟩
  · obtain ⟨u, rfl, rx⟩ := vals1 r
    cases rx
    obtain ⟨its, r1, pl, hz⟩ := I.list hq
    have hn := r1.length
    refine call_tuple_list pl.isList (fun h' kp => ?_) (by simp only [List.size_toArray] <;> omega)
    have I1 : Inv X pins σ H { s with heap := h' } := I.kept (t' := s.toks) kp
    exact laid_tupX I1 r1 hz q
  · exact call_tuple_of pins s σ H [.ref p] us Q I r ⟨p, ys, rfl, .inr ⟨hq, q⟩⟩
theorem cs_tuple {K : PySem.W.Frag} : CallS K (rTupX K) tupG := by
  intro H C L vs ds d Q r e q
  unfold tupG at e
  split at e
  · cases e
    obtain ⟨v, rfl, rv⟩ := r.one
    obtain ⟨a, us, rfl, ha, _, rr⟩ := rv.lst_inv
    refine ⟨_, _, rfl, .inl ⟨.of ha, fun t ob ht hd => ?_⟩⟩
    have S := pstp_id (C := C) (o := .frz ob (.tup us)) ht
    exact q _ _ _ S (.tup (newX hd) (rr.same S.same))
  · cases e
    obtain ⟨v, rfl, rv⟩ := r.one
    obtain ⟨a, us, rfl, ha, rr⟩ := rv.tup_invX
    exact ⟨_, _, rfl, .inr ⟨ha.sq, q _ H C .refl (.tup ha rr)⟩⟩
  · cases e
section
variable {X : Cx} {np : Fp} {EW : XW} {e : Expr} {fe : ES} {p pos : Pos}
/-- list(x): a new list -/
def lsA (fe : ES) : AS := fun L ρ => (fe L ρ).bind fun p => (ofO (itD p.1)).bind fun ds => .ok (ds, p.2)
theorem dn_list {x : Str} (hg : Gl X x) (hm : X.mg x = none) (hv : bootBuiltins x = some (.type "list")) (ha : DE X np EW e fe) (hn : x ≠ "__name__" := by decide) (hdb : (x == ("__debug__" : Str)) = false := by decide)
    (he : starEach [e] X.env = (false, eval e X.env) :: starEach [] X.env := by rfl) : DN X np EW (.Call (.Name x p) [e] [] pos) (lsA fe) :=
  PE.weak (pe_callTy call_list_of hg hm hv (pa_cons ha pa_nil he) hn hdb he rfl) fun σ H Q ⟨L, C, ρ, R, h⟩ => tE_of R h fun q v H1 C1 A1 R1 r1 h1 => by
    obtain ⟨d, e, h2⟩ := wp_ofO (wp_bind.mp h1)
    obtain ⟨dq, ρ1⟩ := q
    cases dq <;> simp only [itD, reduceCtorEq] at e
    · cases e
      obtain ⟨a, us, rfl, ha, _, rr⟩ := r1.lst_inv
      exact ⟨_, _, rfl, .inl (.of ha), fun t ht => h2 t us H1 C1 A1 R1 ht rr⟩
    · cases e
      obtain ⟨a, us, rfl, ha, rr⟩ := r1.tup_inv
      exact ⟨_, _, rfl, .inr ha, fun t ht => h2 t us H1 C1 A1 R1 ht rr⟩
/-- list(range(n)) -/
def lrA (fe : ES) : AS := fun L ρ => (fe L ρ).bind fun p => (isI p.1).bind fun n => if inB 0 16777217 n then .ok (rgD 0 n.toNat, p.2) else .bad
theorem rgV_rp {K : PySem.W.Frag} {H : Hp} {P : Addr → Prop} {n : Int} : RpA K H P (rgV 0 n) (rgD 0 n.toNat) := by
  unfold rgV rgD
  rw [Int.sub_zero]
  generalize List.range n.toNat = l
  induction l with
  | nil => exact .nil
  | cons a r ih => exact .cons (.int _) ih
theorem dn_lrng {p2 pos2 : Pos} (hc : X.calm = true) (hg : Gl X "list") (hm : X.mg "list" = none) (hg2 : Gl X "range") (hm2 : X.mg "range" = none) (ha : DE X np EW e fe) (na : starEach [e] X.env = (false, eval e X.env) :: starEach [] X.env := by rfl)
    (na2 : starEach [.Call (.Name "range" p2) [e] [] pos2] X.env = (false, eval (.Call (.Name "range" p2) [e] [] pos2) X.env) :: starEach [] X.env := by rfl) : DN X np EW (.Call (.Name "list" p) [.Call (.Name "range" p2) [e] [] pos2] [] pos) (lrA fe) :=
  PE.weak (pe_listRg hc hg hm (prg_1 hg2 hm2 ha na) na2) fun σ H Q ⟨L, C, ρ, R, h⟩ => tE_of R h fun q v H1 C1 A1 R1 r1 h1 => by
    obtain ⟨dq, ρ1⟩ := q
    cases dq with
    | int n =>
      obtain rfl := r1.int_inv
      by_cases hz : inB 0 16777217 n = true
      · have h2 := h1
        simp only [isI, bind_ok, hz, if_true] at h2
        rw [inB_eq, Bool.and_eq_true, decide_eq_true_eq, decide_eq_true_eq] at hz
        exact ⟨n, rfl, RgOk.of_le (Int.le_refl _) (by omega) (by omega) hz.1, fun t ht => h2 t _ H1 C1 A1 R1 ht rgV_rp⟩
      · simp only [isI, bind_ok, hz] at h1; exact h1.elim
    | _ => exact h1.elim

/-! isinstance -/
def tyD : D → String
  | .none => "NoneType"
  | .bool _ => "bool"
  | .int _ => "int"
  | .str _ => "str"
  | .list _ => "list"
  | .tuple _ => "tuple"
  | .dict _ => "dict"
def isiB (T : String) (d : D) : Bool := tyD d == T || (T == "int" && tyD d == "bool")
def isiE (T : String) (fe : ES) : ES := fun L ρ => (fe L ρ).bind fun p => .ok (.bool (isiB T p.1), p.2)
theorem tyx {K : PySem.W.Frag} {H : Hp} {P : Addr → Prop} {v : V} {d : D} (r : Rp K H P v d) : TyX K H v (.type (tyD d)) := by
  cases r with
  | non => exact .base .non
  | bl b => exact .base (.bl b)
  | int i => exact .base (.int i)
  | str x => exact .base (.str x)
  | lst h _ _ => exact .base (.lst h)
  | tup h _ =>
    rcases h with ⟨o, h, _⟩ | ⟨o, its, n, h1, h2, _⟩
    · exact .fTuple h
    · exact .kTuple h1 h2
def isiOk (T : String) : Bool := ["NoneType", "bool", "int", "str", "list", "tuple", "dict"].all fun t => kitB t T == some (t == T || (T == "int" && t == "bool"))
theorem isi_kit {T : String} (h : isiOk T = true) (d : D) : kitB (tyD d) T = some (isiB T d) := by
  have h' := List.all_eq_true.mp h
  cases d <;> exact eq_of_beq (h' _ (by simp [tyD]))
theorem ok_int : isiOk "int" = true := by decide +kernel
theorem ok_bool : isiOk "bool" = true := by decide +kernel
theorem ok_str : isiOk "str" = true := by decide +kernel
theorem ok_list : isiOk "list" = true := by decide +kernel
theorem ok_tuple : isiOk "tuple" = true := by decide +kernel
theorem ok_dict : isiOk "dict" = true := by decide +kernel
theorem de_isi {y : Str} {T : String} {p2 : Pos} (hT : isiOk T = true) (hg : Gl X "isinstance") (hm : X.mg "isinstance" = none) (hgy : Gl X y) (hmy : X.mg y = none) (hv : bootBuiltins y = some (.type T)) (h : DE X np EW e fe) (hn : y ≠ "__name__" := by decide) (hd : (y == ("__debug__" : Str)) = false := by decide)
    (he : starEach [e, .Name y p2] X.env = (false, eval e X.env) :: starEach [.Name y p2] X.env := by rfl) (he2 : starEach [.Name y p2] X.env = (false, eval (.Name y p2) X.env) :: starEach [] X.env := by rfl)
    (hpl : (backTo pos (starEach [.Name y p2] X.env)).any (·.1) = false := by rfl) : DE X np EW (.Call (.Name "isinstance" p) [e, .Name y p2] [] pos) (isiE T fe) :=
  PE.weak (pe_callB call_isi hg hm (by decide +kernel) (pa_cons h (pa_cons (pe_bltn (v := .ty T) hgy hmy hv rfl hn hd) pa_nil he2) he) (by decide) (by decide) he hpl) fun σ H Q ⟨L, C, ρ, R, h⟩ => tE_of R h fun q v H1 C1 A1 R1 r1 h1 =>
    ⟨v, .ty T, _, _, _, rfl, .ty T, tyx r1, kit_ty (isi_kit hT q.1), h1 (.bl _) H1 C1 A1 R1 (.bl _)⟩
/-- isinstance(x, (T1, T2)) -/
def isiE2 (T1 T2 : String) (fe : ES) : ES := fun L ρ => (fe L ρ).bind fun p => .ok (.bool (isiB T1 p.1 || isiB T2 p.1), p.2)
theorem kit2 {K : PySem.W.Frag} {T1 T2 : String} (h1 : isiOk T1 = true) (h2 : isiOk T2 = true) (d : D) : PySem.W.kitAny K (.type (tyD d)) [.type T1, .type T2] = some (isiB T1 d || isiB T2 d) := by
  refine kitAny_cons (kit_ty (isi_kit h1 d)) (fun hb => kitAny_cons (kit_ty (isi_kit h2 d)) (fun hb2 => ?_) fun hb2 => ?_) fun hb => ?_
  · rw [hb, hb2]; exact kitAny_nil
  · rw [hb2, Bool.or_true]
  · rw [hb, Bool.true_or]
theorem de_isi2 {y z : Str} {T1 T2 : String} {p2 p3 p4 : Pos} {kk} (h1 : isiOk T1 = true) (h2 : isiOk T2 = true) (hg : Gl X "isinstance") (hm : X.mg "isinstance" = none) (hgy : Gl X y) (hmy : X.mg y = none) (hv : bootBuiltins y = some (.type T1)) (hgz : Gl X z) (hmz : X.mg z = none) (hvz : bootBuiltins z = some (.type T2))
    (h : DE X np EW e fe) (hn : y ≠ "__name__" := by decide) (hd : (y == ("__debug__" : Str)) = false := by decide) (hnz : z ≠ "__name__" := by decide) (hdz : (z == ("__debug__" : Str)) = false := by decide)
    (he : starEach [e, .Tuple [.Name y p2, .Name z p3] kk p4] X.env = (false, eval e X.env) :: starEach [.Tuple [.Name y p2, .Name z p3] kk p4] X.env := by rfl) (he2 : starEach [.Tuple [.Name y p2, .Name z p3] kk p4] X.env = (false, eval (.Tuple [.Name y p2, .Name z p3] kk p4) X.env) :: starEach [] X.env := by rfl)
    (hpl : (backTo pos (starEach [.Tuple [.Name y p2, .Name z p3] kk p4] X.env)).any (·.1) = false := by rfl) : DE X np EW (.Call (.Name "isinstance" p) [e, .Tuple [.Name y p2, .Name z p3] kk p4] [] pos) (isiE2 T1 T2 fe) :=
  PE.weak (pe_callB call_isiT hg hm (by decide +kernel) (pa_cons h (pa_cons (pe_tup (pa_cons (pe_bltn (v := .ty T1) hgy hmy hv rfl hn hd) (pa_cons (pe_bltn (v := .ty T2) hgz hmz hvz rfl hnz hdz) pa_nil))) pa_nil he2) he) (by decide) (by decide) he hpl) fun σ H Q ⟨L, C, ρ, R, h⟩ => tE_of R h fun q v H1 C1 A1 R1 r1 h3 => by
    refine ⟨(show 2 ≤ sizeLine by decide), fun t ht => ?_⟩
    have S := pstp_id (C := C1) (o := .tup [.ty T1, .ty T2]) ht
    exact ⟨v, t, [.ty T1, .ty T2], _, [.type T1, .type T2], _, rfl, upd_same, .cons (.ty T1) (.cons (.ty T2) .nil), tyx (r1.same S.same), kit2 h1 h2 q.1, h3 (.bl _) _ C1 (A1.trans (.of S)) (R1.pstp S) (.bl _)⟩

/-! repr -/
def isDisp : D → Bool
  | .list _ => true
  | .tuple _ => true
  | _ => false
def noDict (d : D) : Bool := !PyData.hasDict d
def reprOk (d : D) : Bool := isDisp d && d.showable && noDict d && decide (d.depth ≤ 64) && decide (d.shown.length ≤ sizeLine)
def reprG : List D → Option D
  | [.int i] => if i.natAbs.log2 < 1920 then some (.str (toString i)) else none
  | [d] => if reprOk d then some (.str d.shown) else none
  | _ => none
def rReprD (K : PySem.W.Frag) : List V → Hp → VK → Prop := fun xs H Q => ∃ v d, xs = [v] ∧ Dp K H v d ∧ reprOk d = true ∧ Q (.str d.shown) H
theorem call_reprD {k : Nat} (hr : Room k X.A) (hg : X.A.guards = some []) : CallR X (.builtin "repr") (rReprD X.K) := by
  intro pins s σ H xs us Q I r h
  obtain ⟨v, d, rfl, hd, ho, q⟩ := h
  obtain ⟨u, rfl, ru⟩ := vals1 r
  simp only [reprOk, noDict, Bool.and_eq_true, decide_eq_true_eq, Bool.not_eq_true'] at ho
  obtain ⟨⟨⟨⟨h1, h2⟩, h3⟩, h4⟩, h5⟩ := ho
  obtain ⟨as, rd⟩ := Dp.reads I d v u hd ru
  have hu : X.A.units + (d.depth + 1) < cLine := by have := hr.un; omega
  cases hd with
  | lst _ _ =>
    cases ru
    exact repr_of_reads' rd h2 (PyData.noDict_hsm h3) hg hu (fun _ _ e => e) (fun h' t tk k => ⟨.str _, H, I.kept (t' := tk) k, ⟨_, rfl⟩, q⟩) h5
  | tup _ _ =>
    cases ru
    exact repr_of_reads' rd h2 (PyData.noDict_hsm h3) hg hu (fun _ _ e => e) (fun h' t tk k => ⟨.str _, H, I.kept (t' := tk) k, ⟨_, rfl⟩, q⟩) h5
  | _ => simp [isDisp] at h1
theorem call_reprA {k : Nat} (hr : Room k X.A) (hg : X.A.guards = some []) : CallR X (.builtin "repr") (fun xs H Q => rReprD X.K xs H Q ∨ ∃ i, xs = [.int i] ∧ i.natAbs.log2 < 1920 ∧ Q (.str (toString i)) H) := (call_reprD hr hg).or SkE.call_repr_int
theorem cs_repr {K : PySem.W.Frag} : CallS K (fun xs H Q => rReprD K xs H Q ∨ ∃ i, xs = [.int i] ∧ i.natAbs.log2 < 1920 ∧ Q (.str (toString i)) H) reprG := by
  intro H C L vs ds d Q r e q
  unfold reprG at e
  split at e
  · rename_i i
    by_cases hz : i.natAbs.log2 < 1920
    · rw [if_pos hz] at e; cases e
      obtain ⟨v, rfl, rv⟩ := r.one
      obtain rfl := rv.int_inv
      exact .inr ⟨_, rfl, hz, q _ H C .refl (.str _)⟩
    · rw [if_neg hz] at e; cases e
  · rename_i d0 _
    by_cases hz : reprOk d0 = true
    · rw [if_pos hz] at e; cases e
      obtain ⟨v, rfl, rv⟩ := r.one
      exact .inl ⟨_, _, rfl, rv.dp, hz, q _ H C .refl (.str _)⟩
    · rw [if_neg hz] at e; cases e
  · cases e

/-! len(set(t)), t a tuple of ints -/
def dd : List Int → List Int
  | [] => []
  | x :: r => if x ∈ r then dd r else x :: dd r
theorem dd_mem : ∀ {l : List Int} {x : Int}, x ∈ dd l ↔ x ∈ l
  | [], x => Iff.rfl
  | a :: r, x => by
    rw [dd]
    by_cases h : a ∈ r
    · rw [if_pos h, dd_mem, List.mem_cons]
      exact ⟨.inr, fun z => z.elim (fun e => by rw [e]; exact h) (fun z => z)⟩
    · rw [if_neg h, List.mem_cons, List.mem_cons, dd_mem]
theorem dd_nodup : ∀ l : List Int, (dd l).Nodup
  | [] => List.nodup_nil
  | a :: r => by
    rw [dd]
    by_cases h : a ∈ r
    · rw [if_pos h]; exact dd_nodup r
    · rw [if_neg h]; exact List.nodup_cons.mpr ⟨fun z => h (dd_mem.mp z), dd_nodup r⟩
theorem dd_of_nodup : ∀ {l : List Int}, l.Nodup → dd l = l
  | [], _ => rfl
  | a :: r, h => by
    rw [List.nodup_cons] at h
    rw [dd, if_neg h.1, dd_of_nodup h.2]
theorem nodup_len {α : Type} [DecidableEq α] : ∀ {l m : List α}, l.Nodup → (∀ x ∈ l, x ∈ m) → l.length ≤ m.length
  | [], _, _, _ => Nat.zero_le _
  | a :: r, m, hl, h => by
    rw [List.nodup_cons] at hl
    have h1 := nodup_len (l := r) (m := m.erase a) hl.2 fun x hx => (List.mem_erase_of_ne fun e => hl.1 (by rw [← e]; exact hx)).mpr (h x (List.mem_cons_of_mem _ hx))
    have h2 := List.length_erase_of_mem (h a (List.mem_cons_self ..))
    have h3 : 0 < m.length := List.length_pos_of_mem (h a (List.mem_cons_self ..))
    rw [List.length_cons]; omega
def lsetD : D → Option D
  | .tuple ds => match ints? ds with
    | some ns => if ns.length ≤ 4000 then some (.int (dd ns).length) else none
    | none => none
  | _ => none
theorem de_lset {p2 q : Pos} (hg : Gl X "len") (hm : X.mg "len" = none) (hg2 : Gl X "set") (hm2 : X.mg "set" = none) (ha : DE X np EW e fe) (hc : X.calm = true := by rfl)
    (na : starEach [e] X.env = (false, eval e X.env) :: starEach [] X.env := by rfl) : DE X np EW (.Call (.Name "len" p) [.Call (.Name "set" p2) [e] [] q] [] pos) (unE lsetD fe) := by
  refine ⟨fun pins s σ H Q I h => ?_⟩
  refine Call_ (ld_blt I hg hm boot_len (PyProof.Rows.callWith_builtin1 (PyProof.Rows.args_cons ?_ rfl) rfl rfl))
  refine Call_ (ld_blt I hg2 hm2 boot_set (PyProof.Rows.callWith_type1 (PyProof.Rows.args_cons ?_ na) na rfl))
  obtain ⟨L, C, ρ, R, h⟩ := h
  have h0 : tE X.K np EW fe σ H (fun v H1 => ∃ l ns, v = .ref l ∧ SqT X.K H1 l (ns.map V.int) ∧ ns.length ≤ 4000 ∧ Q (.int (dd ns).length) H1) := tE_of R h fun p v H1 C1 A1 R1 r1 h1 => by
    obtain ⟨d, e, h2⟩ := wp_ofO (wp_bind.mp h1)
    obtain ⟨dp, ρ1⟩ := p
    cases dp <;> simp only [lsetD, reduceCtorEq] at e
    rename_i ds
    cases e2 : ints? ds with
    | none => rw [e2] at e; cases e
    | some ns =>
      rw [e2] at e
      by_cases hz : ns.length ≤ 4000
      · simp only [hz, if_true] at e; cases e
        obtain ⟨a, us, rfl, hat, rr⟩ := r1.tup_inv
        have := ints?_some e2
        subst this
        have eu := rr.ints
        subst eu
        exact ⟨a, ns, rfl, hat, hz, h2 _ H1 C1 A1 R1 (.int _)⟩
      · simp only [hz, if_false] at e; cases e
  refine thn (ha.run pins s σ H _ I h0) fun v s1 ⟨x, H1, I1, r1, l, ns, e1, hq, hl, q1⟩ => PyProof.Rows.args_nil ?_
  subst e1
  cases r1
  obtain ⟨its, rv, ht, hz⟩ := I1.tuple hq
  refine call_set_tupI ns (I1.ok.hd hc) (show s1.heap.IsTuple l its.toArray from ht) (by simpa using rv.ints) (by unfold scanBound; omega) fun h' tk c hS hcl hk => ?_
  refine PyProof.Rows.args_nil ?_
  obtain ⟨o, es, ep, t, ho, hex, hd, _, hnd, hmem, hsb, hf, hn, _⟩ := hS
  have I2 : Inv X pins σ H1 { s1 with heap := h', toks := tk } := I1.kept hk
  have hlen : es.size = (dd ns).length := by
    have l1 : (es.toList.map keyOf).length = es.size := by simp
    have a1 : (es.toList.map keyOf).length ≤ (dd ns).length := nodup_len hnd fun x hx => dd_mem.mpr (by simpa using (hmem x).mpr hx)
    have a2 : (dd ns).length ≤ (es.toList.map keyOf).length := nodup_len (dd_nodup ns) fun x hx => (hmem x).mp (by simpa using dd_mem.mp hx)
    omega
  exact call_len_set ho hex hd hf (by have : es.size < scanBound := hsb; unfold scanBound at this; omega) ⟨.int (dd ns).length, H1, I2.tok _, ⟨_, by rw [hlen]⟩, q1⟩
end
end
end Dm

namespace Dm
noncomputable section
open PySem PySem.Spec PyProof.Rows L2

/-! ### zip, enumerate, a text's signs -/
section
variable {K : PySem.W.Frag} {np : Fp} {L : Lv} {H0 : Hp} {C0 : Col}
def zipD (xs ys : List D) : List D := (xs.zip ys).map fun p => .tuple [p.1, p.2]
theorem zipD_get {xs ys : List D} {i : Nat} {d : D} (h : (zipD xs ys)[i]? = some d) : ∃ x y, xs[i]? = some x ∧ ys[i]? = some y ∧ d = .tuple [x, y] := by
  unfold zipD at h
  rw [List.getElem?_map] at h
  cases e : (xs.zip ys)[i]? with
  | none => rw [e] at h; cases h
  | some p =>
    rw [e] at h; cases h
    have := List.getElem?_zip_eq_some.mp e
    exact ⟨p.1, p.2, this.1, this.2, rfl⟩
theorem zipD_len (xs ys : List D) : (zipD xs ys).length = min xs.length ys.length := by unfold zipD; rw [List.length_map, List.length_zip]
theorem pair_new {H : Hp} {C : Col} {T : Addr} {x y : V} {d e : D} {P : Addr → Prop} (hT : H T = none) (rx : Rp K H P x d) (ry : Rp K H P y e) : PStp H C (upd H T (.tup [x, y])) C ∧ (∀ b, upd H T (.tup [x, y]) b ≠ none → H b = none → ∃ o, upd H T (.tup [x, y]) b = some o) ∧
    RpB true K (upd H T (.tup [x, y])) P (.ref T) (.tuple [d, e]) := by
  have S := pstp_id (C := C) (o := .tup [x, y]) hT
  refine ⟨S, fun b h1 h2 => ?_, .inr ⟨rfl, _, _, _, rfl, rfl, .of upd_same, .cons (rx.same S.same) (.cons (ry.same S.same) .nil)⟩⟩
  by_cases e : b = T
  · subst e; exact ⟨_, upd_same⟩
  · rw [upd_ne e] at h1; exact absurd h2 h1
theorem it_zipL {a b : Addr} {us ws : List V} {xs ys : List D} (ha : H0 a = some (.lst us)) (ca : Cof C0 L a) (ra : RpA K H0 (Cof C0 L) us xs) (hb : H0 b = some (.lst ws)) (cb : Cof C0 L b) (rb : RpA K H0 (Cof C0 L) ws ys) : ItOk true K np L (zipD xs ys) (Itz K a b) H0 C0 where
  go := fun i H C ρ A hi => by
    rw [zipD_len, ← ra.len, ← rb.len] at hi
    have h1 : i < us.length := by omega
    have h2 : i < ws.length := by omega
    exact ⟨us, ws, us[i], ws[i], .of (A.moves.1 a us ca ha).1, .of (A.moves.1 b ws cb hb).1, by simp [h1], by simp [h2]⟩
  stop := fun H C ρ A => ⟨us, ws, .of (A.moves.1 a us ca ha).1, .of (A.moves.1 b ws cb hb).1, by rw [zipD_len, ← ra.len, ← rb.len]; omega⟩
  yld := fun i H C ρ v H' d A e ⟨T, x, y, h1, hT, h2, hx, hy⟩ => by
    obtain ⟨dx, dy, e1, e2, rfl⟩ := zipD_get e
    subst h1 h2
    obtain ⟨vx, g1, r1⟩ := ra.get e1
    obtain ⟨vy, g2, r2⟩ := rb.get e2
    have z1 := hx us (.of (A.moves.1 a us ca ha).1)
    have z2 := hy ws (.of (A.moves.1 b ws cb hb).1)
    rw [z1] at g1; cases g1
    rw [z2] at g2; cases g2
    exact pair_new hT (A.rp r1) (A.rp r2)
theorem it_zipT {a b : Addr} {us ws : List V} {xs ys : List D} (ha : SqT K H0 a us) (ra : RpA K H0 (Cof C0 L) us xs) (hb : SqT K H0 b ws) (rb : RpA K H0 (Cof C0 L) ws ys) : ItOk true K np L (zipD xs ys) (RZ.ItzT K a b) H0 C0 where
  go := fun i H C ρ A hi => by
    rw [zipD_len, ← ra.len, ← rb.len] at hi
    have h1 : i < us.length := by omega
    have h2 : i < ws.length := by omega
    exact ⟨us, ws, us[i], ws[i], SqT.keep ha A.moves.2, SqT.keep hb A.moves.2, by simp [h1], by simp [h2]⟩
  stop := fun H C ρ A => ⟨us, ws, SqT.keep ha A.moves.2, SqT.keep hb A.moves.2, by rw [zipD_len, ← ra.len, ← rb.len]; omega⟩
  yld := fun i H C ρ v H' d A e ⟨T, x, y, h1, hT, h2, hx, hy⟩ => by
    obtain ⟨dx, dy, e1, e2, rfl⟩ := zipD_get e
    subst h1 h2
    obtain ⟨vx, g1, r1⟩ := ra.get e1
    obtain ⟨vy, g2, r2⟩ := rb.get e2
    have z1 := hx us (SqT.keep ha A.moves.2)
    have z2 := hy ws (SqT.keep hb A.moves.2)
    rw [z1] at g1; cases g1
    rw [z2] at g2; cases g2
    exact pair_new hT (A.rp r1) (A.rp r2)
def enumD (xs : List D) : List D := xs.zipIdx.map fun p => .tuple [.int (p.2 : Nat), p.1]
theorem enumD_get {xs : List D} {i : Nat} {d : D} (h : (enumD xs)[i]? = some d) : ∃ x, xs[i]? = some x ∧ d = .tuple [.int (i : Nat), x] := by
  unfold enumD at h
  rw [List.getElem?_map, List.getElem?_zipIdx] at h
  cases e : xs[i]? with
  | none => rw [e] at h; cases h
  | some x => rw [e] at h; cases h; exact ⟨x, rfl, by simp⟩
theorem it_enum {a : Addr} {us : List V} {xs : List D} (ha : H0 a = some (.lst us)) (ca : Cof C0 L a) (ra : RpA K H0 (Cof C0 L) us xs) : ItOk true K np L (enumD xs) (Ite K a) H0 C0 where
  go := fun i H C ρ A hi => by
    have h1 : i < us.length := by rw [ra.len]; simpa [enumD] using hi
    exact ⟨us, us[i], .of (A.moves.1 a us ca ha).1, by simp [h1]⟩
  stop := fun H C ρ A => ⟨us, .of (A.moves.1 a us ca ha).1, by rw [ra.len]; simp [enumD]⟩
  yld := fun i H C ρ v H' d A e ⟨T, x, h1, hT, h2, hx⟩ => by
    obtain ⟨dx, e1, rfl⟩ := enumD_get e
    subst h1 h2
    obtain ⟨vx, g1, r1⟩ := ra.get e1
    have z1 := hx us (.of (A.moves.1 a us ca ha).1)
    rw [z1] at g1; cases g1
    exact pair_new hT (.int _) (A.rp r1)
end
section
variable {X : Cx} {np : Fp} {EW : XW} {tg e e2 : Expr} {fe fe2 : ES} {p pos tpos : Pos} {fs : AS} {elts : List Expr} {kk : Nat}
def zipG : List D → Option (List D)
  | [.list xs, .list ys] => some (zipD xs ys)
  | [.tuple xs, .tuple ys] => some (zipD xs ys)
  | _ => none
theorem zipG_some : ∀ {ds r : List D}, zipG ds = some r → (∃ xs ys, ds = [.list xs, .list ys] ∧ r = zipD xs ys) ∨ ∃ xs ys, ds = [.tuple xs, .tuple ys] ∧ r = zipD xs ys := by
  intro ds r h
  unfold zipG at h
  split at h
  · cases h; exact .inl ⟨_, _, rfl, rfl⟩
  · cases h; exact .inr ⟨_, _, rfl, rfl⟩
  · cases h
theorem di_zip (hg : Gl X "zip") (hm : X.mg "zip" = none) (ha : DA X np EW [e, e2] fs)
    (hs : starEach [e, e2] X.env = (false, eval e X.env) :: starEach [e2] X.env := by rfl) (hpl : (backTo pos (starEach [e2] X.env)).any (·.1) = false := by rfl) : DI X np EW (.Tuple elts kk tpos) (.Call (.Name "zip" p) [e, e2] [] pos) (agA zipG fs) :=
  PI.weak (RZ.pi_zipA hg hm ha hs hpl) fun σ H R ⟨L, C, ρ, Rl, h⟩ => tA_of Rl h fun q vs H1 C1 A1 R1 r1 h1 => by
    obtain ⟨d, e, h2⟩ := wp_ofO (wp_bind.mp h1)
    obtain ⟨ds, ρ1⟩ := q
    rcases zipG_some e with ⟨xs, ys, rfl, rfl⟩ | ⟨xs, ys, rfl, rfl⟩
    · obtain ⟨v, w, rfl, rv, rw⟩ := r1.two
      obtain ⟨a, us, rfl, ha, ca, ra⟩ := rv.lst_inv
      obtain ⟨b, ws, rfl, hb, cb, rb⟩ := rw.lst_inv
      exact ⟨a, b, us, ws, rfl, .inl ⟨.of ha, .of hb, h2 _ H1 C1 A1 R1 (it_zipL ha ca ra hb cb rb)⟩⟩
    · obtain ⟨v, w, rfl, rv, rw⟩ := r1.two
      obtain ⟨a, us, rfl, ha, ra⟩ := rv.tup_inv
      obtain ⟨b, ws, rfl, hb, rb⟩ := rw.tup_inv
      exact ⟨a, b, us, ws, rfl, .inr ⟨ha, hb, h2 _ H1 C1 A1 R1 (it_zipT ha ra hb rb)⟩⟩
def enumG : List D → Option (List D)
  | [.list xs] => some (enumD xs)
  | _ => none
theorem di_enum (hg : Gl X "enumerate") (hm : X.mg "enumerate" = none) (ha : DA X np EW [e] fs) (hs : starEach [e] X.env = [(false, eval e X.env)] := by rfl) : DI X np EW (.Tuple elts kk tpos) (.Call (.Name "enumerate" p) [e] [] pos) (agA enumG fs) :=
  PI.weak (pi_enum hg hm ha hs) fun σ H R ⟨L, C, ρ, Rl, h⟩ => tA_of Rl h fun q vs H1 C1 A1 R1 r1 h1 => by
    obtain ⟨d, e, h2⟩ := wp_ofO (wp_bind.mp h1)
    obtain ⟨ds, ρ1⟩ := q
    unfold enumG at e
    split at e
    · rename_i xs he
      have he' : ds = [.list xs] := he
      subst he'
      cases e
      obtain ⟨v, rfl, rv⟩ := r1.one
      obtain ⟨a, us, rfl, ha, ca, ra⟩ := rv.lst_inv
      exact ⟨a, us, rfl, .of ha, h2 _ H1 C1 A1 R1 (it_enum ha ca ra)⟩
    · cases e

/-! ### xs[i] = e, xs[i] op= e, of the list at slot j -/
theorem ixN_set {us : List V} {ds : List D} {K : PySem.W.Frag} {H : Hp} {P : Addr → Prop} (r : RpA K H P us ds) {k : Int} {n : Nat} (h : ixN ds.length k = some n) : ixN us.length k = some n := by rw [r.len]; exact h
def stS (j : Nat) (fe fi : ES) : SS := fun ρ => if isOw ρ[j]? then (fe .va ρ).to fun p => (fi .va p.2).to fun q => (isI q.1).to fun k => owA q.2[j]? fun ds => match ixN ds.length k with
  | some n => .nx (q.2.set j (.ow (ds.set n p.1)))
  | none => .bad
  else .bad
theorem va_imp {K : PySem.W.Frag} {H : Hp} {C : Col} {v : V} {d : D} (r : Rp K H (Cof C .va) v d) : Rp K H (fun b => C b = 0) v d := r.imp fun b hb => by
  have h : Lv.va.okb (C b) = true := hb
  simpa [Lv.okb] using h
theorem owm_pre2 {K : PySem.W.Frag} {H : Hp} {C : Col} {σ : L2.St} {ρ : Slots} {j : Nat} {Dn : Ends} {r : Fl} (R : Rel K np H C σ ρ) (h : pst K np EW Dn H C (if isOw ρ[j]? then r else .bad)) :
    ∃ a, σ[j]? = some (some (V.ref a)) ∧ pst K np EW Dn H C r := let ⟨a, _, h1, _, h3⟩ := owm_pre R h; ⟨a, h1, h3⟩
theorem ds_sub (j : Nat) {i : Expr} {fi : ES} {x : Str} {px tpos : Pos} (hj : PE X (.Name x px) (tVar j)) (h : DE X np EW e fe) (hi : DE X np EW i fi)
    (ha : ∀ v, assign (.Subscript (.Name x px) i tpos) X.env v = (do
      let ov ← holding [v] (eval (.Name x px) X.env)
      let iv ← holding [v, ov] (eval i X.env)
      standAt tpos
      holding [v, ov, iv] (setItem ov iv v)
      release [v, ov, iv] []) := by intro _; rfl) (hs : swapsWithSole [.Subscript (.Name x px) i tpos] e pos.line X.env = pure false := by rfl) (hw : swappedStores [.Subscript (.Name x px) i tpos] e X.env = pure none := by rfl)
    (h1 : (assignEach [.Subscript (.Name x px) i tpos] X.env).map (·.2) = [assign (.Subscript (.Name x px) i tpos) X.env] := by rfl) : DS X np EW (.Assign [.Subscript (.Name x px) i tpos] e pos) (stS j fe fi) :=
  PS.weak (ps_asg h (pg_sub hj hi set_list ha) hs hw h1) fun Dn σ H ⟨C, ρ, R, h⟩ => by
    obtain ⟨a, hs, h⟩ := owm_pre2 R h
    refine toE_of (L := .va) R h fun p v H1 C1 A1 R1 r1 q1 => ⟨.ref a, hs, toE_of (L := .va) R1 q1 fun q w H2 C2 A2 R2 r2 q2 => ?_⟩
    obtain ⟨dq, ρ2⟩ := q
    cases dq with
    | int k =>
      obtain rfl := r2.int_inv
      obtain ⟨ds, e, q3⟩ := owA_of (show pst X.K np EW Dn H2 C2 (owA ρ2[j]? fun ds => match ixN ds.length k with
        | some n => .nx (ρ2.set j (.ow (ds.set n p.1)))
        | none => .bad) from q2)
      obtain ⟨a', us, hs', ha', hc', rr⟩ := ow_get R2 e
      rw [hs] at hs'; cases hs'
      cases en : ixN ds.length k with
      | none => simp only [en] at q3; exact q3.elim
      | some n =>
        simp only [en] at q3
        refine ⟨a, us, k, n, rfl, rfl, ha', ixN_set rr en, ?_⟩
        obtain ⟨S, R3⟩ := ow_upd R2 ⟨ds, e⟩ hs ha' hc' (rr.set n (va_imp (A2.rp r1)))
        exact q3 _ _ _ S R3
    | _ => exact q2.elim
/-- list items by a place from 0 on -/
def rGetL (K : PySem.W.Frag) : V → V → Hp → VK → Prop := fun x y H Q => ∃ p xs i v, x = .ref p ∧ y = .int i ∧ SqL K H p xs ∧ 0 ≤ i ∧ xs[i.toNat]? = some v ∧ Q v H
theorem get_list : PGet X (rGetL X.K) := by
  intro pins s σ H o i ov iv Q I ro ri h
  obtain ⟨a, xs, k, v, rfl, rfl, hq, h0, hv, q⟩ := h
  cases ro
  obtain ⟨t, rfl⟩ := ri
  obtain ⟨its, r, pl, hz⟩ := I.list hq
  obtain ⟨u, hu, ru⟩ := r.get hv
  have hlt : k.toNat < its.length := (List.getElem?_eq_some_iff.mp hu).1
  have hl := r.length
  have hn := line63
  exact wpAny_getItem_list pl.isList h0 (by omega) (by simpa using hu) ⟨v, H, I, ru, q⟩
def ipAdd (f : Int → Int → Int) : D → D → Option D
  | .int i, .int j => some (.int (f i j))
  | _, _ => none
def auS (j : Nat) (f : Int → Int → Int) (fi fe : ES) : SS := fun ρ => if isOw ρ[j]? then (fi .va ρ).to fun q => (isI q.1).to fun k => owA q.2[j]? fun ds => if 0 ≤ k then (match ds[k.toNat]? with
  | some old => (fe .va q.2).to fun p => owA p.2[j]? fun ds2 => match ipAdd f old p.1 with
    | some new => if k.toNat < ds2.length then .nx (p.2.set j (.ow (ds2.set k.toNat new))) else .bad
    | none => .bad
  | none => .bad) else .bad else .bad
theorem ds_aug (j : Nat) {op : Operator} {f : Int → Int → Int} {i : Expr} {fi : ES} {x : Str} {px tpos : Pos} (hp : PIp X op (ipI f)) (hj : PE X (.Name x px) (tVar j)) (hi : DE X np EW i fi) (h : DE X np EW e fe)
    (ha : ∀ ov iv new, augStore i ov iv new = (do holding [new, ov, iv] (setItem ov iv new); release [new, ov, iv] []; pure .next) := by intros; rfl) : DS X np EW (.AugAssign (.Subscript (.Name x px) i tpos) op e pos) (auS j f fi fe) :=
  PS.weak (ps_augS hj hi get_list h hp set_list ha) fun Dn σ H ⟨C, ρ, R, h⟩ => by
    obtain ⟨a, hs, h⟩ := owm_pre2 R h
    refine ⟨.ref a, hs, toE_of (L := .va) R h fun q w H2 C2 A2 R2 r2 q2 => ?_⟩
    obtain ⟨dq, ρ2⟩ := q
    cases dq with
    | int k =>
      obtain rfl := r2.int_inv
      obtain ⟨ds, e, q3⟩ := owA_of (show pst X.K np EW Dn H2 C2 (owA ρ2[j]? fun ds => if 0 ≤ k then (match ds[k.toNat]? with
        | some old => (fe .va ρ2).to fun p => owA p.2[j]? fun ds2 => match ipAdd f old p.1 with
          | some new => if k.toNat < ds2.length then .nx (p.2.set j (.ow (ds2.set k.toNat new))) else .bad
          | none => .bad
        | none => .bad) else .bad) from q2)
      obtain ⟨a', us, hs', ha', hc', rr⟩ := ow_get R2 e
      rw [hs] at hs'; cases hs'
      by_cases h0 : 0 ≤ k
      · rw [if_pos h0] at q3
        cases eo : ds[k.toNat]? with
        | none => simp only [eo] at q3; exact q3.elim
        | some old =>
          simp only [eo] at q3
          obtain ⟨vo, hvo, rvo⟩ := rr.get eo
          refine ⟨a, us, k, vo, rfl, rfl, .of ha', h0, hvo, toE_of (L := .va) R2 q3 fun p y H3 C3 A3 R3 r3 q4 => ?_⟩
          obtain ⟨ds2, e3, q5⟩ := owA_of q4
          obtain ⟨a3, us3, hs3, ha3, hc3, rr3⟩ := ow_get R3 e3
          rw [hs] at hs3; cases hs3
          cases en : ipAdd f old p.1 with
          | none => simp only [en] at q5; exact q5.elim
          | some new =>
            simp only [en] at q5
            obtain ⟨dp, ρ3⟩ := p
            cases old <;> cases dp <;> simp only [ipAdd, reduceCtorEq] at en
            cases en
            obtain rfl := rvo.int_inv
            obtain rfl := r3.int_inv
            refine ⟨_, _, rfl, rfl, ?_⟩
            by_cases hl : k.toNat < ds2.length
            · rw [if_pos hl] at q5
              refine ⟨a, us3, k, k.toNat, rfl, rfl, ha3, ?_, ?_⟩
              · unfold ixN
                rw [if_pos h0, if_pos (by rw [rr3.len]; omega)]
              · obtain ⟨S, R5⟩ := ow_upd R3 ⟨ds2, e3⟩ hs ha3 hc3 (rr3.set k.toNat (.int _))
                exact q5 _ _ _ S R5
            · rw [if_neg hl] at q5; exact q5.elim
      · rw [if_neg h0] at q3; exact q3.elim
    | _ => exact q2.elim

/-! ### xs.pop(i) -/
def poE (j : Nat) (fi : ES) : ES := fun L ρ => if !L.pure && isOw ρ[j]? then (fi .va ρ).bind fun q => (isI q.1).bind fun k => match q.2[j]? with
  | some (.ow ds) => if inB 0 (2 ^ 63) k then (match ds[k.toNat]? with
    | some d => .ok (d, q.2.set j (.ow (ds.eraseIdx k.toNat)))
    | none => .bad) else .bad
  | _ => .bad
  else .bad
theorem de_pop (j : Nat) {i : Expr} {fi : ES} {x : Str} {px apos cpos : Pos} (hj : PE X (.Name x px) (tVar j)) (hi : DE X np EW i fi)
    (hpe : ∀ {t : TE}, PE X i t → PE X (.Call (.Attribute (.Name x px) "pop" apos) [i] [] cpos) (tBM X.K "list" rPopAt (tVar j) (tCons t tNil))) :
    DE X np EW (.Call (.Attribute (.Name x px) "pop" apos) [i] [] cpos) (poE j fi) :=
  PE.weak (hpe hi) fun σ H Q ⟨L, C, ρ, R, h⟩ => by
    unfold poE at h
    by_cases hL : (!L.pure && isOw ρ[j]?) = true
    · rw [if_pos hL] at h
      rw [Bool.and_eq_true] at hL
      have hLp : L.pure = false := by simpa using hL.1
      obtain ⟨ds0, e0⟩ := isOw_get hL.2
      obtain ⟨a, us, hs, ha, _, _⟩ := ow_get R e0
      refine ⟨.ref a, hs, .inl ⟨rfl, _, .inl (.inl ha)⟩, tE_of (L := .va) R h fun q w H2 C2 A2 R2 r2 q2 => ?_⟩
      obtain ⟨dq, ρ2⟩ := q
      cases dq with
      | int k =>
        obtain rfl := r2.int_inv
        simp only [isI, bind_ok] at q2
        cases e : ρ2[j]? with
        | none => simp only [e] at q2; exact q2.elim
        | some s =>
          cases s with
          | ow ds =>
            simp only [e] at q2
            by_cases hk : inB 0 (2 ^ 63) k = true
            · simp only [hk, if_true] at q2
              simp only [inB_eq, Bool.and_eq_true, decide_eq_true_eq] at hk
              cases ed : ds[k.toNat]? with
              | none => simp only [ed] at q2; exact q2.elim
              | some d =>
                simp only [ed] at q2
                obtain ⟨a', us', hs', ha', hc', rr⟩ := ow_get R2 e
                rw [hs] at hs'; cases hs'
                obtain ⟨v, hv, rv⟩ := rr.get ed
                have hlt : k.toNat < us'.length := (List.getElem?_eq_some_iff.mp hv).1
                refine ⟨a, us', k, k.toNat, v, rfl, rfl, ha', by omega, hk.2, PySem.StrLaws.seqIndex_nonneg hk.1 (by omega), hv, ?_⟩
                obtain ⟨S, R3⟩ := ow_upd R2 ⟨ds, e⟩ hs ha' hc' (rr.erase k.toNat)
                refine q2 v _ C2 ⟨A2.stp.trans S, fun z => by rw [hLp] at z; cases z⟩ R3 ?_
                have ne_a : ∀ b, C2 b = 0 → b ≠ a := fun b h z => by subst z; omega
                exact rv.move (fun b xs hb h => ⟨by rw [upd_ne (ne_a b hb)]; exact h, by unfold Cof; rw [hb]; exact L.ok0⟩) fun b o h im => by
                  rw [upd_ne (fun z => by subst z; rw [ha'] at h; cases h; exact im)]; exact h
            · simp only [hk] at q2; exact q2.elim
          | _ => simp only [e] at q2; exact q2.elim
      | _ => exact q2.elim
    · rw [if_neg hL] at h; exact h.elim

/-! ### the script -/
def slenE (j : Nat) : ES := fun _ ρ => match ρ[j]? with
  | some (.sc ns) => .ok (.int ns.length, ρ)
  | _ => .bad
def sixE (j : Nat) (fi : ES) : ES := fun L ρ => match ρ[j]? with
  | some (.sc ns) => (fi L ρ).bind fun q => match q.1 with
    | .int k => if 0 ≤ k then (match ns[k.toNat]? with | some n => .ok (.int n, q.2) | none => .bad) else .bad
    | _ => .bad
  | _ => .bad
theorem sc_get {K : PySem.W.Frag} {H : Hp} {C : Col} {σ : L2.St} {ρ : Slots} {j : Nat} {ns : List Int} (R : Rel K np H C σ ρ) (e : ρ[j]? = some (.sc ns)) : ∃ a, σ[j]? = some (some (.ref a)) ∧ SqF K H a (ns.map V.int) := by
  have r := R.get j _ e
  generalize σ[j]? = o at r
  cases r with
  | sc h => exact ⟨_, rfl, h⟩
theorem de_slen (j : Nat) {x : Str} {px : Pos} (hg : Gl X "len") (hm : X.mg "len" = none) (hj : PE X (.Name x px) (tVar j)) : DE X np EW (.Call (.Name "len" p) [.Name x px] [] pos) (slenE j) :=
  PE.weak (pe_callB call_len hg hm PySem.boot_len (pa_cons hj pa_nil)) fun σ H Q ⟨L, C, ρ, R, h⟩ => by
    unfold slenE at h
    cases e : ρ[j]? with
    | none => rw [e] at h; exact h.elim
    | some s =>
      rw [e] at h
      cases s with
      | sc ns =>
        obtain ⟨a, hs, ha⟩ := sc_get R e
        exact ⟨.ref a, hs, .ref a, ns.length, rfl, .inl ⟨_, ha.sq, by rw [List.length_map]⟩, h _ H C .refl R (.int _)⟩
      | _ => exact h.elim
theorem de_six (j : Nat) {i : Expr} {fi : ES} {x : Str} {px : Pos} (hj : PE X (.Name x px) (tVar j)) (hi : DE X np EW i fi) (hs : PlainIx i := by exact fun _ _ => rfl) : DE X np EW (.Subscript (.Name x px) i pos) (sixE j fi) :=
  PE.weak (pe_ix ix_list hj hi hs) fun σ H Q ⟨L, C, ρ, R, h⟩ => by
    unfold sixE at h
    cases e : ρ[j]? with
    | none => rw [e] at h; exact h.elim
    | some s =>
      rw [e] at h
      cases s with
      | sc ns =>
        obtain ⟨a, hs, ha⟩ := sc_get R e
        refine ⟨.ref a, hs, tE_of R h fun q w H2 C2 A2 R2 r2 q2 => ?_⟩
        obtain ⟨dq, ρ2⟩ := q
        cases dq with
        | int k =>
          obtain rfl := r2.int_inv
          simp only at q2
          by_cases h0 : 0 ≤ k
          · rw [if_pos h0] at q2
            cases en : ns[k.toNat]? with
            | none => simp only [en] at q2; exact q2.elim
            | some n =>
              simp only [en] at q2
              have ha2 : SqL X.K H2 a (ns.map V.int) := by
                refine SqF.sq ?_
                rcases ha with ⟨o, ha⟩ | ha
                · exact .inl ⟨o, A2.stp.keep _ _ ha (.inr trivial)⟩
                · exact .inr ha
              refine ⟨a, ns.map V.int, k, .int n, rfl, rfl, ha2, ?_, q2 _ H2 C2 A2 R2 (.int _)⟩
              have := atI_nat (xs := ns.map V.int) (j := k.toNat) (v := .int n) (by rw [List.getElem?_map, en]; rfl)
              rwa [Int.toNat_of_nonneg h0] at this
          · rw [if_neg h0] at q2; exact q2.elim
        | _ => exact q2.elim
      | _ => exact h.elim
/-! ### what is made anew is x's alone, with all that lies within -/
def boAll : Slots → Slots := List.map fun s => match s with
  | .va d => .bo d
  | .ow _ => .no
  | .ob _ _ => .no
  | .dc _ => .no
  | s => s
def unS (np i : Nat) (fe : ES) : SS := fun ρ => if np ≤ i then (fe .fr (boAll ρ)).to fun p => .nx (ρ.set i (.un p.1)) else .bad
theorem rel_boAll {K : PySem.W.Frag} {H : Hp} {C : Col} {σ : L2.St} {ρ : Slots} (R : Rel K np H C σ ρ) : Rel K np H (fun b => match H b with | none => 0 | some _ => if C b = 0 then 1 else C b) σ (boAll ρ) := by
  refine ⟨by unfold boAll; rw [List.length_map]; exact R.len, fun i s e => ?_⟩
  unfold boAll at e
  rw [List.getElem?_map] at e
  have tr : ∀ b xs, H b = some (.lst xs) → (match H b with | none => 0 | some _ => if C b = 0 then 1 else C b) = (if C b = 0 then 1 else C b) := fun b xs h => by rw [h]
  cases e2 : ρ[i]? with
  | none => rw [e2] at e; cases e
  | some s0 =>
    rw [e2] at e
    have r := R.get i s0 e2
    generalize σ[i]? = o at r ⊢
    cases r with
    | no => cases e; exact .no
    | va r => cases e; exact .bo (r.move (fun b xs hb h => ⟨h, by rw [tr b xs h, if_pos hb]; exact Nat.le_refl _⟩) fun _ _ h _ => h)
    | bo r => cases e; exact .bo (r.move (fun b xs hb h => ⟨h, by rw [tr b xs h]; split <;> omega⟩) fun _ _ h _ => h)
    | ow h c r pn => cases e; exact .no
    | un r => cases e; exact .un (r.move (fun b xs hb h => ⟨h, by rw [tr b xs h, if_neg (by omega)]; exact hb⟩) fun _ _ h _ => h)
    | sc h => cases e; exact .sc h
    | ob _ _ _ _ _ => cases e; exact .no
    | dc _ _ _ _ => cases e; exact .no
theorem ds_un {i : Nat} {x : Str} {pos' : Pos} (hN : X.N.Nodup) (hi : X.N[i]? = some x) (hx : Loc X.env.scope x) (h : DE X np EW e fe) (hs : swapsWith e (some (.Name x pos')) pos.line X.env = pure false := by rfl)
    (hf : X.fn x = true ∨ X.env.scope.names.lookup x = some .local := by first | exact .inl rfl | exact .inr rfl | assumption) : DS X np EW (.Assign [.Name x pos'] e pos) (unS np.n i fe) :=
  PS.weak (ps_set hN hi hx h hs hf) fun Dn σ H ⟨C, ρ, R, h⟩ => by
    unfold unS at h
    by_cases hn : np.n ≤ i
    · rw [if_pos hn] at h
      have tr : ∀ b, H b ≠ none → (match H b with | none => 0 | some _ => if C b = 0 then 1 else C b) = (if C b = 0 then 1 else C b) := fun b hb => by
        obtain ⟨o, ho⟩ := ne_some hb
        rw [ho]
      refine ⟨.fr, _, boAll ρ, rel_boAll R, ?_⟩
      cases e : fe .fr (boAll ρ) with
      | bad => rw [e] at h; exact h.elim
      | ex c =>
        rw [e] at h
        intro H' C' S
        refine h H' (fun b => match H b with | none => 0 | some _ => if C b = 0 then 0 else C' b) ⟨fun b x hb k => S.keep b x hb ?_, S.there, fun b hb hc => ?_, fun b hb hc => ?_⟩
        · rcases k with k | k
          · left; rw [tr b (by rw [hb]; simp)]; split <;> omega
          · exact .inr k
        · obtain ⟨o, ho⟩ := ne_some hb
          simp only [ho]
          by_cases z : C b = 0
          · rw [if_pos z, z]
          · rw [if_neg z]
            have := S.colo b hb (by rw [tr b hb, if_neg z]; exact hc)
            rw [this, tr b hb, if_neg z]
        · obtain ⟨o, ho⟩ := ne_some hb
          simp only [ho]
          have z : ¬ C b = 0 := by omega
          rw [if_neg z]
          have := S.colh b hb (by rw [tr b hb, if_neg z]; exact hc)
          exact this
      | ok p =>
        rw [e] at h
        intro v H' C' A _ r
        obtain ⟨_, P⟩ := A.pu rfl
        have old : ∀ b, C' b = 0 → H b = none := fun b hb => by
          cases q : H b with
          | none => rfl
          | some o =>
            have h1 := P.col b (by rw [q]; simp)
            rw [tr b (by rw [q]; simp)] at h1
            split at h1 <;> omega
        have S : PStp H C H' (fun b => match H b with | none => i + 3 | some _ => C b) := ⟨P.same, fun b hb => by
          obtain ⟨o, ho⟩ := ne_some hb
          simp only [ho]⟩
        refine h _ H' _ S.stp ((R.pstp S).set (.un (r.imp fun b hb => ?_)))
        have hb' : Lv.fr.okb (C' b) = true := hb
        have hb2 : C' b = 0 := by simpa [Lv.okb] using hb'
        show (match H b with | none => i + 3 | some _ => C b) = i + 3
        rw [old b hb2]
    · rw [if_neg hn] at h; exact h.elim
end
end
end Dm

namespace Dm
noncomputable section
open PySem PySem.Spec PyProof.Rows L2

/-! ### the law's own end -/
section
variable {P : Program} {w : World} {K : PySem.W.Frag} {mg mb : Str → Option Value}
/-- nothing is tracked but the script at a, if that is none of the module's own -/
structure Sc0 (P : Program) (w : World) (K : PySem.W.Frag) (h : Heap) (a : Addr) (ns : List Int) (H : Hp) : Prop where
  one : ∀ b, H b ≠ none → b = a ∧ K.lookup a = none
  frz : ∀ b o, H b = some o → ∃ ob xs, o = .frz ob (.lst xs)
  sq : SqF K H a (ns.map V.int)
  ok : HOk P w H h
theorem sc0 {h : Heap} {a : Addr} {vs : List Value} {ns : List Int} (kin : K.In h) (ha : h.get? a = some { cls := .type "list", data := .seq vs.toArray }) (hi : IntsAre vs ns) (hl : ns.length ≤ sizeLine) : ∃ H, Sc0 P w K h a ns H := by
  have rv := vals_ints hi
  have ln := hi.length
  cases hk : K.lookup a with
  | some o =>
    have e : h.get? a = some o := kin a o hk
    rw [ha] at e; cases e
    exact ⟨fun _ => none, { one := fun b z => absurd rfl z, frz := fun b o z => (nomatch (show (none : Option HO) = some o from z)), sq := .inr ⟨_, vs.toArray, 0, hk, rfl, rfl, rfl, by rw [List.size_toArray, ln]; exact hl, by simpa using rv⟩, ok := fun b o z => (nomatch (show (none : Option HO) = some o from z)) }⟩
  | none =>
    let fo : HO := .frz { cls := .type "list", data := .seq vs.toArray } (.lst (ns.map V.int))
    have off : ∀ b, b ≠ a → upd (fun _ => none) a fo b = none := fun b z => upd_ne z
    refine ⟨upd (fun _ => none) a fo, { one := fun b z => ⟨Classical.byContradiction fun q => z (off b q), hk⟩, frz := fun b o z => ?_, sq := .inl ⟨_, upd_same⟩, ok := fun b u z => ?_ }⟩
    · by_cases q : b = a
      · subst q; rw [upd_same] at z; cases z; exact ⟨_, _, rfl⟩
      · rw [off b q] at z; cases z
    · by_cases q : b = a
      · subst q; rw [upd_same] at z; cases z
        exact ⟨ha, by rw [List.length_map]; exact hl, vs, 0, rv, ha⟩
      · rw [off b q] at z; cases z
theorem g_call {Xc : CXT} {k : Nat} {fa a : Addr} {fd : FuncData} {x : Str} {sp : Sp} {s : Shared} {vs : List Value} {ns : List Int} (kin : K.In s.heap) (gl : s.heap.Ns mainGlobals mg) (bl : s.heap.Ns builtinsNs mb) (bb : ∀ y : Str, y ≠ "__name__" → mb y = bootBuiltins y)
    (lim : s.heap.NoLimit) (hg : s.gens = #[]) (ha : s.heap.get? a = some { cls := .type "list", data := .seq vs.toArray }) (hi : IntsAre vs ns) (hl : ns.length ≤ sizeLine) (room : Room k callerA)
    (F : ∀ b : Heap, K.In b → b.Ns mainGlobals mg → GFn P w K mg b Xc k fa fd [x] sp) (hbind : ∀ (s : Shared) (u : Value), BindsTo s fd ⟨[u], []⟩ [(x, u)])
    (hsp : ∀ H : Hp, SqF K H a (ns.map V.int) → sp [.ref a] H (fun v _ => v = .bl true) fun _ _ _ => False) (hx : ∀ H e s', ¬ Xc [] H s (fun _ _ _ => False) e s') :
    codeAny (model P w) callerA (.call (.ref fa) ⟨[.ref a], []⟩) (fun r s' => r = .ok (.ret (.bool true)) ∧ OldK s.heap s'.heap ∧ s'.os = s.os ∧ AllBare s'.gens) s := by
  obtain ⟨H, S⟩ := sc0 (P := P) (w := w) kin ha hi hl
  -- the base: the heap without the script
  have bget : ∀ {b o}, s.heap.get? b = some o → H b = none → (hidT s.heap H).get? b = some o := fun e n => hidT_get e n
  have dicts : ∀ {b : Addr} {o : Obj} {es : Array DictEntry} {ep : Nat}, s.heap.get? b = some o → o.data = .dict es ep → H b = none := by
    intro b o es ep e d
    cases q : H b with
    | none => rfl
    | some u =>
      obtain ⟨z, _⟩ := S.one b (by rw [q]; simp)
      subst z
      rw [ha] at e; cases e
      exact nomatch (show Data.seq vs.toArray _ = Data.dict es ep from d)
  have ns : ∀ {b : Addr} {m : Str → Option Value}, s.heap.Ns b m → (hidT s.heap H).Ns b m := by
    rintro b m ⟨o, es, ep, e, d, r⟩
    exact ⟨o, es, ep, bget e (dicts e d), d, r⟩
  have kb : K.In (hidT s.heap H) := by
    intro b o e
    refine bget (kin b o e) ?_
    cases q : H b with
    | none => rfl
    | some u =>
      obtain ⟨z, z2⟩ := S.one b (by rw [q]; simp)
      subst z
      rw [z2] at e; cases e
  obtain ⟨mc, c1, c2⟩ := lim
  have md : Mod K mg (hidT s.heap H) := ⟨kb, ns gl, ⟨mb, ns bl, bb⟩, ⟨mc, ns c1, c2⟩⟩
  have e0 : Env0 P w K mg (hidT s.heap H) callerA [] s H :=
    { frames := rfl, mod := md, bs := fun b o e => of_hidT e, bsz := Nat.le_of_eq (hidT_size _ _), funs := trivial, frf := fun b hb => (by simp [frs] at hb), hok := S.ok, bare := .of_eq hg }
  refine codeAny_mono ((F _ kb (ns gl)).run callerA [] s H ⟨[.ref a], []⟩ [.ref a] [.ref a] _ _ room rfl e0 (hbind s (.ref a)) (.cons rfl .nil) (hsp H S.sq)) fun r s' q => ?_
  cases r with
  | error e => exact (hx H e s' q).elim
  | ok fl =>
    cases fl with
    | ret u =>
      obtain ⟨v, H', os, bare, un, ok', rv, qv⟩ := q
      have qv' : v = .bl true := qv
      subst qv'
      have hu : u = Value.bool true := rv
      subst hu
      refine ⟨rfl, OldK.of_keep fun b o e => ?_, os, bare⟩
      cases q : H b with
      | none => exact un.keep b o e q (by simp [frs]) (by simp)
      | some uo =>
        obtain ⟨ob, xs, rfl⟩ := S.frz b uo q
        have z := (S.ok b _ q).1
        rw [e] at z; cases z
        exact (ok' b _ (un.frzs b _ _ q)).1
    | next => exact False.elim q
    | brk => exact False.elim q
    | cont => exact False.elim q
end
/-- the law's row, by what its def computes -/
theorem g_walk {l : PySem.W.OpenLaw} {n k m : Nat} {q : Program} {loose : List Str} {XP : (Str → Option Value) → Heap → Prop} {YP : World → Heap → Prop} {d : DefRec} {K : Params → PySem.W.Frag} {x : Str} {F : SS}
    (hn : l.most = some n) (hn2 : n ≤ sizeLine) (hdf : d.params.defaults = []) (hr : Room k callerA) (hY : ∀ (w : World) (h : Heap), YP w h → (K w.params).In h)
    (hF : ∀ (w : World) (mg : Str → Option Value) (fa : Addr) (h : Heap), (K w.params).In h → h.Ns mainGlobals mg → mg d.name = some (.ref fa) →
      ∃ fd : FuncData, (∀ (s : Shared) (u : Value), BindsTo s fd ⟨[u], []⟩ [(x, u)]) ∧ ∀ base : Heap, (K w.params).In base → base.Ns mainGlobals mg → GFn l.prog w (K w.params) mg base CX0 k fa fd [x] (spG (K w.params) (fun _ _ _ => False) 1 (bodyF m F)))
    (hm : ∀ ns : List Int, ns.length ≤ n → (∀ z ∈ ns, Builtin.Int.intBits z ≤ 1048576) → ∃ ρ, bodyF m F [.sc ns] = .ok (.bool true, ρ)) :
    PySem.W.WalkO q loose XP YP l.row.toRowW d [] (fun f vs => PySem.call f vs) := by
  refine Att.attach_callB hn hdf fun w s0 s mg mb fa o pm cd doc a vs ns G Y ho hd hcd hmg hobj hints hlen hbits hgen => ?_
  have kin := hY w _ Y
  obtain ⟨fd, hb, hF⟩ := hF w mg fa _ kin G.T.g hmg
  refine g_call kin G.T.g G.T.b G.T.builtins G.T.nolimit hgen hobj hints (Nat.le_trans hlen hn2) hr hF hb (fun H sq => ?_) fun H e s' z => z
  obtain ⟨ρ, e⟩ := hm ns hlen hbits
  refine ⟨rfl, colIn H, ⟨1, fun _ => 0⟩, [.sc ns], rfl, ⟨rfl, fun i s es => ?_⟩, fun b hb => ?_, ?_⟩
  · cases i with
    | zero => cases es; exact .sc sq
    | succ i => simp at es
  · obtain ⟨o, ho⟩ := ne_some hb
    rw [colIn_some ho]; omega
  · rw [e]
    exact fun v H' C' _ _ rv => rv.bl_inv
end
end Dm

namespace Dm
noncomputable section
open PySem PySem.Spec PyProof.Rows L2

/-! ### the same without effects -/
def Lv.toP : Lv → Lv
  | .va => .vp
  | .bo => .bp
  | L => L
theorem toP_okb (L : Lv) (c : Nat) : L.toP.okb c = L.okb c := by cases L <;> rfl
theorem toP_pure (L : Lv) : L.toP.pure = true := by cases L <;> rfl
def lvE (f : ES) : ES := fun L ρ => f L.toP ρ
def lvA (f : AS) : AS := fun L ρ => f L.toP ρ
theorem cof_toP {C : Col} {L : Lv} : Cof C L.toP = Cof C L := by funext b; unfold Cof; rw [toP_okb]
section
variable {X : Cx} {np : Fp} {EW : XW} {e : Expr} {fe : ES} {p pos : Pos}
theorem Aft.ofP {L : Lv} {ρ ρ1 : Slots} {H H1 : Hp} {C C1 : Col} (a : Aft np L.toP ρ H C ρ1 H1 C1) : Aft np L ρ H C ρ1 H1 C1 := ⟨a.stp, fun _ => a.pu (toP_pure L)⟩
theorem de_lv (h : DE X np EW e fe) : DE X np EW e (lvE fe) := PE.weak h fun σ H Q ⟨L, C, ρ, R, h⟩ =>
  ⟨L.toP, C, ρ, R, wp_mono h (fun p _ hp v H' C' A R' r => hp v H' C' A.ofP R' (by rw [← cof_toP]; exact r)) fun c z => z⟩
theorem tN_lv {K : PySem.W.Frag} {f : AS} {σ : L2.St} {H : Hp} {Q : VK} (h : tN K np EW (lvA f) σ H Q) : tN K np EW f σ H Q := by
  obtain ⟨L, C, ρ, R, h⟩ := h
  exact ⟨L.toP, C, ρ, R, wp_mono h (fun p _ hp t vs H' C' A R' ht r => hp t vs H' C' A.ofP R' ht (by rw [← cof_toP]; exact r)) fun c z => z⟩
theorem dn_lv {f : AS} (h : DN X np EW e f) : DN X np EW e (lvA f) := PE.weak h fun σ H Q => tN_lv
/-! int(x) -/
def intG : List D → Option D
  | [.int i] => some (.int i)
  | [.bool b] => some (.int (if b then 1 else 0))
  | _ => none
theorem cs_int {K : PySem.W.Frag} : CallS K (fun xs H Q => (∃ i, xs = [.int i] ∧ Q (.int i) H) ∨ ∃ k, xs = [.bl k] ∧ Q (.int (if k then 1 else 0)) H) intG := by
  intro H C L vs ds d Q r e q
  unfold intG at e
  split at e
  · cases e
    obtain ⟨v, rfl, rv⟩ := r.one
    obtain rfl := rv.int_inv
    exact .inl ⟨_, rfl, q _ H C .refl (.int _)⟩
  · cases e
    obtain ⟨v, rfl, rv⟩ := r.one
    obtain rfl := rv.bl_inv
    exact .inr ⟨_, rfl, q _ H C .refl (.int _)⟩
  · cases e
/-! x += e at a name -/
def agS (i : Nat) (f : Int → Int → Int) (fe : ES) : SS := fun ρ => match ρ[i]? with
  | some (.va (.int a)) => (fe .an ρ).to fun p => (isI p.1).to fun b => .nx (p.2.set i (.va (.int (f a b))))
  | _ => .bad
theorem ds_agn {i : Nat} {x : Str} {op : Operator} {f : Int → Int → Int} {pos' : Pos} (ho : PIp X op (ipI f)) (hN : X.N.Nodup) (hi : X.N[i]? = some x) (hx : Loc X.env.scope x) (h : DE X np EW e fe)
    (hf : X.fn x = true ∨ X.env.scope.names.lookup x = some .local := by first | exact .inl rfl | exact .inr rfl | assumption) : DS X np EW (.AugAssign (.Name x pos') op e pos) (agS i f fe) :=
  PS.weak (ps_aug hN hi hx h ho hf) fun Dn σ H ⟨C, ρ, R, h⟩ => by
    unfold agS at h
    cases e1 : ρ[i]? with
    | none => rw [e1] at h; exact h.elim
    | some s =>
      rw [e1] at h
      have r := R.get i s e1
      cases s with
      | va d =>
        cases d with
        | int a =>
          generalize eo : σ[i]? = o at r
          cases r with
          | va r =>
            obtain rfl := r.int_inv
            refine ⟨_, eo, toE_of (L := .an) R h fun p v H' C' A R' rv q => ?_⟩
            obtain ⟨dp, ρ1⟩ := p
            cases dp with
            | int b =>
              obtain rfl := rv.int_inv
              exact ⟨a, b, rfl, rfl, q _ H' C' .refl (R'.set (.va (.int _)))⟩
            | _ => exact q.elim
        | _ => exact h.elim
      | _ => exact h.elim
end
/-! told.append(e), told.reverse(), told[0].append(e) ..: a list within what is told's alone, plain things around it -/
def unA (o : Option Sl) (k : D → Fl) : Fl := match o with
  | some (.un d) => k d
  | _ => .bad
theorem unA_of {np : Fp} {EW : XW} {o : Option Sl} {k : D → Fl} {K : PySem.W.Frag} {Dn : Ends} {H : Hp} {C : Col} (h : pst K np EW Dn H C (unA o k)) : ∃ d, o = some (.un d) ∧ pst K np EW Dn H C (k d) := by
  cases o with
  | none => exact h.elim
  | some s =>
    cases s with
    | un d => exact ⟨d, rfl, h⟩
    | _ => exact h.elim
/-- the list at a, of x's own colour, gets new plain items -/
theorem un_upd {np : Fp} {K : PySem.W.Frag} {H : Hp} {C : Col} {σ : L2.St} {ρ : Slots} {j : Nat} {a : Addr} {us ws : List V} {v : V} {d' : D} (R : Rel K np H C σ ρ) (hj : ∃ d, ρ[j]? = some (.un d)) (hs : σ[j]? = some (some v)) (ha : H a = some (.lst us)) (hc : C a = j + 3)
    (r : Rp K (upd H a (.lst ws)) (fun b => C b = j + 3) v d') (hn : np.n ≤ j) : Stp np H C (upd H a (.lst ws)) C ∧ Rel K np (upd H a (.lst ws)) C σ (ρ.set j (.un d')) := by
  obtain ⟨d0, ej⟩ := hj
  have ne_of_col : ∀ b, C b ≠ j + 3 → b ≠ a := fun b h z => by subst z; exact h hc
  have imm_ne : ∀ {b : Addr} {o : HO}, H b = some o → Imm o → b ≠ a := fun {b o} h i z => by subst z; rw [ha] at h; cases h; exact i
  refine ⟨⟨fun b x h k => ?_, fun b h => ?_, fun _ _ _ => rfl, fun _ _ h => .inr h⟩, ⟨by rw [List.length_set]; exact R.len, fun i s e => ?_⟩⟩
  · rw [upd_ne ?_]; exact h
    rcases k with k | k
    · exact ne_of_col b (by omega)
    · exact imm_ne h k
  · by_cases z : b = a
    · subst z; rw [upd_same]; simp
    · rw [upd_ne z]; exact h
  · by_cases hij : i = j
    · subst hij
      rw [List.getElem?_set_self (List.getElem?_eq_some_iff.mp ej).1] at e
      cases e
      rw [hs]
      exact .un r
    · rw [List.getElem?_set_ne (Ne.symm hij)] at e
      exact (R.get i s e).off hij (fun b xs hb h => ⟨by rw [upd_ne (ne_of_col b hb)]; exact h, rfl⟩) fun b o h im => by rw [upd_ne (imm_ne h im)]; exact h
section
variable {X : Cx} {np : Fp} {EW : XW} {e : Expr} {fe : ES} {p pos : Pos}
/-- a method of a list without arguments, with one: what it makes of the items -/
structure Ml0 (X : Cx) (id : String) (r : V → List V → Hp → VK → Prop) (g : {α : Type} → List α → List α) : Prop where
  mt : MtM X id r
  ok : ∀ (l : Addr) (xs : List V) (H : Hp) (Q : VK), H l = some (.lst xs) → Q .non (upd H l (.lst (g xs))) → r (.ref l) [] H Q
  rp : ∀ {K : PySem.W.Frag} {H : Hp} {P : Addr → Prop} {us : List V} {ds : List D}, RpA K H P us ds → RpA K H P (g us) (g ds)
  no : ∀ ds : List D, noLs ds = true → noLs (g ds) = true
theorem noLs_app (a b : List D) : noLs (a ++ b) = (noLs a && noLs b) := by
  induction a with
  | nil => simp [noLs]
  | cons x r ih => simp [noLs, ih, Bool.and_assoc]
theorem noLs_all (a : List D) : noLs a = a.all noL := by
  induction a with
  | nil => rfl
  | cons x r ih => simp [noLs, ih]
theorem ml_reverse : Ml0 X "list.reverse" rReverse (fun xs => xs.reverse) := ⟨mt_reverse, fun l xs H Q h q => ⟨l, xs, rfl, rfl, h, q⟩, fun r => r.rev, fun ds h => by rw [noLs_all] at h ⊢; rw [List.all_reverse]; exact h⟩
theorem ml_clear : Ml0 X "list.clear" rClear (fun _ => []) := ⟨mt_clear, fun l xs H Q h q => ⟨l, xs, rfl, rfl, h, q⟩, fun _ => .nil, fun _ _ => rfl⟩
/-- told.m() -/
def u0S (np j : Nat) (g : List D → List D) : SS := fun ρ => if np ≤ j then unA ρ[j]? fun d => match d with
  | .list ds => if noLs ds then .nx (ρ.set j (.un (.list (g ds)))) else .bad
  | _ => .bad
  else .bad
theorem rp_plain {K : PySem.W.Frag} {H H' : Hp} {P P' : Addr → Prop} {us : List V} {ds : List D} (r : RpA K H P us ds) (h : noLs ds = true) (hi : ∀ a o, H a = some o → Imm o → H' a = some o) : RpA K H' P' us ds :=
  (r.free (P' := fun _ => False) h).move (fun a xs p _ => p.elim) hi
theorem upd_imm {H : Hp} {a : Addr} {us ws : List V} (ha : H a = some (.lst us)) : ∀ b o, H b = some o → Imm o → upd H a (.lst ws) b = some o := fun b o h i => by
  rw [upd_ne (fun z => by subst z; rw [ha] at h; cases h; exact i)]; exact h
theorem ds_um0 (j : Nat) {id : String} {r : V → List V → Hp → VK → Prop} {g : {α : Type} → List α → List α} {x m : Str} {px apos cpos : Pos} (M : Ml0 X id r g) (hj : PE X (.Name x px) (tVar j))
    (hpe : PE X (.Call (.Attribute (.Name x px) m apos) [] [] cpos) (tBM0 X.K "list" r (tVar j))) (hs : swapsWith (.Call (.Attribute (.Name x px) m apos) [] [] cpos) none pos.line X.env = pure false := by rfl) :
    DS X np EW (.Expr (.Call (.Attribute (.Name x px) m apos) [] [] cpos) pos) (u0S np.n j g) :=
  PS.weak (ps_expr hpe hs) fun Dn σ H ⟨C, ρ, R, h⟩ => by
    unfold u0S at h
    by_cases hn : np.n ≤ j
    · rw [if_pos hn] at h
      obtain ⟨d, e, h⟩ := unA_of h
      have r0 := R.get j _ e
      generalize eo : σ[j]? = o at r0
      cases r0 with
      | un r0 =>
        cases d with
        | list ds =>
          obtain ⟨a, us, rfl, ha, hc, rr⟩ := r0.lst_inv
          by_cases hp : noLs ds = true
          · simp only [hp, if_true] at h
            refine ⟨_, eo, .inl ⟨rfl, _, .inl (.inl ha)⟩, M.ok a us H _ ha ?_⟩
            obtain ⟨S, R2⟩ := un_upd R ⟨_, e⟩ eo ha hc (.lst upd_same hc (rp_plain (M.rp rr) (M.no ds hp) (upd_imm ha))) hn
            exact h _ _ _ S R2
          · simp only [hp] at h; exact h.elim
        | _ => exact h.elim
    · rw [if_neg hn] at h; exact h.elim
/-- told.append(c), c plain -/
def u0A (np j : Nat) (fe : ES) : SS := fun ρ => if np ≤ j then unA ρ[j]? fun d => match d with
  | .list ds => (fe .an ρ).to fun p => if noLs ds && noL p.1 && decide (ds.length < sizeLine) then .nx (ρ.set j (.un (.list (ds ++ [p.1])))) else .bad
  | _ => .bad
  else .bad
theorem ds_uapp (j : Nat) {x : Str} {px apos cpos : Pos} (hj : PE X (.Name x px) (tVar j)) (h : DE X np EW e fe)
    (hpe : ∀ {t : TE}, PE X e t → PE X (.Call (.Attribute (.Name x px) "append" apos) [e] [] cpos) (tBM X.K "list" rAppend (tVar j) (tCons t tNil))) (hs : swapsWith (.Call (.Attribute (.Name x px) "append" apos) [e] [] cpos) none pos.line X.env = pure false := by rfl) :
    DS X np EW (.Expr (.Call (.Attribute (.Name x px) "append" apos) [e] [] cpos) pos) (u0A np.n j fe) :=
  PS.weak (ps_expr (hpe h) hs) fun Dn σ H ⟨C, ρ, R, h⟩ => by
    unfold u0A at h
    by_cases hn : np.n ≤ j
    · rw [if_pos hn] at h
      obtain ⟨d, e, h⟩ := unA_of h
      have r0 := R.get j _ e
      generalize eo : σ[j]? = o at r0
      cases r0 with
      | un r0 =>
        cases d with
        | list ds =>
          obtain ⟨a, us, rfl, ha, hc, rr⟩ := r0.lst_inv
          refine ⟨_, eo, .inl ⟨rfl, _, .inl (.inl ha)⟩, toE_of (L := .an) R h fun p v H' C' A R' rv q => ?_⟩
          obtain ⟨hρ, P⟩ := A.pu rfl
          rw [hρ] at R'
          by_cases hp : (noLs ds && noL p.1 && decide (ds.length < sizeLine)) = true
          · rw [if_pos hp] at q
            simp only [Bool.and_eq_true, decide_eq_true_eq] at hp
            have ha' := P.same _ _ ha
            have hc' : C' a = j + 3 := by rw [P.col a (by rw [ha]; simp)]; exact hc
            have hz : (ds ++ [p.1]).length = ds.length + 1 := by simp
            refine ⟨a, us, v, rfl, rfl, ha', by rw [rr.len]; exact hp.2, ?_⟩
            obtain ⟨S, R2⟩ := un_upd (ws := us ++ [v]) (d' := .list (ds ++ [p.1])) R' ⟨_, e⟩ eo ha' hc' (.lst upd_same hc' (rp_plain (P := fun _ => True) ((((rr.imp fun _ _ => trivial).same P.same).app (.cons (rv.imp fun _ _ => trivial) .nil))) (by simp [noLs_app, noLs, hp.1.1, hp.1.2]) (upd_imm ha'))) hn
            exact q _ _ _ S R2
          · rw [if_neg hp] at q; exact q.elim
        | _ => exact h.elim
    · rw [if_neg hn] at h; exact h.elim
/-- told[k].m() of a tuple with one list at k -/
def u1S (np j k : Nat) (g : List D → List D) : SS := fun ρ => if np ≤ j then unA ρ[j]? fun d => match d with
  | .tuple xs => (match xs[k]? with
    | some (.list ds) => if noLs ds && noLs (xs.eraseIdx k) then .nx (ρ.set j (.un (.tuple (xs.set k (.list (g ds)))))) else .bad
    | _ => .bad)
  | _ => .bad
  else .bad
theorem rp_setAt {K : PySem.W.Frag} {H H' : Hp} {P P' : Addr → Prop} (hi : ∀ a o, H a = some o → Imm o → H' a = some o) : ∀ {us : List V} {xs : List D} {k : Nat} {v : V} {d' : D}, RpA K H P us xs → us[k]? = some v → noLs (xs.eraseIdx k) = true → Rp K H' P' v d' → RpA K H' P' us (xs.set k d')
  | _, _, _, _, _, .nil, h, _, _ => by simp at h
  | _ :: us, _ :: xs, 0, v, d', .cons a b, h, hn, r => by
    simp at h; subst h
    exact .cons r (rp_plain b hn hi)
  | _ :: us, x :: xs, k + 1, v, d', .cons a b, h, hn, r => by
    have hn' : noL x = true ∧ noLs (xs.eraseIdx k) = true := by simpa [noLs] using hn
    exact .cons ((a.free (P' := fun _ => False) hn'.1).move (fun _ _ p _ => p.elim) hi) (rp_setAt hi b (by simpa using h) hn'.2 r)
theorem atI_natD {xs : List V} {k : Nat} {v : V} (h : xs[k]? = some v) : atI xs ((k : Nat) : Int) = some v := atI_nat h
theorem ds_um1 (j k : Nat) {id : String} {r : V → List V → Hp → VK → Prop} {g : {α : Type} → List α → List α} {o : Expr} {m : Str} {apos cpos : Pos} (M : Ml0 X id r g)
    (hpe : PE X (.Call (.Attribute o m apos) [] [] cpos) (tBM0 X.K "list" r (tOp (rIx X.K) (tVar j) (tC (.int (k : Nat)))))) (hs : swapsWith (.Call (.Attribute o m apos) [] [] cpos) none pos.line X.env = pure false := by rfl) :
    DS X np EW (.Expr (.Call (.Attribute o m apos) [] [] cpos) pos) (u1S np.n j k g) :=
  PS.weak (ps_expr hpe hs) fun Dn σ H ⟨C, ρ, R, h⟩ => by
    unfold u1S at h
    by_cases hn : np.n ≤ j
    · rw [if_pos hn] at h
      obtain ⟨d, e, h⟩ := unA_of h
      have r0 := R.get j _ e
      generalize eo : σ[j]? = ov at r0
      cases r0 with
      | un r0 =>
        cases d with
        | tuple xs =>
          obtain ⟨t, ts, rfl, ht, rt⟩ := r0.tup_invX
          cases ex : xs[k]? with
          | none => simp only [ex] at h; exact h.elim
          | some dk =>
            simp only [ex] at h
            cases dk with
            | list ds =>
              obtain ⟨w, hw, rw⟩ := rt.get ex
              obtain ⟨a, us, rfl, ha, hc, rr⟩ := rw.lst_inv
              by_cases hp : (noLs ds && noLs (xs.eraseIdx k)) = true
              · simp only [hp, if_true] at h
                simp only [Bool.and_eq_true] at hp
                refine ⟨_, eo, .inr (.inl ⟨t, ts, _, _, rfl, rfl, ht.sq, atI_natD hw, ?_⟩)⟩
                refine ⟨.inl ⟨rfl, _, .inl (.inl ha)⟩, M.ok a us H _ ha ?_⟩
                have im := upd_imm (ws := g us) ha
                obtain ⟨S, R2⟩ := un_upd (ws := g us) R ⟨_, e⟩ eo ha hc (.tup (SqX.keep ht im) (rp_setAt (P' := fun b => C b = j + 3) im rt hw hp.2 (.lst upd_same hc (rp_plain (M.rp rr) (M.no ds hp.1) im)))) hn
                exact h _ _ _ S R2
              · simp only [hp] at h; exact h.elim
            | _ => exact h.elim
        | _ => exact h.elim
    · rw [if_neg hn] at h; exact h.elim
def u1A (np j k : Nat) (fe : ES) : SS := fun ρ => if np ≤ j then unA ρ[j]? fun d => match d with
  | .tuple xs => (match xs[k]? with
    | some (.list ds) => (fe .an ρ).to fun p => if noLs ds && noL p.1 && noLs (xs.eraseIdx k) && decide (ds.length < sizeLine) then .nx (ρ.set j (.un (.tuple (xs.set k (.list (ds ++ [p.1])))))) else .bad
    | _ => .bad)
  | _ => .bad
  else .bad
theorem ds_uapp1 (j k : Nat) {o : Expr} {apos cpos : Pos} (h : DE X np EW e fe)
    (hpe : ∀ {t : TE}, PE X e t → PE X (.Call (.Attribute o "append" apos) [e] [] cpos) (tBM X.K "list" rAppend (tOp (rIx X.K) (tVar j) (tC (.int (k : Nat)))) (tCons t tNil))) (hs : swapsWith (.Call (.Attribute o "append" apos) [e] [] cpos) none pos.line X.env = pure false := by rfl) :
    DS X np EW (.Expr (.Call (.Attribute o "append" apos) [e] [] cpos) pos) (u1A np.n j k fe) :=
  PS.weak (ps_expr (hpe h) hs) fun Dn σ H ⟨C, ρ, R, h⟩ => by
    unfold u1A at h
    by_cases hn : np.n ≤ j
    · rw [if_pos hn] at h
      obtain ⟨d, e, h⟩ := unA_of h
      have r0 := R.get j _ e
      generalize eo : σ[j]? = ov at r0
      cases r0 with
      | un r0 =>
        cases d with
        | tuple xs =>
          obtain ⟨t, ts, rfl, ht, rt⟩ := r0.tup_invX
          cases ex : xs[k]? with
          | none => simp only [ex] at h; exact h.elim
          | some dk =>
            simp only [ex] at h
            cases dk with
            | list ds =>
              obtain ⟨w, hw, rw⟩ := rt.get ex
              obtain ⟨a, us, rfl, ha, hc, rr⟩ := rw.lst_inv
              refine ⟨_, eo, .inr (.inl ⟨t, ts, _, _, rfl, rfl, ht.sq, atI_natD hw, ?_⟩)⟩
              refine ⟨.inl ⟨rfl, _, .inl (.inl ha)⟩, toE_of (L := .an) R h fun p v H' C' A R' rv q => ?_⟩
              obtain ⟨hρ, P⟩ := A.pu rfl
              rw [hρ] at R'
              by_cases hp : (noLs ds && noL p.1 && noLs (xs.eraseIdx k) && decide (ds.length < sizeLine)) = true
              · rw [if_pos hp] at q
                simp only [Bool.and_eq_true, decide_eq_true_eq] at hp
                have ha' := P.same _ _ ha
                have hc' : C' a = j + 3 := by rw [P.col a (by rw [ha]; simp)]; exact hc
                refine ⟨a, us, v, rfl, rfl, ha', by rw [rr.len]; exact hp.2, ?_⟩
                have im := upd_imm (ws := us ++ [v]) ha'
                obtain ⟨S, R2⟩ := un_upd (ws := us ++ [v]) R' ⟨_, e⟩ eo ha' hc' (.tup (SqX.keep (SqX.keep ht fun b o h _ => P.same b o h) im) (rp_setAt (P' := fun b => C' b = j + 3) im (rt.same P.same) hw hp.1.2 (.lst upd_same hc' (rp_plain (P := fun _ => True) (((rr.imp fun _ _ => trivial).same P.same).app (.cons (rv.imp fun _ _ => trivial) .nil)) (by simp [noLs_app, noLs, hp.1.1.1, hp.1.1.2]) im)))) hn
                exact q _ _ _ S R2
              · rw [if_neg hp] at q; exact q.elim
            | _ => exact h.elim
        | _ => exact h.elim
    · rw [if_neg hn] at h; exact h.elim
end
end
end Dm

namespace Dm
noncomputable section
open PySem PySem.Spec PyProof.Rows L2

/-! ### a def of the script -/
abbrev SF := List Int → List D → Re D
def ofSc (m : SF) : Slots → Re (D × Slots)
  | .sc ns :: as => match as.mapM unbo with
    | some ds => (m ns ds).bind fun d => .ok (d, .no :: as.map fun _ => Sl.no)
    | none => .bad
  | _ => .bad
def sfOf (m : Nat) (f : SS) : SF := fun ns ds => (bodyF m f (.sc ns :: ds.map Sl.bo)).bind fun p => .ok p.1
section
variable {P : Program} {w : World} {K : PySem.W.Frag} {mg : Str → Option Value} {base : Heap}
theorem finF_sc {ns : List Int} {ds : List D} {r : Fl} : finF (.sc ns :: ds.map Sl.bo) r = ((finF (.sc ns :: ds.map Sl.bo) r).bind fun p => .ok p.1).bind fun d => .ok (d, .no :: (ds.map Sl.bo).map fun _ => Sl.no) := by
  have h : ∀ ρ, outF (.sc ns :: ds.map Sl.bo) ρ = .no :: (ds.map Sl.bo).map fun _ => Sl.no := fun ρ => by
    cases ρ with
    | nil => rw [outF, outF_bo]
    | cons s t =>
      rw [outF, outF_bo]
      rfl
  cases r <;> simp [finF, h]
theorem spG_ofSc {xo : XO} {n m : Nat} {F : SS} {vs : List V} {H : Hp} {Q : VK} {E : XK} (h : spG K xo n (ofSc (sfOf m F)) vs H Q E) : spG K xo n (bodyF m F) vs H Q E := by
  obtain ⟨h1, C, np, as, h2, h3, h4, hw⟩ := h
  refine ⟨h1, C, np, as, h2, h3, h4, ?_⟩
  cases as with
  | nil => exact hw.elim
  | cons a r =>
    cases a with
    | sc ns =>
      cases e : r.mapM unbo with
      | none =>
        unfold ofSc at hw
        simp only [e] at hw; exact hw.elim
      | some ds =>
        have ea := mapM_unbo e
        subst ea
        have e2 : bodyF m F (.sc ns :: ds.map Sl.bo) = ofSc (sfOf m F) (.sc ns :: ds.map Sl.bo) := by
          show finF _ _ = (match (ds.map Sl.bo).mapM unbo with | some ds' => (sfOf m F ns ds').bind fun d => Re.ok (d, Sl.no :: (ds.map Sl.bo).map fun _ => Sl.no) | none => .bad)
          rw [mapM_bo]
          show finF _ _ = (sfOf m F ns ds).bind _
          unfold sfOf
          exact finF_sc
        rw [e2]; exact hw
    | _ => exact hw.elim
theorem g_sc {x qual : Str} {st : Stmt} {f : Addr} {fd : FuncData} {N ps : List Str} {k m : Nat} {F : SS} (Fn : Fun K x qual st f fd) (Sc : FnScope N ps (defScope st)) (hN : N.length = ps.length + m)
    (hbody : ∀ (np : Fp) (cdv : Value) (A : Around) (outer : List PySem.Env) (s : Shared) (H : Hp) (E : XK), np.n = ps.length → Room k (A.deeper (envOfC qual (defScope st) s.heap.objs.size f cdv)) → A.guards = some [] →
      DSs (cxOf CX0 P w K mg base N qual (defScope st) f cdv A outer s H E).nox np (fun _ _ => False) (defBody st) F) : GFn P w K mg base CX0 (k + 1) f fd ps (spG K (fun _ _ _ => False) ps.length (ofSc (sfOf m F))) :=
  (g_fn Fn Sc hN hbody).imp fun _ _ _ _ h => spG_ofSc h
theorem fun_kbinds {x qual : Str} {st : Stmt} {f : Addr} {fd : FuncData} {ps ks : List Str} {a b : Nat} {is : List Nat} (F : Fun K x qual st f fd)
    (h : ∀ (kV doc pm : Value) (an : Option Addr) (cdv ct : Value) (us ws : List Value), us.length = a → ws.length = b →
      bindArgs (PySem.W.fnOf x qual (defArgs st) (defBody st) (defScope st) .none kV doc pm an cdv ct) ⟨us, ks.zip ws⟩ = pure (ps.zip (is.map fun i => (us ++ ws).getD i Value.none))) :
    ∀ us ws : List Value, us.length = a → ws.length = b → bindArgs fd ⟨us, ks.zip ws⟩ = pure (ps.zip (is.map fun i => (us ++ ws).getD i Value.none)) := by
  obtain ⟨oc, od, kV, doc, pm, an, cdv, ct, osl, rfl, lk, hcd⟩ := F.ex
  exact h kV doc pm an cdv ct
end
section
variable {X : Cx} {np : Fp} {EW : XW} {Xc : CXT} {k : Nat} {f : Addr} {fd : FuncData} {ps ks : List Str} {E : XK} {x : Str} {p pos : Pos} {e : Expr} {es : List Expr} {fs : AS} {st : Stmt} {g : SS}
def clSc (j n : Nat) (m : SF) (fs : AS) : ES := fun L ρ => match ρ[j]? with
  | some (.sc ns) => (fs (if L.pure then .an else .bo) ρ).bind fun p => if p.1.length = n then (m ns p.1).bind fun d => .ok (d, p.2) else .bad
  | _ => .bad
theorem spG_sc {K : PySem.W.Frag} {xo : XO} {n : Nat} {m : SF} {P : Addr → Prop} {a : Addr} {ns : List Int} {vs : List V} {ds : List D} {H : Hp} {Q : VK} {E : XK} (ha : SqF K H a (ns.map V.int)) (r : RpA K H P vs ds) (hl : ds.length = n)
    (h : wp (m ns ds) (fun d => ∀ (v : V) (H' : Hp) (C' : Col), Same H H' → (∀ b, C' b = 0 → H b = none) → Rp K H' (fun b => C' b = 0) v d → Q v H') (fun c => ∀ (H' : Hp), Same H H' → xo E c H')) : spG K xo (n + 1) (ofSc m) (.ref a :: vs) H Q E := by
  refine ⟨by rw [List.length_cons, r.len, hl], colIn H, ⟨n + 1, fun _ => 0⟩, .sc ns :: ds.map Sl.bo, rfl, ⟨by simp [r.len], fun i s es => ?_⟩, fun b hb => ?_, ?_⟩
  · cases i with
    | zero => cases es; exact .sc ha
    | succ i =>
      rw [List.getElem?_cons_succ] at es
      have this := (rel_bo (K := K) (n := n + 1) (pa := fun _ => 0) r).get i s es
      rw [List.map_cons, List.getElem?_cons_succ]
      generalize (vs.map some)[i]? = oo at this ⊢
      cases this with
      | no => exact .no
      | va r => exact .va r
      | bo r => exact .bo r
      | ow h c r pn =>
        rw [List.getElem?_map] at es
        cases e2 : ds[i]? with
        | none => rw [e2] at es; cases es
        | some d => rw [e2] at es; cases es
      | un r =>
        rw [List.getElem?_map] at es
        cases e2 : ds[i]? with
        | none => rw [e2] at es; cases es
        | some d => rw [e2] at es; cases es
      | sc h => exact .sc h
      | ob h c n r pn =>
        rw [List.getElem?_map] at es
        cases e2 : ds[i]? with
        | none => rw [e2] at es; cases es
        | some d => rw [e2] at es; cases es
      | dc h c r pn =>
        rw [List.getElem?_map] at es
        cases e2 : ds[i]? with
        | none => rw [e2] at es; cases es
        | some d => rw [e2] at es; cases es
  · obtain ⟨o, ho⟩ := ne_some hb
    rw [colIn_some ho]; omega
  · have same : ∀ {H' : Hp} {C' : Col}, Stp ⟨n + 1, fun _ => 0⟩ H (colIn H) H' C' → Same H H' := fun S b o e => S.keep b o e (.inl (by rw [colIn_some e]; omega))
    have e1 : ofSc m (.sc ns :: ds.map Sl.bo) = (m ns ds).bind fun d => .ok (d, .no :: (ds.map Sl.bo).map fun _ => Sl.no) := by
      show (match (ds.map Sl.bo).mapM unbo with | some ds' => (m ns ds').bind fun d => Re.ok (d, Sl.no :: (ds.map Sl.bo).map fun _ => Sl.no) | none => .bad) = _
      rw [mapM_bo]
    rw [e1]
    refine wp_bind.mpr (wp_mono h (fun d _ hd => fun v H' C' S _ rv => hd v H' C' (same S) (fun b hb => ?_) rv) fun c hc H' C' S => hc H' (same S))
    cases q : H b with
    | none => rfl
    | some o =>
      have := S.colo b (by rw [q]; simp) (by rw [colIn_some q]; show 1 ≤ n + 1 + 2; omega)
      rw [colIn_some q, hb] at this; cases this
theorem de_callSc {xo : XO} {m : SF} {n j : Nat} {y : Str} {py : Pos} (F : GFn X.prog X.w X.K X.mg X.base Xc k f fd ps (spG X.K xo (n + 1) (ofSc m))) (hr : Room k X.A) (hgd : X.A.guards = some []) (hg : Gl X x) (hm : X.mg x = some (.ref f))
    (hk : PySem.W.keepIn X.K (.ref f) = true) (hb : Binds X.K fd ps []) (hx : Passes Xc X E) (hE : ∀ c H', EW c H' → xo E c H') (hj : PE X (.Name y py) (tVar j)) (ha : DA X np EW es fs) (hdb : (x == ("__debug__" : Str)) = false := by decide)
    (he : starEach (.Name y py :: es) X.env = (false, eval (.Name y py) X.env) :: starEach es X.env := by rfl) (hpl : (backTo pos (starEach es X.env)).any (·.1) = false := by rfl) : DE X np EW (.Call (.Name x p) (.Name y py :: es) [] pos) (clSc j n m fs) :=
  PE.weak (gpe_call F hr hgd hg hm hk hb hx (pa_cons hj ha he) hdb he hpl) fun σ H Q ⟨L, C, ρ, R, h⟩ => by
    unfold clSc at h
    cases e : ρ[j]? with
    | none => rw [e] at h; exact h.elim
    | some s =>
      rw [e] at h
      cases s with
      | sc ns =>
        obtain ⟨a, hs, hsq⟩ := sc_get R e
        have hk' : ((if L.pure then Lv.an else .bo).pure || !L.pure) = true := by cases L.pure <;> rfl
        refine ⟨.ref a, hs, tA_of R h fun q vs H1 C1 A1 R1 r1 h1 => ?_⟩
        have A1' := A1.lev (K := X.K) hk'
        by_cases hl : q.1.length = n
        · rw [if_pos hl] at h1
          have hsq1 : SqF X.K H1 a (ns.map V.int) := by
            rcases hsq with ⟨o, z⟩ | z
            · exact .inl ⟨o, A1.stp.keep _ _ z (.inr trivial)⟩
            · exact .inr z
          refine spG_sc hsq1 r1 hl (wp_mono (wp_bind.mp h1) (fun d _ hd v H' C' S fr rv => ?_) fun c hc H' S => hE c H' (hc H' C1 (PStp.stp ⟨S, fun _ _ => rfl⟩)))
          have T : PStp H1 C1 H' (fun b => match H1 b with | none => 0 | some _ => C1 b) := ⟨S, fun b hb => by
            obtain ⟨o, ho⟩ := ne_some hb
            simp only [ho]⟩
          refine hd v H' _ (A1'.trans (.of T)) (R1.pstp T) (rv.imp fun b hb => ?_)
          unfold Cof
          simp only [fr b hb]
          exact L.ok0
        · rw [if_neg hl] at h1; exact h1.elim
      | _ => exact h.elim
/-- what is x's alone, a list of plain things: x may change it -/
def uoS (np i : Nat) (f : SS) : SS := fun ρ => (f ρ).seq fun ρ' => match ρ'[i]? with
  | some (.un (.list ds)) => if noLs ds && decide (np ≤ i) then .nx (ρ'.set i (.ow ds)) else .bad
  | _ => .bad
theorem ds_uo (i : Nat) (h : DS X np EW st g) : DS X np EW st (uoS np.n i g) :=
  PS.weak h fun Dn σ H ⟨C, ρ, R, h⟩ => by
    refine ⟨C, ρ, R, ?_⟩
    have h' : pst X.K np EW Dn H C ((g ρ).seq fun ρ' => match ρ'[i]? with
      | some (.un (.list ds)) => if noLs ds && decide (np.n ≤ i) then .nx (ρ'.set i (.ow ds)) else .bad
      | _ => .bad) := h
    cases e : g ρ with
    | bad => rw [e] at h'; exact h'
    | nx ρ' =>
      rw [e] at h'
      intro σ' H' C' S R'
      have h2 := pst_stp h' S
      cases e2 : ρ'[i]? with
      | none => simp only [seq_nx, e2] at h2; exact h2.elim
      | some s =>
        cases s with
        | un d =>
          cases d with
          | list ds =>
            simp only [seq_nx, e2] at h2
            by_cases hz : (noLs ds && decide (np.n ≤ i)) = true
            · simp only [hz, if_true] at h2
              simp only [Bool.and_eq_true, decide_eq_true_eq] at hz
              refine h2 σ' H' C' .refl ⟨by rw [List.length_set]; exact R'.len, fun j s es => ?_⟩
              by_cases hij : j = i
              · subst hij
                rw [List.getElem?_set_self (List.getElem?_eq_some_iff.mp e2).1] at es
                cases es
                have r := R'.get j _ e2
                generalize σ'[j]? = o at r ⊢
                cases r with
                | un r =>
                  obtain ⟨a, us, rfl, ha, hc, rr⟩ := r.lst_inv
                  exact .ow ha hc (rr.free hz.1) fun z => absurd hz.2 (by omega)
              · rw [List.getElem?_set_ne (Ne.symm hij)] at es
                exact R'.get j s es
            · simp only [hz] at h2; exact h2.elim
          | _ => simp only [seq_nx, e2] at h2; exact h2.elim
        | _ => simp only [seq_nx, e2] at h2; exact h2.elim
    | rt d ρ' => rw [e] at h'; exact h'
    | bk ρ' => rw [e] at h'; exact h'
    | ct ρ' => rw [e] at h'; exact h'
    | ex c => rw [e] at h'; exact h'
end
end
end Dm

namespace Dm
noncomputable section
open PySem PySem.Spec PyProof.Rows L2

/-! ### the mirror, run by simp -/
@[simp ↓] theorem un_bind {α β : Type} {r : Re α} {k : α → Re β} : r.bind k = match r with
  | .bad => .bad
  | .ok a => k a
  | .ex c => .ex c := Eq.trans rfl rfl
@[simp ↓] theorem un_to {α : Type} {r : Re α} {k : α → Fl} : r.to k = match r with
  | .bad => .bad
  | .ok a => k a
  | .ex c => .ex c := Eq.trans rfl rfl
@[simp ↓] theorem un_seq {r : Fl} {k : Slots → Fl} : r.seq k = match r with
  | .nx ρ => k ρ
  | r => r := Eq.trans rfl rfl
section
variable {L k ks : Lv} {ρ : Slots} {f g : SS} {fa fb fc : ES} {c : BS} {fs src : AS} {i j n np m a b : Nat} {d : D} {gg : D → D → Option D} {g1 : D → Option D} {gl : List D → Option D} {gi : List D → Option (List D)} {tg : GS} {tgs : GSs}
@[simp] theorem ev_sqS : sqS f g ρ = (f ρ).seq g := Eq.trans rfl rfl
@[simp] theorem ev_skS : skS ρ = .nx ρ := Eq.trans rfl rfl
@[simp] theorem ev_bkS : bkS ρ = .bk ρ := Eq.trans rfl rfl
@[simp] theorem ev_ctS : ctS ρ = .ct ρ := Eq.trans rfl rfl
@[simp] theorem ev_rtS : rtS np fa ρ = (fa (.rt np) ρ).to fun p => .rt p.1 p.2 := Eq.trans rfl rfl
@[simp] theorem ev_rteS : rteS fa ρ = (fa .va ρ).to fun p => .rt p.1 p.2 := Eq.trans rfl rfl
@[simp] theorem ev_exS : exS L fa ρ = (fa L ρ).to fun p => .nx p.2 := Eq.trans rfl rfl
@[simp] theorem ev_vaS : vaS i fa ρ = (fa .va ρ).to fun p => .nx (p.2.set i (.va p.1)) := Eq.trans rfl rfl
@[simp] theorem ev_boS : boS i fa ρ = (fa .bo ρ).to fun p => .nx (p.2.set i (.bo p.1)) := Eq.trans rfl rfl
@[simp] theorem ev_ifS : ifS L c f g ρ = (c L ρ).to fun p => if p.1 then f p.2 else g p.2 := Eq.trans rfl rfl
@[simp] theorem ev_owS : owS np i fs ρ = if np ≤ i then (fs .va ρ).to fun p => .nx (p.2.set i (.ow p.1)) else .bad := Eq.trans rfl rfl
@[simp] theorem ev_apS : apS j fa ρ = if isOw ρ[j]? then (fa .va ρ).to fun p => owA p.2[j]? fun ds => if ds.length < sizeLine then .nx (p.2.set j (.ow (ds ++ [p.1]))) else .bad else .bad := Eq.trans rfl rfl
@[simp] theorem ev_stS : stS j fa fb ρ = if isOw ρ[j]? then (fa .va ρ).to fun p => (fb .va p.2).to fun q => (isI q.1).to fun k => owA q.2[j]? fun ds => match ixN ds.length k with
  | some n => .nx (q.2.set j (.ow (ds.set n p.1)))
  | none => .bad
  else .bad := Eq.trans rfl rfl
@[simp] theorem ev_forS : forS L src tg f ρ = if L.pure then .bad else (src L ρ).to fun p => forF L tg f p.1 p.2 := Eq.trans rfl rfl
@[simp] theorem ev_tgS : tgS L tg fa ρ = (fa L ρ).to fun p => match tg L p.1 p.2 with
  | some ρ' => .nx ρ'
  | none => .bad := Eq.trans rfl rfl
@[simp] theorem ev_unS : unS np i fa ρ = if np ≤ i then (fa .fr (boAll ρ)).to fun p => .nx (ρ.set i (.un p.1)) else .bad := Eq.trans rfl rfl
@[simp] theorem ev_uoS : uoS np i f ρ = (f ρ).seq fun ρ' => match ρ'[i]? with
  | some (.un (.list ds)) => if noLs ds && decide (np ≤ i) then .nx (ρ'.set i (.ow ds)) else .bad
  | _ => .bad := Eq.trans rfl rfl
@[simp] theorem ev_csE : csE d L ρ = .ok (d, ρ) := Eq.trans rfl rfl
theorem ev_nmE : nmE i L ρ = match ρ[i]? with
  | some s => (slD L i s).bind fun d => .ok (d, ρ)
  | none => .bad := Eq.trans rfl rfl
@[simp] theorem ev_opE : opE gg fa fb L ρ = (fa L ρ).bind fun p => (fb L p.2).bind fun q => (ofO (gg p.1 q.1)).bind fun d => .ok (d, q.2) := Eq.trans rfl rfl
@[simp] theorem ev_unE : unE g1 fa L ρ = (fa L ρ).bind fun p => (ofO (g1 p.1)).bind fun d => .ok (d, p.2) := Eq.trans rfl rfl
@[simp] theorem ev_atE : atE k fa L ρ = if k.pure || !L.pure then (fa k ρ).bind fun p => if noL p.1 then .ok p else .bad else .bad := Eq.trans rfl rfl
@[simp] theorem ev_atT : atT k c L ρ = if k.pure || !L.pure then c k ρ else .bad := Eq.trans rfl rfl
@[simp] theorem ev_asT : asT fa L ρ = (fa L ρ).bind fun p => (isB p.1).bind fun b => .ok (b, p.2) := Eq.trans rfl rfl
@[simp] theorem ev_ntT : ntT c L ρ = (c L ρ).bind fun p => .ok (!p.1, p.2) := Eq.trans rfl rfl
@[simp] theorem ev_anT {c' : BS} : anT c c' L ρ = (c L ρ).bind fun p => if p.1 then c' L p.2 else .ok (false, p.2) := Eq.trans rfl rfl
@[simp] theorem ev_orT {c' : BS} : orT c c' L ρ = (c L ρ).bind fun p => if p.1 then .ok (true, p.2) else c' L p.2 := Eq.trans rfl rfl
@[simp] theorem ev_ifE : ifE c fa fb L ρ = (c L ρ).bind fun p => if p.1 then fa L p.2 else fb L p.2 := Eq.trans rfl rfl
@[simp] theorem ev_anE : anE fa fb L ρ = (fa L ρ).bind fun p => (isB p.1).bind fun b => if b then fb L p.2 else .ok (.bool false, p.2) := Eq.trans rfl rfl
@[simp] theorem ev_orE : orE fa fb L ρ = (fa L ρ).bind fun p => (isB p.1).bind fun b => if b then .ok (.bool true, p.2) else fb L p.2 := Eq.trans rfl rfl
@[simp] theorem ev_ntE : ntE fa L ρ = (fa L ρ).bind fun p => (isB p.1).bind fun b => .ok (.bool (!b), p.2) := Eq.trans rfl rfl
@[simp] theorem ev_chE {g' : D → D → Option D} : chE gg g' fa fb fc L ρ = (fa L ρ).bind fun p => (fb L p.2).bind fun q => (ofO (gg p.1 q.1)).bind fun d => (isB d).bind fun k =>
  if k then (fc L q.2).bind fun r => (ofO (g' q.1 r.1)).bind fun d' => .ok (d', r.2) else .ok (.bool false, q.2) := Eq.trans rfl rfl
@[simp] theorem ev_nilA : nilA L ρ = .ok ([], ρ) := Eq.trans rfl rfl
@[simp] theorem ev_consA : consA fa fs L ρ = (fa L ρ).bind fun p => (fs L p.2).bind fun q => .ok (p.1 :: q.1, q.2) := Eq.trans rfl rfl
@[simp] theorem ev_tuE : tuE fs L ρ = (fs L ρ).bind fun p => if p.1.length ≤ sizeLine then .ok (.tuple p.1, p.2) else .bad := Eq.trans rfl rfl
@[simp] theorem ev_liE : liE fs L ρ = (fs L ρ).bind fun p => if p.1.length ≤ sizeLine then .ok (.list p.1, p.2) else .bad := Eq.trans rfl rfl
@[simp] theorem ev_lsE : lsE fs L ρ = (fs L ρ).bind fun p => .ok (.list p.1, p.2) := Eq.trans rfl rfl
@[simp] theorem ev_szA : szA fs L ρ = (fs L ρ).bind fun p => if p.1.length ≤ sizeLine then .ok p else .bad := Eq.trans rfl rfl
@[simp] theorem ev_noO : noO L ρ = .ok (none, ρ) := Eq.trans rfl rfl
@[simp] theorem ev_soO : soO fa L ρ = (fa L ρ).bind fun p => (isI p.1).bind fun i => .ok (some i, p.2) := Eq.trans rfl rfl
@[simp] theorem ev_slE {lo hi : OS} : slE fa lo hi L ρ = (fa L ρ).bind fun p => (lo L p.2).bind fun q => (hi L q.2).bind fun r => (ofO (slD2 p.1 q.1 r.1)).bind fun d => .ok (d, r.2) := Eq.trans rfl rfl
@[simp] theorem ev_clE {mm : PF} : clE k n mm fs L ρ = if k.pure || !L.pure then (fs k ρ).bind fun p => if p.1.length = n then (mm p.1).bind fun d => .ok (d, p.2) else .bad else .bad := Eq.trans rfl rfl
@[simp] theorem ev_clK {is : List Nat} {mm : PF} {kk : AS} : clK a b is mm fs kk L ρ = (fs .an ρ).bind fun p => (kk .an p.2).bind fun q => if p.1.length = a ∧ q.1.length = b then (mm (is.map fun i => (p.1 ++ q.1).getD i PyData.none)).bind fun d => .ok (d, q.2) else .bad := Eq.trans rfl rfl
@[simp] theorem ev_clO {mm : OF} : clO j n mm fs L ρ = if !L.pure && isOw ρ[j]? then (fs .bo ρ).bind fun p => match p.2[j]? with
  | some (.ow cs) => if noLs cs && decide (p.1.length = n) then (mm cs p.1).bind fun q => if noLs q.2 then .ok (q.1, p.2.set j (.ow q.2)) else .bad else .bad
  | _ => .bad
  else .bad := Eq.trans rfl rfl
@[simp] theorem ev_clSc {mm : SF} : clSc j n mm fs L ρ = match ρ[j]? with
  | some (.sc ns) => (fs (if L.pure then .an else .bo) ρ).bind fun p => if p.1.length = n then (mm ns p.1).bind fun d => .ok (d, p.2) else .bad
  | _ => .bad := Eq.trans rfl rfl
@[simp] theorem ev_cbE : cbE gl fs L ρ = (fs L ρ).bind fun p => (ofO (gl p.1)).bind fun d => .ok (d, p.2) := Eq.trans rfl rfl
@[simp] theorem ev_isiE {T : String} : isiE T fa L ρ = (fa L ρ).bind fun p => .ok (.bool (isiB T p.1), p.2) := Eq.trans rfl rfl
@[simp] theorem ev_isiE2 {T T2 : String} : isiE2 T T2 fa L ρ = (fa L ρ).bind fun p => .ok (.bool (isiB T p.1 || isiB T2 p.1), p.2) := Eq.trans rfl rfl
@[simp] theorem ev_itA : itA fa L ρ = (fa L ρ).bind fun p => (ofO (itD p.1)).bind fun ds => .ok (ds, p.2) := Eq.trans rfl rfl
@[simp] theorem ev_agA : agA gi fs L ρ = (fs L ρ).bind fun p => (ofO (gi p.1)).bind fun ds => .ok (ds, p.2) := Eq.trans rfl rfl
@[simp] theorem ev_lsA : lsA fa L ρ = (fa L ρ).bind fun p => (ofO (itD p.1)).bind fun ds => .ok (ds, p.2) := Eq.trans rfl rfl
@[simp] theorem ev_lrA : lrA fa L ρ = (fa L ρ).bind fun p => (isI p.1).bind fun n => if inB 0 16777217 n then .ok (rgD 0 n.toNat, p.2) else .bad := Eq.trans rfl rfl
@[simp] theorem ev_yesT : yesT L ρ = .ok (true, ρ) := Eq.trans rfl rfl
@[simp] theorem ev_lvE : lvE fa L ρ = fa L.toP ρ := Eq.trans rfl rfl
@[simp] theorem ev_lvA : lvA fs L ρ = fs L.toP ρ := Eq.trans rfl rfl
@[simp] theorem ev_slenE : slenE j L ρ = match ρ[j]? with
  | some (.sc ns) => .ok (.int ns.length, ρ)
  | _ => .bad := Eq.trans rfl rfl
@[simp] theorem ev_sixE : sixE j fa L ρ = match ρ[j]? with
  | some (.sc ns) => (fa L ρ).bind fun q => match q.1 with
    | .int k => if 0 ≤ k then (match ns[k.toNat]? with | some n => .ok (.int n, q.2) | none => .bad) else .bad
    | _ => .bad
  | _ => .bad := Eq.trans rfl rfl
@[simp] theorem ev_poE : poE j fa L ρ = if !L.pure && isOw ρ[j]? then (fa .va ρ).bind fun q => (isI q.1).bind fun k => match q.2[j]? with
  | some (.ow ds) => if inB 0 (2 ^ 63) k then (match ds[k.toNat]? with
    | some d => .ok (d, q.2.set j (.ow (ds.eraseIdx k.toNat)))
    | none => .bad) else .bad
  | _ => .bad
  else .bad := Eq.trans rfl rfl
@[simp] theorem ev_lcA {own : List Nat} : lcA ks own src tg c fa L ρ = if ks.pure == L.pure then (src ks ρ).bind fun p => if okO p.2 own then
    (noEx (compF ks L own tg c fa p.1 (wiS p.2 own))).bind fun r => if r.1.length ≤ sizeLine then .ok (r.1, reS p.2 r.2 own) else .bad else .bad else .bad := Eq.trans rfl rfl
theorem ev_compF_nil {own : List Nat} : compF ks L own tg c fa [] ρ = .ok ([], ρ) := Eq.trans rfl rfl
theorem ev_compF_cons {own : List Nat} {ds : List D} : compF ks L own tg c fa (d :: ds) ρ = match tg ks d ρ with
    | none => .bad
    | some ρ1 => (c L ρ1).bind fun p => if p.1 then (fa L p.2).bind fun q => if !L.okb 2 || noL q.1 then (compF ks L own tg c fa ds (wiS q.2 own)).bind fun r => .ok (q.1 :: r.1, r.2) else .bad
      else compF ks L own tg c fa ds (wiS p.2 own) := Eq.trans rfl rfl
theorem ev_forF_nil : forF L tg f [] ρ = .nx ρ := Eq.trans rfl rfl
theorem ev_forF_cons {ds : List D} : forF L tg f (d :: ds) ρ = match tg L d ρ with
    | none => .bad
    | some ρ1 => match f ρ1 with
      | .nx ρ2 => forF L tg f ds ρ2
      | .ct ρ2 => forF L tg f ds ρ2
      | .bk ρ2 => .nx ρ2
      | r => r := Eq.trans rfl rfl
@[simp] theorem ev_nmG : nmG i L d ρ = (itS L d).map fun s => ρ.set i s := Eq.trans rfl rfl
@[simp] theorem ev_nilG : nilG L [] ρ = some ρ := Eq.trans rfl rfl
@[simp] theorem ev_consG {ds : List D} : consG tg tgs L (d :: ds) ρ = (tg L d ρ).bind fun ρ1 => tgs L ds ρ1 := Eq.trans rfl rfl
@[simp] theorem ev_tuG {ds : List D} : tuG n tgs L (.tuple ds) ρ = if ds.length = n then tgs L ds ρ else none := Eq.trans rfl rfl
@[simp] theorem ev_ofO_some {α : Type} {x : α} : ofO (some x) = .ok x := Eq.trans rfl rfl
@[simp] theorem ev_isB {x : Bool} : isB (.bool x) = .ok x := Eq.trans rfl rfl
@[simp] theorem ev_isI {x : Int} : isI (.int x) = .ok x := Eq.trans rfl rfl
@[simp] theorem ev_slD_va : slD L i (.va d) = .ok d := Eq.trans rfl rfl
@[simp] theorem ev_slD_bo : slD L i (.bo d) = if L.okb 1 || noL d then .ok d else .bad := Eq.trans rfl rfl
@[simp] theorem ev_slD_ow {ds : List D} : slD L i (.ow ds) = if L.okb (i + 3) then .ok (.list ds) else .bad := Eq.trans rfl rfl
@[simp] theorem ev_slD_un : slD L i (.un d) = if L.okb (i + 3) || noL d then .ok d else .bad := Eq.trans rfl rfl
@[simp] theorem ev_owA {ds : List D} {k : List D → Fl} : owA (some (.ow ds)) k = k ds := Eq.trans rfl rfl
@[simp] theorem ev_isOw {ds : List D} : isOw (some (.ow ds)) = true := Eq.trans rfl rfl
@[simp] theorem ev_finF_rt {as : Slots} : finF as (.rt d ρ) = .ok (d, outF as ρ) := Eq.trans rfl rfl
@[simp] theorem ev_finF_nx {as : Slots} : finF as (.nx ρ) = .ok (.none, outF as ρ) := Eq.trans rfl rfl
@[simp] theorem pu_va : Lv.va.pure = false := Eq.trans rfl rfl
@[simp] theorem pu_bo : Lv.bo.pure = false := Eq.trans rfl rfl
@[simp] theorem pu_an : Lv.an.pure = true := Eq.trans rfl rfl
@[simp] theorem pu_vp : Lv.vp.pure = true := Eq.trans rfl rfl
@[simp] theorem pu_bp : Lv.bp.pure = true := Eq.trans rfl rfl
@[simp] theorem pu_rt : (Lv.rt n).pure = true := Eq.trans rfl rfl
@[simp] theorem pu_fr : Lv.fr.pure = true := Eq.trans rfl rfl
@[simp] theorem ok_va {c : Nat} : Lv.va.okb c = (c == 0) := Eq.trans rfl rfl
@[simp] theorem ok_bo {c : Nat} : Lv.bo.okb c = decide (c ≤ 1) := Eq.trans rfl rfl
@[simp] theorem ok_an {c : Nat} : Lv.an.okb c = true := Eq.trans rfl rfl
@[simp] theorem ok_vp {c : Nat} : Lv.vp.okb c = (c == 0) := Eq.trans rfl rfl
@[simp] theorem ok_bp {c : Nat} : Lv.bp.okb c = decide (c ≤ 1) := Eq.trans rfl rfl
@[simp] theorem ok_rt {c : Nat} : (Lv.rt n).okb c = (c == 0 || decide (n + 3 ≤ c)) := Eq.trans rfl rfl
@[simp] theorem ok_fr {c : Nat} : Lv.fr.okb c = (c == 0) := Eq.trans rfl rfl
@[simp] theorem tp_va : Lv.va.toP = .vp := Eq.trans rfl rfl
@[simp] theorem tp_bo : Lv.bo.toP = .bp := Eq.trans rfl rfl
@[simp] theorem tp_an : Lv.an.toP = .an := Eq.trans rfl rfl
@[simp] theorem tp_vp : Lv.vp.toP = .vp := Eq.trans rfl rfl
@[simp] theorem tp_bp : Lv.bp.toP = .bp := Eq.trans rfl rfl
@[simp] theorem tp_rt : (Lv.rt n).toP = .rt n := Eq.trans rfl rfl
@[simp] theorem tp_fr : Lv.fr.toP = .fr := Eq.trans rfl rfl
end
@[simp] theorem noL_none : noL .none = true := Eq.trans rfl rfl
@[simp] theorem noL_bool {b : Bool} : noL (.bool b) = true := Eq.trans rfl rfl
@[simp] theorem noL_int {b : Int} : noL (.int b) = true := Eq.trans rfl rfl
@[simp] theorem noL_str {b : Str} : noL (.str b) = true := Eq.trans rfl rfl
@[simp] theorem noL_list {b : List D} : noL (.list b) = false := Eq.trans rfl rfl
@[simp] theorem noL_tuple {b : List D} : noL (.tuple b) = noLs b := Eq.trans rfl rfl
@[simp] theorem noLs_nil : noLs [] = true := Eq.trans rfl rfl
@[simp] theorem noLs_cons {a : D} {b : List D} : noLs (a :: b) = (noL a && noLs b) := Eq.trans rfl rfl
theorem noLs_iff : ∀ {l : List D}, noLs l = true ↔ ∀ d ∈ l, noL d = true
  | [] => by simp
  | a :: r => by rw [noLs_cons, Bool.and_eq_true, noLs_iff]; simp
@[simp] theorem noLs_append {a b : List D} : noLs (a ++ b) = (noLs a && noLs b) := by
  rw [Bool.eq_iff_iff, Bool.and_eq_true, noLs_iff, noLs_iff, noLs_iff]
  simp only [List.mem_append]
  exact ⟨fun h => ⟨fun d z => h d (.inl z), fun d z => h d (.inr z)⟩, fun h d z => z.elim (h.1 d) (h.2 d)⟩
theorem noLs_map {α : Type} {f : α → D} (h : ∀ a, noL (f a) = true) {l : List α} : noLs (l.map f) = true := noLs_iff.mpr fun d hd => by
  obtain ⟨a, _, rfl⟩ := List.mem_map.mp hd
  exact h a
@[simp] theorem noLs_map_int {l : List Int} : noLs (l.map PyData.int) = true := noLs_map fun _ => rfl
theorem pf_eq {m : Nat} {f : SS} {ds : List D} : pfOf m f ds = (finF (ds.map Sl.bo) (f (ds.map Sl.bo ++ List.replicate m .no))).bind fun p => .ok p.1 := Eq.trans rfl rfl
theorem of_eq {m : Nat} {f : SS} {cs ds : List D} : ofOf m f cs ds = (finF (.ow cs :: ds.map Sl.bo) (f (.ow cs :: ds.map Sl.bo ++ List.replicate m .no))).bind fun p => match p.2 with
  | .ow cs' :: _ => .ok (p.1, cs')
  | _ => .bad := Eq.trans rfl rfl
theorem sf_eq {m : Nat} {f : SS} {ns : List Int} {ds : List D} : sfOf m f ns ds = (finF (.sc ns :: ds.map Sl.bo) (f (.sc ns :: ds.map Sl.bo ++ List.replicate m .no))).bind fun p => .ok p.1 := Eq.trans rfl rfl
theorem body_eq {m : Nat} {f : SS} {as : Slots} : bodyF m f as = finF as (f (as ++ List.replicate m .no)) := Eq.trans rfl rfl
@[simp] theorem outF_nil {ρ : Slots} : outF [] ρ = [] := by cases ρ <;> rfl
@[simp] theorem outF_cons {a s : Sl} {as ρ : Slots} : outF (a :: as) (s :: ρ) = selF a s :: outF as ρ := Eq.trans rfl rfl
@[simp] theorem selF_ow {a b : List D} : selF (.ow a) (.ow b) = .ow b := Eq.trans rfl rfl

/-! subscripts -/
theorem atI_nat {α : Type} {xs : List α} {i : Nat} : atI xs (i : Int) = xs[i]? := by
  unfold atI ixN
  by_cases h : i < xs.length
  · rw [if_pos (by omega), if_pos (by omega)]; rfl
  · rw [if_pos (by omega), if_neg (by omega), List.getElem?_eq_none (by omega)]; rfl
theorem atI_last {α : Type} {xs : List α} : atI xs (-1) = xs.getLast? := by
  unfold atI ixN
  rw [if_neg (by omega), List.getLast?_eq_getElem?]
  by_cases h : 0 < xs.length
  · rw [if_pos (by omega), Option.bind_some]
    congr 1
    omega
  · have : xs = [] := List.eq_nil_of_length_eq_zero (by omega)
    subst this
    rfl
@[simp] theorem ixd_tup {xs : List D} {i : Nat} : ixD (.tuple xs) (.int (i : Int)) = xs[i]? := atI_nat
@[simp] theorem ixd_lst {xs : List D} {i : Nat} : ixD (.list xs) (.int (i : Int)) = xs[i]? := atI_nat
@[simp] theorem ix_tup0 {xs : List D} : ixD (.tuple xs) (.int 0) = xs[0]? := atI_nat (i := 0)
@[simp] theorem ix_lst0 {xs : List D} : ixD (.list xs) (.int 0) = xs[0]? := atI_nat (i := 0)
@[simp] theorem ix_tup1 {xs : List D} : ixD (.tuple xs) (.int 1) = xs[1]? := atI_nat (i := 1)
@[simp] theorem ix_lst1 {xs : List D} : ixD (.list xs) (.int 1) = xs[1]? := atI_nat (i := 1)
@[simp] theorem ix_tup2 {xs : List D} : ixD (.tuple xs) (.int 2) = xs[2]? := atI_nat (i := 2)
@[simp] theorem ix_lst2 {xs : List D} : ixD (.list xs) (.int 2) = xs[2]? := atI_nat (i := 2)
@[simp] theorem ix_tupm {xs : List D} : ixD (.tuple xs) (.int (-1)) = xs.getLast? := atI_last
@[simp] theorem ix_lstm {xs : List D} : ixD (.list xs) (.int (-1)) = xs.getLast? := atI_last
theorem ix_lsti {xs : List D} {i : Int} (h : 0 ≤ i) : ixD (.list xs) (.int i) = xs[i.toNat]? := by
  have := @ixd_lst xs i.toNat
  rwa [Int.toNat_of_nonneg h] at this
theorem ix_tupi {xs : List D} {i : Int} (h : 0 ≤ i) : ixD (.tuple xs) (.int i) = xs[i.toNat]? := by
  have := @ixd_tup xs i.toNat
  rwa [Int.toNat_of_nonneg h] at this
@[simp] theorem ixN_nat {n i : Nat} : ixN n (i : Int) = if i < n then some i else none := by
  unfold ixN
  by_cases h : i < n
  · rw [if_pos (by omega), if_pos (by omega), if_pos h]; simp
  · rw [if_pos (by omega), if_neg (by omega), if_neg h]
@[simp] theorem ixN0 {n : Nat} : ixN n 0 = if 0 < n then some 0 else none := ixN_nat (i := 0)
@[simp] theorem ixN1 {n : Nat} : ixN n 1 = if 1 < n then some 1 else none := ixN_nat (i := 1)
@[simp] theorem ixN2 {n : Nat} : ixN n 2 = if 2 < n then some 2 else none := ixN_nat (i := 2)
@[simp] theorem cut_to {xs : List D} {i : Nat} : cutD xs none (some (i : Int)) = xs.take i := by
  unfold cutD
  rw [HT.sIx_none, HT.sIx_nat, List.drop_zero, Nat.sub_zero]
  by_cases h : i ≤ xs.length
  · rw [Nat.min_eq_left h]
  · rw [Nat.min_eq_right (by omega), List.take_of_length_le (Nat.le_refl _), List.take_of_length_le (by omega)]
@[simp] theorem cut_from {xs : List D} {i : Nat} : cutD xs (some (i : Int)) none = xs.drop i := by
  unfold cutD
  rw [HT.sIx_none, HT.sIx_nat]
  by_cases h : i ≤ xs.length
  · rw [Nat.min_eq_left h, List.take_of_length_le (by simp)]
  · rw [Nat.min_eq_right (by omega), List.drop_of_length_le (Nat.le_refl _), List.drop_of_length_le (by omega)]; simp
@[simp] theorem cut_from1 {xs : List D} {i : Nat} : cutD xs (some ((i : Int) + 1)) none = xs.drop (i + 1) := cut_from (i := i + 1)
@[simp] theorem rgD_nat {n : Nat} : rgD 0 n = (List.range n).map fun i => PyData.int (i : Nat) := by unfold rgD; simp

@[simp] theorem add_int {a b : Int} : addD (.int a) (.int b) = some (.int (a + b)) := Eq.trans rfl rfl
@[simp] theorem sub_int {a b : Int} : subD (.int a) (.int b) = some (.int (a - b)) := Eq.trans rfl rfl
@[simp] theorem lt_int {a b : Int} : ltD (.int a) (.int b) = some (.bool (decide (a < b))) := Eq.trans rfl rfl
@[simp] theorem le_int {a b : Int} : leD (.int a) (.int b) = some (.bool (decide (a ≤ b))) := Eq.trans rfl rfl
@[simp] theorem gt_int {a b : Int} : gtD (.int a) (.int b) = some (.bool (decide (b < a))) := Eq.trans rfl rfl
@[simp] theorem ge_int {a b : Int} : geD (.int a) (.int b) = some (.bool (decide (b ≤ a))) := Eq.trans rfl rfl
@[simp] theorem neg_int {a : Int} : negD (.int a) = some (.int (-a)) := Eq.trans rfl rfl
theorem add_tup {a b : List D} (h : a.length + b.length ≤ 16777216) : addD (.tuple a) (.tuple b) = some (.tuple (a ++ b)) := if_pos h
theorem add_lst {a b : List D} (h : a.length + b.length ≤ 16777216) : addD (.list a) (.list b) = some (.list (a ++ b)) := if_pos h
@[simp] theorem is_none {a : D} : isND a .none = some (.bool (isNd a)) := Eq.trans rfl rfl
@[simp] theorem isnot_none {a : D} : notND a .none = some (.bool (!isNd a)) := Eq.trans rfl rfl
@[simp] theorem isNd_none : isNd .none = true := Eq.trans rfl rfl
@[simp] theorem isNd_int {a : Int} : isNd (.int a) = false := Eq.trans rfl rfl
@[simp] theorem isNd_tup {a : List D} : isNd (.tuple a) = false := Eq.trans rfl rfl
@[simp] theorem isNd_lst {a : List D} : isNd (.list a) = false := Eq.trans rfl rfl
@[simp] theorem len_tup {a : List D} : lenG [.tuple a] = some (.int a.length) := Eq.trans rfl rfl
@[simp] theorem len_lst {a : List D} : lenG [.list a] = some (.int a.length) := Eq.trans rfl rfl
@[simp] theorem isi_int {a : Int} {T : String} : isiB T (.int a) = (T == "int") := by simp [isiB, tyD]; exact BEq.comm
@[simp] theorem isi_tup {a : List D} {T : String} : isiB T (.tuple a) = (T == "tuple") := by simp [isiB, tyD]; exact BEq.comm
@[simp] theorem isi_lst {a : List D} {T : String} : isiB T (.list a) = (T == "list") := by simp [isiB, tyD]; exact BEq.comm
theorem all_bools {bs : List Bool} : allG [.list (bs.map PyData.bool)] = some (.bool (bs.all _root_.id)) := by simp [allG]
theorem any_bools {bs : List Bool} : anyG [.list (bs.map PyData.bool)] = some (.bool (bs.any _root_.id)) := by simp [anyG]
theorem all_true {n : Nat} : allG [.list (List.replicate n (.bool true))] = some (.bool true) := by
  have := @all_bools (List.replicate n true)
  rw [List.map_replicate] at this
  rw [this]; simp
@[simp] theorem sz_le {n : Nat} : (n ≤ sizeLine) = (n ≤ 16777216) := Eq.trans rfl rfl
@[simp] theorem sz_lt {n : Nat} : (n < sizeLine) = (n < 16777216) := Eq.trans rfl rfl
/-! loops whose steps are plain -/
theorem forF_run {α : Type} {L : Lv} {g : GS} {f : SS} {e : α → D} (I : List α → Slots → Prop) (step : ∀ a r ρ, I (a :: r) ρ → ∃ ρ1 ρ2, g L (e a) ρ = some ρ1 ∧ (f ρ1 = .nx ρ2 ∨ f ρ1 = .ct ρ2) ∧ I r ρ2) :
    ∀ (l : List α) (ρ : Slots), I l ρ → ∃ ρ', forF L g f (l.map e) ρ = .nx ρ' ∧ I [] ρ'
  | [], ρ, h => ⟨ρ, rfl, h⟩
  | a :: r, ρ, h => by
    obtain ⟨ρ1, ρ2, h1, h2, h3⟩ := step a r ρ h
    obtain ⟨ρ', h4, h5⟩ := forF_run I step r ρ2 h3
    refine ⟨ρ', ?_, h5⟩
    rw [List.map_cons, ev_forF_cons, h1]
    rcases h2 with h2 | h2 <;> simp only [h2, h4]
/-- a comprehension with own effects -/
theorem compF_run {α : Type} {ks L : Lv} {own : List Nat} {g : GS} {c : BS} {el : ES} {e : α → D} (I : List α → List D → Slots → Prop)
    (step : ∀ a r ds ρ, I (a :: r) ds ρ → ∃ ρ1 b ρ2, g ks (e a) ρ = some ρ1 ∧ c L ρ1 = .ok (b, ρ2) ∧ (b = false → I r ds (wiS ρ2 own)) ∧ (b = true → ∃ d ρ3, el L ρ2 = .ok (d, ρ3) ∧ (L.okb 2 = false ∨ noL d = true) ∧ I r (ds ++ [d]) (wiS ρ3 own))) :
    ∀ (l : List α) (ds : List D) (ρ : Slots), I l ds ρ → ∃ es ρ', compF ks L own g c el (l.map e) ρ = .ok (es, ρ') ∧ I [] (ds ++ es) ρ'
  | [], ds, ρ, h => ⟨[], ρ, rfl, by simpa using h⟩
  | a :: r, ds, ρ, h => by
    obtain ⟨ρ1, b, ρ2, h1, h2, h3, h4⟩ := step a r ds ρ h
    rw [List.map_cons, ev_compF_cons, h1]
    cases b with
    | false =>
      obtain ⟨es, ρ', h5, h6⟩ := compF_run I step r ds _ (h3 rfl)
      exact ⟨es, ρ', by simp [h2, h5], h6⟩
    | true =>
      obtain ⟨d, ρ3, e1, e2, e3⟩ := h4 rfl
      obtain ⟨es, ρ', h5, h6⟩ := compF_run I step r _ _ e3
      refine ⟨d :: es, ρ', ?_, by simpa using h6⟩
      have hc : (!L.okb 2 || noL d) = true := by rcases e2 with e2 | e2 <;> simp [e2]
      simp [h2, e1, hc, h5]
/-- a comprehension without effects: filter, then map -/
theorem compF_pure {α : Type} {ks L : Lv} {own : List Nat} {g : GS} {c : BS} {el : ES} {e : α → D} {ρ0 : Slots} (p : α → Bool) (m : α → D) (l : List α)
    (step : ∀ a ∈ l, ∃ ρ1, g ks (e a) ρ0 = some ρ1 ∧ c L ρ1 = .ok (p a, ρ1) ∧ wiS ρ1 own = ρ0 ∧ (p a = true → el L ρ1 = .ok (m a, ρ1) ∧ (L.okb 2 = false ∨ noL (m a) = true))) :
    compF ks L own g c el (l.map e) ρ0 = .ok ((l.filter p).map m, ρ0) := by
  induction l with
  | nil => rfl
  | cons a r ih =>
    obtain ⟨ρ1, h1, h2, h3, h4⟩ := step a (List.mem_cons_self ..)
    have ih := ih fun b hb => step b (List.mem_cons_of_mem _ hb)
    rw [List.map_cons, ev_compF_cons, h1]
    cases hp : p a with
    | false => simp [h2, hp, h3, ih]
    | true =>
      obtain ⟨h5, h6⟩ := h4 hp
      have hc : (!L.okb 2 || noL (m a)) = true := by rcases h6 with e2 | e2 <;> simp [e2]
      simp [h2, hp, h5, hc, h3, ih]
theorem compF_map {α : Type} {ks L : Lv} {own : List Nat} {g : GS} {el : ES} {e : α → D} {ρ0 : Slots} (m : α → D) (l : List α)
    (step : ∀ a ∈ l, ∃ ρ1, g ks (e a) ρ0 = some ρ1 ∧ wiS ρ1 own = ρ0 ∧ el L ρ1 = .ok (m a, ρ1) ∧ (L.okb 2 = false ∨ noL (m a) = true)) :
    compF ks L own g yesT el (l.map e) ρ0 = .ok (l.map m, ρ0) := by
  have := compF_pure (c := yesT) (own := own) (ρ0 := ρ0) (fun _ => true) m l (fun a ha => (step a ha).imp fun ρ1 h => ⟨h.1, rfl, h.2.1, fun _ => h.2.2⟩)
  rw [List.filter_eq_self.mpr (by simp)] at this
  exact this

/-! same text -/
@[simp] theorem eq_str {a b : Str} : eqD (.str a) (.str b) = some (.bool (decide (a = b))) := Eq.trans rfl rfl
@[simp] theorem ne_str {a b : Str} : neD (.str a) (.str b) = some (.bool (!decide (a = b))) := Eq.trans rfl rfl
@[simp] theorem eq_int {a b : Int} : eqD (.int a) (.int b) = some (.bool (a == b)) := Eq.trans rfl rfl
@[simp] theorem ne_int {a b : Int} : neD (.int a) (.int b) = some (.bool (!(a == b))) := Eq.trans rfl rfl

/-! ### how large data is -/
structure Fm (dep blk : Nat) (d : D) : Prop where
  lay : d.canLay0 = true
  dep : d.depth ≤ dep
  blk : d.bulk ≤ blk
  sho : d.leavesShort 80 = true
  shw : d.showable = true
theorem Fm.mono {a b a' b' : Nat} {d : D} (h : Fm a b d) (ha : a ≤ a') (hb : b ≤ b') : Fm a' b' d := ⟨h.lay, Nat.le_trans h.dep ha, Nat.le_trans h.blk hb, h.sho, h.shw⟩
theorem Fm.none {a b : Nat} : Fm a b .none := ⟨rfl, Nat.zero_le _, Nat.zero_le _, rfl, rfl⟩
theorem Fm.bool {a b : Nat} {x : Bool} : Fm a b (.bool x) := ⟨rfl, Nat.zero_le _, Nat.zero_le _, rfl, rfl⟩
theorem tos_len {x : Int} (h : x.natAbs.log2 < 79) : (PySem.Str.ofString (toString x)).length ≤ 80 := by
  have := int_text_length_le (a := x) (by decide) h
  rw [PySem.ofString_length]
  exact this
theorem Fm.int {a b : Nat} {x : Int} (h : x.natAbs.log2 < 79) : Fm a b (.int x) := ⟨rfl, Nat.zero_le _, Nat.zero_le _, by
  simp only [PyData.leavesShort, PyData.shown]
  exact decide_eq_true (tos_len h), by simp only [PyData.showable, decide_eq_true_eq]; omega⟩
theorem fm_all {a b : Nat} : ∀ {l : List D}, (∀ d ∈ l, Fm a b d) → PyData.canLayAll0 l = true ∧ PyData.depthAll l ≤ a ∧ PyData.bulkAll l ≤ l.length * (b + 1) ∧ PyData.leavesShortAll 80 l = true ∧ PyData.showableAll l = true
  | [], _ => ⟨rfl, Nat.zero_le _, Nat.zero_le _, rfl, rfl⟩
  | d :: r, h => by
    have h1 := h d (List.mem_cons_self ..)
    have ⟨t1, t2, t3, t4, t5⟩ := fm_all (l := r) fun x hx => h x (List.mem_cons_of_mem _ hx)
    refine ⟨by simp [PyData.canLayAll0, h1.lay, t1], ?_, ?_, by simp [PyData.leavesShortAll, h1.sho, t4], by simp [PyData.showableAll, h1.shw, t5]⟩
    · have := h1.dep
      simp only [PyData.depthAll]; omega
    · have := h1.blk
      simp only [PyData.bulkAll, List.length_cons, Nat.add_mul, Nat.one_mul]; omega
theorem Fm.list {a b n : Nat} {l : List D} (h : ∀ d ∈ l, Fm a b d) (hn : l.length ≤ n) : Fm (a + 1) (n * (b + 1)) (.list l) := by
  have ⟨t1, t2, t3, t4, t5⟩ := fm_all h
  exact ⟨by simpa [PyData.canLay0] using t1, by simp only [PyData.depth]; omega, by simp only [PyData.bulk]; exact Nat.le_trans t3 (Nat.mul_le_mul_right _ hn), by simpa [PyData.leavesShort] using t4, by simpa [PyData.showable] using t5⟩
theorem Fm.tuple {a b n : Nat} {l : List D} (h : ∀ d ∈ l, Fm a b d) (hn : l.length ≤ n) : Fm (a + 1) (n * (b + 1)) (.tuple l) := by
  have ⟨t1, t2, t3, t4, t5⟩ := fm_all h
  exact ⟨by simpa [PyData.canLay0] using t1, by simp only [PyData.depth]; omega, by simp only [PyData.bulk]; exact Nat.le_trans t3 (Nat.mul_le_mul_right _ hn), by simpa [PyData.leavesShort] using t4, by simpa [PyData.showable] using t5⟩
theorem Fm.shown {a : Nat} {d : D} (h : Fm a 200000 d) : d.shown.length ≤ sizeLine := by
  have := PyData.shown_le_bulk 80 (by decide) d h.sho
  have h2 := h.blk
  have e : sizeLine = 16777216 := Eq.trans rfl rfl
  omega
theorem Fm.noDict {a b : Nat} {d : D} (h : Fm a b d) : noDict d = true := by
  unfold Dm.noDict
  rw [PyData.hasDict_of_canLay d h.lay]; rfl
theorem Fm.repr {d : D} (h : Fm 64 200000 d) (hd : isDisp d = true) : reprOk d = true := by
  unfold reprOk
  rw [hd, h.shw, h.noDict, decide_eq_true h.dep, decide_eq_true h.shown]; rfl
theorem Fm.reprL {l : List D} (h : Fm 64 200000 (.list l)) : reprG [.list l] = some (.str (PyData.shown (.list l))) := by
  show (if reprOk (.list l) then _ else _) = _
  rw [if_pos (h.repr rfl)]
theorem Fm.reprT {l : List D} (h : Fm 64 200000 (.tuple l)) : reprG [.tuple l] = some (.str (PyData.shown (.tuple l))) := by
  show (if reprOk (.tuple l) then _ else _) = _
  rw [if_pos (h.repr rfl)]
def isStr : D → Bool
  | .str _ => true
  | _ => false
theorem Fm.eqX {b b' : Nat} {d e : D} {f : Bool → Bool} (h : Fm 64 b d) (h' : Fm 64 b' e) (hd : isStr d = false) : eqX f d e = some (.bool (f (PyData.eqv d e))) := by
  have h0 : eqS0 f d e = Option.none := by
    cases d <;> first
      | rfl
      | simp [isStr] at hd
  unfold Dm.eqX SeqAt.shaped
  rw [h0, h.lay, h'.lay, decide_eq_true h.dep, decide_eq_true h'.dep]; rfl
theorem Fm.eq {b b' : Nat} {d e : D} (h : Fm 64 b d) (h' : Fm 64 b' e) (hd : isStr d = false := by rfl) : eqD d e = some (.bool (PyData.eqv d e)) := Fm.eqX (f := fun b => b) h h' hd
theorem Fm.ne {b b' : Nat} {d e : D} (h : Fm 64 b d) (h' : Fm 64 b' e) (hd : isStr d = false := by rfl) : neD d e = some (.bool (!PyData.eqv d e)) := Fm.eqX (f := fun b => !b) h h' hd
theorem Fm.eq_self {b : Nat} {d : D} (h : Fm 64 b d) (hd : isStr d = false := by rfl) : eqD d d = some (.bool true) := by rw [h.eq h hd, SeqAt.eqv_refl d h.lay]
theorem Fm.ne_self {b : Nat} {d : D} (h : Fm 64 b d) (hd : isStr d = false := by rfl) : neD d d = some (.bool false) := by rw [h.ne h hd, SeqAt.eqv_refl d h.lay]; rfl
end
end Dm

namespace Dm
noncomputable section
open PySem PySem.Spec PyProof.Rows L2
@[simp] theorem pw_6 : powD (.int 10) (.int 6) = some (.int 1000000) := Eq.trans rfl rfl
@[simp] theorem pw_7 : powD (.int 10) (.int 7) = some (.int 10000000) := Eq.trans rfl rfl
@[simp] theorem pw_8 : powD (.int 10) (.int 8) = some (.int 100000000) := Eq.trans rfl rfl
@[simp] theorem pw_9 : powD (.int 10) (.int 9) = some (.int 1000000000) := Eq.trans rfl rfl
@[simp] theorem pw_10 : powD (.int 10) (.int 10) = some (.int 10000000000) := Eq.trans rfl rfl
@[simp] theorem pw_11 : powD (.int 10) (.int 11) = some (.int 100000000000) := Eq.trans rfl rfl
@[simp] theorem pw_12 : powD (.int 10) (.int 12) = some (.int 1000000000000) := Eq.trans rfl rfl
@[simp] theorem pw_13 : powD (.int 10) (.int 13) = some (.int 10000000000000) := Eq.trans rfl rfl
@[simp] theorem pw_14 : powD (.int 10) (.int 14) = some (.int 100000000000000) := Eq.trans rfl rfl
@[simp] theorem pw_15 : powD (.int 10) (.int 15) = some (.int 1000000000000000) := Eq.trans rfl rfl
@[simp] theorem pw_16 : powD (.int 10) (.int 16) = some (.int 10000000000000000) := Eq.trans rfl rfl
@[simp] theorem pw_17 : powD (.int 10) (.int 17) = some (.int 100000000000000000) := Eq.trans rfl rfl
@[simp] theorem pw_18 : powD (.int 10) (.int 18) = some (.int 1000000000000000000) := Eq.trans rfl rfl
@[simp] theorem pw_19 : powD (.int 10) (.int 19) = some (.int 10000000000000000000) := Eq.trans rfl rfl
@[simp] theorem pw_20 : powD (.int 10) (.int 20) = some (.int 100000000000000000000) := Eq.trans rfl rfl
@[simp] theorem pw_21 : powD (.int 10) (.int 21) = some (.int 1000000000000000000000) := Eq.trans rfl rfl
@[simp] theorem pw_22 : powD (.int 10) (.int 22) = some (.int 10000000000000000000000) := Eq.trans rfl rfl
@[simp] theorem pw_23 : powD (.int 10) (.int 23) = some (.int 100000000000000000000000) := Eq.trans rfl rfl
@[simp] theorem pw_24 : powD (.int 10) (.int 24) = some (.int 1000000000000000000000000) := Eq.trans rfl rfl
@[simp] theorem pw_25 : powD (.int 10) (.int 25) = some (.int 10000000000000000000000000) := Eq.trans rfl rfl
@[simp] theorem pw_26 : powD (.int 10) (.int 26) = some (.int 100000000000000000000000000) := Eq.trans rfl rfl
@[simp] theorem pw_27 : powD (.int 10) (.int 27) = some (.int 1000000000000000000000000000) := Eq.trans rfl rfl
@[simp] theorem pw_28 : powD (.int 10) (.int 28) = some (.int 10000000000000000000000000000) := Eq.trans rfl rfl
@[simp] theorem pw_29 : powD (.int 10) (.int 29) = some (.int 100000000000000000000000000000) := Eq.trans rfl rfl
@[simp] theorem pw_30 : powD (.int 10) (.int 30) = some (.int 1000000000000000000000000000000) := Eq.trans rfl rfl
@[simp] theorem pw_31 : powD (.int 10) (.int 31) = some (.int 10000000000000000000000000000000) := Eq.trans rfl rfl
@[simp] theorem pw_32 : powD (.int 10) (.int 32) = some (.int 100000000000000000000000000000000) := Eq.trans rfl rfl
@[simp] theorem pw_33 : powD (.int 10) (.int 33) = some (.int 1000000000000000000000000000000000) := Eq.trans rfl rfl
@[simp] theorem pw_34 : powD (.int 10) (.int 34) = some (.int 10000000000000000000000000000000000) := Eq.trans rfl rfl
@[simp] theorem pw_35 : powD (.int 10) (.int 35) = some (.int 100000000000000000000000000000000000) := Eq.trans rfl rfl
@[simp] theorem pw_36 : powD (.int 10) (.int 36) = some (.int 1000000000000000000000000000000000000) := Eq.trans rfl rfl
@[simp] theorem pw_37 : powD (.int 10) (.int 37) = some (.int 10000000000000000000000000000000000000) := Eq.trans rfl rfl
@[simp] theorem pw_38 : powD (.int 10) (.int 38) = some (.int 100000000000000000000000000000000000000) := Eq.trans rfl rfl
@[simp] theorem pw_39 : powD (.int 10) (.int 39) = some (.int 1000000000000000000000000000000000000000) := Eq.trans rfl rfl
@[simp] theorem pw_40 : powD (.int 10) (.int 40) = some (.int 10000000000000000000000000000000000000000) := Eq.trans rfl rfl
@[simp] theorem pw_41 : powD (.int 10) (.int 41) = some (.int 100000000000000000000000000000000000000000) := Eq.trans rfl rfl
@[simp] theorem pw_42 : powD (.int 10) (.int 42) = some (.int 1000000000000000000000000000000000000000000) := Eq.trans rfl rfl
@[simp] theorem pw_43 : powD (.int 10) (.int 43) = some (.int 10000000000000000000000000000000000000000000) := Eq.trans rfl rfl
@[simp] theorem pw_44 : powD (.int 10) (.int 44) = some (.int 100000000000000000000000000000000000000000000) := Eq.trans rfl rfl
@[simp] theorem pw_45 : powD (.int 10) (.int 45) = some (.int 1000000000000000000000000000000000000000000000) := Eq.trans rfl rfl
@[simp] theorem pw_46 : powD (.int 10) (.int 46) = some (.int 10000000000000000000000000000000000000000000000) := Eq.trans rfl rfl
@[simp] theorem pw_47 : powD (.int 10) (.int 47) = some (.int 100000000000000000000000000000000000000000000000) := Eq.trans rfl rfl
@[simp] theorem pw_48 : powD (.int 10) (.int 48) = some (.int 1000000000000000000000000000000000000000000000000) := Eq.trans rfl rfl
@[simp] theorem pw_49 : powD (.int 10) (.int 49) = some (.int 10000000000000000000000000000000000000000000000000) := Eq.trans rfl rfl
@[simp] theorem pw_50 : powD (.int 10) (.int 50) = some (.int 100000000000000000000000000000000000000000000000000) := Eq.trans rfl rfl
@[simp] theorem pw_51 : powD (.int 10) (.int 51) = some (.int 1000000000000000000000000000000000000000000000000000) := Eq.trans rfl rfl
@[simp] theorem pw_52 : powD (.int 10) (.int 52) = some (.int 10000000000000000000000000000000000000000000000000000) := Eq.trans rfl rfl
@[simp] theorem pw_53 : powD (.int 10) (.int 53) = some (.int 100000000000000000000000000000000000000000000000000000) := Eq.trans rfl rfl
@[simp] theorem pw_54 : powD (.int 10) (.int 54) = some (.int 1000000000000000000000000000000000000000000000000000000) := Eq.trans rfl rfl
@[simp] theorem pw_55 : powD (.int 10) (.int 55) = some (.int 10000000000000000000000000000000000000000000000000000000) := Eq.trans rfl rfl
@[simp] theorem pw_56 : powD (.int 10) (.int 56) = some (.int 100000000000000000000000000000000000000000000000000000000) := Eq.trans rfl rfl
@[simp] theorem pw_57 : powD (.int 10) (.int 57) = some (.int 1000000000000000000000000000000000000000000000000000000000) := Eq.trans rfl rfl
@[simp] theorem pw_58 : powD (.int 10) (.int 58) = some (.int 10000000000000000000000000000000000000000000000000000000000) := Eq.trans rfl rfl
@[simp] theorem pw_59 : powD (.int 10) (.int 59) = some (.int 100000000000000000000000000000000000000000000000000000000000) := Eq.trans rfl rfl
@[simp] theorem pw_60 : powD (.int 10) (.int 60) = some (.int 1000000000000000000000000000000000000000000000000000000000000) := Eq.trans rfl rfl
theorem bits_le {i : Int} {n : Nat} (h0 : 0 ≤ i) (h : i < 2 ^ n) : Builtin.Int.intBits i ≤ n := by
  unfold Builtin.Int.intBits
  by_cases e : i = 0
  · subst e; simp
  · have e2 : (i == 0) = false := by simpa using e
    rw [e2]
    have h1 : i.natAbs < 2 ^ n := by
      have : ((i.natAbs : Nat) : Int) < ((2 ^ n : Nat) : Int) := by rw [Int.natAbs_of_nonneg h0]; simpa using h
      exact_mod_cast this
    have := (Nat.log2_lt (by omega : i.natAbs ≠ 0)).mpr h1
    simp; omega
theorem pow_3 {i : Int} (h0 : 0 ≤ i) (h : i < 2 ^ 1000) : powD (.int i) (.int 3) = some (.int (i ^ 3)) := by
  have := bits_le h0 h
  unfold powD gI2c
  simp
  omega
theorem mod_p {i j : Int} (h : 0 < j) : modD (.int i) (.int j) = some (.int (i % j)) := by simp [modD, gI2c, h]
theorem div_p {i j : Int} (h : 0 < j) (h2 : j.natAbs.log2 < 9000) : divD (.int i) (.int j) = some (.int (i / j)) := by simp [divD, gI2c, h, h2]
theorem log_lt {i : Int} {n : Nat} (h0 : 0 ≤ i) (h : i < 2 ^ n) (hn : 0 < n) : i.natAbs.log2 < n := by
  by_cases e : i.natAbs = 0
  · rw [e]; simpa using hn
  · refine (Nat.log2_lt e).mpr ?_
    have : ((i.natAbs : Nat) : Int) < ((2 ^ n : Nat) : Int) := by rw [Int.natAbs_of_nonneg h0]; simpa using h
    exact_mod_cast this
theorem mul_p {i j : Int} (hi : 0 ≤ i) (hi2 : i < 2 ^ 1000) (hj : 0 ≤ j) (hj2 : j < 2 ^ 1000) : mulD (.int i) (.int j) = some (.int (i * j)) := by
  have := log_lt hi hi2 (by decide)
  have := log_lt hj hj2 (by decide)
  show (if _ then _ else _) = _
  rw [if_pos (by omega)]
@[simp] theorem abs_int {i : Int} : absG [.int i] = some (.int (if i < 0 then -i else i)) := Eq.trans rfl rfl
@[simp] theorem max_int {i j : Int} : maxG [.int i, .int j] = some (.int (if j > i then j else i)) := Eq.trans rfl rfl
@[simp] theorem min_int {i j : Int} : minG [.int i, .int j] = some (.int (if j < i then j else i)) := Eq.trans rfl rfl
@[simp] theorem tup_lst {a : List D} : tupG [.list a] = some (.tuple a) := Eq.trans rfl rfl
theorem rg1_nat {n : Nat} (h : n < 4611686018427387904) : rg1D [.int (n : Int)] = some ((List.range n).map fun i => PyData.int (i : Nat)) := by
  unfold rg1D fit62
  have h1 : -(2 ^ 62 : Int) ≤ (n : Int) := by omega
  have h2 : (n : Int) < 2 ^ 62 := by omega
  simp only [inB_t h1 h2, if_true, Int.toNat_natCast, rgD_nat]
theorem rg1_int {n : Int} (h0 : 0 ≤ n) (h : n < 4611686018427387904) : rg1D [.int n] = some ((List.range n.toNat).map fun i => PyData.int (i : Nat)) := by
  have := rg1_nat (n := n.toNat) (by omega)
  rwa [Int.toNat_of_nonneg h0] at this
@[simp] theorem rg1_2 : rg1D [.int 2] = some ((List.range 2).map fun i => PyData.int (i : Nat)) := rg1_nat (n := 2) (by decide)
@[simp] theorem rg1_3 : rg1D [.int 3] = some ((List.range 3).map fun i => PyData.int (i : Nat)) := rg1_nat (n := 3) (by decide)
/-- what a draw's mixing needs -/
theorem mix1 {b c q : Int} (h1 : 0 ≤ b) (h2 : b < 2 ^ 200) (h3 : 0 ≤ c) (h4 : c ≤ 2 ^ 40) (hq : 0 ≤ q) (hq2 : q < 2 ^ 200) : powD (.int (b + q * c)) (.int 3) = some (.int ((b + q * c) ^ 3)) := by
  have h5 : 0 ≤ q * c := Int.mul_nonneg hq h3
  have h6 : q * c < 2 ^ 250 := Int.lt_of_le_of_lt (Int.mul_le_mul (Int.le_of_lt hq2) h4 h3 (by decide)) (by decide)
  exact pow_3 (by omega) (Int.lt_trans (Int.add_lt_add h2 h6) (by decide))
theorem mix2 {x m c q : Int} (hm : 0 < m) (hm2 : m ≤ 2 ^ 200) (h3 : 0 ≤ c) (h4 : c ≤ 2 ^ 40) (hq : 0 ≤ q) (hq2 : q < 2 ^ 200) : powD (.int (x % m + q * c)) (.int 3) = some (.int ((x % m + q * c) ^ 3)) :=
  mix1 (Int.emod_nonneg _ (by omega)) (Int.lt_of_lt_of_le (Int.emod_lt_of_pos _ hm) hm2) h3 h4 hq hq2
theorem mix3 {c q : Int} (h3 : 0 ≤ c) (h4 : c ≤ 2 ^ 40) (hq : 0 ≤ q) (hq2 : q < 2 ^ 200) : mulD (.int q) (.int c) = some (.int (q * c)) :=
  mul_p hq (Int.lt_trans hq2 (by decide)) h3 (Int.lt_of_le_of_lt h4 (by decide))
end
end Dm

namespace Dm
noncomputable section
open PySem PySem.Spec PyProof.Rows L2
@[simp] theorem itD_lst {l : List D} : itD (.list l) = some l := Eq.trans rfl rfl
@[simp] theorem itD_tup {l : List D} : itD (.tuple l) = some l := Eq.trans rfl rfl
/-! ### sum of a tuple -/
def rSumT (K : PySem.W.Frag) : List V → Hp → VK → Prop := fun vs H Q => ∃ (a : Addr) (ns : List Int), vs = [V.ref a] ∧ SqT K H a (ns.map V.int) ∧ Q (.int ns.sum) H
theorem cr_sumT {X : Cx} (hc : X.calm = true) : CallR X (.builtin "sum") (rSumT X.K) := by
  intro pins s σ H vs us Q I r h
  obtain ⟨a, ns, rfl, hT, q⟩ := h
  obtain ⟨its, rv, ht, _⟩ := I.tuple hT
  rw [Vals.ref1 r]
  have hi := rv.ints
  obtain ⟨xs, e⟩ := hi.allInts.items
  have hn : numsOf (intItems xs).toList = ns := by rw [← e]; exact hi.numsOf
  rw [nums_intItems] at hn
  rw [e] at ht
  refine PySem.W.ktm_sumG (I.ok.hd hc) ht fun h' tk t' hk => ?_
  rw [preSum_eq, List.take_of_length_le (by simp), hn]
  exact ⟨.int _, H, I.kept hk, ⟨_, rfl⟩, q⟩
def sumA : List D → Option D
  | [.list ds] => (ints? ds).map fun ns => .int ns.sum
  | [.tuple ds] => (ints? ds).map fun ns => .int ns.sum
  | _ => none
theorem cs_sumA {K : PySem.W.Frag} : CallS K (fun vs H Q => rSum K vs H Q ∨ rSumT K vs H Q) sumA := by
  intro H C L vs ds d Q r e q
  unfold sumA at e
  split at e
  · rename_i ds
    cases e2 : ints? ds with
    | none => rw [e2] at e; cases e
    | some ns =>
      rw [e2] at e; cases e
      obtain ⟨v, rfl, rv⟩ := r.one
      obtain ⟨a, us, rfl, ha, _, rr⟩ := rv.lst_inv
      have := ints?_some e2
      subst this
      have eu := rr.ints
      subst eu
      exact .inl ⟨_, ns, rfl, .of ha, q _ H C .refl (.int _)⟩
  · rename_i ds
    cases e2 : ints? ds with
    | none => rw [e2] at e; cases e
    | some ns =>
      rw [e2] at e; cases e
      obtain ⟨v, rfl, rv⟩ := r.one
      obtain ⟨a, us, rfl, ha, rr⟩ := rv.tup_inv
      have := ints?_some e2
      subst this
      have eu := rr.ints
      subst eu
      exact .inr ⟨_, ns, rfl, ha, q _ H C .refl (.int _)⟩
  · cases e
theorem cr_sumA {X : Cx} (hc : X.calm = true) : CallR X (.builtin "sum") (fun vs H Q => rSum X.K vs H Q ∨ rSumT X.K vs H Q) := (cr_sum hc).or (cr_sumT hc)
@[simp] theorem sum_lst {l : List Int} : sumA [.list (l.map PyData.int)] = some (.int l.sum) := by simp [sumA]
@[simp] theorem sum_tup {l : List Int} : sumA [.tuple (l.map PyData.int)] = some (.int l.sum) := by simp [sumA]
/-! ### x in l, x not in l -/
def inF (f : Bool → Bool) (x y : D) : Option D := match y with
  | .list ds => if SeqAt.shaped x && SeqAt.shaped (.list ds) then some (.bool (f (ds.any fun z => PyData.eqv z x))) else none
  | _ => none
def inD : D → D → Option D := inF fun b => b
def notInD : D → D → Option D := inF fun b => !b
theorem os_inF {K : PySem.W.Frag} {f : Bool → Bool} {r : R2} (h : ∀ x y H Q d ds, Dp K H x d → Dp K H y (.list ds) → SeqAt.shaped d = true → SeqAt.shaped (.list ds) = true → Q (.bl (f (ds.any fun z => PyData.eqv z d))) H → r x y H Q) : OpS K r (inF f) := by
  intro H C L x y dx dy d Q q1 q2 e q
  cases dy <;> simp only [inF, reduceCtorEq] at e
  rename_i ds
  by_cases hz : (SeqAt.shaped dx && SeqAt.shaped (.list ds)) = true
  · rw [if_pos hz] at e; cases e
    rw [Bool.and_eq_true] at hz
    exact h _ _ _ _ _ _ q1.dp q2.dp hz.1 hz.2 (q _ H C .refl (.bl _))
  · rw [if_neg hz] at e; cases e
theorem os_in {K : PySem.W.Frag} : OpS K (rInD K) inD := os_inF fun x y H Q d ds h1 h2 h3 h4 h5 => ⟨d, ds, h1, h2, h3, h4, h5⟩
theorem os_notin {K : PySem.W.Frag} : OpS K (rNotInD K) notInD := os_inF fun x y H Q d ds h1 h2 h3 h4 h5 => ⟨d, ds, h1, h2, h3, h4, h5⟩
section
variable {X : Cx} {np : Fp} {EW : XW} {a b : Expr} {fa fb : ES} {pos : Pos}
theorem de_in {k : Nat} (hr : Room k X.A) (ha : DE X np EW a fa) (hb : DE X np EW b fb) (hm : behindInMarks .In b = false := by rfl) : DE X np EW (.Compare a [.In] [b] pos) (opE inD fa fb) := de_cmp (op_inD (room65 hr)) os_in ha hb hm
theorem de_notin {k : Nat} (hr : Room k X.A) (ha : DE X np EW a fa) (hb : DE X np EW b fb) (hm : behindInMarks .NotIn b = false := by rfl) : DE X np EW (.Compare a [.NotIn] [b] pos) (opE notInD fa fb) := de_cmp (op_notInD (room65 hr)) os_notin ha hb hm
theorem dt_in {k : Nat} (hr : Room k X.A) (ha : DE X np EW a fa) (hb : DE X np EW b fb) (hm : behindInMarks .In b = false := by rfl) : DT X np EW (.Compare a [.In] [b] pos) (asT (opE inD fa fb)) := dt_cmp (op_inD (room65 hr)) os_in ha hb hm
theorem dt_notin {k : Nat} (hr : Room k X.A) (ha : DE X np EW a fa) (hb : DE X np EW b fb) (hm : behindInMarks .NotIn b = false := by rfl) : DT X np EW (.Compare a [.NotIn] [b] pos) (asT (opE notInD fa fb)) := dt_cmp (op_notInD (room65 hr)) os_notin ha hb hm
end
theorem inF_int {f : Bool → Bool} {i : Int} {l : List Int} : inF f (.int i) (.list (l.map PyData.int)) = some (.bool (f (decide (i ∈ l)))) := by
  have h1 : SeqAt.shaped (.int i) = true := rfl
  have h2 : SeqAt.shaped (.list (l.map PyData.int)) = true := by
    have h3 : ∀ l : List Int, PyData.canLayAll0 (l.map PyData.int) = true ∧ PyData.depthAll (l.map PyData.int) = 0 := fun l => by
      induction l with
      | nil => exact ⟨rfl, rfl⟩
      | cons a r ih => exact ⟨by simp [PyData.canLayAll0, PyData.canLay0, ih.1], by simp [PyData.depthAll, PyData.depth, ih.2]⟩
    unfold SeqAt.shaped
    simp [PyData.canLay0, PyData.depth, (h3 l).1, (h3 l).2]
  unfold inF
  simp only [h1, h2, Bool.and_self, if_true]
  congr 3
  rw [Bool.eq_iff_iff]
  simp [PyData.eqv]
theorem in_int {i : Int} {l : List Int} : inD (.int i) (.list (l.map PyData.int)) = some (.bool (decide (i ∈ l))) := inF_int
theorem notin_int {i : Int} {l : List Int} : notInD (.int i) (.list (l.map PyData.int)) = some (.bool (!decide (i ∈ l))) := inF_int
end
end Dm

namespace Dm
noncomputable section
open PySem PySem.Spec PyProof.Rows L2
/-! ### a tuple times an int -/
theorem tuple_mul1 (l : Addr) (items : Array Value) (n : Nat) (dd : Option Addr) (sl : Array (Option Value)) (u : Tok) :
    Meets (Builtin.«tuple.__mul__» ⟨[.ref l, .int 1 u], []⟩) (fun _ R s => s.heap.get? l = some { cls := .type "tuple", dict := dd, data := .seq items n, slots := sl } ∧
      R (.ok (.ret (Value.ref l))) s) :=
  .of_wp fun prog w A R s h => by
    obtain ⟨hp, g, d, tk, os⟩ := s
    obtain ⟨hl, h⟩ := h
    have f1 := AutoSeq1.idx_int
    have c1 : (items.isEmpty || (1 : Int) == 1) = true := by simp
    wp_walk using wpAny_loadPart' hl
    exact ⟨_, rfl, h⟩
def rRep1 (K : PySem.W.Frag) : R2 := fun x y H Q => ∃ l xs, x = .ref l ∧ y = .int 1 ∧ SqT K H l xs ∧ Q (.ref l) H
theorem op_rep1 {X : Cx} : OpR X (binaryOp .Mult) (rRep1 X.K) := by
  intro pins s σ H x y v u Q I rx ry h
  obtain ⟨l, xs, rfl, rfl, hT, q⟩ := h
  cases rx
  obtain ⟨t, rfl⟩ := ry
  obtain ⟨its, r, ⟨⟨cls, dd, data, sl⟩, ho, hc, n, hd⟩, hs⟩ := I.tuple hT
  simp only at hc hd
  subst hc hd
  refine wpAny_binaryOp_repeat_ref (T := "tuple") (U := "int") (by decide) ⟨_, ho, rfl⟩ (fun s' => typeIs_int s' 1 t) noFill_tuple_mul F.fills_int_mul F.slot_int_rmul repeat_tuple F.slot_int_index.lookup
    (call_meets F.slot_int_rmul (typeIs_int s 1 t) F.entry_int_rmul (F.args_int_rmul_2 _ _) (int_rmul_tuple 1 t l its.toArray n dd sl)
      ⟨ho, rfl, ⟨_, ho, rfl⟩, call_meets F.slot_tuple_mul ⟨_, ho, rfl⟩ F.entry_tuple_mul (F.args_tuple_mul_2 _ _) (tuple_mul1 l its.toArray n dd sl t) ⟨ho, ?_⟩⟩)
  exact ⟨.ref l, H, I, rfl, q⟩
def rRepX (K : PySem.W.Frag) : R2 := fun x y H Q => ∃ l k xs, x = .ref l ∧ y = .int k ∧ SqT K H l xs ∧ xs ≠ [] ∧ 2 ≤ k ∧ k ≤ 1000 ∧ xs.length ≤ 1000 ∧ ∀ p ob, H p = none → ob.dict = none → Q (.ref p) (upd H p (.frz ob (.tup (List.replicate k.toNat xs).flatten)))
theorem op_repX {X : Cx} : OpR X (binaryOp .Mult) (rRepX X.K) := by
  intro pins s σ H x y v u Q I rx ry h
  obtain ⟨l, k, xs, rfl, rfl, hT, hne, h1, h2, hz, q⟩ := h
  cases rx
  obtain ⟨t, rfl⟩ := ry
  obtain ⟨its, r, ⟨⟨cls, dd, data, sl⟩, ho, hc, n, hd⟩, hs⟩ := I.tuple hT
  simp only at hc hd
  subst hc hd
  have ln := r.length
  have hn : its ≠ [] := fun e => hne (List.eq_nil_of_length_eq_zero (by rw [ln, e]; rfl))
  have hi : its.toArray.isEmpty = false := by cases its with | nil => exact absurd rfl hn | cons a b => rfl
  have sz : its.toArray.size = xs.length := by rw [List.size_toArray, ln]
  have hm : ((its.toArray.size : Nat) : Int) * k ≤ 1000000 := by
    have a1 : ((xs.length : Nat) : Int) * k ≤ 1000 * k := Int.mul_le_mul_of_nonneg_right (by omega) (by omega)
    rw [sz]; omega
  have k1 : k.toNat * xs.length ≤ 1000 * 1000 := Nat.mul_le_mul (by omega) hz
  have fl : (List.replicate k.toNat its).flatten.length ≤ sizeLine := by
    rw [PyProof.Rows.lm_len_rep_flat, ← ln, sizeLine_eq]; omega
  have w0 : (decide (k < -(2 ^ 63)) || decide (k ≥ 2 ^ 63)) = false := by simp; omega
  have w1 : (its.toArray.isEmpty || k == 1) = false := by rw [hi]; simp; omega
  have w2 : (decide (k ≤ 0) || its.toArray.isEmpty) = false := by rw [hi]; simp; omega
  have w3 : Builtin.Tuple.tupleTooMany (((its.toArray.size : Nat) : Int) * k) = false := by
    unfold Builtin.Tuple.tupleTooMany
    rw [sizeLine_eq]
    exact decide_eq_false (by omega)
  refine wpAny_binaryOp_repeat_ref (T := "tuple") (U := "int") (by decide) ⟨_, ho, rfl⟩ (fun s' => typeIs_int s' k t) noFill_tuple_mul F.fills_int_mul F.slot_int_rmul repeat_tuple F.slot_int_index.lookup
    (call_meets F.slot_int_rmul (typeIs_int s k t) F.entry_int_rmul (F.args_int_rmul_2 _ _) (int_rmul_tuple k t l its.toArray n dd sl)
      ⟨ho, rfl, ⟨_, ho, rfl⟩, call_meets F.slot_tuple_mul ⟨_, ho, rfl⟩ F.entry_tuple_mul (F.args_tuple_mul_2 _ _) (tuple_mulW l its.toArray n dd sl k t w0 w1 w2 (by omega) w3 (by rw [size_rep, List.size_toArray]; exact fl)) ⟨ho, ?_⟩⟩)
  rw [size_rep]
  exact laid_tupX I (r.rep k.toNat) (by rw [PyProof.Rows.lm_len_rep_flat, sizeLine_eq]; omega) q
def mulT : D → D → Option D
  | .tuple xs, .int k => if k = 1 then some (.tuple xs) else if xs ≠ [] ∧ inB 2 1001 k = true ∧ xs.length ≤ 1000 then some (.tuple (List.replicate k.toNat xs).flatten) else none
  | _, _ => none
theorem os_mulT {K : PySem.W.Frag} : OpS K (fun x y H Q => rRep1 K x y H Q ∨ rRepX K x y H Q) mulT := by
  intro H C L x y dx dy d Q r1 r2 e q
  cases dx <;> cases dy <;> simp only [mulT, reduceCtorEq] at e
  obtain ⟨p, us, rfl, hp, rp⟩ := r1.tup_invX
  obtain rfl := r2.int_inv
  rename_i xs k
  by_cases h1 : k = 1
  · subst h1
    rw [if_pos rfl] at e; cases e
    exact .inl ⟨_, _, rfl, rfl, hp.sq, q _ H C .refl (.tup hp rp)⟩
  · rw [if_neg h1] at e
    by_cases hz : xs ≠ [] ∧ inB 2 1001 k = true ∧ xs.length ≤ 1000
    · rw [if_pos hz] at e; cases e
      obtain ⟨z1, z2, z3⟩ := hz
      rw [inB_eq, Bool.and_eq_true, decide_eq_true_eq, decide_eq_true_eq] at z2
      refine .inr ⟨_, _, _, rfl, rfl, hp.sq, fun h => z1 (rp.nil_iff.mp h), z2.1, by omega, by rw [rp.len]; exact z3, fun t ob ht hd => ?_⟩
      have S := pstp_id (C := C) (o := .frz ob (.tup (List.replicate k.toNat us).flatten)) ht
      exact q _ _ _ S (.tup (newX hd) ((rep_rp rp k.toNat).same S.same))
    · rw [if_neg hz] at e; cases e
section
variable {X : Cx} {np : Fp} {EW : XW} {a b o e : Expr} {fa fb fo fe : ES} {pos apos cpos : Pos}
theorem de_mulT (ha : DE X np EW a fa) (hb : DE X np EW b fb) : DE X np EW (.BinOp a .Mult b pos) (opE mulT fa fb) := de_op (OpR.or op_rep1 op_repX) os_mulT ha hb
/-! ### l.index(x) -/
def idxE (fo fe : ES) : ES := fun L ρ => (fo L ρ).bind fun p => match p.1 with
  | .list ds => (fe L p.2).bind fun q => if SeqAt.shaped (.list ds) && SeqAt.shaped q.1 then (match ds.findIdx? (fun z => PyData.eqv z q.1) with
    | some j => .ok (.int (j : Nat), q.2)
    | none => .bad) else .bad
  | _ => .bad
theorem de_index {k : Nat} (hr : Room k X.A) (ho : DE X np EW o fo) (he : DE X np EW e fe)
    (hpe : ∀ {to t : TE}, MtR X "list.index" (rIndexD X.K) → PE X o to → PE X e t → PE X (.Call (.Attribute o "index" apos) [e] [] cpos) (tBM X.K "list" (rIndexD X.K) to (tCons t tNil))) : DE X np EW (.Call (.Attribute o "index" apos) [e] [] cpos) (idxE fo fe) :=
  PE.weak (hpe (mt_indexD (room65 hr)) ho he) fun σ H Q ⟨L, C, ρ, R, h⟩ => by
    refine tE_of R h fun p x H1 C1 A1 R1 r1 h1 => ?_
    obtain ⟨d1, ρ1⟩ := p
    cases d1 with
    | list ds =>
      obtain ⟨a, us, rfl, ha, ca, rr⟩ := r1.lst_inv
      refine ⟨.inl ⟨rfl, _, .inl (.inl ha)⟩, tE_of R1 h1 fun q y H2 C2 A2 R2 r2 h2 => ?_⟩
      obtain ⟨d2, ρ2⟩ := q
      by_cases hz : (SeqAt.shaped (.list ds) && SeqAt.shaped d2) = true
      · simp only [hz, if_true] at h2
        rw [Bool.and_eq_true] at hz
        cases ej : ds.findIdx? (fun z => PyData.eqv z d2) with
        | none => simp only [ej] at h2; exact h2.elim
        | some j =>
          simp only [ej] at h2
          obtain ⟨hj, hj1, hj2⟩ := List.findIdx?_eq_some_iff_getElem.mp ej
          refine ⟨a, y, d2, ds, j, ds[j], rfl, rfl, (A2.rp r1).dp, r2.dp, hz.1, hz.2, List.getElem?_eq_getElem hj, hj1, fun m z' hm hz' => ?_, h2 _ H2 C2 (A1.trans A2) R2 (.int _)⟩
          obtain ⟨hm1, hm2⟩ := List.getElem?_eq_some_iff.mp hz'
          subst hm2
          simpa using hj2 m hm
      · simp only [hz] at h2; exact h2.elim
    | _ => exact h1.elim
end
end
end Dm

namespace Dm
noncomputable section
open PySem PySem.Spec PyProof.Rows L2
section
variable {X : Cx} {np : Fp} {EW : XW} {a b e : Expr} {fa fb fe : ES} {p pos : Pos}
/-! ### lists made anew of lists that others hold -/
def flL : D → Re (List D)
  | .list l => if noLs l then .ok l else .bad
  | _ => .bad
/-- a new list by an operator, of what others hold: flat items alone -/
def nopA (g : D → D → Option D) (fa fb : ES) : AS := fun L ρ => (opE g fa fb .an ρ).bind fun p => (flL p.1).bind fun l => .ok (l, p.2)
theorem flL_ok {d : D} {α : Type} {k : List D → Re α} {Q : α → Prop} {E : Exn → Prop} (h : wp ((flL d).bind k) Q E) : ∃ l, d = .list l ∧ noLs l = true ∧ wp (k l) Q E := by
  cases d with
  | list l =>
    by_cases hz : noLs l = true
    · rw [show flL (.list l) = .ok l by simp [flL, hz]] at h
      exact ⟨l, rfl, hz, h⟩
    · rw [show flL (.list l) = .bad by simp [flL, hz]] at h
      exact h.elim
  | _ => exact h.elim
theorem an_pu {L : Lv} : (Lv.an.pure || !L.pure) = true := rfl
theorem dn_add (ha : DE X np EW a fa) (hb : DE X np EW b fb) : DN X np EW (.BinOp a .Add b pos) (nopA addD fa fb) :=
  PE.weak (pe_op op_addAll ha hb) fun σ H Q ⟨L, C, ρ, R, h⟩ => tE_of (L := .an) R (wp_bind.mp h) fun u x H1 C1 A1 R1 r1 h1 => tE_of R1 h1 fun v y H2 C2 A2 R2 r2 h2 => by
    obtain ⟨d, e, h3⟩ := wp_ofO (wp_bind.mp h2)
    obtain ⟨l, rfl, hl, h4⟩ := flL_ok h3
    have A := (A1.trans A2).lev (K := X.K) (L := L) an_pu
    replace r1 := A2.rp r1
    obtain ⟨du, ρ1⟩ := u
    obtain ⟨dv, ρ2⟩ := v
    cases du <;> cases dv <;> simp only [addD, reduceCtorEq] at e
    · cases e
    · split at e <;> cases e
    · obtain ⟨p, us, rfl, hp, cp, rp⟩ := r1.lst_inv
      obtain ⟨p2, us2, rfl, hp2, cp2, rp2⟩ := r2.lst_inv
      rename_i xs ys
      by_cases hz : xs.length + ys.length ≤ sizeLine
      · rw [if_pos hz] at e; cases e
        exact .inr (.inr (.inl ⟨_, _, _, _, rfl, rfl, hp, hp2, by rw [rp.len, rp2.len]; exact hz, fun t ht => h4 t _ H2 C2 A R2 ht (RpA.free hl (rp.app rp2))⟩))
      · rw [if_neg hz] at e; cases e
    · split at e <;> cases e
theorem dn_mul (ha : DE X np EW a fa) (hb : DE X np EW b fb) : DN X np EW (.BinOp a .Mult b pos) (nopA mulD fa fb) :=
  PE.weak (pe_op op_mulAll ha hb) fun σ H Q ⟨L, C, ρ, R, h⟩ => tE_of (L := .an) R (wp_bind.mp h) fun u x H1 C1 A1 R1 r1 h1 => tE_of R1 h1 fun v y H2 C2 A2 R2 r2 h2 => by
    obtain ⟨d, e, h3⟩ := wp_ofO (wp_bind.mp h2)
    obtain ⟨l, rfl, hl, h4⟩ := flL_ok h3
    have A := (A1.trans A2).lev (K := X.K) (L := L) an_pu
    replace r1 := A2.rp r1
    obtain ⟨du, ρ1⟩ := u
    obtain ⟨dv, ρ2⟩ := v
    cases du <;> cases dv <;> simp only [mulD, reduceCtorEq] at e
    · split at e <;> cases e
    · obtain ⟨p, us, rfl, hp, cp, rp⟩ := r1.lst_inv
      obtain rfl := r2.int_inv
      rename_i xs k
      by_cases hz : (fitI k && decide (xs.length * k.toNat ≤ sizeLine)) = true
      · rw [if_pos hz] at e; cases e
        simp only [fitI, inB_eq, Bool.and_eq_true, decide_eq_true_eq] at hz
        exact .inr ⟨_, _, _, rfl, rfl, hp, hz.1.1, hz.1.2, by rw [rp.len]; exact hz.2, fun t ht => h4 t _ H2 C2 A R2 ht (RpA.free hl (rep_rp rp k.toNat))⟩
      · rw [if_neg hz] at e; cases e
def nslA (fa : ES) (lo hi : OS) : AS := fun L ρ => (slE fa lo hi .an ρ).bind fun p => (flL p.1).bind fun l => .ok (l, p.2)
theorem dn_sl {lo hi : Option Expr} {fl fh : OS} {p2 : Pos} (ha : DE X np EW a fa) (hl : DO X np EW lo fl) (hh : DO X np EW hi fh) : DN X np EW (.Subscript a (.Slice lo hi none p2) pos) (nslA fa fl fh) :=
  PE.weak (pe_slice sl_all ha hl hh) fun σ H Q ⟨L, C, ρ, R, h⟩ => tE_of (L := .an) R (wp_bind.mp h) fun p v H1 C1 A1 R1 r1 h1 => tO_of R1 h1 fun q H2 C2 A2 R2 h2 => tO_of R2 h2 fun r H3 C3 A3 R3 h3 => by
    obtain ⟨d, e, h4⟩ := wp_ofO (wp_bind.mp h3)
    obtain ⟨l, rfl, hl, h5⟩ := flL_ok h4
    obtain ⟨dp, ρ1⟩ := p
    have A := ((A1.trans A2).trans A3).lev (K := X.K) (L := L) an_pu
    have rp := A3.rp (A2.rp r1)
    cases dp <;> simp only [slD2, reduceCtorEq] at e
    · cases e
      obtain ⟨t, us, rfl, ht, ct, ru⟩ := rp.lst_inv
      exact .inl ⟨_, _, rfl, .of ht, fun z hz => h5 z _ H3 C3 A R3 hz (RpA.free hl (cut_rp ru _ _))⟩
    · cases e
/-! ### sorted, ints -/
def insT (x : Int) : List Int → List Int
  | [] => [x]
  | y :: r => if x ≤ y then x :: y :: r else y :: insT x r
def srtT : List Int → List Int
  | [] => []
  | x :: r => insT x (srtT r)
theorem ins_perm {x : Int} : ∀ {l : List Int}, (insT x l).Perm (x :: l)
  | [] => .refl _
  | y :: r => by
    unfold insT
    split
    · exact .refl _
    · exact (List.Perm.cons y ins_perm).trans (List.Perm.swap x y r)
theorem srt_perm : ∀ {l : List Int}, (srtT l).Perm l
  | [] => .refl _
  | x :: r => ins_perm.trans (List.Perm.cons x srt_perm)
theorem ins_srt {x : Int} : ∀ {l : List Int}, l.Pairwise (· ≤ ·) → (insT x l).Pairwise (· ≤ ·)
  | [], _ => by simp [insT]
  | y :: r, h => by
    unfold insT
    have h1 := List.pairwise_cons.mp h
    split
    · rename_i hx
      exact List.pairwise_cons.mpr ⟨fun z hz => by
        rcases List.mem_cons.mp hz with rfl | hz
        · exact hx
        · have := h1.1 z hz; omega, h⟩
    · rename_i hx
      exact List.pairwise_cons.mpr ⟨fun z hz => by
        rcases List.mem_cons.mp (ins_perm.mem_iff.mp hz) with rfl | hz
        · omega
        · exact h1.1 z hz, ins_srt h1.2⟩
theorem srt_srt : ∀ {l : List Int}, (srtT l).Pairwise (· ≤ ·)
  | [] => .nil
  | x :: r => ins_srt srt_srt
theorem srt_uni : ∀ {a b : List Int}, a.Perm b → a.Pairwise (· ≤ ·) → b.Pairwise (· ≤ ·) → a = b
  | [], b, h, _, _ => h.nil_eq
  | x :: a, [], h, _, _ => (h.length_eq ▸ rfl : (x :: a).length = 0) |> fun z => absurd z (by simp)
  | x :: a, y :: b, h, h1, h2 => by
    have e1 := List.pairwise_cons.mp h1
    have e2 := List.pairwise_cons.mp h2
    have hx : x = y := by
      have m1 : x ∈ y :: b := h.mem_iff.mp (List.mem_cons_self ..)
      have m2 : y ∈ x :: a := h.mem_iff.mpr (List.mem_cons_self ..)
      rcases List.mem_cons.mp m1 with z | z
      · exact z
      · rcases List.mem_cons.mp m2 with w | w
        · exact w.symm
        · have := e2.1 x z
          have := e1.1 y w
          omega
    subst hx
    rw [srt_uni (List.Perm.cons_inv h) e1.2 e2.2]
theorem srt_of {a b : List Int} (h : a.Perm b) (h1 : a.Pairwise (· ≤ ·)) : a = srtT b := srt_uni (h.trans srt_perm.symm) h1 srt_srt
def intsD : D → Option (List Int)
  | .list l => ints? l
  | _ => none
def soA (fe : ES) : AS := fun L ρ => (fe L ρ).bind fun p => (ofO (intsD p.1)).bind fun ns => .ok ((srtT ns).map PyData.int, p.2)
theorem rp_ints {K : PySem.W.Frag} {H : Hp} {P : Addr → Prop} : ∀ {l : List Int}, RpA K H P (l.map V.int) (l.map PyData.int)
  | [] => .nil
  | _ :: _ => .cons (.int _) rp_ints
theorem dn_sorted {x : Str} (hg : Gl X x) (hm : X.mg x = none) (hv : bootBuiltins x = some (.builtin "sorted")) (ha : DE X np EW e fe) (hn : x ≠ "__name__" := by decide) (hdb : (x == ("__debug__" : Str)) = false := by decide)
    (he : starEach [e] X.env = (false, eval e X.env) :: starEach [] X.env := by rfl) : DN X np EW (.Call (.Name x p) [e] [] pos) (soA fe) :=
  PE.weak (pe_callB cr_sortedI hg hm hv (pa_cons ha pa_nil he) hn hdb he rfl) fun σ H Q ⟨L, C, ρ, R, h⟩ => tE_of R h fun q v H1 C1 A1 R1 r1 h1 => by
    obtain ⟨ns, e, h2⟩ := wp_ofO (wp_bind.mp h1)
    obtain ⟨dq, ρ1⟩ := q
    cases dq <;> simp only [intsD, reduceCtorEq] at e
    have := ints?_some e
    subst this
    obtain ⟨a, us, rfl, ha, _, rr⟩ := r1.lst_inv
    have eu := rr.ints
    subst eu
    refine ⟨_, ns, rfl, .of ha, fun ns' t k1 k2 ht => ?_⟩
    have := srt_of k1 k2
    subst this
    exact h2 t _ H1 C1 A1 R1 ht rp_ints
end
variable {fa fb fe : ES} {L : Lv} {ρ : Slots} {g : D → D → Option D} {lo hi : OS}
@[simp] theorem ev_nopA : nopA g fa fb L ρ = (opE g fa fb .an ρ).bind fun p => (flL p.1).bind fun l => .ok (l, p.2) := Eq.trans rfl rfl
@[simp] theorem ev_nslA : nslA fa lo hi L ρ = (slE fa lo hi .an ρ).bind fun p => (flL p.1).bind fun l => .ok (l, p.2) := Eq.trans rfl rfl
@[simp] theorem ev_soA : soA fe L ρ = (fe L ρ).bind fun p => (ofO (intsD p.1)).bind fun ns => .ok ((srtT ns).map PyData.int, p.2) := Eq.trans rfl rfl
@[simp] theorem flL_list {l : List D} : flL (.list l) = if noLs l then .ok l else .bad := Eq.trans rfl rfl
@[simp] theorem intsD_map {l : List Int} : intsD (.list (l.map PyData.int)) = some l := by
  show ints? (l.map PyData.int) = some l
  exact ints?_map l
end
end Dm

namespace Dm
noncomputable section
open PySem PySem.Spec PyProof.Rows L2
section
variable {X : Cx} {np : Fp} {EW : XW} {a b e : Expr} {fa fb fe : ES} {p pos : Pos}
/-! ### a, b, .. = a list -/
def luG (n : Nat) (gs : GSs) : GS := fun L d ρ => match d with
  | .list ds => if ds.length = n then gs L ds ρ else none
  | _ => none
theorem dg_lst {es : List Expr} {is : List Nat} {gs : GSs} {kk n : Nat} (hc : X.calm = true) (h : DGs X np es is gs) (hn : (assignEach es X.env).length = n := by rfl) (hst : (assignEach es X.env).findIdx? (·.1) = none := by rfl) : DG X np (.Tuple es kk pos) is (luG n gs) :=
  PG.weak (pg_lst hc h hn hst) fun v σ H Q ⟨L, C, ρ, d, ρ', R, r, e, q⟩ => by
    cases d <;> simp only [luG, reduceCtorEq] at e
    rename_i ds
    obtain ⟨a, us, rfl, ha, _, rr⟩ : ∃ a us, v = .ref a ∧ H a = some (.lst us) ∧ Cof C L a ∧ RpA X.K H (Cof C L) us ds := by
      rcases r with r | ⟨_, _, _, _, _, e0, _⟩
      · exact r.lst_inv
      · cases e0
    by_cases hl : ds.length = n
    · rw [if_pos hl] at e
      exact ⟨a, us, rfl, .of ha, by rw [rr.len, hl], L, C, ρ, ds, ρ', R, rr, e, q⟩
    · rw [if_neg hl] at e; cases e
/-! ### sorted(xs, reverse=True), ints -/
def soRA (fe : ES) : AS := fun L ρ => (fe L ρ).bind fun p => (ofO (intsD p.1)).bind fun ns => .ok ((srtT ns).reverse.map PyData.int, p.2)
theorem srt_rev {a b : List Int} (h : a.Perm b) (h1 : a.Pairwise (· ≥ ·)) : a = (srtT b).reverse := by
  have h2 : a.reverse.Pairwise (· ≤ ·) := List.pairwise_reverse.mpr h1
  have := srt_of ((List.reverse_perm a).trans h) h2
  rw [← this, List.reverse_reverse]
theorem dn_sortedRev {x : Str} {j : Nat} {p1 p2 : Pos} (hg : Gl X x) (hm : X.mg x = none) (hv : bootBuiltins x = some (.builtin "sorted")) (ha : DE X np EW e fe) (hn : x ≠ "__name__" := by decide) (hdb : (x == ("__debug__" : Str)) = false := by decide)
    (he : starEach [e] X.env = (false, eval e X.env) :: starEach [] X.env := by rfl) (he2 : backTo pos (starEach [e] X.env) = (false, eval e X.env) :: backTo pos (starEach [] X.env) := by rfl) (hpl : (backTo pos (starEach [e] X.env)).any (·.1) = false := by rfl) : DN X np EW (.Call (.Name x p) [e] [⟨some "reverse", .Constant (.bool true) j p1, p2⟩] pos) (soRA fe) :=
  PE.weak (pe_callBK (cr_sortedRev (b := true)) hg hm hv (pa_cons ha pa_nil he) (pk_cons pe_bl pk_nil) hn hdb he2 hpl) fun σ H Q ⟨L, C, ρ, R, h⟩ => tE_of R h fun q v H1 C1 A1 R1 r1 h1 => by
    obtain ⟨ns, e, h2⟩ := wp_ofO (wp_bind.mp h1)
    obtain ⟨dq, ρ1⟩ := q
    cases dq <;> simp only [intsD, reduceCtorEq] at e
    have := ints?_some e
    subst this
    obtain ⟨a, us, rfl, ha, _, rr⟩ := r1.lst_inv
    have eu := rr.ints
    subst eu
    refine ⟨_, ns, rfl, rfl, .of ha, fun ns' t k1 k2 ht => ?_⟩
    have := srt_rev k1 k2
    subst this
    exact h2 t _ H1 C1 A1 R1 ht rp_ints
/-! ### xs[::-1] -/
def nrvA (fe : ES) : AS := fun L ρ => (fe .an ρ).bind fun p => (flL p.1).bind fun l => .ok (l.reverse, p.2)
theorem noLs_rev {l : List D} (h : noLs l = true) : noLs l.reverse = true := noLs_iff.mpr fun d hd => noLs_iff.mp h d (List.mem_reverse.mp hd)
theorem dn_rev {k : Nat} {p1 p2 p3 : Pos} (ha : DE X np EW e fe) : DN X np EW (.Subscript e (.Slice none none (some (.UnaryOp .USub (.Constant (.int 1) k p1) p2)) p3) pos) (nrvA fe) :=
  PE.weak (pe_revL ha) fun σ H Q ⟨L, C, ρ, R, h⟩ => tE_of (L := .an) R h fun u x H1 C1 A1 R1 r1 h1 => by
    obtain ⟨l, e, hl, h4⟩ := flL_ok h1
    obtain ⟨du, ρ1⟩ := u
    have e : du = .list l := e
    subst e
    obtain ⟨t, us, rfl, ht, _, rr⟩ := r1.lst_inv
    exact ⟨t, us, rfl, .of ht, fun z hz => h4 z _ H1 C1 (A1.lev (K := X.K) (L := L) an_pu) R1 hz (RpA.free (noLs_rev hl) rr.rev)⟩
end
section
variable {X : Cx} {np : Fp} {EW : XW} {Xc : CXT} {k : Nat} {f : Addr} {fd : FuncData} {ps ks : List Str} {sp : Sp} {E : XK} {x : Str} {p pos kpos : Pos} {e : Expr} {fe : ES}
/-! ### f(a new list that nobody else holds), f changes it -/
def colU (H : Hp) (C : Col) : Col := fun b => match H b with | none => 0 | some _ => if C b = 0 then 1 else C b
theorem colU_some {H : Hp} {C : Col} {b : Addr} (hb : H b ≠ none) : colU H C b = if C b = 0 then 1 else C b := by
  obtain ⟨o, ho⟩ := ne_some hb
  unfold colU
  rw [ho]
theorem rel_boU {K : PySem.W.Frag} {H : Hp} {C : Col} {σ : L2.St} {ρ : Slots} (R : Rel K np H C σ ρ) : Rel K np H (colU H C) σ (boAll ρ) := rel_boAll R
def clF (m : OF) (fe : ES) : ES := fun L ρ => (fe .fr (boAll ρ)).bind fun p => match p.1 with
  | .list cs => if noLs cs then (m cs []).bind fun q => if noLs q.2 && noL q.1 then .ok (q.1, ρ) else .bad else .bad
  | _ => .bad
theorem de_callF {xo : XO} {m : OF} (F : GFn X.prog X.w X.K X.mg X.base Xc k f fd ps (spG X.K xo 1 (ofO1 m))) (hr : Room k X.A) (hgd : X.A.guards = some []) (hg : Gl X x) (hm : X.mg x = some (.ref f))
    (hk : PySem.W.keepIn X.K (.ref f) = true) (hb : Binds X.K fd ps []) (hx : Passes Xc X E) (hE : ∀ c H', EW c H' → xo E c H') (ha : DE X np EW e fe) (hdb : (x == ("__debug__" : Str)) = false := by decide)
    (he : starEach [e] X.env = (false, eval e X.env) :: starEach [] X.env := by rfl) (hpl : (backTo pos (starEach [] X.env)).any (·.1) = false := by rfl) : DE X np EW (.Call (.Name x p) [e] [] pos) (clF m fe) :=
  PE.weak (gpe_call F hr hgd hg hm hk hb hx (pa_cons ha pa_nil he) hdb he hpl) fun σ H Q ⟨L, C, ρ, R, h⟩ => by
    unfold clF at h
    have tr : ∀ b, H b ≠ none → colU H C b = (if C b = 0 then 1 else C b) := fun b hb => colU_some hb
    refine ⟨.fr, _, boAll ρ, rel_boU R, ?_⟩
    cases e : fe .fr (boAll ρ) with
    | bad => rw [e] at h; exact h.elim
    | ex c =>
      rw [e] at h
      intro H' C' S
      refine h H' (fun b => match H b with | none => 0 | some _ => if C b = 0 then 0 else C' b) ⟨fun b x hb k => S.keep b x hb ?_, S.there, fun b hb hc => ?_, fun b hb hc => ?_⟩
      · rcases k with k | k
        · left; rw [tr b (by rw [hb]; simp)]; split <;> omega
        · exact .inr k
      · obtain ⟨o, ho⟩ := ne_some hb
        simp only [ho]
        by_cases z : C b = 0
        · rw [if_pos z, z]
        · rw [if_neg z]
          have := S.colo b hb (by rw [tr b hb, if_neg z]; exact hc)
          rw [this, tr b hb, if_neg z]
      · obtain ⟨o, ho⟩ := ne_some hb
        simp only [ho]
        have z : ¬ C b = 0 := by omega
        rw [if_neg z]
        exact S.colh b hb (by rw [tr b hb, if_neg z]; exact hc)
    | ok q =>
      rw [e] at h
      intro v H' C' A _ r
      obtain ⟨_, P⟩ := A.pu rfl
      have old : ∀ b, C' b = 0 → H b = none := fun b hb => by
        cases q : H b with
        | none => rfl
        | some o =>
          have h1 := P.col b (by rw [q]; simp)
          rw [tr b (by rw [q]; simp)] at h1
          split at h1 <;> omega
      obtain ⟨dq, ρ1⟩ := q
      cases dq with
      | list cs =>
        by_cases hn : noLs cs = true
        · obtain ⟨t, us, rfl, ht, ct, rr⟩ := r.lst_inv
          have ct' : Lv.fr.okb (C' t) = true := ct
          have ct2 : C' t = 0 := by simpa [Lv.okb] using ct'
          have hto := old t ct2
          have h' : wp ((m cs []).bind fun q => if noLs q.2 && noL q.1 then Re.ok (q.1, ρ) else .bad) (fun p => ∀ v H' C', Aft np L ρ H C p.2 H' C' → Rel X.K np H' C' σ p.2 → Rp X.K H' (Cof C' L) v p.1 → Q v H') (fun c => ∀ H' C', Stp np H C H' C' → EW c H') := by
            have h2 := h
            simp only [bind_ok, hn, if_true] at h2
            exact h2
          have step : ∀ {H'' : Hp}, (∀ b o, b ≠ t → H' b = some o → H'' b = some o) → PStp H C H'' C := fun hs => ⟨fun b o ho => hs b o (fun z => by rw [z, hto] at ho; cases ho) (P.same b o ho), fun b _ => rfl⟩
          have h3 := wp_bind.mp h'
          refine spG_own (ds := []) (vs := []) ht (RpA.free hn rr) .nil rfl (wp_mono h3 (fun q _ hq => ?_) fun c hc H'' hs _ => hE _ _ (hc H'' C (step hs).stp))
          by_cases h2 : (noLs q.2 && noL q.1) = true
          · rw [if_pos h2] at hq
            rw [Bool.and_eq_true] at h2
            exact ⟨h2.1, fun v H'' C'' us' hs _ _ _ rv => hq v H'' C (.of (step hs)) (R.pstp (step hs)) (rv.free h2.2)⟩
          · rw [if_neg h2] at hq; exact hq.elim
        · have h2 := h
          simp only [bind_ok, hn] at h2
          exact h2.elim
      | _ => exact h.elim
/-! ### a def that calls itself: so many times at most -/
theorem g_none {P : Program} {w : World} {K : PySem.W.Frag} {mg : Str → Option Value} {base : Heap} {Xc : CXT} {k n : Nat} {f : Addr} {fd : FuncData} {ps : List Str} {xo : XO} (hl : ps.length = n) : GFn P w K mg base Xc k f fd ps (spG K xo n (ofP fun _ => .bad)) where
  len := fun vs H Q E h => by rw [h.1, hl]
  run := fun A outer s H args us vs Q E _ _ _ _ _ h => by
    obtain ⟨_, C, np, as, _, _, _, h⟩ := h
    unfold ofP at h
    cases e : as.mapM unbo with
    | none => rw [e] at h; exact h.elim
    | some ds => rw [e] at h; exact h.elim
end
section
variable {fa fb fe : ES} {L : Lv} {ρ : Slots} {gs : GSs} {n : Nat} {m : OF}
@[simp] theorem ev_luG {ds : List D} : luG n gs L (.list ds) ρ = if ds.length = n then gs L ds ρ else none := Eq.trans rfl rfl
@[simp] theorem ev_soRA : soRA fe L ρ = (fe L ρ).bind fun p => (ofO (intsD p.1)).bind fun ns => .ok ((srtT ns).reverse.map PyData.int, p.2) := Eq.trans rfl rfl
@[simp] theorem ev_nrvA : nrvA fe L ρ = (fe .an ρ).bind fun p => (flL p.1).bind fun l => .ok (l.reverse, p.2) := Eq.trans rfl rfl
@[simp] theorem ev_clF : clF m fe L ρ = (fe .fr (boAll ρ)).bind fun p => match p.1 with
  | .list cs => if noLs cs then (m cs []).bind fun q => if noLs q.2 && noL q.1 then .ok (q.1, ρ) else .bad else .bad
  | _ => .bad := Eq.trans rfl rfl
end
end
end Dm

namespace Dm
noncomputable section
open PySem PySem.Spec PyProof.Rows L2
section
variable {X : Cx} {np : Fp} {EW : XW} {a b e : Expr} {fa fb fe : ES} {p pos : Pos}
/-! ### len(set(xs)), xs a list of unlike ints -/
def lsetL : D → Option D
  | .list ds => match ints? ds with
    | some ns => if ns.Nodup ∧ ns.length ≤ 4000 then some (.int ns.length) else none
    | none => none
  | _ => none
theorem de_lsetL {p2 q : Pos} (hg : Gl X "len") (hm : X.mg "len" = none) (hg2 : Gl X "set") (hm2 : X.mg "set" = none) (ha : DE X np EW e fe) (hc : X.calm = true := by rfl)
    (na : starEach [e] X.env = (false, eval e X.env) :: starEach [] X.env := by rfl) : DE X np EW (.Call (.Name "len" p) [.Call (.Name "set" p2) [e] [] q] [] pos) (unE lsetL fe) :=
  PE.weak (RZ.pe_lenSetI hg hm hg2 hm2 ha hc na) fun σ H Q ⟨L, C, ρ, R, h⟩ => tE_of R h fun u v H1 C1 A1 R1 r1 h1 => by
    obtain ⟨d, e, h2⟩ := wp_ofO (wp_bind.mp h1)
    obtain ⟨du, ρ1⟩ := u
    cases du <;> simp only [lsetL, reduceCtorEq] at e
    rename_i ds
    cases e2 : ints? ds with
    | none => rw [e2] at e; cases e
    | some ns =>
      rw [e2] at e
      by_cases hz : ns.Nodup ∧ ns.length ≤ 4000
      · simp only [hz, if_true] at e
        obtain ⟨a, us, rfl, hat, _, rr⟩ := r1.lst_inv
        have := ints?_some e2
        subst this
        have eu := rr.ints
        subst eu
        have e : some (PyData.int ns.length) = some d := by simpa using e
        cases e
        exact ⟨a, ns, rfl, .of hat, hz.1, hz.2, h2 _ H1 C1 A1 R1 (.int _)⟩
      · simp only [hz, if_false] at e; cases e
theorem lsetL_map {ns : List Int} (h : ns.Nodup) (hl : ns.length ≤ 4000) : lsetL (.list (ns.map PyData.int)) = some (.int ns.length) := by
  show (match ints? (ns.map PyData.int) with
    | some ns => if ns.Nodup ∧ ns.length ≤ 4000 then some (PyData.int ns.length) else none
    | none => none) = _
  rw [ints?_map]
  exact if_pos ⟨h, hl⟩
/-! ### x, y = a, b of plain names: no tuple is made -/
theorem tg_two {L : Lv} {i j : Nat} {ds : List D} {ρ ρ' : Slots} (h : tuG 2 (consG (nmG i) (consG (nmG j) nilG)) L (.tuple ds) ρ = some ρ') : ∃ d1 d2 s1 s2, ds = [d1, d2] ∧ itS L d1 = some s1 ∧ itS L d2 = some s2 ∧ ρ' = (ρ.set i s1).set j s2 := by
  unfold tuG at h
  match ds, h with
  | [d1, d2], h =>
    have h : ((itS L d1).map fun s => ρ.set i s).bind (fun ρ1 => ((itS L d2).map fun s => ρ1.set j s).bind fun ρ2 => some ρ2) = some ρ' := h
    cases e1 : itS L d1 with
    | none => rw [e1] at h; cases h
    | some s1 =>
      rw [e1] at h
      cases e2 : itS L d2 with
      | none => rw [e2] at h; cases h
      | some s2 =>
        rw [e2] at h
        exact ⟨d1, d2, s1, s2, rfl, e1, e2, (Option.some.inj h).symm⟩
  | [], h => cases h
  | [_], h => cases h
  | _ :: _ :: _ :: _, h => simp at h
theorem to_tup {L : Lv} {fs : AS} {ρ : Slots} {k : D × Slots → Fl} : (tuE fs L ρ).to k = (fs L ρ).to fun p => if p.1.length ≤ sizeLine then k (.tuple p.1, p.2) else .bad := by
  unfold tuE
  cases fs L ρ with
  | ok p =>
    show ((if p.1.length ≤ sizeLine then Re.ok (PyData.tuple p.1, p.2) else .bad : Re (D × Slots)).to k) = if p.1.length ≤ sizeLine then k (.tuple p.1, p.2) else .bad
    by_cases h : p.1.length ≤ sizeLine
    · rw [if_pos h, if_pos h]; rfl
    · rw [if_neg h, if_neg h]; rfl
  | bad => rfl
  | ex c => rfl
theorem ds_par (L : Lv) {i j : Nat} {x y : Str} {fs : AS} {px py pt : Pos} {kt k2 pt2} (hc : X.calm = true) (hN : X.N.Nodup) (hi : X.N[i]? = some x) (hj : X.N[j]? = some y) (hij : i ≠ j)
    (hx : X.env.scope.names.lookup x = some .local) (hy : X.env.scope.names.lookup y = some .local) (ha : DA X np EW [a, b] fs)
    (hw : swappedStores [.Tuple [.Name x px, .Name y py] kt pt] (.Tuple [a, b] k2 pt2) X.env = pure (some [x, y]))
    (hs : swapsWithSole [.Tuple [.Name x px, .Name y py] kt pt] (.Tuple [a, b] k2 pt2) pos.line X.env = pure false := by rfl) :
    DS X np EW (.Assign [.Tuple [.Name x px, .Name y py] kt pt] (.Tuple [a, b] k2 pt2) pos) (tgS L (tuG 2 (consG (nmG i) (consG (nmG j) nilG))) (tuE fs)) :=
  PS.weak (ps_par hc hN hi hj hij hx hy ha hw hs) fun Dn σ H ⟨C, ρ, R, h⟩ => by
    unfold tgS at h
    rw [to_tup] at h
    refine toA_of (L := L) R h fun p vs H' C' A R' r q => ?_
    by_cases hz : p.1.length ≤ sizeLine
    · rw [if_pos hz] at q
      cases e : tuG 2 (consG (nmG i) (consG (nmG j) nilG)) L (.tuple p.1) p.2 with
      | none => simp only [e] at q; exact q.elim
      | some ρ' =>
        simp only [e] at q
        obtain ⟨d1, d2, s1, s2, e0, e1, e2, rfl⟩ := tg_two e
        rw [e0] at r
        obtain ⟨v, w, rfl, r1, r2⟩ := r.two
        exact ⟨v, w, rfl, q _ H' C' .refl ((R'.set (itS_ok r1 e1)).set (itS_ok r2 e2))⟩
    · rw [if_neg hz] at q; exact q.elim
end
end
end Dm

namespace Dm
noncomputable section
open PySem PySem.Spec PyProof.Rows L2
section
variable {X : Cx} {np : Fp} {EW : XW} {a b e : Expr} {fa fb fe : ES} {p pos : Pos}
/-! ### in, not in: a tuple of ints -/
def inTF (neg : Bool) (x y : D) : Option D := match x, y with
  | .int i, .tuple ds => (ints? ds).map fun ns => .bool (if neg then !decide (i ∈ ns) else decide (i ∈ ns))
  | .none, .tuple ds => (ints? ds).map fun _ => .bool neg
  | _, _ => none
def inTD : D → D → Option D := inTF false
def notInTD : D → D → Option D := inTF true
theorem flat_ints : ∀ {ns : List Int}, (ns.map V.int).all flatV = true
  | [] => rfl
  | _ :: _ => by rw [List.map_cons, List.all_cons, flat_ints]; rfl
theorem inV_ints {i : Int} : ∀ {ns : List Int}, inV (.int i) (ns.map V.int) = decide (i ∈ ns)
  | [] => rfl
  | n :: ns => by
    have ih := inV_ints (i := i) (ns := ns)
    unfold inV at ih ⊢
    rw [List.map_cons, List.any_cons, ih]
    have e : eqV (.int n) (.int i) = decide (n = i) := by
      show (n == i) = decide (n = i)
      by_cases h : n = i <;> simp [h]
    rw [e]
    by_cases h1 : n = i <;> by_cases h2 : i ∈ ns <;> simp [h1, h2, eq_comm]
    exact fun h => absurd h.symm h1
theorem inV_none : ∀ {ns : List Int}, inV .non (ns.map V.int) = false
  | [] => rfl
  | n :: ns => by
    have ih := inV_none (ns := ns)
    unfold inV at ih ⊢
    rw [List.map_cons, List.any_cons, ih]
    rfl
theorem os_inT {K : PySem.W.Frag} {neg : Bool} : OpS K (rIn K neg) (inTF neg) := by
  intro H C L x y dx dy d Q r1 r2 e q
  cases dx <;> cases dy <;> simp only [inTF, reduceCtorEq] at e
  · rename_i ds
    cases e2 : ints? ds with
    | none => rw [e2] at e; cases e
    | some ns =>
      rw [e2] at e; cases e
      obtain ⟨t, us, rfl, ht, rr⟩ := r2.tup_inv
      have := ints?_some e2
      subst this
      have eu := rr.ints
      subst eu
      cases r1
      refine ⟨t, _, rfl, .inr ht, rfl, flat_ints, ?_⟩
      rw [inV_none]
      have : (if neg = true then !false else false) = neg := by cases neg <;> rfl
      rw [this]
      exact q _ H C .refl (.bl _)
  · rename_i i ds
    cases e2 : ints? ds with
    | none => rw [e2] at e; cases e
    | some ns =>
      rw [e2] at e; cases e
      obtain ⟨t, us, rfl, ht, rr⟩ := r2.tup_inv
      have := ints?_some e2
      subst this
      have eu := rr.ints
      subst eu
      obtain rfl := r1.int_inv
      refine ⟨t, _, rfl, .inr ht, rfl, flat_ints, ?_⟩
      rw [inV_ints]
      exact q _ H C .refl (.bl _)
theorem de_inT (ha : DE X np EW a fa) (hb : DE X np EW b fb) (hm : behindInMarks .In b = false := by rfl) : DE X np EW (.Compare a [.In] [b] pos) (opE inTD fa fb) := de_cmp op_in_seq os_inT ha hb hm
theorem de_notinT (ha : DE X np EW a fa) (hb : DE X np EW b fb) (hm : behindInMarks .NotIn b = false := by rfl) : DE X np EW (.Compare a [.NotIn] [b] pos) (opE notInTD fa fb) := de_cmp op_notIn_seq os_inT ha hb hm
theorem dt_inT (ha : DE X np EW a fa) (hb : DE X np EW b fb) (hm : behindInMarks .In b = false := by rfl) : DT X np EW (.Compare a [.In] [b] pos) (asT (opE inTD fa fb)) := dt_cmp op_in_seq os_inT ha hb hm
theorem dt_notinT (ha : DE X np EW a fa) (hb : DE X np EW b fb) (hm : behindInMarks .NotIn b = false := by rfl) : DT X np EW (.Compare a [.NotIn] [b] pos) (asT (opE notInTD fa fb)) := dt_cmp op_notIn_seq os_inT ha hb hm
theorem inT_int {i : Int} {ns : List Int} : inTD (.int i) (.tuple (ns.map PyData.int)) = some (.bool (decide (i ∈ ns))) := by simp [inTD, inTF]
theorem notinT_int {i : Int} {ns : List Int} : notInTD (.int i) (.tuple (ns.map PyData.int)) = some (.bool (!decide (i ∈ ns))) := by simp [notInTD, inTF]
end
end
end Dm

namespace Dm
noncomputable section
open PySem PySem.Spec PyProof.Rows L2
/-! ### sorted(t), t a tuple of ints -/
def rSortedTI (K : PySem.W.Frag) : List V → Hp → VK → Prop := fun vs H Q => ∃ (a : Addr) (ns : List Int), vs = [V.ref a] ∧ SqT K H a (ns.map V.int) ∧
  ∀ (ns' : List Int) (p : Addr), ns'.Perm ns → ns'.Pairwise (· ≤ ·) → H p = none → Q (.ref p) (upd H p (.lst (ns'.map V.int)))
section
variable {X : Cx}
theorem cr_sortedTI : CallR X (.builtin "sorted") (rSortedTI X.K) := by
  intro pins s σ H vs us Q I r h
  obtain ⟨a, ns, rfl, hs, q⟩ := h
  obtain ⟨its, rv, ht, hz⟩ := I.tuple hs
  rw [Vals.ref1 r]
  have hi := rv.ints
  obtain ⟨o, ho, hc, n, hd⟩ := ht
  have hz2 : its.length ≤ sizeLine := by rw [← rv.length]; exact hz
  refine Calls.call_function_entry (kind_sorted) (plain_sorted) (entry_sorted) (args_sorted1 _) ?_
  show wpAny _ _ (Builtin.«sorted» _) _ _ _
  unfold Builtin.«sorted»
  refine wpAny_bind (m := checkCount "sorted" 1 1 _) (wpAny_pure ?_)
  refine wpAny_bind (wpAny_collect_seq a (.inr rfl) ho hc hd (fun h' hk => ?_) (by rw [List.size_toArray]; exact hz2))
  refine wpAny_bind (wpAny_newList ?_ (by simpa using hz2))
  have I1 : Inv X pins σ H { s with heap := h' } := I.kept (t' := s.toks) hk
  have hoL : (h'.push { cls := .type "list", data := .seq its.toArray.toList.toArray }).get? h'.objs.size = some (seqObj "list" its.toArray 0) := by
    have := Heap.get?_push_size h' (o := seqObj "list" its.toArray 0) rfl
    simpa [seqObj] using this
  refine wpAny_bind (wpAny_holding (wpAny_call_entry slot_list_sort ⟨_, hoL, rfl⟩ entry_list_sort (SrtO.list_sort_ord SrtO.swo_int hoL hz2 (fun h2 => SrtO.ints_sortable hi h2) fun out h1 h2 => ⟨_, rfl, ?_⟩) (args_list_sort _)))
  obtain ⟨k1, k2, k3⟩ := SrtO.ints_out hi h1 h2
  obtain ⟨ep, he'⟩ := PyProof.Rows.sortedHeap_at (vs := its) (out := out.toArray) hoL
  have hlen : ((out.map SrtO.iv).map V.int).length ≤ sizeLine := by
    rw [List.length_map, k2.length_eq]
    rw [List.length_map] at hz
    exact hz
  have old : ∀ b ob, h'.get? b = some ob → (sortedHeap (h'.push { cls := .type "list", data := .seq its.toArray.toList.toArray }) h'.objs.size its out.toArray).get? b = some ob := fun b ob hb => by
    have hlt : b < h'.objs.size := Heap.lt_size hb
    rw [PyProof.Rows.sortedHeap_old (Nat.ne_of_lt hlt) (by rw [size_push']; exact Nat.lt_succ_of_lt hlt)]
    exact Heap.get?_push_of_some _ hb
  have new : ObjOk X.prog X.w (upd H h'.objs.size (.lst ((out.map SrtO.iv).map V.int))) (sortedHeap (h'.push { cls := .type "list", data := .seq its.toArray.toList.toArray }) h'.objs.size its out.toArray) h'.objs.size (.lst ((out.map SrtO.iv).map V.int)) := ⟨hlen, out, ep, vals_of_ints k1, he'⟩
  exact wpAny_pure ⟨_, rfl, .ref h'.objs.size, upd H h'.objs.size (.lst ((out.map SrtO.iv).map V.int)), I1.laid (t' := s.toks) old (Nat.le_refl _) new, rfl, q _ _ k2 k3 (I1.hok.fresh (Nat.le_refl _))⟩
variable {np : Fp} {EW : XW} {e : Expr} {fe : ES} {p pos : Pos}
def intsT : D → Option (List Int)
  | .tuple l => ints? l
  | _ => none
def soTA (fe : ES) : AS := fun L ρ => (fe L ρ).bind fun p => (ofO (intsT p.1)).bind fun ns => .ok ((srtT ns).map PyData.int, p.2)
theorem dn_sortedT {x : Str} (hg : Gl X x) (hm : X.mg x = none) (hv : bootBuiltins x = some (.builtin "sorted")) (ha : DE X np EW e fe) (hn : x ≠ "__name__" := by decide) (hdb : (x == ("__debug__" : Str)) = false := by decide)
    (he : starEach [e] X.env = (false, eval e X.env) :: starEach [] X.env := by rfl) : DN X np EW (.Call (.Name x p) [e] [] pos) (soTA fe) :=
  PE.weak (pe_callB cr_sortedTI hg hm hv (pa_cons ha pa_nil he) hn hdb he rfl) fun σ H Q ⟨L, C, ρ, R, h⟩ => tE_of R h fun q v H1 C1 A1 R1 r1 h1 => by
    obtain ⟨ns, e, h2⟩ := wp_ofO (wp_bind.mp h1)
    obtain ⟨dq, ρ1⟩ := q
    cases dq <;> simp only [intsT, reduceCtorEq] at e
    have := ints?_some e
    subst this
    obtain ⟨a, us, rfl, ha, rr⟩ := r1.tup_inv
    have eu := rr.ints
    subst eu
    refine ⟨_, ns, rfl, ha, fun ns' t k1 k2 ht => ?_⟩
    have := srt_of k1 k2
    subst this
    exact h2 t _ H1 C1 A1 R1 ht rp_ints
end
@[simp] theorem ev_soTA {fe : ES} {L : Lv} {ρ : Slots} : soTA fe L ρ = (fe L ρ).bind fun p => (ofO (intsT p.1)).bind fun ns => .ok ((srtT ns).map PyData.int, p.2) := Eq.trans rfl rfl
@[simp] theorem intsT_map {l : List Int} : intsT (.tuple (l.map PyData.int)) = some l := by
  show ints? (l.map PyData.int) = some l
  exact ints?_map l
end
end Dm

/-! zip of two, whatever has become of the pair handed out ahead; enumerate(zip(a, b)). -/
namespace Zh
open PySem
open PySem.Sem (wp)

/-- handed out: T -/
abbrev ZipO (h : Heap) (z TI TO T : Addr) (fl : Bool) : Prop :=
  h.get? z = some { cls := .type "zip", dict := none, data := .fields #[rawInt T, .bool fl, .bool false, .ref TI, .ref TO], slots := #[] }

/-- an inner iterator at it, over what stands at l -/
structure Inn (it l : Addr) (xs : Array Value) (I : Heap → Nat → Prop) : Prop where
  at' : ∀ {h h' : Heap} {k : Nat}, I h k → (∀ b o, b = it ∨ b = l → h.get? b = some o → h'.get? b = some o) → I h' k
  live : ∀ {h : Heap} {k : Nat}, I h k → it < h.objs.size
  next : ∀ {prog : Program} {w : World} {A : Around} {E : Value → Shared → Prop} {s : Shared} {k : Nat} {x : Value} {Q : Value → Shared → Prop}, I s.heap k → xs[k]? = some x → it ≠ l →
    (∀ h', I h' (k + 1) → Heap.SameBut it s.heap h' → Q x { s with heap := h' }) → wpAny (model prog w) A (Builtin.SmallTypes.nextOf (.ref it)) Q E s
  stop : ∀ {prog : Program} {w : World} {A : Around} {E : Value → Shared → Prop} {s : Shared} {k : Nat} {Q : Value → Shared → Prop}, A.handled = none → I s.heap k → xs[k]? = none →
    (∀ h' e, Heap.ExtBut it s.heap h' → (∃ o, h'.get? e = some o ∧ o.cls = .type "StopIteration") → E (.ref e) { s with heap := h' }) → wpAny (model prog w) A (Builtin.SmallTypes.nextOf (.ref it)) Q E s

theorem inn_list (it l : Addr) (xs : Array Value) : Inn it l xs (fun h k => h.IsListIter it l k ∧ h.IsList l xs) where
  at' := fun ⟨a, b⟩ f => ⟨a.at fun o => f it o (.inl rfl), b.at fun o => f l o (.inr rfl)⟩
  live := fun ⟨⟨_, e, _⟩, _⟩ => Heap.lt_size e
  next := fun ⟨a, b⟩ hx ne q => wpAny_nextOf_list_item a b hx fun h' a' sb => q h' ⟨a', b.extBut sb.extBut (Ne.symm ne)⟩ sb
  stop := fun hh ⟨a, b⟩ hx q => wpAny_nextOf_list_end hh a b hx fun h' e x y => q h' e x y

theorem inn_tup (it l : Addr) (xs : Array Value) : Inn it l xs (fun h k => h.IsTupleIter it l k ∧ h.IsTuple l xs) where
  at' := fun ⟨a, b⟩ f => ⟨a.at fun o => f it o (.inl rfl), b.at fun o => f l o (.inr rfl)⟩
  live := fun ⟨⟨_, e, _⟩, _⟩ => Heap.lt_size e
  next := fun ⟨a, b⟩ hx ne q => RZ.nextOf_tuple_item a b hx fun h' a' sb => q h' ⟨a', b.extBut sb.extBut (Ne.symm ne)⟩ sb
  stop := fun hh ⟨a, b⟩ hx q => RZ.nextOf_tuple_end hh a b hx fun h' e x y => q h' e x y

theorem wp_alive {prog : Program} {w : World} {A : Around} {E : Value → Shared → Prop} {s : Shared} {a : Addr} {Q : Option Obj → Shared → Prop} (h : Q (s.heap.get? a) s) : wpAny (model prog w) A (loadIfAlive a) Q E s :=
  fun Γ p _ => by unfold loadIfAlive; rw [Sem.wp_loadIfAlive]; simpa using h

section
variable {prog : Program} {w : World} {A : Around} {E : Value → Shared → Prop} {s : Shared}

/-- held: told so, and marked -/
theorem held {z TI TO T : Addr} {fl : Bool} {Q : Bool → Shared → Prop} (hz : ZipO s.heap z TI TO T fl) (hT : ∃ o, s.heap.get? T = some o)
    (h : ∀ h', ZipO h' z TI TO T true → Heap.SameBut z s.heap h' → Q false { s with heap := h' }) : wpAny (model prog w) A (Builtin.SmallTypes.ownedTupleIsFree (.ref z)) Q E s := by
  unfold Builtin.SmallTypes.ownedTupleIsFree
  refine wpAny_bind (wpAny_field hz rfl (x := .int (T : Nat) 0) rfl ?_)
  show wpAny _ _ (loadIfAlive ((T : Nat) : Int).toNat >>= _) _ _ _
  rw [Int.toNat_natCast]
  refine wpAny_bind (wp_alive ?_)
  obtain ⟨o, ho⟩ := hT
  rw [ho]
  simp only [Option.isNone_some, Bool.false_eq_true, if_false]
  refine wpAny_bind (wpAny_field hz rfl (x := .bool fl) rfl ?_)
  cases fl with
  | true =>
    show wpAny _ _ (if ((Value.bool true) != .bool true) = true then _ else _) _ _ _
    rw [if_neg (by decide)]
    exact wpAny_pure (h s.heap hz ⟨rfl, fun _ _ => rfl⟩)
  | false =>
    show wpAny _ _ (if ((Value.bool false) != .bool true) = true then _ else _) _ _ _
    rw [if_pos (by decide)]
    exact wpAny_bind (wpAny_setField_rec hz (by simp) fun h1 hz1 sb => wpAny_pure (h h1 hz1 sb))

theorem held_item {z TI TO T i1 i2 l1 l2 : Addr} {fl : Bool} {k1 k2 : Nat} {xs ys : Array Value} {x y : Value} {I1 I2 : Heap → Nat → Prop} {Q : Value → Shared → Prop} (D : ZipApart z TI TO i1 i2 l1 l2)
    (J1 : Inn i1 l1 xs I1) (J2 : Inn i2 l2 ys I2) (hz : ZipO s.heap z TI TO T fl) (hT : ∃ o, s.heap.get? T = some o) (hTI : IsPair s.heap TI (.ref i1) (.ref i2))
    (h1 : I1 s.heap k1) (h2 : I2 s.heap k2) (hx : xs[k1]? = some x) (hy : ys[k2]? = some y)
    (hQ : ∀ h', ZipO h' z TI TO T true → I1 h' (k1 + 1) → I2 h' (k2 + 1) → IsPair h' s.heap.objs.size x y → h'.objs.size = s.heap.objs.size + 1 →
      (∀ c o, c ≠ z → c ≠ i1 → c ≠ i2 → s.heap.get? c = some o → h'.get? c = some o) → Q (.ref s.heap.objs.size) { s with heap := h' }) :
    wpAny (model prog w) A (Builtin.«zip.__next__» ⟨[.ref z], []⟩) (fun fin s' => ∃ v, fin = .done (.ret v) ∧ Q v s') E s := by
  show wpAny _ _ (field (.ref z) 2 >>= fun _ => _) _ _ _
  refine wpAny_bind (wpAny_field hz rfl (x := .bool false) rfl ?_)
  show wpAny _ _ (field (.ref z) 3 >>= fun _ => _) _ _ _
  refine wpAny_bind (wpAny_field hz rfl (x := .ref TI) rfl ?_)
  refine wpAny_bind (wpAny_seqItems hTI rfl ?_)
  show wpAny _ _ (Builtin.SmallTypes.ownedTupleIsFree (.ref z) >>= fun _ => _) _ _ _
  refine wpAny_bind (held hz hT fun ha za sa => ?_)
  simp only [Bool.false_eq_true, if_false]
  refine wpAny_bind ?_
  rw [← Array.forIn_toList]
  simp only [List.forIn_cons, List.forIn_nil]
  refine wpAny_bind (wpAny_bind (wpAny_holding ?_))
  show wpAny _ _ (Builtin.SmallTypes.nextOf (.ref i1) >>= fun _ => _) _ _ _
  refine wpAny_bind (J1.next (J1.at' h1 fun b o q => sa.extBut b o (by rcases q with q | q <;> subst q <;> first | exact D.i1z | exact D.l1z)) hx D.l1i1.symm fun hb n1 sb => wpAny_pure (wpAny_pure ?_))
  refine wpAny_bind (wpAny_bind (wpAny_holding ?_))
  show wpAny _ _ (Builtin.SmallTypes.nextOf (.ref i2) >>= fun _ => _) _ _ _
  have h2a : I2 ha k2 := J2.at' h2 fun b o q => sa.extBut b o (by rcases q with q | q <;> subst q <;> first | exact D.i2z | exact D.l2z)
  have h2b : I2 hb k2 := J2.at' h2a fun b o q => sb.extBut b o (by rcases q with q | q <;> subst q <;> first | exact D.i12.symm | exact D.l2i1)
  refine wpAny_bind (J2.next h2b hy D.l2i2.symm fun hc n2 sc => wpAny_pure (wpAny_pure (wpAny_pure ?_)))
  refine wpAny_bind (wpAny_newTuple ?_ (by show 2 ≤ sizeLine; decide))
  have n1c : I1 hc (k1 + 1) := J1.at' n1 fun b o q => sc.extBut b o (by rcases q with q | q <;> subst q <;> first | exact D.i12 | exact D.l1i2)
  have zc : ZipO hc z TI TO T true := sc.extBut _ _ D.i2z.symm (sb.extBut _ _ D.i1z.symm za)
  have zs : hc.objs.size = s.heap.objs.size := by rw [sc.1, sb.1, sa.1]
  have up : ∀ c o, hc.get? c = some o → (hc.push { cls := .type "tuple", data := .seq #[x, y] }).get? c = some o := fun c o e => Heap.get?_push_of_some _ e
  refine wpAny_pure ⟨_, rfl, ?_⟩
  show Q (.ref hc.objs.size) _
  have new : IsPair (hc.push { cls := .type "tuple", data := .seq #[x, y] }) hc.objs.size x y := Heap.get?_push_size _ rfl
  have z1 : (hc.push { cls := .type "tuple", data := .seq #[x, y] }).objs.size = s.heap.objs.size + 1 := by rw [Heap.size_push, zs]
  rw [zs] at new
  rw [zs]
  exact hQ _ (up _ _ zc) (J1.at' n1c fun b o _ => up b o) (J2.at' n2 fun b o _ => up b o) new z1 fun c o c1 c2 c3 e => up c o (sc.extBut c o c3 (sb.extBut c o c2 (sa.extBut c o c1 e)))

theorem held_stop {z TI TO T i1 i2 l1 l2 : Addr} {fl : Bool} {k1 k2 : Nat} {xs ys : Array Value} {I1 I2 : Heap → Nat → Prop} {Q : Fin → Shared → Prop} (hh : A.handled = none) (D : ZipApart z TI TO i1 i2 l1 l2)
    (J1 : Inn i1 l1 xs I1) (J2 : Inn i2 l2 ys I2) (hz : ZipO s.heap z TI TO T fl) (hT : ∃ o, s.heap.get? T = some o) (hTI : IsPair s.heap TI (.ref i1) (.ref i2))
    (h1 : I1 s.heap k1) (h2 : I2 s.heap k2) (hend : xs[k1]? = none ∨ ys[k2]? = none)
    (hE : ∀ h' e, (∀ c o, c ≠ z → c ≠ i1 → c ≠ i2 → s.heap.get? c = some o → h'.get? c = some o) → (∃ o, h'.get? e = some o ∧ o.cls = .type "StopIteration") → E (.ref e) { s with heap := h' }) :
    wpAny (model prog w) A (Builtin.«zip.__next__» ⟨[.ref z], []⟩) Q E s := by
  show wpAny _ _ (field (.ref z) 2 >>= fun _ => _) _ _ _
  refine wpAny_bind (wpAny_field hz rfl (x := .bool false) rfl ?_)
  show wpAny _ _ (field (.ref z) 3 >>= fun _ => _) _ _ _
  refine wpAny_bind (wpAny_field hz rfl (x := .ref TI) rfl ?_)
  refine wpAny_bind (wpAny_seqItems hTI rfl ?_)
  show wpAny _ _ (Builtin.SmallTypes.ownedTupleIsFree (.ref z) >>= fun _ => _) _ _ _
  refine wpAny_bind (held hz hT fun ha za sa => ?_)
  simp only [Bool.false_eq_true, if_false]
  refine wpAny_bind ?_
  rw [← Array.forIn_toList]
  simp only [List.forIn_cons, List.forIn_nil]
  refine wpAny_bind (wpAny_bind (wpAny_holding ?_))
  show wpAny _ _ (Builtin.SmallTypes.nextOf (.ref i1) >>= fun _ => _) _ _ _
  have h1a : I1 ha k1 := J1.at' h1 fun b o q => sa.extBut b o (by rcases q with q | q <;> subst q <;> first | exact D.i1z | exact D.l1z)
  cases hx : xs[k1]? with
  | none => exact wpAny_bind (J1.stop hh h1a hx fun hb e eb he => hE hb e (fun c o c1 c2 _ q => eb c o c2 (sa.extBut c o c1 q)) he)
  | some x =>
    have hy : ys[k2]? = none := by
      rcases hend with q | q
      · rw [hx] at q; cases q
      · exact q
    refine wpAny_bind (J1.next h1a hx D.l1i1.symm fun hb n1 sb => wpAny_pure (wpAny_pure ?_))
    refine wpAny_bind (wpAny_bind (wpAny_holding ?_))
    show wpAny _ _ (Builtin.SmallTypes.nextOf (.ref i2) >>= fun _ => _) _ _ _
    have h2a : I2 ha k2 := J2.at' h2 fun b o q => sa.extBut b o (by rcases q with q | q <;> subst q <;> first | exact D.i2z | exact D.l2z)
    have h2b : I2 hb k2 := J2.at' h2a fun b o q => sb.extBut b o (by rcases q with q | q <;> subst q <;> first | exact D.i12.symm | exact D.l2i1)
    exact wpAny_bind (J2.stop hh h2b hy fun hc e ec he => hE hc e (fun c o c1 c2 c3 q => ec c o c3 (sb.extBut c o c2 (sa.extBut c o c1 q))) he)

/-- any state of the zip's record -/
abbrev ZipA (h : Heap) (z TI TO : Addr) (f0 : Value) (fl : Bool) : Prop :=
  h.get? z = some { cls := .type "zip", dict := none, data := .fields #[f0, .bool fl, .bool false, .ref TI, .ref TO], slots := #[] }

theorem free_item {z TI TO i1 i2 l1 l2 : Addr} {f0 : Value} {fl : Bool} {k1 k2 : Nat} {xs ys : Array Value} {x y a b : Value} {I1 I2 : Heap → Nat → Prop} {Q : Value → Shared → Prop} (D : ZipApart z TI TO i1 i2 l1 l2)
    (J1 : Inn i1 l1 xs I1) (J2 : Inn i2 l2 ys I2) (hz : ZipA s.heap z TI TO f0 fl) (hf : ∀ {E : Value → Shared → Prop} {Q : Bool → Shared → Prop}, Q true s → wpAny (model prog w) A (Builtin.SmallTypes.ownedTupleIsFree (.ref z)) Q E s)
    (hTI : IsPair s.heap TI (.ref i1) (.ref i2)) (hTO : IsPair s.heap TO a b)
    (h1 : I1 s.heap k1) (h2 : I2 s.heap k2) (hx : xs[k1]? = some x) (hy : ys[k2]? = some y)
    (hQ : ∀ h', ZipO h' z TI TO s.heap.objs.size false → IsPair h' TO x y → I1 h' (k1 + 1) → I2 h' (k2 + 1) → IsPair h' s.heap.objs.size x y → h'.objs.size = s.heap.objs.size + 1 →
      (∀ c o, c ≠ z → c ≠ TO → c ≠ i1 → c ≠ i2 → s.heap.get? c = some o → h'.get? c = some o) → Q (.ref s.heap.objs.size) { s with heap := h' }) :
    wpAny (model prog w) A (Builtin.«zip.__next__» ⟨[.ref z], []⟩) (fun fin s' => ∃ v, fin = .done (.ret v) ∧ Q v s') E s := by
  show wpAny _ _ (field (.ref z) 2 >>= fun _ => _) _ _ _
  refine wpAny_bind (wpAny_field hz rfl (x := .bool false) rfl ?_)
  show wpAny _ _ (field (.ref z) 3 >>= fun _ => _) _ _ _
  refine wpAny_bind (wpAny_field hz rfl (x := .ref TI) rfl ?_)
  refine wpAny_bind (wpAny_seqItems hTI rfl ?_)
  show wpAny _ _ (Builtin.SmallTypes.ownedTupleIsFree (.ref z) >>= fun _ => _) _ _ _
  refine wpAny_bind (hf ?_)
  simp only [if_true]
  refine wpAny_bind (wpAny_rule (wpAny_bind (wpAny_field hz rfl (x := .ref TO) rfl ?_)))
  refine wpAny_bind (wpAny_setField_rec hz (by simp) fun ha za sa => ?_)
  replace za : ZipA ha z TI TO .ellipsis fl := za
  refine wpAny_bind ?_
  simp only [List.zipIdx_cons, List.zipIdx_nil, List.forIn_cons, List.forIn_nil]
  refine wpAny_bind (wpAny_bind (wpAny_onRaise ?_))
  show wpAny _ _ (Builtin.SmallTypes.nextOf (.ref i1) >>= fun _ => _) _ _ _
  have h1a : I1 ha k1 := J1.at' h1 fun b o q => sa.extBut b o (by rcases q with q | q <;> subst q <;> first | exact D.i1z | exact D.l1z)
  have h2a : I2 ha k2 := J2.at' h2 fun b o q => sa.extBut b o (by rcases q with q | q <;> subst q <;> first | exact D.i2z | exact D.l2z)
  have oa : IsPair ha TO a b := sa.extBut _ _ D.TOz hTO
  refine wpAny_bind (J1.next h1a hx D.l1i1.symm fun hb n1 sb => wpAny_pure ?_)
  have ob : IsPair hb TO a b := sb.extBut _ _ D.TOi1 oa
  have h2b : I2 hb k2 := J2.at' h2a fun b o q => sb.extBut b o (by rcases q with q | q <;> subst q <;> first | exact D.i12.symm | exact D.l2i1)
  refine wpAny_bind (wpAny_seqItems ob rfl ?_)
  refine wpAny_bind (wpAny_updateSeq_pair ob fun hc oc sc => ?_)
  replace oc : IsPair hc TO x b := oc
  have n1c : I1 hc (k1 + 1) := J1.at' n1 fun b o q => sc.extBut b o (by rcases q with q | q <;> subst q <;> first | exact D.TOi1.symm | exact D.l1TO)
  have h2c : I2 hc k2 := J2.at' h2b fun b o q => sc.extBut b o (by rcases q with q | q <;> subst q <;> first | exact D.TOi2.symm | exact D.l2TO)
  refine wpAny_bind (wpAny_letGo (wpAny_pure ?_))
  refine wpAny_bind (wpAny_bind (wpAny_onRaise ?_))
  show wpAny _ _ (Builtin.SmallTypes.nextOf (.ref i2) >>= fun _ => _) _ _ _
  refine wpAny_bind (J2.next h2c hy D.l2i2.symm fun hd n2 sd => wpAny_pure ?_)
  have od : IsPair hd TO x b := sd.extBut _ _ D.TOi2 oc
  have n1d : I1 hd (k1 + 1) := J1.at' n1c fun b o q => sd.extBut b o (by rcases q with q | q <;> subst q <;> first | exact D.i12 | exact D.l1i2)
  refine wpAny_bind (wpAny_seqItems od rfl ?_)
  refine wpAny_bind (wpAny_updateSeq_pair od fun he oe se => ?_)
  replace oe : IsPair he TO x y := oe
  have n1e : I1 he (k1 + 1) := J1.at' n1d fun b o q => se.extBut b o (by rcases q with q | q <;> subst q <;> first | exact D.TOi1.symm | exact D.l1TO)
  have n2e : I2 he (k2 + 1) := J2.at' n2 fun b o q => se.extBut b o (by rcases q with q | q <;> subst q <;> first | exact D.TOi2.symm | exact D.l2TO)
  have ze : ZipA he z TI TO .ellipsis fl := se.extBut _ _ D.TOz.symm (sd.extBut _ _ D.i2z.symm (sc.extBut _ _ D.TOz.symm (sb.extBut _ _ D.i1z.symm za)))
  have sz : he.objs.size = s.heap.objs.size := by rw [se.1, sd.1, sc.1, sb.1, sa.1]
  have ke : ∀ c o, c ≠ z → c ≠ TO → c ≠ i1 → c ≠ i2 → s.heap.get? c = some o → he.get? c = some o := fun c o c1 c2 c3 c4 q =>
    se.extBut c o c2 (sd.extBut c o c4 (sc.extBut c o c2 (sb.extBut c o c3 (sa.extBut c o c1 q))))
  refine wpAny_bind (wpAny_letGo (wpAny_pure (wpAny_pure ?_)))
  refine wpAny_bind (wpAny_seqItems oe rfl ?_)
  refine wpAny_bind (wpAny_newTuple ?_)
  show wpAny _ _ (Builtin.SmallTypes.ownedTupleHandOut (.ref z) (.ref he.objs.size) >>= fun _ => _) _ _ _
  refine wpAny_bind ?_
  unfold Builtin.SmallTypes.ownedTupleHandOut
  have up0 : ∀ c o, he.get? c = some o → (he.push { cls := .type "tuple", data := .seq #[x, y] }).get? c = some o := fun c o q => Heap.get?_push_of_some _ q
  have new : IsPair (he.push { cls := .type "tuple", data := .seq #[x, y] }) he.objs.size x y := Heap.get?_push_size _ rfl
  have zl : z < he.objs.size := Heap.lt_size ze
  refine wpAny_bind (wpAny_setField_rec (up0 _ _ ze) (by simp) fun hg zg sg => ?_)
  refine wpAny_setField_rec zg (by simp) fun hi zi si => ?_
  replace zi : ZipO hi z TI TO he.objs.size false := zi
  have up : ∀ c o, c ≠ z → he.get? c = some o → hi.get? c = some o := fun c o c1 q => si.extBut c o c1 (sg.extBut c o c1 (up0 c o q))
  have newi : IsPair hi he.objs.size x y := si.extBut _ _ (Nat.ne_of_gt zl) (sg.extBut _ _ (Nat.ne_of_gt zl) new)
  have szi : hi.objs.size = he.objs.size + 1 := by rw [si.1, sg.1, Heap.size_push]
  refine wpAny_pure ⟨_, rfl, ?_⟩
  show Q (.ref he.objs.size) _
  rw [sz] at zi newi szi
  rw [sz]
  have a1 : I1 hi (k1 + 1) := J1.at' n1e fun b o q => up b o (by rcases q with q | q <;> subst q <;> first | exact D.i1z | exact D.l1z)
  have a2 : I2 hi (k2 + 1) := J2.at' n2e fun b o q => up b o (by rcases q with q | q <;> subst q <;> first | exact D.i2z | exact D.l2z)
  exact hQ hi zi (up _ _ D.TOz oe) a1 a2 newi szi fun c o c1 c2 c3 c4 q => up c o c1 (ke c o c1 c2 c3 c4 q)

theorem free_stop {z TI TO i1 i2 l1 l2 : Addr} {f0 : Value} {fl : Bool} {k1 k2 : Nat} {xs ys : Array Value} {a b : Value} {I1 I2 : Heap → Nat → Prop} {Q : Fin → Shared → Prop} (hh : A.handled = none) (D : ZipApart z TI TO i1 i2 l1 l2)
    (J1 : Inn i1 l1 xs I1) (J2 : Inn i2 l2 ys I2) (hz : ZipA s.heap z TI TO f0 fl) (hf : ∀ {E : Value → Shared → Prop} {Q : Bool → Shared → Prop}, Q true s → wpAny (model prog w) A (Builtin.SmallTypes.ownedTupleIsFree (.ref z)) Q E s)
    (hTI : IsPair s.heap TI (.ref i1) (.ref i2)) (hTO : IsPair s.heap TO a b)
    (h1 : I1 s.heap k1) (h2 : I2 s.heap k2) (hend : xs[k1]? = none ∨ ys[k2]? = none)
    (hE : ∀ h' e, (∀ c o, c ≠ z → c ≠ TO → c ≠ i1 → c ≠ i2 → s.heap.get? c = some o → h'.get? c = some o) → (∃ o, h'.get? e = some o ∧ o.cls = .type "StopIteration") → E (.ref e) { s with heap := h' }) :
    wpAny (model prog w) A (Builtin.«zip.__next__» ⟨[.ref z], []⟩) Q E s := by
  show wpAny _ _ (field (.ref z) 2 >>= fun _ => _) _ _ _
  refine wpAny_bind (wpAny_field hz rfl (x := .bool false) rfl ?_)
  show wpAny _ _ (field (.ref z) 3 >>= fun _ => _) _ _ _
  refine wpAny_bind (wpAny_field hz rfl (x := .ref TI) rfl ?_)
  refine wpAny_bind (wpAny_seqItems hTI rfl ?_)
  show wpAny _ _ (Builtin.SmallTypes.ownedTupleIsFree (.ref z) >>= fun _ => _) _ _ _
  refine wpAny_bind (hf ?_)
  simp only [if_true]
  refine wpAny_bind (wpAny_rule (wpAny_bind (wpAny_field hz rfl (x := .ref TO) rfl ?_)))
  refine wpAny_bind (wpAny_setField_rec hz (by simp) fun ha za sa => ?_)
  replace za : ZipA ha z TI TO .ellipsis fl := za
  refine wpAny_bind ?_
  simp only [List.zipIdx_cons, List.zipIdx_nil, List.forIn_cons, List.forIn_nil]
  refine wpAny_bind (wpAny_bind (wpAny_onRaise ?_))
  show wpAny _ _ (Builtin.SmallTypes.nextOf (.ref i1) >>= fun _ => _) _ _ _
  have h1a : I1 ha k1 := J1.at' h1 fun b o q => sa.extBut b o (by rcases q with q | q <;> subst q <;> first | exact D.i1z | exact D.l1z)
  have h2a : I2 ha k2 := J2.at' h2 fun b o q => sa.extBut b o (by rcases q with q | q <;> subst q <;> first | exact D.i2z | exact D.l2z)
  have oa : IsPair ha TO a b := sa.extBut _ _ D.TOz hTO
  cases hx : xs[k1]? with
  | none =>
    refine wpAny_bind (J1.stop hh h1a hx fun hb e eb he => ?_)
    obtain ⟨o1, q1, q2⟩ := he
    have zb : ZipA hb z TI TO .ellipsis fl := eb _ _ D.i1z.symm za
    have ne : e ≠ z := fun q => by subst q; rw [zb] at q1; cases q1; simp at q2
    exact wpAny_setField_rec zb (by simp) fun hc _ sc => hE hc e (fun c o c1 _ c3 _ q => sc.extBut c o c1 (eb c o c3 (sa.extBut c o c1 q))) ⟨o1, sc.extBut e o1 ne q1, q2⟩
  | some x =>
    have hy : ys[k2]? = none := by
      rcases hend with q | q
      · rw [hx] at q; cases q
      · exact q
    refine wpAny_bind (J1.next h1a hx D.l1i1.symm fun hb n1 sb => wpAny_pure ?_)
    have ob : IsPair hb TO a b := sb.extBut _ _ D.TOi1 oa
    have h2b : I2 hb k2 := J2.at' h2a fun b o q => sb.extBut b o (by rcases q with q | q <;> subst q <;> first | exact D.i12.symm | exact D.l2i1)
    refine wpAny_bind (wpAny_seqItems ob rfl ?_)
    refine wpAny_bind (wpAny_updateSeq_pair ob fun hc oc sc => ?_)
    have h2c : I2 hc k2 := J2.at' h2b fun b o q => sc.extBut b o (by rcases q with q | q <;> subst q <;> first | exact D.TOi2.symm | exact D.l2TO)
    refine wpAny_bind (wpAny_letGo (wpAny_pure ?_))
    refine wpAny_bind (wpAny_bind (wpAny_onRaise ?_))
    show wpAny _ _ (Builtin.SmallTypes.nextOf (.ref i2) >>= fun _ => _) _ _ _
    refine wpAny_bind (J2.stop hh h2c hy fun hd e ed he => ?_)
    obtain ⟨o1, q1, q2⟩ := he
    have zd : ZipA hd z TI TO .ellipsis fl := ed _ _ D.i2z.symm (sc.extBut _ _ D.TOz.symm (sb.extBut _ _ D.i1z.symm za))
    have ne : e ≠ z := fun q => by subst q; rw [zd] at q1; cases q1; simp at q2
    exact wpAny_setField_rec zd (by simp) fun hg _ sg => hE hg e (fun c o c1 c2 c3 c4 q => sg.extBut c o c1 (ed c o c4 (sc.extBut c o c2 (sb.extBut c o c3 (sa.extBut c o c1 q))))) ⟨o1, sg.extBut e o1 ne q1, q2⟩

/-- none, or handed out -/
def F0 (f0 : Value) : Prop := f0 = .none ∨ ∃ T : Addr, f0 = rawInt T
theorem free_none {z TI TO : Addr} {fl : Bool} {E : Value → Shared → Prop} {Q : Bool → Shared → Prop} (hz : ZipA s.heap z TI TO .none fl) (q : Q true s) : wpAny (model prog w) A (Builtin.SmallTypes.ownedTupleIsFree (.ref z)) Q E s := by
  unfold Builtin.SmallTypes.ownedTupleIsFree
  exact wpAny_bind (wpAny_field hz rfl (x := .none) rfl (wpAny_pure q))
theorem free_dead {z TI TO T : Addr} {fl : Bool} {E : Value → Shared → Prop} {Q : Bool → Shared → Prop} (hz : ZipO s.heap z TI TO T fl) (hT : s.heap.get? T = none) (q : Q true s) : wpAny (model prog w) A (Builtin.SmallTypes.ownedTupleIsFree (.ref z)) Q E s := by
  unfold Builtin.SmallTypes.ownedTupleIsFree
  refine wpAny_bind (wpAny_field hz rfl (x := .int (T : Nat) 0) rfl ?_)
  show wpAny _ _ (loadIfAlive ((T : Nat) : Int).toNat >>= _) _ _ _
  rw [Int.toNat_natCast]
  refine wpAny_bind (wp_alive ?_)
  rw [hT]
  exact wpAny_pure q

/-- the zip, whatever was handed out -/
theorem zip_item {z TI TO i1 i2 l1 l2 : Addr} {f0 : Value} {fl : Bool} {k1 k2 : Nat} {xs ys : Array Value} {x y a b : Value} {I1 I2 : Heap → Nat → Prop} {Q : Value → Shared → Prop} (D : ZipApart z TI TO i1 i2 l1 l2)
    (J1 : Inn i1 l1 xs I1) (J2 : Inn i2 l2 ys I2) (hz : ZipA s.heap z TI TO f0 fl) (h0 : F0 f0)
    (hTI : IsPair s.heap TI (.ref i1) (.ref i2)) (hTO : IsPair s.heap TO a b)
    (h1 : I1 s.heap k1) (h2 : I2 s.heap k2) (hx : xs[k1]? = some x) (hy : ys[k2]? = some y)
    (hQ : ∀ h', (∃ T fl, ZipO h' z TI TO T fl) → (∃ a b, IsPair h' TO a b) → I1 h' (k1 + 1) → I2 h' (k2 + 1) → IsPair h' s.heap.objs.size x y → h'.objs.size = s.heap.objs.size + 1 →
      (∀ c o, c ≠ z → c ≠ TO → c ≠ i1 → c ≠ i2 → s.heap.get? c = some o → h'.get? c = some o) → Q (.ref s.heap.objs.size) { s with heap := h' }) :
    wpAny (model prog w) A (Builtin.«zip.__next__» ⟨[.ref z], []⟩) (fun fin s' => ∃ v, fin = .done (.ret v) ∧ Q v s') E s := by
  rcases h0 with rfl | ⟨T, rfl⟩
  · exact free_item D J1 J2 hz (free_none hz) hTI hTO h1 h2 hx hy fun h' q1 q2 q3 q4 q5 q6 q7 => hQ h' ⟨_, _, q1⟩ ⟨_, _, q2⟩ q3 q4 q5 q6 q7
  · cases hT : s.heap.get? T with
    | none => exact free_item D J1 J2 hz (free_dead hz hT) hTI hTO h1 h2 hx hy fun h' q1 q2 q3 q4 q5 q6 q7 => hQ h' ⟨_, _, q1⟩ ⟨_, _, q2⟩ q3 q4 q5 q6 q7
    | some o => exact held_item D J1 J2 hz ⟨o, hT⟩ hTI h1 h2 hx hy fun h' q1 q3 q4 q5 q6 q7 => hQ h' ⟨_, _, q1⟩ ⟨a, b, q7 _ _ D.TOz D.TOi1 D.TOi2 hTO⟩ q3 q4 q5 q6 fun c o c1 _ c3 c4 => q7 c o c1 c3 c4
theorem zip_stop {z TI TO i1 i2 l1 l2 : Addr} {f0 : Value} {fl : Bool} {k1 k2 : Nat} {xs ys : Array Value} {a b : Value} {I1 I2 : Heap → Nat → Prop} {Q : Fin → Shared → Prop} (hh : A.handled = none) (D : ZipApart z TI TO i1 i2 l1 l2)
    (J1 : Inn i1 l1 xs I1) (J2 : Inn i2 l2 ys I2) (hz : ZipA s.heap z TI TO f0 fl) (h0 : F0 f0)
    (hTI : IsPair s.heap TI (.ref i1) (.ref i2)) (hTO : IsPair s.heap TO a b)
    (h1 : I1 s.heap k1) (h2 : I2 s.heap k2) (hend : xs[k1]? = none ∨ ys[k2]? = none)
    (hE : ∀ h' e, (∀ c o, c ≠ z → c ≠ TO → c ≠ i1 → c ≠ i2 → s.heap.get? c = some o → h'.get? c = some o) → (∃ o, h'.get? e = some o ∧ o.cls = .type "StopIteration") → E (.ref e) { s with heap := h' }) :
    wpAny (model prog w) A (Builtin.«zip.__next__» ⟨[.ref z], []⟩) Q E s := by
  rcases h0 with rfl | ⟨T, rfl⟩
  · exact free_stop hh D J1 J2 hz (free_none hz) hTI hTO h1 h2 hend hE
  · cases hT : s.heap.get? T with
    | none => exact free_stop hh D J1 J2 hz (free_dead hz hT) hTI hTO h1 h2 hend hE
    | some o => exact held_stop hh D J1 J2 hz ⟨o, hT⟩ hTI h1 h2 hend fun h' e q => hE h' e fun c o c1 _ c3 c4 => q c o c1 c3 c4
end
end Zh
namespace Zh
open PySem
open PySem.Sem (wp)
section
variable {prog : Program} {w : World} {A : Around} {E : Value → Shared → Prop} {s : Shared}

/-- the zip's record, its two tuples, its iterators -/
structure ZS (h : Heap) (z TI TO i1 i2 : Addr) : Prop where
  rc : ∃ f0 fl, ZipA h z TI TO f0 fl ∧ F0 f0
  ti : IsPair h TI (.ref i1) (.ref i2)
  to : ∃ a b, IsPair h TO a b
theorem ZS.keep {h h' : Heap} {z TI TO i1 i2 : Addr} (S : ZS h z TI TO i1 i2) (k : ∀ b ∈ [z, TI, TO], ∀ o, h.get? b = some o → h'.get? b = some o) : ZS h' z TI TO i1 i2 := by
  obtain ⟨⟨f0, fl, a, b⟩, c, x, y, d⟩ := S
  exact ⟨⟨f0, fl, k z (by simp) _ a, b⟩, k TI (by simp) _ c, x, y, k TO (by simp) _ d⟩
theorem ZS.ty {h : Heap} {z TI TO i1 i2 : Addr} (S : ZS h z TI TO i1 i2) : ∃ o, h.get? z = some o ∧ o.cls = .type "zip" := by
  obtain ⟨⟨f0, fl, a, b⟩, _, _⟩ := S
  exact ⟨_, a, rfl⟩
def Kp (fp : List Addr) (h h' : Heap) : Prop := ∀ c o, c ∉ fp → h.get? c = some o → h'.get? c = some o

theorem znext_item {z TI TO i1 i2 l1 l2 : Addr} {k : Nat} {xs ys : Array Value} {x y : Value} {I1 I2 : Heap → Nat → Prop} {Q : Value → Shared → Prop} (D : ZipApart z TI TO i1 i2 l1 l2)
    (J1 : Inn i1 l1 xs I1) (J2 : Inn i2 l2 ys I2) (S : ZS s.heap z TI TO i1 i2) (h1 : I1 s.heap k) (h2 : I2 s.heap k) (hx : xs[k]? = some x) (hy : ys[k]? = some y)
    (hQ : ∀ h', ZS h' z TI TO i1 i2 → I1 h' (k + 1) → I2 h' (k + 1) → IsPair h' s.heap.objs.size x y → h'.objs.size = s.heap.objs.size + 1 →
      Kp [z, TI, TO, i1, i2] s.heap h' → Q (.ref s.heap.objs.size) { s with heap := h' }) :
    wpAny (model prog w) A (Builtin.SmallTypes.nextOf (.ref z)) Q E s := by
  have hT : s.TypeIs (.ref z) "zip" := S.ty
  obtain ⟨⟨f0, fl, hz, h0⟩, hTI, a, b, hTO⟩ := S
  unfold Builtin.SmallTypes.nextOf
  refine wpAny_bind (wpAny_callSpecial?_slot (name := Str.ofString "__next__") hT F.slot_zip_next (wpAny_call_entry F.slot_zip_next hT F.entry_zip_next
    (zip_item D J1 J2 hz h0 hTI hTO h1 h2 hx hy fun h' q1 q2 q3 q4 q5 q6 q7 => wpAny_pure (hQ h' ?_ q3 q4 q5 q6 fun c o hc e => ?_)) (F.args_zip_next_1 _)))
  · obtain ⟨T, fl', q⟩ := q1
    exact ⟨⟨_, _, q, .inr ⟨T, rfl⟩⟩, q7 _ _ D.TIz D.TITO D.TIi1 D.TIi2 hTI, q2⟩
  · simp at hc
    exact q7 c o hc.1 hc.2.2.1 hc.2.2.2.1 hc.2.2.2.2 e
theorem znext_stop {z TI TO i1 i2 l1 l2 : Addr} {k : Nat} {xs ys : Array Value} {I1 I2 : Heap → Nat → Prop} {Q : Value → Shared → Prop} (hh : A.handled = none) (D : ZipApart z TI TO i1 i2 l1 l2)
    (J1 : Inn i1 l1 xs I1) (J2 : Inn i2 l2 ys I2) (S : ZS s.heap z TI TO i1 i2) (h1 : I1 s.heap k) (h2 : I2 s.heap k) (hend : xs[k]? = none ∨ ys[k]? = none)
    (hE : ∀ h' e, Kp [z, TI, TO, i1, i2] s.heap h' → (∃ o, h'.get? e = some o ∧ o.cls = .type "StopIteration") → E (.ref e) { s with heap := h' }) :
    wpAny (model prog w) A (Builtin.SmallTypes.nextOf (.ref z)) Q E s := by
  have hT : s.TypeIs (.ref z) "zip" := S.ty
  obtain ⟨⟨f0, fl, hz, h0⟩, hTI, a, b, hTO⟩ := S
  unfold Builtin.SmallTypes.nextOf
  refine wpAny_bind (wpAny_callSpecial?_slot (name := Str.ofString "__next__") hT F.slot_zip_next (wpAny_call_entry F.slot_zip_next hT F.entry_zip_next
    (zip_stop hh D J1 J2 hz h0 hTI hTO h1 h2 hend fun h' e q1 q2 => hE h' e (fun c o hc q => ?_) q2) (F.args_zip_next_1 _)))
  simp at hc
  exact q1 c o hc.1 hc.2.2.1 hc.2.2.2.1 hc.2.2.2.2 q

/-- enumerate's turn, of any inner iterator -/
theorem enum_item {e it : Addr} {c : Int} {old : Value} {P : Value → Heap → Prop} {Q : Value → Shared → Prop} (he : IsEnum s.heap e it c old)
    (hN : ∀ {Q : Value → Shared → Prop}, (∀ x h1, P x h1 → Q x { s with heap := h1 }) → wpAny (model prog w) A (Builtin.SmallTypes.nextOf (.ref it)) Q E s) (hP : ∀ x h1, P x h1 → IsEnum h1 e it c old)
    (hQ : ∀ x h1 h', P x h1 → IsEnumOut h' e it (c + 1) x h1.objs.size → h'.get? h1.objs.size = some { cls := .type "tuple", data := .seq #[.int c s.toks, x] } → h'.objs.size = h1.objs.size + 1 → Kp [e] h1 h' →
      Q (.ref h1.objs.size) { s with heap := h', toks := s.toks + 1 }) :
    wpAny (model prog w) A (Builtin.«enumerate.__next__» ⟨[.ref e], []⟩) (fun fin s' => ∃ v, fin = .done (.ret v) ∧ Q v s') E s := by
  show wpAny _ _ (field (.ref e) 2 >>= fun _ => _) _ _ _
  refine wpAny_bind (wpAny_field he rfl (x := .ref it) rfl (wpAny_bind (hN fun x ha p => ?_)))
  have ea := hP x ha p
  have el : e < ha.objs.size := Heap.lt_size ea
  show wpAny _ _ (field (.ref e) 3 >>= fun _ => _) _ _ _
  refine wpAny_bind (wpAny_field ea rfl (x := rawInt c) rfl ?_)
  show wpAny _ _ (field (.ref e) 4 >>= fun _ => _) _ _ _
  refine wpAny_bind (wpAny_field ea rfl (x := .none) rfl ?_)
  show wpAny _ _ (mkInt c >>= fun _ => _) _ _ _
  refine wpAny_bind (wpAny_mkInt ?_)
  show wpAny _ _ (setField (.ref e) 3 (rawInt (c + 1)) >>= fun _ => _) _ _ _
  refine wpAny_bind (wpAny_setField_rec ea (by simp) fun hb eb sb => ?_)
  replace eb : IsEnum hb e it (c + 1) old := eb
  show wpAny _ _ (setField (.ref e) 4 .none >>= fun _ => _) _ _ _
  refine wpAny_bind (wpAny_setField_rec eb (by simp) fun hc ec sc => ?_)
  replace ec : IsEnum hc e it (c + 1) old := ec
  show wpAny _ _ (newTuple [.int c s.toks, x] >>= fun _ => _) _ _ _
  refine wpAny_bind (wpAny_newTuple ?_)
  have sz : hc.objs.size = ha.objs.size := by rw [sc.1, sb.1]
  have ed : IsEnum (hc.push { cls := .type "tuple", data := .seq #[.int c s.toks, x] }) e it (c + 1) old := Heap.get?_push_of_some _ ec
  have td : (hc.push { cls := .type "tuple", data := .seq #[.int c s.toks, x] }).get? hc.objs.size = some { cls := .type "tuple", data := .seq #[.int c s.toks, x] } := Heap.get?_push_size _ rfl
  have kd : ∀ b o, b ≠ e → ha.get? b = some o → (hc.push { cls := .type "tuple", data := .seq #[.int c s.toks, x] }).get? b = some o := fun b o ne q => Heap.get?_push_of_some _ (sc.extBut b o ne (sb.extBut b o ne q))
  have zd : (hc.push { cls := .type "tuple", data := .seq #[.int c s.toks, x] }).objs.size = ha.objs.size + 1 := by rw [Heap.size_push, sz]
  show wpAny _ _ (Builtin.SmallTypes.ownedTupleIsFree (.ref e) >>= fun _ => _) _ _ _
  show wpAny _ _ _ _ _ { s with heap := hc.push { cls := .type "tuple", data := .seq #[.int c s.toks, x] }, toks := s.toks + 1 }
  rw [sz] at td ⊢
  generalize hc.push { cls := .type "tuple", data := .seq #[.int c s.toks, x] } = hd at ed td kd zd ⊢
  refine wpAny_bind ?_
  unfold Builtin.SmallTypes.ownedTupleIsFree
  refine wpAny_bind (wpAny_field ed rfl (x := .none) rfl (wpAny_pure ?_))
  simp only [if_true]
  refine wpAny_bind (wpAny_rule (wpAny_bind (wpAny_field ed rfl (x := old) rfl ?_)))
  refine wpAny_bind (wpAny_setField_rec ed (by simp) fun hf ef sf => ?_)
  replace ef : IsEnum hf e it (c + 1) x := ef
  show wpAny _ _ (Builtin.SmallTypes.ownedTupleHandOut (.ref e) (.ref ha.objs.size) >>= fun _ => _) _ _ _
  refine wpAny_bind ?_
  unfold Builtin.SmallTypes.ownedTupleHandOut
  refine wpAny_bind (wpAny_setField_rec ef (by simp) fun hg eg sg => ?_)
  replace eg : IsEnumOut hg e it (c + 1) x ha.objs.size := eg
  refine wpAny_setField_rec eg (by simp) fun hi ei si => ?_
  replace ei : IsEnumOut hi e it (c + 1) x ha.objs.size := ei
  have ki : ∀ b o, b ≠ e → hd.get? b = some o → hi.get? b = some o := fun b o ne q => si.extBut b o ne (sg.extBut b o ne (sf.extBut b o ne q))
  refine wpAny_bind (wpAny_letGo (wpAny_pure ⟨_, rfl, hQ x ha hi p ei (ki _ _ (Nat.ne_of_gt el) td) ?_ fun b o hb q => ?_⟩))
  · rw [si.1, sg.1, sf.1, zd]
  · have ne : b ≠ e := by simpa using hb
    exact ki b o ne (kd b o ne q)
theorem enum_next {e it : Addr} {c : Int} {old : Value} {P : Value → Heap → Prop} {Q : Option Value → Shared → Prop} (he : IsEnum s.heap e it c old)
    (hN : ∀ {A : Around} {E Q : Value → Shared → Prop}, (∀ x h1, P x h1 → Q x { s with heap := h1 }) → wpAny (model prog w) A (Builtin.SmallTypes.nextOf (.ref it)) Q E s) (hP : ∀ x h1, P x h1 → IsEnum h1 e it c old)
    (hQ : ∀ x h1 h', P x h1 → IsEnumOut h' e it (c + 1) x h1.objs.size → h'.get? h1.objs.size = some { cls := .type "tuple", data := .seq #[.int c s.toks, x] } → h'.objs.size = h1.objs.size + 1 → Kp [e] h1 h' →
      Q (some (.ref h1.objs.size)) { s with heap := h', toks := s.toks + 1 }) : wpAny (model prog w) A (pyNext (.ref e)) Q E s := by
  have hT : s.TypeIs (.ref e) "enumerate" := ⟨_, he, rfl⟩
  unfold pyNext
  exact wpAny_bind (wpAny_attempt (wpAny_callSpecial?_slot (name := Str.ofString "__next__") hT F.slot_enumerate_next (wpAny_call_entry F.slot_enumerate_next hT F.entry_enumerate_next
    (enum_item he hN hP fun x h1 h' a b c d k => wpAny_pure (hQ x h1 h' a b c d k)) (F.args_enumerate_next_1 _))))
theorem enum_stop {e it : Addr} {c : Int} {old : Value} {fp : List Addr} {Q : Option Value → Shared → Prop} (he : IsEnum s.heap e it c old) (hh : A.handled = none)
    (hN : ∀ {A : Around} {E Q : Value → Shared → Prop}, A.handled = none → (∀ h' x, Kp fp s.heap h' → (∃ o, h'.get? x = some o ∧ o.cls = .type "StopIteration") → E (.ref x) { s with heap := h' }) →
      wpAny (model prog w) A (Builtin.SmallTypes.nextOf (.ref it)) Q E s)
    (hQ : ∀ h', Kp fp s.heap h' → Q none { s with heap := h' }) : wpAny (model prog w) A (pyNext (.ref e)) Q E s := by
  have hT : s.TypeIs (.ref e) "enumerate" := ⟨_, he, rfl⟩
  unfold pyNext
  refine wpAny_bind (wpAny_attempt (wpAny_callSpecial?_slot (name := Str.ofString "__next__") hT F.slot_enumerate_next (wpAny_call_entry F.slot_enumerate_next hT F.entry_enumerate_next ?_ (F.args_enumerate_next_1 _))))
  show wpAny _ _ (field (.ref e) 2 >>= fun _ => _) _ _ _
  refine wpAny_bind (wpAny_field he rfl (x := .ref it) rfl (wpAny_bind (hN hh fun h' x k hx => ?_)))
  obtain ⟨o, ho, hc⟩ := hx
  exact wpAny_bind (wpAny_isInstance (T := "StopIteration") (b := true) ⟨o, ho, hc⟩ isSubtype_stop (wpAny_pure (hQ _ k)))
end

/-- enumerate(z) of a zip z: z itself is gone through -/
theorem new_zip (z TI TO : Addr) (f0 : Value) :
    Meets (Builtin.«enumerate.__new__» ⟨[.type "enumerate", .ref z], []⟩) (fun _ R s => IsZip s.heap z TI TO f0 ∧
      R (.ok (.ret (.ref s.heap.objs.size))) { s with heap := s.heap.push { cls := .type "enumerate", data := .fields #[.none, .bool false, .ref z, rawInt 0, .none, .none] } }) :=
  .of_wp fun prog w A R s h => by
    obtain ⟨hp, g, d, tk, os⟩ := s; obtain ⟨hz, h⟩ := h
    have hsub := sub_enumerate
    have hZ : IsZip (Shared.heap ⟨hp, g, d, tk, os⟩) z TI TO f0 := hz
    wp_walk using wpAny_loadPart' hz
    refine wpAny_stack_any fun st => wpAny_pure ?_
    split
    · rename_i c _ _ _ _ _
      cases (c == Value.type "enumerate")
      · wp_walk using wpAny_loadPart' hz, wpAny_pyIter_zip hZ
        exact ⟨_, rfl, h⟩
      · wp_walk using wpAny_loadPart' hz, wpAny_pyIter_zip hZ
        exact ⟨_, rfl, h⟩
    · wp_walk using wpAny_loadPart' hz, wpAny_pyIter_zip hZ
      exact ⟨_, rfl, h⟩
theorem call_enum_zip {prog : Program} {w : World} {A : Around} {E : Value → Shared → Prop} {s : Shared} {z TI TO : Addr} {f0 : Value} {Q : Value → Shared → Prop} (hz : IsZip s.heap z TI TO f0)
    (h : ∀ h', IsEnum h' s.heap.objs.size z 0 .none → (∀ b o, s.heap.get? b = some o → h'.get? b = some o) → Q (.ref s.heap.objs.size) { s with heap := h' }) :
    wpAny (model prog w) A (call (.type "enumerate") [.ref z]) Q E s := by
  refine callType_new F.called_enumerate (by decide) (F.typeCall_enumerate_1 _) (F.newCall_enumerate_1 _) (fun obj => F.args_object_init_2 obj _) F.entry_enumerate_new (new_zip z TI TO f0) ⟨hz, ?_⟩
  have he : IsEnum (s.heap.push { cls := .type "enumerate", data := .fields #[.none, .bool false, .ref z, rawInt 0, .none, .none] }) s.heap.objs.size z 0 .none := Heap.get?_push_size _ rfl
  exact ⟨⟨_, he, rfl⟩, h _ he fun b o x => Heap.get?_push_of_some _ x⟩
end Zh

namespace Dm
noncomputable section
open PySem PySem.Spec PyProof.Rows L2 Zh

def ItEz (K : PySem.W.Frag) (a b : Addr) : It :=
  ⟨(Itz K a b).go,
    fun i H v H' => ∃ T U x y ob, v = .ref U ∧ H T = none ∧ upd H T (.frz ob (.tup [x, y])) U = none ∧ ob.dict = none ∧ H' = upd (upd H T (.frz ob (.tup [x, y]))) U (.tup [.int (i : Nat), .ref T]) ∧
      (∀ xs, SqL K H a xs → xs[i]? = some x) ∧ ∀ ys, SqL K H b ys → ys[i]? = some y,
    (Itz K a b).stop⟩
theorem turn_ez {P : Program} {w : World} {K : PySem.W.Frag} {elts : List Expr} {kk : Nat} {tpos : Pos} {a b e z TI TO i1 i2 : Addr} (S : ZipApart z TI TO i1 i2 a b) (he : e ∉ [z, TI, TO, i1, i2]) :
    Turn P w K (.Tuple elts kk tpos) (ItEz K a b) [e, z, TI, TO, i1, i2] e (fun i h => (∃ old, IsEnum h e z ((i : Nat) : Int) old) ∧ ZS h z TI TO i1 i2 ∧ h.IsListIter i1 a i ∧ h.IsListIter i2 b i) where
  mem := by simp
  obj := fun i h ⟨⟨old, q0⟩, ⟨⟨f0, fl, q1, _⟩, q2, x, y, q3⟩, ⟨o1, q4, _, d1⟩, ⟨o2, q5, _, d2⟩⟩ c hc => by
    have hc' : c = e ∨ c = z ∨ c = TI ∨ c = TO ∨ c = i1 ∨ c = i2 := by simpa using hc
    rcases hc' with q | q | q | q | q | q <;> rw [q]
    · exact ⟨_, q0, fun v q => nomatch q⟩
    · exact ⟨_, q1, fun v q => nomatch q⟩
    · exact ⟨_, q2, fun v q => nomatch q⟩
    · exact ⟨_, q3, fun v q => nomatch q⟩
    · exact ⟨o1, q4, fun v q => by rw [d1] at q; cases q⟩
    · exact ⟨o2, q5, fun v q => by rw [d2] at q; cases q⟩
  keep := fun i h h' ⟨⟨old, q0⟩, q1, q2, q3⟩ k => ⟨⟨old, k e (by simp) _ q0⟩, q1.keep fun c hc o q => k c (by simp at hc ⊢; rcases hc with q | q | q <;> simp [q]) o q, q2.at fun o q => k i1 (by simp) o q, q3.at fun o q => k i2 (by simp) o q⟩
  item := by
    intro X hP hw hK hc i pins s σ H E I hf st hg
    subst hP hw hK
    obtain ⟨⟨old, q0⟩, zs, q2, q3⟩ := st
    obtain ⟨xs, ys, x, y, hqx, hqy, hx, hy⟩ := hg
    obtain ⟨its, rv, p, _⟩ := I.list hqx
    obtain ⟨its2, rv2, p2, _⟩ := I.list hqy
    obtain ⟨u, hu, ru⟩ := rv.get hx
    obtain ⟨u2, hu2, ru2⟩ := rv2.get hy
    refine enum_next (P := fun v h1 => v = .ref s.heap.objs.size ∧ ZS h1 z TI TO i1 i2 ∧ h1.IsListIter i1 a (i + 1) ∧ h1.IsListIter i2 b (i + 1) ∧ IsPair h1 s.heap.objs.size u u2 ∧ h1.objs.size = s.heap.objs.size + 1 ∧ Kp [z, TI, TO, i1, i2] s.heap h1) q0 ?_ ?_ ?_
    · intro A E Q hQ
      exact znext_item S (inn_list i1 a its.toArray) (inn_list i2 b its2.toArray) zs ⟨q2, p.isList⟩ ⟨q3, p2.isList⟩ (by simpa using hu) (by simpa using hu2) fun h' r1 r2 r3 r4 r5 r6 => hQ _ h' ⟨rfl, r1, r2.1, r3.1, r4, r5, r6⟩
    · intro v h1 ⟨_, _, _, _, _, _, k⟩
      exact k _ _ he q0
    · intro v h1 h' ⟨ev, zs1, r2, r3, r4, r5, r6⟩ ho hT hz hk
      subst ev
      refine ⟨_, rfl, wpAny_letOwnedTupleGo_enum (s := { s with heap := h', toks := s.toks + 1 }) ho fun h'' he'' sb => ?_⟩
      have el : e < s.heap.objs.size := Heap.lt_size q0
      have new1 : ObjOk X.prog X.w (upd H s.heap.objs.size (.frz { cls := .type "tuple", data := .seq #[u, u2] } (.tup [x, y]))) h1 s.heap.objs.size (.frz { cls := .type "tuple", data := .seq #[u, u2] } (.tup [x, y])) := ⟨r4, by show 2 ≤ sizeLine; decide, [u, u2], .cons ru (.cons ru2 .nil), ⟨_, r4, rfl, _, rfl⟩⟩
      have I1 : Inv X pins σ (upd H s.heap.objs.size (.frz { cls := .type "tuple", data := .seq #[u, u2] } (.tup [x, y]))) { s with heap := h1, toks := s.toks } :=
        I.turnedNew (t' := s.toks) (ch := [z, TI, TO, i1, i2]) (fun c o hb q => r6 c o hb q) (fun c hc => hf c (List.mem_cons_of_mem _ hc)) (Nat.le_refl _) new1
      have el1 : h1.objs.size ≠ e := by rw [r5]; exact Nat.ne_of_gt (Nat.lt_succ_of_lt el)
      have hT2 : h''.get? h1.objs.size = some { cls := .type "tuple", data := .seq #[.int (i : Nat) s.toks, .ref s.heap.objs.size] } := (sb.2 _ el1).trans hT
      have new2 : ObjOk X.prog X.w (upd (upd H s.heap.objs.size (.frz { cls := .type "tuple", data := .seq #[u, u2] } (.tup [x, y]))) h1.objs.size (.tup [.int (i : Nat), .ref s.heap.objs.size])) h'' h1.objs.size (.tup [.int (i : Nat), .ref s.heap.objs.size]) :=
        ⟨by show 2 ≤ sizeLine; decide, [.int (i : Nat) s.toks, .ref s.heap.objs.size], .cons ⟨_, rfl⟩ (.cons rfl .nil), ⟨_, hT2, rfl, _, rfl⟩⟩
      have fe : FpOk X pins (upd H s.heap.objs.size (.frz { cls := .type "tuple", data := .seq #[u, u2] } (.tup [x, y]))) e := by
        obtain ⟨f1, f2⟩ := hf e (by simp)
        exact ⟨by rw [upd_ne (Nat.ne_of_lt el)]; exact f1, f2⟩
      have fes : ∀ c ∈ [e], FpOk X pins (upd H s.heap.objs.size (.frz { cls := .type "tuple", data := .seq #[u, u2] } (.tup [x, y]))) c := fun c hc => by
        have q : c = e := by simpa using hc
        rw [q]; exact fe
      have I2 : Inv X pins σ (upd (upd H s.heap.objs.size (.frz { cls := .type "tuple", data := .seq #[u, u2] } (.tup [x, y]))) h1.objs.size (.tup [.int (i : Nat), .ref s.heap.objs.size])) { s with heap := h'', toks := s.toks + 1 } :=
        I1.turnedNew (s := { s with heap := h1, toks := s.toks }) (t' := s.toks + 1) (ch := [e]) (fun c o hb q => (sb.2 c (by simpa using hb)).trans (hk c o hb q)) fes (Nat.le_refl _) new2
      have up : ∀ c o, c ≠ e → h1.get? c = some o → h''.get? c = some o := fun c o ne q => (sb.2 c ne).trans (hk c o (by simpa using ne) q)
      have e1 : e ≠ z := fun q => he (by simp [q])
      have e2 : e ≠ TI := fun q => he (by simp [q])
      have e3 : e ≠ TO := fun q => he (by simp [q])
      have e4 : e ≠ i1 := fun q => he (by simp [q])
      have e5 : e ≠ i2 := fun q => he (by simp [q])
      refine ⟨.ref h1.objs.size, _, I2, rfl, ⟨_, _, x, y, _, rfl, I.hok.fresh (Nat.le_refl _), I1.hok.fresh (Nat.le_refl _), rfl, rfl, fun l hl => by rw [I.list_inj hl hqx]; exact hx, fun l hl => by rw [I.list_inj hl hqy]; exact hy⟩,
        ⟨⟨.ref s.heap.objs.size, ?_⟩, zs1.keep fun c hc o q => up c o (fun z => ?_) q, r2.at fun o q => up _ o e4.symm q, r3.at fun o q => up _ o e5.symm q⟩, fun c hcm => ?_⟩
      · have e6 : ((i + 1 : Nat) : Int) = (i : Int) + 1 := by omega
        rw [e6]; exact he''
      · subst z
        exact he (by simp at hc ⊢; rcases hc with q | q | q <;> simp [q])
      · have hlt : c < s.heap.objs.size := by
          have hc' : c = e ∨ c = z ∨ c = TI ∨ c = TO ∨ c = i1 ∨ c = i2 := by simpa using hcm
          obtain ⟨⟨f0, fl, w1, _⟩, w2, _, _, w3⟩ := zs
          obtain ⟨_, w4, _⟩ := q2
          obtain ⟨_, w5, _⟩ := q3
          rcases hc' with q | q | q | q | q | q <;> rw [q]
          · exact el
          · exact Heap.lt_size w1
          · exact Heap.lt_size w2
          · exact Heap.lt_size w3
          · exact Heap.lt_size w4
          · exact Heap.lt_size w5
        have hlt1 : c < h1.objs.size := by rw [r5]; exact Nat.lt_succ_of_lt hlt
        rw [upd_ne (Nat.ne_of_lt hlt1), upd_ne (Nat.ne_of_lt hlt)]
        exact (hf c hcm).1
  done := by
    intro X hP hw hK hc i pins s σ H E I hf st hg
    subst hP hw hK
    obtain ⟨⟨old, q0⟩, zs, q2, q3⟩ := st
    obtain ⟨xs, ys, hqx, hqy, hend⟩ := hg
    obtain ⟨its, rv, p, _⟩ := I.list hqx
    obtain ⟨its2, rv2, p2, _⟩ := I.list hqy
    have l1 := rv.length
    have l2 := rv2.length
    have hs : its.toArray[i]? = none ∨ its2.toArray[i]? = none := by
      rcases hend with q | q
      · exact .inl (by simp; omega)
      · exact .inr (by simp; omega)
    refine enum_stop (fp := [z, TI, TO, i1, i2]) q0 (I.ok.hd hc) (fun hh hE => znext_stop hh S (inn_list i1 a its.toArray) (inn_list i2 b its2.toArray) zs ⟨q2, p.isList⟩ ⟨q3, p2.isList⟩ hs hE) fun h' k => ⟨rfl, I.turnedL (t' := s.toks) (ch := [z, TI, TO, i1, i2]) (fun c o hb q => k c o hb q) fun c hc => hf c (List.mem_cons_of_mem _ hc)⟩
  self := fun A i s Q E st h => by
    obtain ⟨⟨old, q0⟩, _⟩ := st
    exact wpAny_pyIter_enum q0 h
def iEz (K : PySem.W.Frag) (ta : TA) : TI := fun σ H R => ta σ H fun vs H1 => ∃ a b xs ys, vs = [.ref a, .ref b] ∧ SqL K H1 a xs ∧ SqL K H1 b ys ∧ R (ItEz K a b) H1
theorem pi_ez {X : Cx} {e e2 : Expr} {ta : TA} {p p2 pos pos2 tpos : Pos} {elts : List Expr} {kk : Nat} (hg : Gl X "enumerate") (hm : X.mg "enumerate" = none) (hgz : Gl X "zip") (hmz : X.mg "zip" = none) (ha : PA X [e, e2] ta)
    (hs : starEach [.Call (.Name "zip" p2) [e, e2] [] pos2] X.env = [(false, eval (.Call (.Name "zip" p2) [e, e2] [] pos2) X.env)] := by rfl)
    (hsz : starEach [e, e2] X.env = (false, eval e X.env) :: starEach [e2] X.env := by rfl) (hpl : (backTo pos2 (starEach [e2] X.env)).any (·.1) = false := by rfl) :
    PI X (.Tuple elts kk tpos) (.Call (.Name "enumerate" p) [.Call (.Name "zip" p2) [e, e2] [] pos2] [] pos) (iEz X.K ta) := by
  refine ⟨fun pins s σ H R I h => ?_⟩
  refine Call_ (ld_blt I hg hm boot_enumerate (PyProof.Rows.callWith_type1 ?_ hs rfl))
  rw [hs]
  show wpAny _ _ (spliced [(false, eval (.Call (.Name "zip" p2) [e, e2] [] pos2) X.env)]) _ _ s
  refine Calls.spliced_cons ?_
  refine Call_ (ld_blt I hgz hmz PyProof.Rows.boot_zip (PyProof.Rows.callWith_type1 (thn (ha.run pos2 pins s σ H _ I h) fun us s1 ⟨vs, H1, I1, r1, q1⟩ => ?_) hsz hpl))
  obtain ⟨a, b, xs, ys, ex, hqx, hqy, q⟩ := q1
  subst ex
  cases r1 with
  | cons r rr =>
    cases rr with
    | cons r' rr =>
      cases rr
      cases r
      cases r'
      obtain ⟨its, rv, p1, _⟩ := I1.list hqx
      obtain ⟨its2, rv2, p2, _⟩ := I1.list hqy
      refine call_zip_2 p1.isList p2.isList fun h' hz hTI hTO h1 h2 hsz hk => Calls.spliced_nil ?_
      refine call_enum_zip (s := { s1 with heap := h' }) hz fun h'' he hk2 => wpAny_pyIter_enum (s := { s1 with heap := h'' }) he ?_
      have I2 : Inv X pins σ H1 { s1 with heap := h'' } := I1.kept (t' := s1.toks) fun c o q => hk2 c o (hk c o q)
      have hsz' : h'.objs.size = s1.heap.objs.size + 5 := hsz
      have hle : ∀ c, c ∈ [h'.objs.size, s1.heap.objs.size + 4, s1.heap.objs.size + 2, s1.heap.objs.size + 3, s1.heap.objs.size, s1.heap.objs.size + 1] → s1.heap.objs.size ≤ c := fun c hc => by
        have hc' : c = h'.objs.size ∨ c = s1.heap.objs.size + 4 ∨ c = s1.heap.objs.size + 2 ∨ c = s1.heap.objs.size + 3 ∨ c = s1.heap.objs.size ∨ c = s1.heap.objs.size + 1 := by simpa using hc
        rcases hc' with q | q | q | q | q | q <;> rw [q]
        · rw [hsz']; exact Nat.le_add_right _ _
        · exact Nat.le_add_right _ _
        · exact Nat.le_add_right _ _
        · exact Nat.le_add_right _ _
        · exact Nat.le_refl _
        · exact Nat.le_add_right _ _
      have ne : h'.objs.size ∉ [s1.heap.objs.size + 4, s1.heap.objs.size + 2, s1.heap.objs.size + 3, s1.heap.objs.size, s1.heap.objs.size + 1] := fun hc => by
        have hc' : h'.objs.size = s1.heap.objs.size + 4 ∨ h'.objs.size = s1.heap.objs.size + 2 ∨ h'.objs.size = s1.heap.objs.size + 3 ∨ h'.objs.size = s1.heap.objs.size ∨ h'.objs.size = s1.heap.objs.size + 1 := by simpa using hc
        rw [hsz'] at hc'
        generalize s1.heap.objs.size = nn at hc'
        clear hle
        have : ∀ n : Nat, ¬ (n + 5 = n + 4 ∨ n + 5 = n + 2 ∨ n + 5 = n + 3 ∨ n + 5 = n ∨ n + 5 = n + 1) := fun n => by omega
        exact this nn hc'
      exact ⟨h'.objs.size, _, _, _, H1, rfl, I2, turn_ez (PySem.W.ktu_apart s1.heap.objs.size a b p1.lt p2.lt) ne,
        ⟨⟨.none, he⟩, ⟨⟨_, _, hk2 _ _ hz, .inl rfl⟩, hk2 _ _ hTI, _, _, hk2 _ _ hTO⟩, h1.at fun o q => hk2 _ o q, h2.at fun o q => hk2 _ o q⟩, fun b hb => I1.fpOk (hle b hb) (I1.hok.fresh (hle b hb)), q⟩

/-! ### in the data layer -/
section
variable {K : PySem.W.Frag} {np : Fp} {L : Lv} {H0 : Hp} {C0 : Col}
theorem enumzip_get {xs ys : List D} {i : Nat} {d : D} (h : (enumD (zipD xs ys))[i]? = some d) : ∃ x y, xs[i]? = some x ∧ ys[i]? = some y ∧ d = .tuple [.int (i : Nat), .tuple [x, y]] := by
  obtain ⟨x, h1, rfl⟩ := enumD_get h
  obtain ⟨x, y, h2, h3, rfl⟩ := zipD_get h1
  exact ⟨x, y, h2, h3, rfl⟩
theorem enumzip_len (xs ys : List D) : (enumD (zipD xs ys)).length = min xs.length ys.length := by simp [enumD, zipD_len]
theorem it_ez {a b : Addr} {us ws : List V} {xs ys : List D} (ha : H0 a = some (.lst us)) (ca : Cof C0 L a) (ra : RpA K H0 (Cof C0 L) us xs) (hb : H0 b = some (.lst ws)) (cb : Cof C0 L b) (rb : RpA K H0 (Cof C0 L) ws ys) : ItOk true K np L (enumD (zipD xs ys)) (ItEz K a b) H0 C0 where
  go := fun i H C ρ A hi => (it_zipL (np := np) ha ca ra hb cb rb).go i H C ρ A (by rw [enumzip_len] at hi; rw [zipD_len]; exact hi)
  stop := fun H C ρ A => by
    have q := (it_zipL (np := np) ha ca ra hb cb rb).stop H C ρ A
    rw [zipD_len] at q; rw [enumzip_len]; exact q
  yld := fun i H C ρ v H' d A e ⟨T, U, x, y, ob, h1, hT, hU, hob, h2, hx, hy⟩ => by
    obtain ⟨dx, dy, e1, e2, rfl⟩ := enumzip_get e
    subst h1 h2
    obtain ⟨vx, g1, r1⟩ := ra.get e1
    obtain ⟨vy, g2, r2⟩ := rb.get e2
    have z1 := hx us (.of (A.moves.1 a us ca ha).1)
    have z2 := hy ws (.of (A.moves.1 b ws cb hb).1)
    rw [z1] at g1; cases g1
    rw [z2] at g2; cases g2
    have S1 := pstp_id (C := C) (o := .frz ob (.tup [x, y])) hT
    have t1 : Rp K (upd H T (.frz ob (.tup [x, y]))) (Cof C L) (.ref T) (.tuple [dx, dy]) := .tup (newX hob) (.cons ((A.rp r1).same S1.same) (.cons ((A.rp r2).same S1.same) .nil))
    obtain ⟨S2, n2, t2⟩ := pair_new (C := C) hU (.int (i : Nat)) t1
    exact ⟨S1.trans S2, fun c hc _ => ne_some hc, t2⟩
end
section
variable {X : Cx} {np : Fp} {EW : XW} {e e2 : Expr} {p p2 pos pos2 tpos : Pos} {fs : AS} {elts : List Expr} {kk : Nat}
def ezG : List D → Option (List D)
  | [.list xs, .list ys] => some (enumD (zipD xs ys))
  | _ => none
theorem ezG_some : ∀ {ds r : List D}, ezG ds = some r → ∃ xs ys, ds = [.list xs, .list ys] ∧ r = enumD (zipD xs ys) := by
  intro ds r h
  unfold ezG at h
  split at h
  · cases h; exact ⟨_, _, rfl, rfl⟩
  · cases h
theorem di_ez (hg : Gl X "enumerate") (hm : X.mg "enumerate" = none) (hgz : Gl X "zip") (hmz : X.mg "zip" = none) (ha : DA X np EW [e, e2] fs)
    (hs : starEach [.Call (.Name "zip" p2) [e, e2] [] pos2] X.env = [(false, eval (.Call (.Name "zip" p2) [e, e2] [] pos2) X.env)] := by rfl)
    (hsz : starEach [e, e2] X.env = (false, eval e X.env) :: starEach [e2] X.env := by rfl) (hpl : (backTo pos2 (starEach [e2] X.env)).any (·.1) = false := by rfl) :
    DI X np EW (.Tuple elts kk tpos) (.Call (.Name "enumerate" p) [.Call (.Name "zip" p2) [e, e2] [] pos2] [] pos) (agA ezG fs) :=
  PI.weak (pi_ez hg hm hgz hmz ha hs hsz hpl) fun σ H R ⟨L, C, ρ, Rl, h⟩ => tA_of Rl h fun q vs H1 C1 A1 R1 r1 h1 => by
    obtain ⟨d, e, h2⟩ := wp_ofO (wp_bind.mp h1)
    obtain ⟨ds, ρ1⟩ := q
    obtain ⟨xs, ys, rfl, rfl⟩ := ezG_some e
    obtain ⟨v, w, rfl, rv, rw⟩ := r1.two
    obtain ⟨a, us, rfl, ha, ca, ra⟩ := rv.lst_inv
    obtain ⟨b, ws, rfl, hb, cb, rb⟩ := rw.lst_inv
    exact ⟨a, b, us, ws, rfl, .of ha, .of hb, h2 _ H1 C1 A1 R1 (it_ez ha ca ra hb cb rb)⟩
end
end
end Dm

/-! enumerate(a) of a tuple -/
namespace Zh
open PySem
theorem new_tup (l : Addr) (items : Array Value) (n : Nat) :
    Meets (Builtin.«enumerate.__new__» ⟨[.type "enumerate", .ref l], []⟩) (fun _ R s => (∃ o, s.heap.get? l = some o ∧ o.cls = .type "tuple" ∧ o.data = .seq items n) ∧
      R (.ok (.ret (.ref (s.heap.push { cls := .type "tuple_iterator", data := .fields #[.ref l, .int 0 0] }).objs.size)))
        { s with heap := (s.heap.push { cls := .type "tuple_iterator", data := .fields #[.ref l, .int 0 0] }).push { cls := .type "enumerate", data := .fields #[.none, .bool false, .ref s.heap.objs.size, rawInt 0, .none, .none] } }) :=
  .of_wp fun prog w A R s h => by
    obtain ⟨hp, g, d, tk, os⟩ := s; obtain ⟨⟨⟨c, dct, dt, sl⟩, hl, hc, hd⟩, h⟩ := h
    replace hc : c = .type "tuple" := hc
    replace hd : dt = .seq items n := hd
    subst hc hd
    have hsub := sub_enumerate
    have hL : Heap.IsTuple (Shared.heap ⟨hp, g, d, tk, os⟩) l items := ⟨_, hl, rfl, n, rfl⟩
    wp_walk using wpAny_loadPart' hl
    refine wpAny_stack_any fun st => wpAny_pure ?_
    split
    · rename_i c _ _ _ _ _
      cases (c == Value.type "enumerate")
      · wp_walk using wpAny_loadPart' hl, wpAny_pyIter_tuple hL
        exact ⟨_, rfl, h⟩
      · wp_walk using wpAny_loadPart' hl, wpAny_pyIter_tuple hL
        exact ⟨_, rfl, h⟩
    · wp_walk using wpAny_loadPart' hl, wpAny_pyIter_tuple hL
      exact ⟨_, rfl, h⟩
theorem call_enum_tup {prog : Program} {w : World} {A : Around} {E : Value → Shared → Prop} {s : Shared} {l : Addr} {items : Array Value} {Q : Value → Shared → Prop} (hl : s.heap.IsTuple l items)
    (h : ∀ h', IsEnum h' (s.heap.objs.size + 1) s.heap.objs.size 0 .none → h'.IsTupleIter s.heap.objs.size l 0 → (∀ b o, s.heap.get? b = some o → h'.get? b = some o) → Q (.ref (s.heap.objs.size + 1)) { s with heap := h' }) :
    wpAny (model prog w) A (call (.type "enumerate") [.ref l]) Q E s := by
  obtain ⟨o, ho, hc, n, hd⟩ := hl
  refine callType_new F.called_enumerate (by decide) (F.typeCall_enumerate_1 _) (F.newCall_enumerate_1 _) (fun obj => F.args_object_init_2 obj _) F.entry_enumerate_new (new_tup l items n) ⟨⟨o, ho, hc, hd⟩, ?_⟩
  have hz : (s.heap.push { cls := .type "tuple_iterator", data := .fields #[.ref l, .int 0 0] }).objs.size = s.heap.objs.size + 1 := Heap.size_push ..
  have he : IsEnum ((s.heap.push { cls := .type "tuple_iterator", data := .fields #[.ref l, .int 0 0] }).push { cls := .type "enumerate", data := .fields #[.none, .bool false, .ref s.heap.objs.size, rawInt 0, .none, .none] }) (s.heap.objs.size + 1) s.heap.objs.size 0 .none := by
    rw [← hz]; exact Heap.get?_push_size _ rfl
  show _ ∧ _
  rw [hz]
  exact ⟨⟨_, he, rfl⟩, h _ he ⟨_, Heap.get?_push_of_some _ (Heap.get?_push_size _ rfl), rfl, rfl⟩ fun b o x => Heap.get?_push_of_some _ (Heap.get?_push_of_some _ x)⟩
end Zh
namespace Dm
noncomputable section
open PySem PySem.Spec PyProof.Rows L2 Zh

/-- the tuple at a, its items numbered -/
def IteT (K : PySem.W.Frag) (a : Addr) : It :=
  ⟨fun i H => ∃ (xs : List V) (x : V), SqT K H a xs ∧ xs[i]? = some x,
    fun i H v H' => ∃ T x, v = .ref T ∧ H T = none ∧ H' = upd H T (.tup [.int (i : Nat), x]) ∧ ∀ xs, SqT K H a xs → xs[i]? = some x,
    fun i H => ∃ xs : List V, SqT K H a xs ∧ xs.length ≤ i⟩
theorem turn_enumT {P : Program} {w : World} {K : PySem.W.Frag} {elts : List Expr} {kk : Nat} {tpos : Pos} (a e it : Addr) :
    Turn P w K (.Tuple elts kk tpos) (IteT K a) [e, it] e (fun i h => (∃ old, IsEnum h e it ((i : Nat) : Int) old) ∧ h.IsTupleIter it a i ∧ e ≠ it ∧ it ≠ a) where
  mem := by simp
  obj := fun i h ⟨⟨old, q0⟩, ⟨o, q1, _, d1⟩, _⟩ c hc => by
    have hc' : c = e ∨ c = it := by simpa using hc
    rcases hc' with q | q <;> rw [q]
    · exact ⟨_, q0, fun v q => nomatch q⟩
    · exact ⟨o, q1, fun v q => by rw [d1] at q; cases q⟩
  keep := fun i h h' ⟨⟨old, q0⟩, q1, ne⟩ k => ⟨⟨old, k e (by simp) _ q0⟩, q1.at fun o q => k it (by simp) o q, ne⟩
  item := by
    intro X hP hw hK hc i pins s σ H E I hf st hg
    subst hP hw hK
    obtain ⟨⟨old, q0⟩, q1, ne, na⟩ := st
    obtain ⟨xs, x, hq, hx⟩ := hg
    obtain ⟨its, rv, p, _⟩ := I.tuple hq
    obtain ⟨u, hu, ru⟩ := rv.get hx
    have el : e < s.heap.objs.size := Heap.lt_size q0
    have il : it < s.heap.objs.size := by obtain ⟨_, q, _⟩ := q1; exact Heap.lt_size q
    refine enum_next (P := fun v h1 => v = u ∧ h1.IsTupleIter it a (i + 1) ∧ h1.objs.size = s.heap.objs.size ∧ Kp [it] s.heap h1) q0 ?_ ?_ ?_
    · intro A E Q hQ
      exact (inn_tup it a its.toArray).next (k := i) (s := s) ⟨q1, p⟩ (by simpa using hu) na fun h' r sb => hQ _ h' ⟨rfl, r.1, sb.1, fun c o hc q => sb.extBut c o (by simpa using hc) q⟩
    · intro v h1 ⟨_, _, _, k⟩
      exact k _ _ (by simpa using ne) q0
    · intro v h1 h' ⟨ev, r1, r2, r3⟩ ho hT hz hk
      subst ev
      refine ⟨_, rfl, wpAny_letOwnedTupleGo_enum (s := { s with heap := h', toks := s.toks + 1 }) ho fun h'' he'' sb => ?_⟩
      rw [r2] at hT hz ⊢
      have hT2 : h''.get? s.heap.objs.size = some { cls := .type "tuple", data := .seq #[.int (i : Nat) s.toks, v] } := (sb.2 _ (Nat.ne_of_gt el)).trans hT
      have new : ObjOk X.prog X.w (upd H s.heap.objs.size (.tup [.int (i : Nat), x])) h'' s.heap.objs.size (.tup [.int (i : Nat), x]) :=
        ⟨by show 2 ≤ sizeLine; decide, [.int (i : Nat) s.toks, v], .cons ⟨_, rfl⟩ (.cons ru .nil), ⟨_, hT2, rfl, _, rfl⟩⟩
      have I1 : Inv X pins σ (upd H s.heap.objs.size (.tup [.int (i : Nat), x])) { s with heap := h'', toks := s.toks + 1 } :=
        I.turnedNew (t' := s.toks + 1) (ch := [e, it]) (fun c o hb q => (sb.2 c (fun z => hb (by simp [z]))).trans (hk c o (fun z => hb (by simp at z; simp [z])) (r3 c o (fun z => hb (by simp at z; simp [z])) q))) hf (Nat.le_refl _) new
      refine ⟨.ref s.heap.objs.size, _, I1, rfl, ⟨_, x, rfl, I.hok.fresh (Nat.le_refl _), rfl, fun ys hy => by rw [I.tuple_inj hy hq]; exact hx⟩, ⟨⟨v, ?_⟩, r1.at fun o q => (sb.2 it (Ne.symm ne)).trans (hk it o (by simpa using Ne.symm ne) q), ne, na⟩, fun b hb => ?_⟩
      · have e1 : ((i + 1 : Nat) : Int) = (i : Int) + 1 := by omega
        rw [e1]; exact he''
      · have hb' : b < s.heap.objs.size := by
          have hc' : b = e ∨ b = it := by simpa using hb
          rcases hc' with z | z <;> rw [z]
          · exact el
          · exact il
        rw [upd_ne (Nat.ne_of_lt hb')]
        exact (hf b hb).1
  done := by
    intro X hP hw hK hc i pins s σ H E I hf st hg
    subst hP hw hK
    obtain ⟨⟨old, q0⟩, q1, ne, na⟩ := st
    obtain ⟨xs, hq, hx⟩ := hg
    obtain ⟨its, rv, p, _⟩ := I.tuple hq
    have hl := rv.length
    exact enum_stop (fp := [it]) q0 (I.ok.hd hc) (fun hh hE => (inn_tup it a its.toArray).stop (k := i) (s := s) hh ⟨q1, p⟩ (by simp; omega) fun h' x k => hE h' x fun c o hc q => k c o (by simpa using hc) q)
      fun h' k => ⟨rfl, I.turnedL (t' := s.toks) (ch := [it]) (fun c o hb q => k c o hb q) fun c hc => hf c (List.mem_cons_of_mem _ hc)⟩
  self := fun A i s Q E ⟨⟨_, q0⟩, _⟩ h => wpAny_pyIter_enum q0 h
def iEnumA (K : PySem.W.Frag) (ta : TA) : TI := fun σ H R => ta σ H fun vs H1 => ∃ a xs, vs = [.ref a] ∧ ((SqL K H1 a xs ∧ R (Ite K a) H1) ∨ (SqT K H1 a xs ∧ R (IteT K a) H1))
theorem pi_enumA {X : Cx} {e : Expr} {ta : TA} {p pos tpos : Pos} {elts : List Expr} {kk : Nat} (hg : Gl X "enumerate") (hm : X.mg "enumerate" = none) (ha : PA X [e] ta) (hs : starEach [e] X.env = [(false, eval e X.env)] := by rfl) :
    PI X (.Tuple elts kk tpos) (.Call (.Name "enumerate" p) [e] [] pos) (iEnumA X.K ta) := by
  refine ⟨fun pins s σ H R I h => ?_⟩
  refine Call_ (ld_blt I hg hm boot_enumerate (PyProof.Rows.callWith_type1 (thn (ha.run pos pins s σ H _ I h) fun us s1 ⟨vs, H1, I1, r1, q1⟩ => ?_) hs rfl))
  obtain ⟨a, xs, ex, q1⟩ := q1
  subst ex
  cases r1 with
  | cons r rr =>
    cases rr
    cases r
    have hle : ∀ b, b ∈ [s1.heap.objs.size + 1, s1.heap.objs.size] → s1.heap.objs.size ≤ b := fun b hb => by
      have hc' : b = s1.heap.objs.size + 1 ∨ b = s1.heap.objs.size := by simpa using hb
      rcases hc' with z | z <;> rw [z]
      · exact Nat.le_add_right _ _
      · exact Nat.le_refl _
    rcases q1 with ⟨hq, q⟩ | ⟨hq, q⟩
    · obtain ⟨its, rv, p', hz⟩ := I1.list hq
      refine call_enumerate_list p'.isList fun h' he hit hsz hk => wpAny_pyIter_enum he ?_
      exact ⟨s1.heap.objs.size + 1, [s1.heap.objs.size + 1, s1.heap.objs.size], _, _, H1, rfl, I1.kept (t' := s1.toks) hk, turn_enum a (s1.heap.objs.size + 1) s1.heap.objs.size, ⟨⟨.none, he⟩, hit, Nat.succ_ne_self _⟩, fun b hb => I1.fpOk (hle b hb) (I1.hok.fresh (hle b hb)), q⟩
    · obtain ⟨its, rv, p', hz⟩ := I1.tuple hq
      have al : a < s1.heap.objs.size := by obtain ⟨_, w, _⟩ := id p'; exact Heap.lt_size w
      refine call_enum_tup (show s1.heap.IsTuple a its.toArray from p') fun h' he hit hk => wpAny_pyIter_enum he ?_
      exact ⟨s1.heap.objs.size + 1, [s1.heap.objs.size + 1, s1.heap.objs.size], _, _, H1, rfl, I1.kept (t' := s1.toks) hk, turn_enumT a (s1.heap.objs.size + 1) s1.heap.objs.size, ⟨⟨.none, he⟩, hit, Nat.succ_ne_self _, Nat.ne_of_gt al⟩, fun b hb => I1.fpOk (hle b hb) (I1.hok.fresh (hle b hb)), q⟩
section
variable {K : PySem.W.Frag} {np : Fp} {L : Lv} {H0 : Hp} {C0 : Col}
theorem it_enumT {a : Addr} {us : List V} {xs : List D} (ha : SqT K H0 a us) (ra : RpA K H0 (Cof C0 L) us xs) : ItOk true K np L (enumD xs) (IteT K a) H0 C0 where
  go := fun i H C ρ A hi => by
    have h1 : i < us.length := by rw [ra.len]; simpa [enumD] using hi
    exact ⟨us, us[i], SqT.keep ha A.moves.2, by simp [h1]⟩
  stop := fun H C ρ A => ⟨us, SqT.keep ha A.moves.2, by rw [ra.len]; simp [enumD]⟩
  yld := fun i H C ρ v H' d A e ⟨T, x, h1, hT, h2, hx⟩ => by
    obtain ⟨dx, e1, rfl⟩ := enumD_get e
    subst h1 h2
    obtain ⟨vx, g1, r1⟩ := ra.get e1
    have z1 := hx us (SqT.keep ha A.moves.2)
    rw [z1] at g1; cases g1
    exact pair_new hT (.int _) (A.rp r1)
end
section
variable {X : Cx} {np : Fp} {EW : XW} {e : Expr} {p pos tpos : Pos} {fs : AS} {elts : List Expr} {kk : Nat}
def enumA : List D → Option (List D)
  | [.list xs] => some (enumD xs)
  | [.tuple xs] => some (enumD xs)
  | _ => none
theorem enumA_some : ∀ {ds r : List D}, enumA ds = some r → ∃ xs, (ds = [.list xs] ∨ ds = [.tuple xs]) ∧ r = enumD xs := by
  intro ds r h
  unfold enumA at h
  split at h
  · cases h; exact ⟨_, .inl rfl, rfl⟩
  · cases h; exact ⟨_, .inr rfl, rfl⟩
  · cases h
theorem di_enumA (hg : Gl X "enumerate") (hm : X.mg "enumerate" = none) (ha : DA X np EW [e] fs) (hs : starEach [e] X.env = [(false, eval e X.env)] := by rfl) : DI X np EW (.Tuple elts kk tpos) (.Call (.Name "enumerate" p) [e] [] pos) (agA enumA fs) :=
  PI.weak (pi_enumA hg hm ha hs) fun σ H R ⟨L, C, ρ, Rl, h⟩ => tA_of Rl h fun q vs H1 C1 A1 R1 r1 h1 => by
    obtain ⟨d, e, h2⟩ := wp_ofO (wp_bind.mp h1)
    obtain ⟨ds, ρ1⟩ := q
    obtain ⟨xs, hds, rfl⟩ := enumA_some e
    rcases hds with rfl | rfl
    · obtain ⟨v, rfl, rv⟩ := r1.one
      obtain ⟨a, us, rfl, ha, ca, ra⟩ := rv.lst_inv
      exact ⟨a, us, rfl, .inl ⟨.of ha, h2 _ H1 C1 A1 R1 (it_enum ha ca ra)⟩⟩
    · obtain ⟨v, rfl, rv⟩ := r1.one
      obtain ⟨a, us, rfl, ha, ra⟩ := rv.tup_inv
      exact ⟨a, us, rfl, .inr ⟨ha, h2 _ H1 C1 A1 R1 (it_enumT ha ra)⟩⟩
@[simp] theorem enumA_lst {xs : List D} : enumA [.list xs] = some (enumD xs) := Eq.trans rfl rfl
@[simp] theorem enumA_tup {xs : List D} : enumA [.tuple xs] = some (enumD xs) := Eq.trans rfl rfl
end
end
end Dm

namespace Dm
noncomputable section
open PySem PySem.Spec PyProof.Rows L2
section
variable {X : Cx} {np : Fp} {EW : XW} {e : Expr} {fe : ES} {p pos : Pos}
/-- list(x) of what others hold: flat items alone -/
def lsFA (fe : ES) : AS := fun L ρ => (fe .an ρ).bind fun p => (ofO (itD p.1)).bind fun ds => (flL (.list ds)).bind fun l => .ok (l, p.2)
theorem dn_listF {x : Str} (hg : Gl X x) (hm : X.mg x = none) (hv : bootBuiltins x = some (.type "list")) (ha : DE X np EW e fe) (hn : x ≠ "__name__" := by decide) (hdb : (x == ("__debug__" : Str)) = false := by decide)
    (he : starEach [e] X.env = (false, eval e X.env) :: starEach [] X.env := by rfl) : DN X np EW (.Call (.Name x p) [e] [] pos) (lsFA fe) :=
  PE.weak (pe_callTy call_list_of hg hm hv (pa_cons ha pa_nil he) hn hdb he rfl) fun σ H Q ⟨L, C, ρ, R, h⟩ => tE_of (L := .an) R h fun q v H1 C1 A1 R1 r1 h1 => by
    obtain ⟨d, e, h2⟩ := wp_ofO (wp_bind.mp h1)
    obtain ⟨l, el, hl, h3⟩ := flL_ok h2
    cases el
    have A := A1.lev (K := X.K) (L := L) an_pu
    obtain ⟨dq, ρ1⟩ := q
    cases dq <;> simp only [itD, reduceCtorEq] at e
    · cases e
      obtain ⟨a, us, rfl, ha, _, rr⟩ := r1.lst_inv
      exact ⟨_, _, rfl, .inl (.of ha), fun t ht => h3 t us H1 C1 A R1 ht (RpA.free hl rr)⟩
    · cases e
      obtain ⟨a, us, rfl, ha, rr⟩ := r1.tup_inv
      exact ⟨_, _, rfl, .inr ha, fun t ht => h3 t us H1 C1 A R1 ht (RpA.free hl rr)⟩
end
@[simp] theorem ev_lsFA {fe : ES} {L : Lv} {ρ : Slots} : lsFA fe L ρ = (fe .an ρ).bind fun p => (ofO (itD p.1)).bind fun ds => (flL (.list ds)).bind fun l => .ok (l, p.2) := Eq.trans rfl rfl
end
end Dm

namespace Dm
noncomputable section
open PySem PySem.Spec PyProof.Rows L2
/-! ### told[k][i].append(c), told[k].clear() of what is this def's own -/
def okE (n : Nat) (y : D) : Bool := noL y || match y with
  | .list es => noLs es && es.length != n
  | _ => false
def u2A (np j k i : Nat) (fe : ES) : SS := fun ρ => if np ≤ j then unA ρ[j]? fun d => match d with
  | .tuple xs => (match xs[k]? with
    | some (.list ys) => (match ys[i]? with
      | some (.list ds) => (fe .an ρ).to fun p => if noLs ds && noL p.1 && noLs (xs.eraseIdx k) && (ys.eraseIdx i).all (okE ds.length) && decide (ds.length < sizeLine) then .nx (ρ.set j (.un (.tuple (xs.set k (.list (ys.set i (.list (ds ++ [p.1])))))))) else .bad
      | _ => .bad)
    | _ => .bad)
  | _ => .bad
  else .bad
theorem rp_all {K : PySem.W.Frag} {H H' : Hp} {P P' : Addr → Prop} {f : D → Bool} (one : ∀ {v : V} {x : D}, Rp K H P v x → f x = true → Rp K H' P' v x) : ∀ {us : List V} {xs : List D}, RpA K H P us xs → xs.all f = true → RpA K H' P' us xs
  | _, _, .nil, _ => .nil
  | _, _, .cons a b, h => by
    rw [List.all_cons, Bool.and_eq_true] at h
    exact .cons (one a h.1) (rp_all one b h.2)
theorem rp_setAt2 {K : PySem.W.Frag} {H H' : Hp} {P P' : Addr → Prop} {n : Nat} (hi : ∀ a o, H a = some o → Imm o → H' a = some o) (hl : ∀ c us, H c = some (.lst us) → us.length ≠ n → H' c = some (.lst us)) (hp : ∀ c, P c → P' c) :
    ∀ {us : List V} {xs : List D} {k : Nat} {v : V} {d' : D}, RpA K H P us xs → us[k]? = some v → (xs.eraseIdx k).all (okE n) = true → Rp K H' P' v d' → RpA K H' P' us (xs.set k d') := by
  have one : ∀ {v : V} {x : D}, Rp K H P v x → okE n x = true → Rp K H' P' v x := fun {v x} r h => by
    unfold okE at h
    rcases Bool.or_eq_true_iff.mp h with h | h
    · exact (r.free (P' := fun _ => False) h).move (fun _ _ p _ => p.elim) hi
    · cases x with
      | list es =>
        simp only [Bool.and_eq_true, bne_iff_ne, ne_eq] at h
        obtain ⟨a, us, rfl, ha, ca, ra⟩ := r.lst_inv
        exact .lst (hl a us ha (by rw [ra.len]; exact h.2)) (hp a ca) (rp_plain ra h.1 hi)
      | _ => cases h
  intro us
  induction us with
  | nil => intro xs k v d' r h; simp at h
  | cons u us ih =>
    intro xs k v d' r h hn r'
    cases r with
    | cons a b =>
      rename_i x xs
      cases k with
      | zero =>
        simp at h; subst h
        refine .cons r' ?_
        have hn' : xs.all (okE n) = true := hn
        exact rp_all one b hn'
      | succ k =>
        have hn' : okE n x = true ∧ (xs.eraseIdx k).all (okE n) = true := by
          have : ((x :: xs.eraseIdx k).all (okE n)) = true := hn
          rwa [List.all_cons, Bool.and_eq_true] at this
        exact .cons (one a hn'.1) (ih b (by simpa using h) hn'.2 r')
section
variable {X : Cx} {np : Fp} {EW : XW} {e : Expr} {fe : ES} {pos : Pos}
theorem lst_tup {pins : List (Addr × Obj)} {σ : L2.St} {H : Hp} {s : Shared} {a : Addr} {us zs : List V} (I : Inv X pins σ H s) (h1 : H a = some (.lst us)) (h2 : SqT X.K H a zs) : False := by
  obtain ⟨its, _, p, _⟩ := I.list (SqL.of h1)
  obtain ⟨its2, _, p2, _⟩ := I.tuple h2
  obtain ⟨o, e1, c1, _⟩ := p.isList
  obtain ⟨o2, e2, c2, _⟩ := p2
  rw [e1] at e2
  cases e2
  rw [c1] at c2
  have q := Value.type.inj c2
  revert q
  decide
theorem ds_uapp2 (j k i : Nat) {o : Expr} {apos cpos : Pos} (h : DE X np EW e fe)
    (hpe : ∀ {t : TE}, PE X e t → PE X (.Call (.Attribute o "append" apos) [e] [] cpos) (tBM X.K "list" rAppend (tOp (rIx X.K) (tOp (rIx X.K) (tVar j) (tC (.int (k : Nat)))) (tC (.int (i : Nat)))) (tCons t tNil))) (hs : swapsWith (.Call (.Attribute o "append" apos) [e] [] cpos) none pos.line X.env = pure false := by rfl) :
    DS X np EW (.Expr (.Call (.Attribute o "append" apos) [e] [] cpos) pos) (u2A np.n j k i fe) := by
  refine ⟨fun pins s σ H Dn I hw => (ps_expr (hpe h) hs).run pins s σ H Dn I ?_⟩
  obtain ⟨C, ρ, R, h⟩ := hw
  unfold u2A at h
  by_cases hn : np.n ≤ j
  · rw [if_pos hn] at h
    obtain ⟨d, e, h⟩ := unA_of h
    have r0 := R.get j _ e
    generalize eo : σ[j]? = ov at r0
    cases r0 with
    | un r0 =>
      cases d with
      | tuple xs =>
        obtain ⟨t, ts, rfl, ht, rt⟩ := r0.tup_invX
        cases ex : xs[k]? with
        | none => simp only [ex] at h; exact h.elim
        | some dk =>
          simp only [ex] at h
          cases dk with
          | list ys =>
            obtain ⟨w, hw, rw⟩ := rt.get ex
            obtain ⟨b, vs, rfl, hb, cb, rv⟩ := rw.lst_inv
            cases ey : ys[i]? with
            | none => simp only [ey] at h; exact h.elim
            | some di =>
              simp only [ey] at h
              cases di with
              | list ds =>
                obtain ⟨w2, hw2, rw2⟩ := rv.get ey
                obtain ⟨a, us, rfl, ha, hc, rr⟩ := rw2.lst_inv
                refine ⟨_, eo, .inr (.inl ⟨t, ts, _, _, rfl, rfl, ht.sq, atI_natD hw, ?_⟩)⟩
                refine .inl ⟨b, vs, _, _, rfl, rfl, .of hb, atI_natD hw2, ?_⟩
                refine ⟨.inl ⟨rfl, _, .inl (.inl ha)⟩, toE_of (L := .an) R h fun p v H' C' A R' rp q => ?_⟩
                obtain ⟨hρ, P⟩ := A.pu rfl
                rw [hρ] at R'
                by_cases hp : (noLs ds && noL p.1 && noLs (xs.eraseIdx k) && (ys.eraseIdx i).all (okE ds.length) && decide (ds.length < sizeLine)) = true
                · rw [if_pos hp] at q
                  simp only [Bool.and_eq_true, decide_eq_true_eq] at hp
                  have hab : b ≠ a := fun z => by
                    subst z
                    rw [ha] at hb
                    cases hb
                    obtain ⟨dd, hdd, rdd⟩ := rr.getV hw2
                    have nd : noL dd = true := noLs_iff.mp hp.1.1.1.1 dd (List.mem_of_getElem? hdd)
                    cases rdd with
                    | lst _ _ _ => simp [noL] at nd
                    | tup h2 _ => exact lst_tup I ha h2.sq
                  have ha' := P.same _ _ ha
                  have hb' := P.same _ _ hb
                  have hc' : C' a = j + 3 := by rw [P.col a (by rw [ha]; simp)]; exact hc
                  have cb' : C' b = j + 3 := by rw [P.col b (by rw [hb]; simp)]; exact cb
                  refine ⟨a, us, v, rfl, rfl, ha', by rw [rr.len]; exact hp.2, ?_⟩
                  have im := upd_imm (ws := us ++ [v]) ha'
                  have hl : ∀ c zs, H' c = some (.lst zs) → zs.length ≠ ds.length → upd H' a (.lst (us ++ [v])) c = some (.lst zs) := fun c zs hz hne => by
                    rw [upd_ne (fun q => by subst q; rw [ha'] at hz; cases hz; exact hne rr.len)]; exact hz
                  have rv' : RpA X.K H' (fun b => C' b = j + 3) vs ys := P.rpA (P := fun c => c = j + 3) rv
                  have new : Rp X.K (upd H' a (.lst (us ++ [v]))) (fun b => C' b = j + 3) (.ref a) (.list (ds ++ [p.1])) :=
                    .lst upd_same hc' (rp_plain (P := fun _ => True) (((rr.imp fun _ _ => trivial).same P.same).app (.cons (rp.imp fun _ _ => trivial) .nil)) (by simp [noLs_app, noLs, hp.1.1.1.1, hp.1.1.1.2]) im)
                  have newb : Rp X.K (upd H' a (.lst (us ++ [v]))) (fun b => C' b = j + 3) (.ref b) (.list (ys.set i (.list (ds ++ [p.1])))) :=
                    .lst (by rw [upd_ne hab]; exact hb') cb' (rp_setAt2 im hl (fun _ z => z) rv' hw2 hp.1.2 new)
                  obtain ⟨S, R2⟩ := un_upd (ws := us ++ [v]) R' ⟨_, e⟩ eo ha' hc' (.tup (SqX.keep (SqX.keep ht fun b o h _ => P.same b o h) im) (rp_setAt (P' := fun b => C' b = j + 3) im (rt.same P.same) hw hp.1.1.2 newb)) hn
                  exact q _ _ _ S R2
                · rw [if_neg hp] at q; exact q.elim
              | _ => exact h.elim
          | _ => exact h.elim
      | _ => exact h.elim
  · rw [if_neg hn] at h; exact h.elim
def u1C (np j k : Nat) : SS := fun ρ => if np ≤ j then unA ρ[j]? fun d => match d with
  | .tuple xs => (match xs[k]? with
    | some (.list _) => if noLs (xs.eraseIdx k) then .nx (ρ.set j (.un (.tuple (xs.set k (.list []))))) else .bad
    | _ => .bad)
  | _ => .bad
  else .bad
theorem ds_uclr1 (j k : Nat) {o : Expr} {m : Str} {apos cpos : Pos} (M : Ml0 X "list.clear" rClear (fun _ => []))
    (hpe : PE X (.Call (.Attribute o m apos) [] [] cpos) (tBM0 X.K "list" rClear (tOp (rIx X.K) (tVar j) (tC (.int (k : Nat)))))) (hs : swapsWith (.Call (.Attribute o m apos) [] [] cpos) none pos.line X.env = pure false := by rfl) :
    DS X np EW (.Expr (.Call (.Attribute o m apos) [] [] cpos) pos) (u1C np.n j k) :=
  PS.weak (ps_expr hpe hs) fun Dn σ H ⟨C, ρ, R, h⟩ => by
    unfold u1C at h
    by_cases hn : np.n ≤ j
    · rw [if_pos hn] at h
      obtain ⟨d, e, h⟩ := unA_of h
      have r0 := R.get j _ e
      generalize eo : σ[j]? = ov at r0
      cases r0 with
      | un r0 =>
        cases d with
        | tuple xs =>
          obtain ⟨t, ts, rfl, ht, rt⟩ := r0.tup_invX
          cases ex : xs[k]? with
          | none => simp only [ex] at h; exact h.elim
          | some dk =>
            simp only [ex] at h
            cases dk with
            | list ds =>
              obtain ⟨w, hw, rw⟩ := rt.get ex
              obtain ⟨a, us, rfl, ha, hc, rr⟩ := rw.lst_inv
              by_cases hp : noLs (xs.eraseIdx k) = true
              · simp only [hp, if_true] at h
                refine ⟨_, eo, .inr (.inl ⟨t, ts, _, _, rfl, rfl, ht.sq, atI_natD hw, ?_⟩)⟩
                refine ⟨.inl ⟨rfl, _, .inl (.inl ha)⟩, M.ok a us H _ ha ?_⟩
                have im := upd_imm (ws := []) ha
                obtain ⟨S, R2⟩ := un_upd (ws := []) R ⟨_, e⟩ eo ha hc (.tup (SqX.keep ht im) (rp_setAt (P' := fun b => C b = j + 3) im rt hw hp (.lst upd_same hc .nil))) hn
                exact h _ _ _ S R2
              · simp only [hp] at h; exact h.elim
            | _ => exact h.elim
        | _ => exact h.elim
    · rw [if_neg hn] at h; exact h.elim
end
end
end Dm

namespace Dm
noncomputable section
open PySem PySem.Spec PyProof.Rows L2
/-! ### objects of the program's classes -/
structure KlF (K : PySem.W.Frag) (kl : Kl) (Cc : Addr) : Prop where
  cl : Cls K Cc
  ns : PySem.W.nsIn K mainGlobals kl.nm = some (some (.ref Cc))
  na : ∀ f ∈ kl.ks, NoAttr K Cc f
  nd : kl.ks.Nodup
  sm : kl.ks.length < 1000
theorem lookup_at {us : List (Str × V)} {f : Str} {v : V} : ∀ {k : Nat}, (us.map (·.1)).Nodup → us[k]? = some (f, v) → us.lookup f = some v := by
  induction us with
  | nil => intro k _ h; simp at h
  | cons a r ih =>
    intro k nd h
    obtain ⟨g, w⟩ := a
    rw [List.map_cons, List.nodup_cons] at nd
    cases k with
    | zero => simp at h; obtain ⟨rfl, rfl⟩ := h; simp [List.lookup]
    | succ k =>
      have h' : r[k]? = some (f, v) := by simpa using h
      have hm : f ∈ r.map (·.1) := List.mem_map.mpr ⟨_, List.mem_of_getElem? h', rfl⟩
      have ne : f ≠ g := fun z => nd.1 (z ▸ hm)
      have hb : (f == g) = false := by simpa using ne
      rw [List.lookup, hb]
      exact ih nd.2 h'
theorem putF_at {us : List (Str × V)} {f : Str} {v w : V} : ∀ {k : Nat}, (us.map (·.1)).Nodup → us[k]? = some (f, w) → putF f v us = us.set k (f, v) := by
  induction us with
  | nil => intro k _ h; simp at h
  | cons a r ih =>
    intro k nd h
    obtain ⟨g, x⟩ := a
    rw [List.map_cons, List.nodup_cons] at nd
    cases k with
    | zero => simp at h; obtain ⟨rfl, rfl⟩ := h; simp [putF]
    | succ k =>
      have h' : r[k]? = some (f, w) := by simpa using h
      have hm : f ∈ r.map (·.1) := List.mem_map.mpr ⟨_, List.mem_of_getElem? h', rfl⟩
      have ne : ¬ g = f := fun z => nd.1 (z ▸ hm)
      rw [putF, if_neg ne, ih nd.2 h', List.set_cons_succ]
theorem putF_new {us : List (Str × V)} {f : Str} {v : V} (h : f ∉ us.map (·.1)) : putF f v us = us ++ [(f, v)] := by
  induction us with
  | nil => rfl
  | cons a r ih =>
    obtain ⟨g, x⟩ := a
    rw [List.map_cons, List.mem_cons, not_or] at h
    rw [putF, if_neg (fun z => h.1 z.symm), ih h.2, List.cons_append]
def putX (k : Nat) (x : Fd) (xs : List Fd) : List Fd := if k < xs.length then xs.set k x else xs ++ [x]
section
variable {K : PySem.W.Frag} {H : Hp} {C : Col} {c : Nat} {ks : List Str} {us : List (Str × V)} {xs : List Fd}
theorem ObR.klen (r : ObR K H C c ks us xs) : us.length = xs.length := by
  have h := congrArg List.length r.keys
  rw [List.length_map, List.length_take] at h
  have := r.le
  omega
theorem ObR.knd (r : ObR K H C c ks us xs) (nd : ks.Nodup) : (us.map (·.1)).Nodup := by
  rw [r.keys]; exact nd.sublist (List.take_sublist _ _)
theorem ObR.key (r : ObR K H C c ks us xs) {k : Nat} {f : Str} {v : V} (h : us[k]? = some (f, v)) : ks[k]? = some f := by
  have h1 : (us.map (·.1))[k]? = some f := by rw [List.getElem?_map, h]; rfl
  rw [r.keys, List.getElem?_take] at h1
  split at h1
  · exact h1
  · cases h1
theorem ObR.at' (r : ObR K H C c ks us xs) (nd : ks.Nodup) {k : Nat} {f : Str} {x : Fd} (hk : ks[k]? = some f) (hx : xs[k]? = some x) : ∃ v, us[k]? = some (f, v) ∧ us.lookup f = some v ∧ FdR K H C c v x := by
  obtain ⟨g, v, hu, rv⟩ := r.get k x hx
  have := r.key hu
  rw [hk] at this; cases this
  exact ⟨v, hu, lookup_at (r.knd nd) hu, rv⟩
/-- an attribute is stored, anew or for the first time -/
theorem ObR.put (r : ObR K H C c ks us xs) (nd : ks.Nodup) {k : Nat} {f : Str} {x : Fd} {v : V} (hk : ks[k]? = some f) (hle : k ≤ xs.length) (rv : FdR K H C c v x)
    (hd : ∀ b es l g fs, x = .ow es → v = .ref b → l ≠ k → xs[l]? = some (.ow fs) → us[l]? = some (g, .ref b) → False) : ObR K H C c ks (putF f v us) (putX k x xs) := by
  have hkl : k < ks.length := (List.getElem?_eq_some_iff.mp hk).1
  have ul := r.klen
  by_cases hlt : k < xs.length
  · obtain ⟨y, hy⟩ : ∃ y, xs[k]? = some y := ⟨xs[k], by simp [hlt]⟩
    obtain ⟨w, hu, _, _⟩ := r.at' nd hk hy
    have e1 := putF_at (v := v) (r.knd nd) hu
    have e2 : putX k x xs = xs.set k x := if_pos hlt
    rw [e1, e2]
    have hul : k < us.length := by omega
    refine ⟨by rw [List.length_set]; exact r.le, ?_, fun l z hz => ?_, fun l m ds es b g g' hne h1 h2 h3 h4 => ?_⟩
    · rw [List.length_set, List.map_set, r.keys]
      apply List.ext_getElem?
      intro i
      by_cases hi : i = k
      · subst hi
        rw [List.getElem?_set_self (by rw [List.length_take]; omega), List.getElem?_take, if_pos hlt, hk]
      · rw [List.getElem?_set_ne (Ne.symm hi)]
    · by_cases hl : l = k
      · subst hl
        rw [List.getElem?_set_self hlt] at hz; cases hz
        exact ⟨f, v, List.getElem?_set_self hul, rv⟩
      · rw [List.getElem?_set_ne (Ne.symm hl)] at hz
        obtain ⟨g, w', a, b⟩ := r.get l z hz
        exact ⟨g, w', by rw [List.getElem?_set_ne (Ne.symm hl)]; exact a, b⟩
    · by_cases hl : l = k
      · subst hl
        rw [List.getElem?_set_self hlt] at h1; cases h1
        rw [List.getElem?_set_self hul] at h3
        rw [List.getElem?_set_ne hne] at h2 h4
        cases h3
        exact hd b ds m g' es rfl rfl (Ne.symm hne) h2 h4
      · rw [List.getElem?_set_ne (Ne.symm hl)] at h1 h3
        by_cases hm : m = k
        · subst hm
          rw [List.getElem?_set_self hlt] at h2; cases h2
          rw [List.getElem?_set_self hul] at h4
          cases h4
          exact hd b es l g ds rfl rfl hne h1 h3
        · rw [List.getElem?_set_ne (Ne.symm hm)] at h2 h4
          exact r.dis l m ds es b g g' hne h1 h2 h3 h4
  · have ek : k = xs.length := by omega
    have hnew : f ∉ us.map (·.1) := by
      intro z
      obtain ⟨i, hi⟩ := List.getElem?_of_mem z
      rw [r.keys, List.getElem?_take] at hi
      split at hi
      · rename_i hil
        obtain ⟨h1, h2⟩ := List.getElem?_eq_some_iff.mp hi
        obtain ⟨h3, h4⟩ := List.getElem?_eq_some_iff.mp hk
        have := (List.getElem_inj nd (h₀ := h1) (h₁ := h3)).mp (by rw [h2, h4])
        omega
      · cases hi
    have e1 := putF_new (v := v) hnew
    have e2 : putX k x xs = xs ++ [x] := if_neg hlt
    rw [e1, e2]
    refine ⟨by rw [List.length_append, List.length_singleton]; omega, ?_, fun l z hz => ?_, fun l m ds es b g g' hne h1 h2 h3 h4 => ?_⟩
    · rw [List.map_append, r.keys, List.length_append, List.length_singleton, ← ek]
      rw [List.take_add_one, hk]
      rfl
    · by_cases hl : l < xs.length
      · rw [List.getElem?_append_left hl] at hz
        obtain ⟨g, w', a, b⟩ := r.get l z hz
        exact ⟨g, w', by rw [List.getElem?_append_left (by omega)]; exact a, b⟩
      · have hb := (List.getElem?_eq_some_iff.mp hz).1
        rw [List.length_append, List.length_singleton] at hb
        have : l = xs.length := by omega
        subst this
        rw [List.getElem?_append_right (Nat.le_refl _), Nat.sub_self] at hz
        cases hz
        exact ⟨f, v, by rw [List.getElem?_append_right (by omega), ul, Nat.sub_self]; rfl, rv⟩
    · have bl : ∀ {q : Nat} {z : Fd}, (xs ++ [x])[q]? = some z → q ≤ xs.length := fun {q z} h => by
        have := (List.getElem?_eq_some_iff.mp h).1
        rw [List.length_append, List.length_singleton] at this; omega
      have b1 := bl h1
      have b2 := bl h2
      by_cases hl : l < xs.length
      · rw [List.getElem?_append_left hl] at h1
        rw [List.getElem?_append_left (by omega)] at h3
        by_cases hm : m < xs.length
        · rw [List.getElem?_append_left hm] at h2
          rw [List.getElem?_append_left (by omega)] at h4
          exact r.dis l m ds es b g g' hne h1 h2 h3 h4
        · have : m = xs.length := by omega
          subst this
          rw [List.getElem?_append_right (Nat.le_refl _), Nat.sub_self] at h2
          rw [List.getElem?_append_right (by omega), ul, Nat.sub_self] at h4
          cases h2; cases h4
          exact hd b es l g ds rfl rfl (by omega) h1 h3
      · have : l = xs.length := by omega
        subst this
        rw [List.getElem?_append_right (Nat.le_refl _), Nat.sub_self] at h1
        rw [List.getElem?_append_right (by omega), ul, Nat.sub_self] at h3
        have hm : m < xs.length := by omega
        rw [List.getElem?_append_left hm] at h2
        rw [List.getElem?_append_left (by omega)] at h4
        cases h1; cases h3
        exact hd b ds m g' es rfl rfl (by omega) h2 h4
/-- the list of an attribute is rewritten -/
theorem ObR.upd {k : Nat} {b : Addr} {f : Str} {ds es : List D} {ws : List V} (r : ObR K H C c ks us xs) (hx : xs[k]? = some (.ow ds)) (hu : us[k]? = some (f, .ref b)) (hb : ∃ vs, H b = some (.lst vs)) (hn : noLs es = true) (rr : RpA K H (fun _ => False) ws es) :
    ObR K (upd H b (.lst ws)) C c ks us (xs.set k (.ow es)) := by
  have hlt : k < xs.length := (List.getElem?_eq_some_iff.mp hx).1
  obtain ⟨vs, hb⟩ := hb
  have im : ∀ a o, H a = some o → Imm o → L2.upd H b (.lst ws) a = some o := fun a o h i => by rw [upd_ne (fun z => by subst z; rw [hb] at h; cases h; exact i)]; exact h
  refine ⟨by rw [List.length_set]; exact r.le, by rw [List.length_set]; exact r.keys, fun l z hz => ?_, fun l m ds' es' b' g g' hne h1 h2 h3 h4 => ?_⟩
  · by_cases hl : l = k
    · subst hl
      rw [List.getElem?_set_self hlt] at hz; cases hz
      obtain ⟨g, v, hu', rv⟩ := r.get l _ hx
      rw [hu] at hu'; cases hu'
      cases rv with
      | ow h e n _ => exact ⟨_, _, hu, .ow upd_same e hn (rr.move (fun _ _ p _ => p.elim) im)⟩
    · rw [List.getElem?_set_ne (Ne.symm hl)] at hz
      obtain ⟨g, v, hu', rv⟩ := r.get l z hz
      refine ⟨g, v, hu', ?_⟩
      cases rv with
      | va n rv => exact .va n (rv.move (fun _ _ p _ => p.elim) im)
      | @ow b' vs' ds' h e n rv =>
        have hne : b' ≠ b := fun z => by subst z; exact r.dis l k _ _ _ _ _ hl hz hx hu' hu
        exact .ow (by rw [upd_ne hne]; exact h) e n (rv.move (fun _ _ p _ => p.elim) im)
  · have tr : ∀ {q : Nat} {ys : List D}, (xs.set k (.ow es))[q]? = some (Fd.ow ys) → ∃ zs, xs[q]? = some (Fd.ow zs) := fun {q ys} h => by
      by_cases hq : q = k
      · subst hq; exact ⟨_, hx⟩
      · rw [List.getElem?_set_ne (Ne.symm hq)] at h; exact ⟨_, h⟩
    obtain ⟨z1, h1⟩ := tr h1
    obtain ⟨z2, h2⟩ := tr h2
    exact r.dis l m _ _ b' g g' hne h1 h2 h3 h4
end
section
variable {K : PySem.W.Frag} {np : Fp} {H : Hp} {C : Col} {σ : L2.St} {ρ : Slots} {j : Nat} {kl : Kl} {xs : List Fd} {Cc : Addr}
theorem ob_slot (F : KlF K kl Cc) (R : Rel K np H C σ ρ) (e : ρ[j]? = some (.ob kl xs)) : ∃ a dx us, σ[j]? = some (some (.ref a)) ∧ H a = some (.ins Cc dx us) ∧ C a = j + 3 ∧ ObR K H C (j + 3) kl.ks us xs ∧ (j < np.n → a = np.pa j) := by
  have r := R.get j _ e
  generalize σ[j]? = o at r
  cases r with
  | @ob a Cc' dx us _ _ h c n r pn =>
    have e2 := F.ns
    rw [n] at e2
    cases e2
    exact ⟨a, dx, us, rfl, h, c, r, pn⟩
/-- the object is rewritten -/
theorem ob_upd {a dx dx' : Addr} {us us' : List (Str × V)} {xs' : List Fd} (F : KlF K kl Cc) (R : Rel K np H C σ ρ) (hj : ρ[j]? = some (.ob kl xs)) (hs : σ[j]? = some (some (.ref a))) (ha : H a = some (.ins Cc dx us)) (hc : C a = j + 3)
    (r : ObR K H C (j + 3) kl.ks us' xs') (pn : j < np.n → a = np.pa j) : Stp np H C (upd H a (.ins Cc dx' us')) C ∧ Rel K np (upd H a (.ins Cc dx' us')) C σ (ρ.set j (.ob kl xs')) := by
  have ne_of_col : ∀ b, C b ≠ j + 3 → b ≠ a := fun b h z => by subst z; exact h hc
  have imm_ne : ∀ {b : Addr} {o : HO}, H b = some o → Imm o → b ≠ a := fun {b o} h i z => by subst z; rw [ha] at h; cases h; exact i
  refine ⟨⟨fun b x h k => ?_, fun b h => ?_, fun _ _ _ => rfl, fun _ _ h => .inr h⟩, ⟨by rw [List.length_set]; exact R.len, fun i s e => ?_⟩⟩
  · rw [upd_ne ?_]; exact h
    rcases k with k | k
    · exact ne_of_col b (by omega)
    · exact imm_ne h k
  · by_cases z : b = a
    · subst z; rw [upd_same]; simp
    · rw [upd_ne z]; exact h
  · by_cases hij : i = j
    · subst hij
      rw [List.getElem?_set_self (List.getElem?_eq_some_iff.mp hj).1] at e
      cases e
      rw [hs]
      exact .ob upd_same hc F.ns (r.move (fun b xs e h => ⟨by rw [upd_ne (fun z => by subst z; rw [ha] at h; cases h)]; exact h, e⟩) fun b o h im => by rw [upd_ne (imm_ne h im)]; exact h) pn
    · rw [List.getElem?_set_ne (Ne.symm hij)] at e
      exact (R.get i s e).off hij (fun b xs hb h => ⟨by rw [upd_ne (ne_of_col b hb)]; exact h, rfl⟩) fun b o h im => by rw [upd_ne (imm_ne h im)]; exact h
/-- a list of the object is rewritten -/
theorem ob_updL {a dx b : Addr} {us : List (Str × V)} {k : Nat} {f : Str} {ds es : List D} {vs ws : List V} (F : KlF K kl Cc) (R : Rel K np H C σ ρ) (hj : ρ[j]? = some (.ob kl xs)) (hs : σ[j]? = some (some (.ref a))) (ha : H a = some (.ins Cc dx us)) (hc : C a = j + 3)
    (r : ObR K H C (j + 3) kl.ks us xs) (pn : j < np.n → a = np.pa j) (hx : xs[k]? = some (.ow ds)) (hu : us[k]? = some (f, .ref b)) (hb : H b = some (.lst vs)) (hcb : C b = j + 3) (hn : noLs es = true) (rr : RpA K H (fun _ => False) ws es) :
    Stp np H C (upd H b (.lst ws)) C ∧ Rel K np (upd H b (.lst ws)) C σ (ρ.set j (.ob kl (xs.set k (.ow es)))) := by
  have ne_of_col : ∀ d, C d ≠ j + 3 → d ≠ b := fun d h z => by subst z; exact h hcb
  have imm_ne : ∀ {d : Addr} {o : HO}, H d = some o → Imm o → d ≠ b := fun {d o} h i z => by subst z; rw [hb] at h; cases h; exact i
  refine ⟨⟨fun d x h k => ?_, fun d h => ?_, fun _ _ _ => rfl, fun _ _ h => .inr h⟩, ⟨by rw [List.length_set]; exact R.len, fun i s e => ?_⟩⟩
  · rw [upd_ne ?_]; exact h
    rcases k with k | k
    · exact ne_of_col d (by omega)
    · exact imm_ne h k
  · by_cases z : d = b
    · subst z; rw [upd_same]; simp
    · rw [upd_ne z]; exact h
  · by_cases hij : i = j
    · subst hij
      rw [List.getElem?_set_self (List.getElem?_eq_some_iff.mp hj).1] at e
      cases e
      rw [hs]
      have hab : a ≠ b := fun z => by subst z; rw [ha] at hb; cases hb
      exact .ob (by rw [upd_ne hab]; exact ha) hc F.ns (r.upd hx hu ⟨_, hb⟩ hn rr) pn
    · rw [List.getElem?_set_ne (Ne.symm hij)] at e
      exact (R.get i s e).off hij (fun d xs hd h => ⟨by rw [upd_ne (ne_of_col d hd)]; exact h, rfl⟩) fun d o h im => by rw [upd_ne (imm_ne h im)]; exact h
end
/-- what stands at an object's slot -/
def obE {α : Type} (kl : Kl) (bad : α) (k : List Fd → α) : Option Sl → α
  | some (.ob kl' xs) => if kl' = kl then k xs else bad
  | _ => bad
def fdG {α : Type} (bad : α) (k : List D → α) : Option Fd → α
  | some (.ow ds) => k ds
  | _ => bad
def fdE (kl : Kl) (j k : Nat) : ES := fun L ρ => obE kl .bad (fun xs => match xs[k]? with
  | some (.va d) => .ok (d, ρ)
  | some (.ow ds) => if L.okb (j + 3) then .ok (.list ds, ρ) else .bad
  | none => .bad) ρ[j]?
theorem obE_wp {α : Type} {kl : Kl} {k : List Fd → Re α} {o : Option Sl} {Q : α → Prop} {E : Exn → Prop} (h : wp (obE kl .bad k o) Q E) : ∃ xs, o = some (.ob kl xs) ∧ wp (k xs) Q E := by
  unfold obE at h
  split at h
  · split at h
    · rename_i e; subst e; exact ⟨_, rfl, h⟩
    · exact h.elim
  · exact h.elim
theorem obE_pst {K : PySem.W.Frag} {np : Fp} {EW : XW} {Dn : Ends} {H : Hp} {C : Col} {kl : Kl} {k : List Fd → Fl} {o : Option Sl} (h : pst K np EW Dn H C (obE kl .bad k o)) : ∃ xs, o = some (.ob kl xs) ∧ pst K np EW Dn H C (k xs) := by
  unfold obE at h
  split at h
  · split at h
    · rename_i e; subst e; exact ⟨_, rfl, h⟩
    · exact h.elim
  · exact h.elim
theorem fdG_pst {K : PySem.W.Frag} {np : Fp} {EW : XW} {Dn : Ends} {H : Hp} {C : Col} {k : List D → Fl} {o : Option Fd} (h : pst K np EW Dn H C (fdG .bad k o)) : ∃ ds, o = some (.ow ds) ∧ pst K np EW Dn H C (k ds) := by
  unfold fdG at h
  split at h
  · exact ⟨_, rfl, h⟩
  · exact h.elim
section
variable {X : Cx} {np : Fp} {EW : XW} {e : Expr} {fe : ES} {y f : Str} {py pos apos cpos : Pos} {kl : Kl} {Cc : Addr}
/-- o.f -/
theorem de_fld (j k : Nat) (F : KlF X.K kl Cc) (hk : kl.ks[k]? = some f) (hj : PE X (.Name y py) (tVar j)) (hb : attributeBase (.Name y py) f X.env (eval (.Name y py) X.env) = eval (.Name y py) X.env := by rfl) : DE X np EW (.Attribute (.Name y py) f pos) (fdE kl j k) :=
  PE.weak (pe_fld hj hb) fun σ H Q ⟨L, C, ρ, R, h⟩ => by
    unfold fdE at h
    obtain ⟨xs, e, h⟩ := obE_wp h
    obtain ⟨a, dx, us, hs, ha, hc, r, pn⟩ := ob_slot F R e
    cases hx : xs[k]? with
    | none => rw [hx] at h; exact h.elim
    | some x =>
      rw [hx] at h
      obtain ⟨v, hu, hl, rv⟩ := r.at' F.nd hk hx
      refine ⟨_, hs, a, Cc, dx, us, v, rfl, ha, F.cl, F.na f (List.mem_of_getElem? hk), hl, ?_⟩
      cases rv with
      | va n rv => exact h _ H C .refl R (rv.imp fun _ z => z.elim)
      | ow hb hcb n rr =>
        have h' : wp (if L.okb (j + 3) = true then Re.ok (_, ρ) else .bad) _ _ := h
        by_cases c1 : L.okb (j + 3) = true
        · rw [if_pos c1] at h'
          exact h' _ H C .refl R (.lst hb (by unfold Cof; rw [hcb]; exact c1) (rr.imp fun _ z => z.elim))
        · rw [if_neg c1] at h'; exact h'.elim
/-- o.f = e, e plain -/
def fsS (kl : Kl) (j k : Nat) (fe : ES) : SS := fun ρ => (fe .an ρ).to fun p => obE kl .bad (fun xs => if noL p.1 && decide (k ≤ xs.length) then .nx (p.2.set j (.ob kl (putX k (.va p.1) xs))) else .bad) p.2[j]?
theorem ds_fld (j k : Nat) {pos' : Pos} (F : KlF X.K kl Cc) (hk : kl.ks[k]? = some f) (hj : PE X (.Name y py) (tVar j)) (h : DE X np EW e fe) (hs : swapsWith e (some (.Attribute (.Name y py) f pos')) pos.line X.env = pure false := by rfl) :
    DS X np EW (.Assign [.Attribute (.Name y py) f pos'] e pos) (fsS kl j k fe) :=
  PS.weak (ps_fld hj h hs) fun Dn σ H ⟨C, ρ, R, h⟩ => toE_of (L := .an) R h fun p v H' C' A R' r q => by
    obtain ⟨xs, e, q⟩ := obE_pst q
    obtain ⟨a, dx, us, hs, ha, hc, ro, pn⟩ := ob_slot F R' e
    by_cases hz : (noL p.1 && decide (k ≤ xs.length)) = true
    · rw [if_pos hz] at q
      rw [Bool.and_eq_true, decide_eq_true_eq] at hz
      have hl := ro.klen
      have := ro.le
      have := F.sm
      refine ⟨_, hs, a, Cc, dx, us, rfl, ha, F.cl, F.na f (List.mem_of_getElem? hk), by omega, ?_⟩
      obtain ⟨S, R2⟩ := ob_upd (dx' := dx) F R' e hs ha hc (ro.put F.nd hk hz.2 (.va hz.1 (r.free hz.1)) fun b es l g fs z => by cases z) pn
      exact q _ _ _ S R2
    · rw [if_neg hz] at q; exact q.elim
/-- o.f = a new list of plain things -/
def flS (kl : Kl) (j k : Nat) (fs : AS) : SS := fun ρ => (fs .an ρ).to fun p => obE kl .bad (fun xs => if noLs p.1 && decide (k ≤ xs.length) then .nx (p.2.set j (.ob kl (putX k (.ow p.1) xs))) else .bad) p.2[j]?
theorem ds_fll (j k : Nat) {pos' : Pos} {fs : AS} (F : KlF X.K kl Cc) (hk : kl.ks[k]? = some f) (hj : PE X (.Name y py) (tVar j)) (h : DN X np EW e fs) (hs : swapsWith e (some (.Attribute (.Name y py) f pos')) pos.line X.env = pure false := by rfl) :
    DS X np EW (.Assign [.Attribute (.Name y py) f pos'] e pos) (flS kl j k fs) :=
  PS.weak (ps_fld hj h hs) fun Dn σ H ⟨C, ρ, R, h⟩ => by
    unfold flS at h
    refine ⟨.an, C, ρ, R, ?_⟩
    cases e : fs .an ρ with
    | bad => rw [e] at h; exact h.elim
    | ex c => rw [e] at h; exact h
    | ok p =>
      rw [e] at h
      intro t vs H' C' A R' ht r
      obtain ⟨xs, e, q⟩ := obE_pst (show pst X.K np EW Dn H C (obE kl .bad (fun xs => if noLs p.1 && decide (k ≤ xs.length) then .nx (p.2.set j (.ob kl (putX k (.ow p.1) xs))) else .bad) p.2[j]?) from h)
      obtain ⟨a, dx, us, hs, ha, hc, ro, pn⟩ := ob_slot F R' e
      have hat : a ≠ t := fun z => by subst z; rw [ht] at ha; cases ha
      by_cases hz : (noLs p.1 && decide (k ≤ xs.length)) = true
      · rw [if_pos hz] at q
        rw [Bool.and_eq_true, decide_eq_true_eq] at hz
        have hl := ro.klen
        have := ro.le
        have := F.sm
        have S0 := pstp_new (C := C') (o := .lst vs) (n := j + 3) ht
        refine ⟨_, hs, a, Cc, dx, us, rfl, by rw [upd_ne hat]; exact ha, F.cl, F.na f (List.mem_of_getElem? hk), by omega, ?_⟩
        have R1 := R'.pstp S0
        have ro1 : ObR X.K (upd H' t (.lst vs)) (setC C' t (j + 3)) (j + 3) kl.ks us xs := ro.move (fun b xs e h => ⟨S0.same _ _ h, by rw [S0.col b (by rw [h]; simp)]; exact e⟩) fun b o h _ => S0.same b o h
        have ha1 : upd H' t (.lst vs) a = some (.ins Cc dx us) := by rw [upd_ne hat]; exact ha
        have hc1 : setC C' t (j + 3) a = j + 3 := by rw [setC_ne hat]; exact hc
        have rw1 : RpA X.K (upd H' t (.lst vs)) (fun _ => False) vs p.1 := (r.free (P' := fun _ => False) hz.1).move (fun _ _ z _ => z.elim) fun b o h _ => S0.same b o h
        obtain ⟨S, R2⟩ := ob_upd (dx' := dx) F R1 e hs ha1 hc1 (ro1.put F.nd hk hz.2 (.ow upd_same setC_same hz.1 rw1) fun b es l g fs z zb hne hx hu => by
          cases zb
          obtain ⟨g', v', hu', rv⟩ := ro.get l _ hx
          rw [hu] at hu'; cases hu'
          cases rv with
          | ow h _ _ _ => rw [ht] at h; cases h) pn
        exact q _ _ _ ((A.stp.trans S0.stp).trans S) R2
      · rw [if_neg hz] at q; exact q.elim
/-- o.f.append(e), e plain -/
def faS (kl : Kl) (j k : Nat) (fe : ES) : SS := fun ρ => obE kl .bad (fun xs => fdG .bad (fun ds => (fe .an ρ).to fun p => if noL p.1 && decide (ds.length < sizeLine) then .nx (ρ.set j (.ob kl (xs.set k (.ow (ds ++ [p.1]))))) else .bad) xs[k]?) ρ[j]?
theorem ds_fapp (j k : Nat) {p2 : Pos} (F : KlF X.K kl Cc) (hk : kl.ks[k]? = some f) (hj : PE X (.Name y py) (tVar j)) (h : DE X np EW e fe) (hb : attributeBase (.Name y py) f X.env (eval (.Name y py) X.env) = eval (.Name y py) X.env := by rfl)
    (hpe : ∀ {to t : TE}, PE X (.Attribute (.Name y py) f p2) to → PE X e t → PE X (.Call (.Attribute (.Attribute (.Name y py) f p2) "append" apos) [e] [] cpos) (tBM X.K "list" rAppend to (tCons t tNil)))
    (hs : swapsWith (.Call (.Attribute (.Attribute (.Name y py) f p2) "append" apos) [e] [] cpos) none pos.line X.env = pure false := by rfl) :
    DS X np EW (.Expr (.Call (.Attribute (.Attribute (.Name y py) f p2) "append" apos) [e] [] cpos) pos) (faS kl j k fe) :=
  PS.weak (ps_expr (hpe (pe_fld hj hb) h) hs) fun Dn σ H ⟨C, ρ, R, h⟩ => by
    unfold faS at h
    obtain ⟨xs, e, h⟩ := obE_pst h
    obtain ⟨ds, hx, h⟩ := fdG_pst h
    obtain ⟨a, dx, us, hs, ha, hc, ro, pn⟩ := ob_slot F R e
    obtain ⟨v, hu, hl, rv⟩ := ro.at' F.nd hk hx
    cases rv with
    | @ow b vs _ hb hcb n rr =>
      refine ⟨_, hs, a, Cc, dx, us, _, rfl, ha, F.cl, F.na f (List.mem_of_getElem? hk), hl, .inl ⟨rfl, _, .inl (.inl hb)⟩, toE_of (L := .an) R h fun p v H' C' A R' rv q => ?_⟩
      obtain ⟨hρ, P⟩ := A.pu rfl
      rw [hρ] at R'
      by_cases hp : (noL p.1 && decide (ds.length < sizeLine)) = true
      · rw [if_pos hp] at q
        rw [Bool.and_eq_true, decide_eq_true_eq] at hp
        have ha' := P.same _ _ ha
        have hb' := P.same _ _ hb
        have hc' : C' a = j + 3 := by rw [P.col a (by rw [ha]; simp)]; exact hc
        have hcb' : C' b = j + 3 := by rw [P.col b (by rw [hb]; simp)]; exact hcb
        have ro' : ObR X.K H' C' (j + 3) kl.ks us xs := ro.move (fun b xs e h => ⟨P.same _ _ h, by rw [P.col b (by rw [h]; simp)]; exact e⟩) fun b o h _ => P.same b o h
        refine ⟨b, vs, v, rfl, rfl, hb', by rw [rr.len]; exact hp.2, ?_⟩
        obtain ⟨S, R2⟩ := ob_updL (ws := vs ++ [v]) (es := ds ++ [p.1]) F R' e hs ha' hc' ro' pn hx hu hb' hcb' (by simp [noLs_append, n, hp.1]) ((rr.move (fun _ _ z _ => z.elim) fun b o h _ => P.same b o h).app (.cons (rv.free hp.1) .nil))
        exact q _ _ _ S R2
      · rw [if_neg hp] at q; exact q.elim
/-- o.f[i] op= e -/
def fuS (kl : Kl) (j k : Nat) (g : Int → Int → Int) (fi fe : ES) : SS := fun ρ => obE kl .bad (fun xs => fdG .bad (fun ds => (fi .an ρ).to fun q => (isI q.1).to fun i => if 0 ≤ i then (match ds[i.toNat]? with
  | some old => (fe .an ρ).to fun p => (match ipAdd g old p.1 with
    | some new => .nx (ρ.set j (.ob kl (xs.set k (.ow (ds.set i.toNat new)))))
    | none => .bad)
  | none => .bad) else .bad) xs[k]?) ρ[j]?
theorem ds_faug (j k : Nat) {p2 tpos : Pos} {op : Operator} {g : Int → Int → Int} {i : Expr} {fi : ES} (F : KlF X.K kl Cc) (hk : kl.ks[k]? = some f) (hp : PIp X op (ipI g)) (hj : PE X (.Name y py) (tVar j)) (hi : DE X np EW i fi) (h : DE X np EW e fe)
    (hb : attributeBase (.Name y py) f X.env (eval (.Name y py) X.env) = eval (.Name y py) X.env := by rfl)
    (ha : ∀ ov iv new, augStore i ov iv new = (do holding [new, ov, iv] (setItem ov iv new); release [new, ov, iv] []; pure .next) := by intros; rfl) : DS X np EW (.AugAssign (.Subscript (.Attribute (.Name y py) f p2) i tpos) op e pos) (fuS kl j k g fi fe) :=
  PS.weak (ps_augS (pe_fld hj hb) hi get_list h hp set_list ha) fun Dn σ H ⟨C, ρ, R, h⟩ => by
    unfold fuS at h
    obtain ⟨xs, e, h⟩ := obE_pst h
    obtain ⟨ds, hx, h⟩ := fdG_pst h
    obtain ⟨a, dx, us, hs, ha, hc, ro, pn⟩ := ob_slot F R e
    obtain ⟨v, hu, hl, rv⟩ := ro.at' F.nd hk hx
    cases rv with
    | @ow b vs _ hb hcb n rr =>
      refine ⟨_, hs, a, Cc, dx, us, _, rfl, ha, F.cl, F.na f (List.mem_of_getElem? hk), hl, toE_of (L := .an) R h fun q w H1 C1 A1 R1 r1 q1 => ?_⟩
      obtain ⟨dq, ρ1⟩ := q
      obtain ⟨hρ, P1⟩ := A1.pu rfl
      have hρ' : ρ1 = ρ := hρ
      subst hρ'
      cases dq with
      | int i =>
        obtain rfl := r1.int_inv
        have q2 : pst X.K np EW Dn H1 C1 (if 0 ≤ i then (match ds[i.toNat]? with
          | some old => (fe .an ρ1).to fun p => (match ipAdd g old p.1 with
            | some new => .nx (ρ1.set j (.ob kl (xs.set k (.ow (ds.set i.toNat new)))))
            | none => .bad)
          | none => .bad) else .bad) := q1
        by_cases h0 : 0 ≤ i
        · rw [if_pos h0] at q2
          cases eo : ds[i.toNat]? with
          | none => simp only [eo] at q2; exact q2.elim
          | some old =>
            simp only [eo] at q2
            obtain ⟨vo, hvo, rvo⟩ := rr.get eo
            have hb1 := P1.same _ _ hb
            refine ⟨b, vs, i, vo, rfl, rfl, .of hb1, h0, hvo, toE_of (L := .an) R1 q2 fun p w2 H2 C2 A2 R2 r2 q3 => ?_⟩
            obtain ⟨hρ2, P2⟩ := A2.pu rfl
            rw [hρ2] at R2
            cases en : ipAdd g old p.1 with
            | none => simp only [en] at q3; exact q3.elim
            | some new =>
              simp only [en] at q3
              obtain ⟨dp, ρ3⟩ := p
              cases old <;> cases dp <;> simp only [ipAdd, reduceCtorEq] at en
              cases en
              obtain rfl := rvo.int_inv
              obtain rfl := r2.int_inv
              have P := P1.trans P2
              have hlt : i.toNat < vs.length := (List.getElem?_eq_some_iff.mp hvo).1
              have ha' := P.same _ _ ha
              have hb' := P.same _ _ hb
              have hc' : C2 a = j + 3 := by rw [P.col a (by rw [ha]; simp)]; exact hc
              have hcb' : C2 b = j + 3 := by rw [P.col b (by rw [hb]; simp)]; exact hcb
              have ro' : ObR X.K H2 C2 (j + 3) kl.ks us xs := ro.move (fun b xs e h => ⟨P.same _ _ h, by rw [P.col b (by rw [h]; simp)]; exact e⟩) fun b o h _ => P.same b o h
              refine ⟨_, _, rfl, rfl, b, vs, i, i.toNat, rfl, rfl, hb', by unfold ixN; rw [if_pos h0, if_pos (by omega)], ?_⟩
              rename_i z1 z2
              have rr2 := (rr.move (P' := fun _ => False) (fun _ _ z _ => z.elim) fun b o h _ => P.same b o h).set i.toNat (Rp.int (K := X.K) (H := H2) (P := fun _ => False) (g z1 z2))
              obtain ⟨S, R4⟩ := ob_updL F R2 e hs ha' hc' ro' pn hx hu hb' hcb' (by
                refine noLs_iff.mpr fun d hd => ?_
                rcases List.mem_or_eq_of_mem_set hd with hd | rfl
                · exact noLs_iff.mp n d hd
                · rfl) rr2
              exact q3 _ _ _ S R4
        · rw [if_neg h0] at q2; exact q2.elim
      | _ => exact q1.elim
end
/-! ### methods -/
abbrev ObF := List Fd → List D → Re (D × List Fd)
def ofOb (kl : Kl) (m : ObF) : Slots → Re (D × Slots)
  | .ob kl' xs :: as => if kl' = kl then (match as.mapM unbo with
    | some ds => (m xs ds).bind fun p => .ok (p.1, .ob kl p.2 :: as.map fun _ => Sl.no)
    | none => .bad) else .bad
  | _ => .bad
def obOf (kl : Kl) (m : Nat) (f : SS) : ObF := fun xs ds => (bodyF m f (.ob kl xs :: ds.map Sl.bo)).bind fun p => match p.2 with
  | .ob kl' xs' :: _ => if kl' = kl then .ok (p.1, xs') else .bad
  | _ => .bad
/-- the colours of a method: the object's own, all else -/
def colM (H : Hp) (C : Col) (c : Nat) : Col := fun b => match H b with
  | none => 0
  | some _ => if C b = c then 3 else 1
theorem colM_some {H : Hp} {C : Col} {c : Nat} {b : Addr} {o : HO} (h : H b = some o) : colM H C c b = if C b = c then 3 else 1 := by unfold colM; rw [h]
theorem spG_ob {K : PySem.W.Frag} {np : Fp} {xo : XO} {n j : Nat} {kl : Kl} {Cc : Addr} {m : ObF} {σ : L2.St} {ρ : Slots} {vs : List V} {xs : List Fd} {ds : List D} {H : Hp} {C : Col} {a : Addr} {Q : VK} {E : XK} (F : KlF K kl Cc) (R : Rel K np H C σ ρ) (hj : ρ[j]? = some (.ob kl xs)) (hs : σ[j]? = some (some (.ref a)))
    (r : RpA K H (fun b => C b ≠ j + 3) vs ds) (hl : ds.length = n)
    (h : wp (m xs ds) (fun p => ∀ (v : V) (H' : Hp) (C' : Col), Stp np H C H' C' → Rel K np H' C' σ (ρ.set j (.ob kl p.2)) → Rp K H' (fun b => C' b = 0) v p.1 → Q v H') (fun c => ∀ H' C', Stp np H C H' C' → xo E c H')) : spG K xo (n + 1) (ofOb kl m) (.ref a :: vs) H Q E := by
  obtain ⟨a0, dx, us, hs0, ha, hc, ro, pn⟩ := ob_slot F R hj
  rw [hs] at hs0; cases hs0
  have cin : ∀ {b o}, H b = some o → C b ≠ j + 3 → colM H C (j + 3) b = 1 := fun {b o} h z => by rw [colM_some h, if_neg z]
  have cin3 : ∀ {b o}, H b = some o → C b = j + 3 → colM H C (j + 3) b = 3 := fun {b o} h z => by rw [colM_some h, if_pos z]
  -- what a step of the method is for the caller
  have caller : ∀ {H' C'}, Stp ⟨n + 1, fun _ => a⟩ H (colM H C (j + 3)) H' C' → Stp np H C H' (fun b => match H b with | some _ => C b | none => if C' b = 3 then j + 3 else 0) := fun {H' C'} S => by
    refine ⟨fun b x h k => S.keep b x h ?_, S.there, fun b hb _ => ?_, fun b hb k => ?_⟩
    · rcases k with k | k
      · exact .inl (by rw [cin h (by omega)]; omega)
      · exact .inr k
    · obtain ⟨o, ho⟩ := ne_some hb
      simp only [ho]
    · obtain ⟨o, ho⟩ := ne_some hb
      simp only [ho]; exact .inr k
  refine ⟨by rw [List.length_cons, r.len, hl], colM H C (j + 3), ⟨n + 1, fun _ => a⟩, .ob kl xs :: ds.map Sl.bo, rfl, ⟨by simp [r.len], fun i s es => ?_⟩, fun b hb => ?_, ?_⟩
  · cases i with
    | zero =>
      cases es
      exact .ob ha (cin3 ha hc) F.ns (ro.move (fun b xs e h => ⟨h, cin3 h e⟩) fun _ _ h _ => h) fun _ => rfl
    | succ i =>
      rw [List.getElem?_cons_succ, List.getElem?_map] at es
      cases e2 : ds[i]? with
      | none => rw [e2] at es; cases es
      | some d =>
        rw [e2] at es; cases es
        obtain ⟨v, hv, rv⟩ := r.get e2
        rw [List.map_cons, List.getElem?_cons_succ, List.getElem?_map, hv]
        exact .bo (rv.move (fun b xs hb h => ⟨h, by rw [cin h hb]; exact Nat.le_refl _⟩) fun _ _ h _ => h)
  · obtain ⟨o, ho⟩ := ne_some hb
    rw [colM_some ho]
    split <;> omega
  · have e1 : ofOb kl m (.ob kl xs :: ds.map Sl.bo) = (m xs ds).bind fun p => .ok (p.1, .ob kl p.2 :: (ds.map Sl.bo).map fun _ => Sl.no) := by
      show (if kl = kl then (match (ds.map Sl.bo).mapM unbo with | some ds' => (m xs ds').bind fun p => Re.ok (p.1, Sl.ob kl p.2 :: (ds.map Sl.bo).map fun _ => Sl.no) | none => .bad) else .bad) = _
      rw [if_pos rfl, mapM_bo]
    rw [e1]
    refine wp_bind.mpr (wp_mono h (fun p _ hp => fun v H' C' S R' rv => ?_) fun c hc H' C' S => hc H' _ (caller S))
    have r0 := R'.get 0 (.ob kl p.2) rfl
    have e0 : (List.map some (V.ref a :: vs))[0]? = some (some (V.ref a)) := rfl
    rw [e0] at r0
    cases r0 with
    | @ob _ Cc' dx' us' _ _ h0 c0 n0 ro0 _ =>
      have hC2 : ∀ b, C' b = 3 → (match H b with | some _ => C b | none => if C' b = 3 then j + 3 else 0) = j + 3 := fun b hb => by
        cases q : H b with
        | none => simp only [hb, if_true]
        | some o =>
          simp only
          have := S.colo b (by rw [q]; simp) (by rw [colM_some q]; show (if _ then 3 else 1) ≤ n + 1 + 2; split <;> omega)
          rw [hb, colM_some q] at this
          by_cases z : C b = j + 3
          · exact z
          · rw [if_neg z] at this; cases this
      refine hp v H' _ (caller S) ⟨by rw [List.length_set]; exact R.len, fun i s es => ?_⟩ (rv.imp fun b hb => ?_)
      · by_cases hij : i = j
        · subst hij
          rw [List.getElem?_set_self (List.getElem?_eq_some_iff.mp hj).1] at es
          cases es
          rw [hs]
          exact .ob h0 (hC2 a c0) n0 (ro0.move (fun b xs e h => ⟨h, hC2 b e⟩) fun _ _ h _ => h) pn
        · rw [List.getElem?_set_ne (Ne.symm hij)] at es
          refine (R.get i s es).off hij (fun b xs hb h => ⟨S.keep b _ h (.inl (by rw [cin h hb]; omega)), by simp only [h]⟩) fun b o h im => S.keep b o h (.inr im)
      · cases q : H b with
        | none => simp only [hb]; rfl
        | some o =>
          have := S.colo b (by rw [q]; simp) (by rw [colM_some q]; show (if _ then 3 else 1) ≤ n + 1 + 2; split <;> omega)
          rw [hb, colM_some q] at this
          split at this <;> cases this
section
variable {X : Cx} {np : Fp} {EW : XW} {Xc : CXT} {k : Nat} {g : Addr} {fd : FuncData} {ps : List Str} {E : XK} {x y m : Str} {p py pos apos : Pos} {e o : Expr} {es : List Expr} {sp : Sp} {ta : TE} {t : TA} {kl : Kl} {Cc : Addr} {fs : AS}
theorem run_gfn {pins : List (Addr × Obj)} {σ : L2.St} {H : Hp} {s : Shared} {Q : VK} {us : List Value} {vs : List V} (F : GFn X.prog X.w X.K X.mg X.base Xc k g fd ps sp) (hr : Room k X.A) (hg : X.A.guards = some []) (hb : Binds X.K fd ps []) (hx : Passes Xc X E)
    (I : Inv X pins σ H s) (r : Vals vs us) (h : sp vs H Q E) : wpAny (model X.prog X.w) X.A (call (.ref g) us) (EP X pins σ Q) X.xe s := by
  refine wpAny_call (codeAny_mono (g_run (args := ⟨us, []⟩) F hr hg (fun hl => ?_) hx I r h) fun rr s' z => ?_)
  · have := hb s us I.kIn (by simpa using hl)
    simpa using this
  · cases rr with
    | error e => exact z
    | ok fl => cases fl <;> exact z
/-- o.m(e, ..) -/
theorem gpe_meth {pl : Sem Bool} (he : PE X o ta) (c : Cls X.K Cc) (hm : Meth X.K Cc m g) (F : GFn X.prog X.w X.K X.mg X.base Xc k g fd ps sp) (hr : Room k X.A) (hgd : X.A.guards = some []) (hb : Binds X.K fd ps []) (hx : Passes Xc X E) (ha : PA X (e :: es) t)
    (hst : starEach (e :: es) X.env = (false, eval e X.env) :: starEach es X.env := by rfl) (hpl : (backTo pos (starEach es X.env)).any (·.1) = false := by rfl)
    (ht : eval (.Call (.Attribute o m apos) (e :: es) [] pos) X.env = (do
      let ov ← eval o X.env
      standAt apos.atName
      let (f, first) ← holding [ov] (getMethod ov m pl)
      callWith pos f first (backTo pos (starEach (e :: es) X.env)) (backToKw pos (keywordEach [] X.env))) := by rfl) :
    PE X (.Call (.Attribute o m apos) (e :: es) [] pos) (tMeth Cc m sp [] E ta t) := by
  refine ⟨fun pins s σ H Q I h => ?_⟩
  refine PySem.W.methodCall_KW (pl := pl) (thn (he.run pins s σ H _ I h) fun u s1 ⟨x, H1, I1, rx, a, dx, fs, ex, ea, l, q⟩ => ?_) ht
  subst ex
  obtain rfl : u = Value.ref a := rx
  refine getmeth_ok I1 ea c hm l ?_
  refine PySem.W.callWith_K (first := [.ref a]) (h₀ := X.base) I.ok.mod.kin hm.kp (thn (ha.run pos pins s1 σ H1 _ I1 q) fun us s2 ⟨vs, H2, I2, r, q2⟩ => ⟨I2.kIn, ?_⟩) hst hpl
  exact run_gfn (us := .ref a :: us) (vs := .ref a :: vs) F hr hgd hb hx I2 (.cons rfl r) (by simpa using q2)
/-- o.m() -/
theorem gpe_meth0 {pl : Sem Bool} (he : PE X o ta) (c : Cls X.K Cc) (hm : Meth X.K Cc m g) (F : GFn X.prog X.w X.K X.mg X.base Xc k g fd ps sp) (hr : Room k X.A) (hgd : X.A.guards = some []) (hb : Binds X.K fd ps []) (hx : Passes Xc X E)
    (ht : eval (.Call (.Attribute o m apos) [] [] pos) X.env = (do
      let ov ← eval o X.env
      standAt apos.atName
      let (f, first) ← holding [ov] (getMethod ov m pl)
      callWith pos f first (backTo pos (starEach [] X.env)) (backToKw pos (keywordEach [] X.env))) := by rfl) :
    PE X (.Call (.Attribute o m apos) [] [] pos) (tMeth Cc m sp [] E ta tNil) := by
  refine ⟨fun pins s σ H Q I h => ?_⟩
  refine PySem.W.methodCall_KW (pl := pl) (thn (he.run pins s σ H _ I h) fun u s1 ⟨x, H1, I1, rx, a, dx, fs, ex, ea, l, q⟩ => ?_) ht
  subst ex
  obtain rfl : u = Value.ref a := rx
  refine getmeth_ok I1 ea c hm l ?_
  exact PySem.W.callWith_K0 (first := [.ref a]) I1.kIn hm.kp (run_gfn (us := [.ref a]) (vs := [.ref a]) F hr hgd hb hx I1 (.cons rfl .nil) q)
theorem run_gmake {pins : List (Addr × Obj)} {σ : L2.St} {H : Hp} {s : Shared} {Q : VK} {us : List Value} {vs : List V} (M : Mk X.K Cc g) (F : GFn X.prog X.w X.K X.mg X.base Xc k g fd ps sp) (hr : Room (k + 1) X.A) (hgd : X.A.guards = some []) (hb : Binds X.K fd ps [])
    (hx : Passes Xc X E) (I : Inv X pins σ H s) (r : Vals vs us)
    (h : ∀ x dx, H x = none → H dx = none → dx ≠ x → sp (.ref x :: vs) (upd (upd H dx (.own x)) x (.ins Cc dx [])) (fun v H2 => v = .non ∧ Q (.ref x) H2) E) :
    wpAny (model X.prog X.w) X.A (call (.ref Cc) us) (EP X pins σ Q) X.xe s := by
  have hq := h (s.heap.objs.size + 1) s.heap.objs.size (I.hok.fresh (Nat.le_succ _)) (I.hok.fresh (Nat.le_refl _)) (Nat.ne_of_lt (Nat.lt_succ_self _))
  have I2 := Inv.made (C := Cc) I
  have r2 : Vals (V.ref (s.heap.objs.size + 1) :: vs) (Value.ref (s.heap.objs.size + 1) :: us) := .cons rfl r
  have hl : (Value.ref (s.heap.objs.size + 1) :: us).length = ps.length := by
    have e := r2.length
    rw [F.len _ _ _ _ hq] at e
    exact e.symm
  have hgd2 : (X.A.under (.builtin "type.__call__" ⟨.ref Cc :: us, []⟩)).guards = some [] := by
    first
      | exact hgd
      | simpa [Around.under, Code.isGuard, Code.isFrame, guardIds] using hgd
  refine wpAny_call (make_map (f := g) I.kIn M.makes M.init (beq_iff_eq.mp M.fn) (codeAny_mono (F.run _ X.stack _ _ ⟨Value.ref (s.heap.objs.size + 1) :: us, []⟩ (Value.ref (s.heap.objs.size + 1) :: us) _ _ E (hr.make Cc us []) hgd2
    (I2.env0.make Cc us []) ?_ r2 hq) fun r s' hq' => ?_))
  · have := hb _ (Value.ref (s.heap.objs.size + 1) :: us) I2.kIn (by simpa using hl)
    simpa using this
  · cases r with
    | error e => exact hx pins σ _ _ e s' I2 hq'
    | ok fl =>
      cases fl with
      | ret u =>
        obtain ⟨v, H', I3, rv, ev, q3⟩ := I2.after hq'
        subst ev
        exact ⟨rv, ⟨V.ref (s.heap.objs.size + 1), H', I3, rfl, q3⟩⟩
      | next => exact False.elim hq'
      | brk => exact False.elim hq'
      | cont => exact False.elim hq'
theorem gpe_make (M : Mk X.K Cc g) (F : GFn X.prog X.w X.K X.mg X.base Xc k g fd ps sp) (hr : Room (k + 1) X.A) (hgd : X.A.guards = some []) (hg : Gl X x) (hm : X.mg x = some (.ref Cc)) (hb : Binds X.K fd ps []) (hx : Passes Xc X E)
    (ha : PA X (e :: es) t) (hdb : (x == ("__debug__" : Str)) = false := by decide) (he : starEach (e :: es) X.env = (false, eval e X.env) :: starEach es X.env := by rfl) (hpl : (backTo pos (starEach es X.env)).any (·.1) = false := by rfl) :
    PE X (.Call (.Name x p) (e :: es) [] pos) (fun σ H Q => t σ H fun vs H1 => ∀ x dx, H1 x = none → H1 dx = none → dx ≠ x → sp (.ref x :: vs) (upd (upd H1 dx (.own x)) x (.ins Cc dx [])) (fun v H2 => v = .non ∧ Q (.ref x) H2) E) := by
  refine ⟨fun pins s σ H Q I h => ?_⟩
  refine wpAny_Call_Name_kw (ld_glob I hg hm ?_ hdb)
  refine PySem.W.callWith_K (h₀ := X.base) I.ok.mod.kin M.kp (thn (ha.run pos pins s σ H _ I h) fun us s1 ⟨vs, H1, I1, r, q⟩ => ⟨I1.kIn, ?_⟩) he hpl
  exact run_gmake M F hr hgd hb hx I1 r q
/-- o.m(e, ..), the object at slot j -/
def clM (kl : Kl) (j n : Nat) (mm : ObF) (fs : AS) : ES := fun L ρ => if !L.pure then obE kl .bad (fun _ => (fs .bo ρ).bind fun p => obE kl .bad (fun xs => if p.1.length = n then (mm xs p.1).bind fun q => .ok (q.1, p.2.set j (.ob kl q.2)) else .bad) p.2[j]?) ρ[j]? else .bad
theorem nk_none {K : PySem.W.Frag} {H : Hp} {C : Col} {c : Nat} {kl : Kl} {us : List (Str × V)} {xs : List Fd} (r : ObR K H C c kl.ks us xs) {m : Str} (h : m ∉ kl.ks) : us.lookup m = none := by
  have h2 : m ∉ us.map (·.1) := by
    rw [r.keys]; exact fun z => h (List.mem_of_mem_take z)
  clear r
  induction us with
  | nil => rfl
  | cons a t ih =>
    obtain ⟨g, w⟩ := a
    rw [List.map_cons, List.mem_cons, not_or] at h2
    have hb : (m == g) = false := by simpa using h2.1
    rw [List.lookup, hb]
    exact ih h2.2
theorem de_callM (j : Nat) {xo : XO} {mm : ObF} {n : Nat} {pl : Sem Bool} (Fk : KlF X.K kl Cc) (hmt : Meth X.K Cc m g) (hmk : m ∉ kl.ks) (F : GFn X.prog X.w X.K X.mg X.base Xc k g fd ps (spG X.K xo (n + 1) (ofOb kl mm))) (hr : Room k X.A) (hgd : X.A.guards = some [])
    (hb : Binds X.K fd ps []) (hx : Passes Xc X E) (hE : ∀ c H', EW c H' → xo E c H') (hj : PE X (.Name y py) (tVar j)) (ha : DA X np EW (e :: es) fs)
    (hst : starEach (e :: es) X.env = (false, eval e X.env) :: starEach es X.env := by rfl) (hpl : (backTo pos (starEach es X.env)).any (·.1) = false := by rfl)
    (ht : eval (.Call (.Attribute (.Name y py) m apos) (e :: es) [] pos) X.env = (do
      let ov ← eval (.Name y py) X.env
      standAt apos.atName
      let (f, first) ← holding [ov] (getMethod ov m pl)
      callWith pos f first (backTo pos (starEach (e :: es) X.env)) (backToKw pos (keywordEach [] X.env))) := by rfl) :
    DE X np EW (.Call (.Attribute (.Name y py) m apos) (e :: es) [] pos) (clM kl j n mm fs) :=
  PE.weak (gpe_meth hj Fk.cl hmt F hr hgd hb hx ha hst hpl ht) fun σ H Q ⟨L, C, ρ, R, h⟩ => by
    unfold clM at h
    by_cases hL : (!L.pure) = true
    · rw [if_pos hL] at h
      have hLp : L.pure = false := by simpa using hL
      obtain ⟨xs0, e0, h⟩ := obE_wp h
      obtain ⟨a, dx, us, hs, hao, hc, ro, pn⟩ := ob_slot Fk R e0
      refine ⟨_, hs, a, dx, us, rfl, hao, nk_none ro hmk, tA_of (L := .bo) R h fun p vs H1 C1 A1 R1 r1 h1 => ?_⟩
      obtain ⟨xs, e1, h1⟩ := obE_wp h1
      by_cases hl : p.1.length = n
      · rw [if_pos hl] at h1
        rw [List.append_nil]
        refine spG_ob Fk R1 e1 hs (r1.imp fun b hb => ?_) hl (wp_mono (wp_bind.mp h1) (fun q _ hq v H' C' S R' rv => ?_) fun c hc H' C' S => hE c H' (hc H' C' S))
        · have hb' : Lv.bo.okb (C1 b) = true := hb
          simp [Lv.okb] at hb'
          omega
        · exact hq v H' C' ⟨A1.stp.trans S, fun z => by rw [hLp] at z; cases z⟩ R' (rv.imp fun b hb => by unfold Cof; rw [hb]; exact L.ok0)
      · rw [if_neg hl] at h1; exact h1.elim
    · rw [if_neg hL] at h; exact h.elim
/-- o.m() -/
theorem de_callM0 (j : Nat) {xo : XO} {mm : ObF} {pl : Sem Bool} (Fk : KlF X.K kl Cc) (hmt : Meth X.K Cc m g) (hmk : m ∉ kl.ks) (F : GFn X.prog X.w X.K X.mg X.base Xc k g fd ps (spG X.K xo 1 (ofOb kl mm))) (hr : Room k X.A) (hgd : X.A.guards = some [])
    (hb : Binds X.K fd ps []) (hx : Passes Xc X E) (hE : ∀ c H', EW c H' → xo E c H') (hj : PE X (.Name y py) (tVar j))
    (ht : eval (.Call (.Attribute (.Name y py) m apos) [] [] pos) X.env = (do
      let ov ← eval (.Name y py) X.env
      standAt apos.atName
      let (f, first) ← holding [ov] (getMethod ov m pl)
      callWith pos f first (backTo pos (starEach [] X.env)) (backToKw pos (keywordEach [] X.env))) := by rfl) :
    DE X np EW (.Call (.Attribute (.Name y py) m apos) [] [] pos) (clM kl j 0 mm nilA) :=
  PE.weak (gpe_meth0 hj Fk.cl hmt F hr hgd hb hx ht) fun σ H Q ⟨L, C, ρ, R, h⟩ => by
    unfold clM at h
    by_cases hL : (!L.pure) = true
    · rw [if_pos hL] at h
      have hLp : L.pure = false := by simpa using hL
      obtain ⟨xs, e0, h⟩ := obE_wp h
      obtain ⟨a, dx, us, hs, hao, hc, ro, pn⟩ := ob_slot Fk R e0
      have h1 : wp (obE kl .bad (fun xs => if ([] : List D).length = 0 then (mm xs []).bind fun q => .ok (q.1, ρ.set j (.ob kl q.2)) else .bad) ρ[j]?) _ _ := h
      obtain ⟨xs', e1, h1⟩ := obE_wp h1
      rw [if_pos (show ([] : List D).length = 0 from rfl)] at h1
      refine ⟨_, hs, a, dx, us, rfl, hao, nk_none ro hmk, ?_⟩
      refine spG_ob Fk R e1 hs .nil rfl (wp_mono (wp_bind.mp h1) (fun q _ hq v H' C' S R' rv => ?_) fun c hc H' C' S => hE c H' (hc H' C' S))
      exact hq v H' C' ⟨S, fun z => by rw [hLp] at z; cases z⟩ R' (rv.imp fun b hb => by unfold Cof; rw [hb]; exact L.ok0)
    · rw [if_neg hL] at h; exact h.elim
/-- x = C(e, ..) -/
def mkS (np i : Nat) (kl : Kl) (n : Nat) (mm : ObF) (fs : AS) : SS := fun ρ => if np ≤ i then (fs .bo ρ).to fun p => if p.1.length = n ∧ i < p.2.length then (mm [] p.1).to fun q => if isNd q.1 then .nx (p.2.set i (.ob kl q.2)) else .bad else .bad else .bad
theorem ds_make {i : Nat} {z : Str} {pos' : Pos} {xo : XO} {mm : ObF} {n : Nat} (Fk : KlF X.K kl Cc) (M : Mk X.K Cc g) (F : GFn X.prog X.w X.K X.mg X.base Xc k g fd ps (spG X.K xo (n + 1) (ofOb kl mm))) (hr : Room (k + 1) X.A) (hgd : X.A.guards = some []) (hg : Gl X x) (hm : X.mg x = some (.ref Cc))
    (hb : Binds X.K fd ps []) (hx : Passes Xc X E) (hE : ∀ c H', EW c H' → xo E c H') (ha : DA X np EW (e :: es) fs) (hN : X.N.Nodup) (hi : X.N[i]? = some z) (hz : Loc X.env.scope z)
    (hdb : (x == ("__debug__" : Str)) = false := by decide) (he : starEach (e :: es) X.env = (false, eval e X.env) :: starEach es X.env := by rfl) (hpl : (backTo apos (starEach es X.env)).any (·.1) = false := by rfl)
    (hs : swapsWith (.Call (.Name x p) (e :: es) [] apos) (some (.Name z pos')) pos.line X.env = pure false := by rfl) (hf : X.fn z = true ∨ X.env.scope.names.lookup z = some .local := by first | exact .inl rfl | exact .inr rfl | assumption) :
    DS X np EW (.Assign [.Name z pos'] (.Call (.Name x p) (e :: es) [] apos) pos) (mkS np.n i kl n mm fs) :=
  PS.weak (ps_set hN hi hz (gpe_make M F hr hgd hg hm hb hx ha hdb he hpl) hs hf) fun Dn σ H ⟨C, ρ, R, h⟩ => by
    unfold mkS at h
    by_cases hn : np.n ≤ i
    · rw [if_pos hn] at h
      refine toA_of (L := .bo) R h fun p vs H1 C1 A1 R1 r1 h1 => ?_
      by_cases hl : p.1.length = n ∧ i < p.2.length
      · rw [if_pos hl] at h1
        obtain ⟨hl, hlt⟩ := hl
        intro x dx hx0 hdx hne
        -- the new instance
        have hx1 : upd H1 dx (.own x) x = none := by rw [upd_ne (Ne.symm hne)]; exact hx0
        have S1 := pstp_new (C := C1) (o := .own x) (n := 0) hdx
        have S2 := pstp_new (C := setC C1 dx 0) (o := .ins Cc dx []) (n := i + 3) hx1
        have S := S1.trans S2
        have R2 := R1.pstp S
        have R3 : Rel X.K np (upd (upd H1 dx (.own x)) x (.ins Cc dx [])) (setC (setC C1 dx 0) x (i + 3)) (σ.set i (some (.ref x))) (p.2.set i (.ob kl [])) :=
          R2.set (.ob upd_same setC_same Fk.ns ⟨Nat.zero_le _, rfl, fun k x h => by simp at h, fun k l ds es b f g _ h => by simp at h⟩ fun z => absurd hn (by omega))
        refine spG_ob Fk R3 (List.getElem?_set_self hlt) (List.getElem?_set_self (by rw [R1.len]; exact hlt)) ((S.rpA (P := fun c => Lv.bo.okb c = true) r1).imp fun b hb => ?_) hl ?_
        · simp [Lv.okb] at hb
          omega
        · cases e : mm [] p.1 with
          | bad => rw [e] at h1; exact h1.elim
          | ex c => rw [e] at h1; exact fun H' C' T => hE c H' (h1 H' C' (S.stp.trans T))
          | ok q =>
            rw [e] at h1
            intro v H' C' T R' rv
            have h2 : pst X.K np EW Dn H1 C1 (if isNd q.1 = true then .nx (p.2.set i (.ob kl q.2)) else .bad) := h1
            by_cases hd : isNd q.1 = true
            · rw [if_pos hd] at h2
              have hv : v = .non := by
                have := isNd_iff rv
                rw [hd] at this
                simpa using this
              rw [List.set_set] at R'
              exact ⟨hv, h2 _ H' C' (S.stp.trans T) R'⟩
            · rw [if_neg hd] at h2; exact h2.elim
      · rw [if_neg hl] at h1; exact h1.elim
    · rw [if_neg hn] at h; exact h.elim
end
section
variable {P : Program} {w : World} {K : PySem.W.Frag} {mg : Str → Option Value} {base : Heap}
theorem spG_ofOb {kl : Kl} {xo : XO} {n m : Nat} {F : SS} {vs : List V} {H : Hp} {Q : VK} {E : XK} (h : spG K xo n (ofOb kl (obOf kl m F)) vs H Q E) : spG K xo n (bodyF m F) vs H Q E := by
  obtain ⟨h1, C, np, as, h2, h3, h4, hw⟩ := h
  refine ⟨h1, C, np, as, h2, h3, h4, ?_⟩
  cases as with
  | nil => exact hw.elim
  | cons a r =>
    cases a with
    | ob kl' xs =>
      unfold ofOb at hw
      by_cases hk : kl' = kl
      · subst hk
        simp only [if_true] at hw
        cases e : r.mapM unbo with
        | none => simp only [e] at hw; exact hw.elim
        | some ds =>
          have ea := mapM_unbo e
          subst ea
          simp only [e] at hw
          unfold obOf at hw
          cases e2 : bodyF m F (.ob kl' xs :: ds.map Sl.bo) with
          | bad => rw [e2] at hw; exact hw.elim
          | ex c => rw [e2] at hw; exact hw
          | ok p =>
            rw [e2] at hw
            have sh : ∃ x, p.2 = outF (.ob kl' xs :: ds.map Sl.bo) x := by
              unfold bodyF at e2
              cases e3 : F (.ob kl' xs :: ds.map Sl.bo ++ List.replicate m .no) <;> rw [e3] at e2 <;> simp [finF] at e2
              · exact ⟨_, by rw [← e2]⟩
              · exact ⟨_, by rw [← e2]⟩
            obtain ⟨x, hx⟩ := sh
            obtain ⟨d, ρ⟩ := p
            have hx' : ρ = outF (.ob kl' xs :: ds.map Sl.bo) x := hx
            subst hx'
            cases x with
            | nil => exact hw.elim
            | cons s t =>
              cases s with
              | ob kl2 xs2 =>
                rw [outF, outF_bo] at hw ⊢
                have hw' : wp ((if kl2 = kl' then Re.ok (d, xs2) else .bad).bind fun p => .ok (p.1, Sl.ob kl' p.2 :: (ds.map Sl.bo).map fun _ => Sl.no)) _ _ := hw
                by_cases hk2 : kl2 = kl'
                · subst hk2
                  rw [if_pos rfl] at hw'
                  exact hw'
                · rw [if_neg hk2] at hw'; exact hw'.elim
              | _ => exact hw.elim
      · simp only [hk, if_false] at hw
        exact hw.elim
    | _ => exact hw.elim
theorem g_ob {kl : Kl} {x qual : Str} {st : Stmt} {f : Addr} {fd : FuncData} {N ps : List Str} {k m : Nat} {F : SS} (Fn : Fun K x qual st f fd) (Sc : FnScope N ps (defScope st)) (hN : N.length = ps.length + m)
    (hbody : ∀ (np : Fp) (cdv : Value) (A : Around) (outer : List PySem.Env) (s : Shared) (H : Hp) (E : XK), np.n = ps.length → Room k (A.deeper (envOfC qual (defScope st) s.heap.objs.size f cdv)) → A.guards = some [] →
      DSs (cxOf CX0 P w K mg base N qual (defScope st) f cdv A outer s H E).nox np (fun _ _ => False) (defBody st) F) : GFn P w K mg base CX0 (k + 1) f fd ps (spG K (fun _ _ _ => False) ps.length (ofOb kl (obOf kl m F))) :=
  (g_fn Fn Sc hN hbody).imp fun _ _ _ _ h => spG_ofOb h
end
end
end Dm

namespace Dm
noncomputable section
open PySem PySem.Spec PyProof.Rows L2
/-! ### t.index(i) of a tuple of ints -/
def rIndexI (K : PySem.W.Frag) : V → List V → Hp → VK → Prop := fun x xs H Q => ∃ (p : Addr) (ns : List Int) (z : Int) (j : Nat), x = .ref p ∧ xs = [.int z] ∧ SqT K H p (ns.map V.int) ∧ ns[j]? = some z ∧ (∀ m, m < j → ns[m]? ≠ some z) ∧ Q (.int (j : Nat)) H
theorem mt_indexI {X : Cx} : MtR X "tuple.index" (rIndexI X.K) := by
  rintro pins s σ H x xs v us Q I rx rs ⟨p, ns, z, j, rfl, rfl, hq, hz, hno, q⟩
  cases rx
  obtain ⟨u, rfl, t, rfl⟩ := vals1 rs
  obtain ⟨its, r, pl, hs⟩ := I.tuple hq
  obtain ⟨⟨cls, dd, dt, sl⟩, ho, hc, n, hd⟩ := pl
  simp only at hc hd
  subst hc hd
  have len : its.toArray.size = ns.length := by
    have := r.length
    rw [List.length_map] at this
    rw [List.size_toArray, this]
  have hjs : j < its.toArray.size := by rw [len]; exact (List.getElem?_eq_some_iff.mp hz).1
  have item : ∀ (m : Nat) (hm : m < its.toArray.size), ∃ y t', ns[m]? = some y ∧ its.toArray[m] = Value.int y t' := fun m hm => by
    have hm2 : m < ns.length := by rw [← len]; exact hm
    obtain ⟨w, hw, t', e⟩ := r.get (i := m) (x := .int ns[m]) (by simp [hm2])
    have e2 := (List.getElem?_eq_some_iff.mp hw).2
    exact ⟨ns[m], t', List.getElem?_eq_getElem hm2, by rw [← e, ← e2]; simp⟩
  refine call_meets PySem.F.slot_tuple_index ⟨_, ho, rfl⟩ PySem.F.entry_tuple_index (PySem.F.args_tuple_index_2 _ _) (TI.tuple_indexAt p its.toArray n dd sl (.int z t) (eqU (.int z)) j hjs ?_ ?_)
    ⟨ho, fun w hw => mem_eqAt (x := .int z) ⟨t, rfl⟩ rfl r flat_ints w (by simpa using hw), ⟨.int (j : Nat), H, I.tok _, ⟨_, rfl⟩, q⟩⟩
  · obtain ⟨y, t', e1, e2⟩ := item j hjs
    rw [hz] at e1
    cases e1
    rw [e2]
    exact beq_self_eq_true z
  · intro m hm hmj
    obtain ⟨y, t', e1, e2⟩ := item m hm
    rw [e2]
    exact beq_eq_false_iff_ne.mpr fun e => hno m hmj (e ▸ e1)
/-- a method of a tuple known by its object -/
def isX (K : PySem.W.Frag) (x : V) (H : Hp) : Prop := ∃ p us, x = .ref p ∧ SqX K H p us
theorem isX_ty {X : Cx} {pins : List (Addr × Obj)} {σ : L2.St} {H : Hp} {s : Shared} {x : V} {v : Value} (I : Inv X pins σ H s) (r : RelV x v) (h : isX X.K x H) : s.TypeIs v "tuple" ∧ ∀ a, v = .ref a → ∃ ob, s.heap.get? a = some ob ∧ ob.dict = none := by
  obtain ⟨p, us, rfl, h⟩ := h
  cases r
  obtain ⟨its, _, pl, _⟩ := I.tuple h.sq
  refine ⟨(show s.heap.IsTuple p its.toArray from pl).typeIs, fun a e => ?_⟩
  cases e
  rcases h with ⟨o, h, hd⟩ | ⟨o, _, _, hk, _, hd, _⟩
  · exact ⟨o, (I.hok p _ h).1, hd⟩
  · exact ⟨o, I.kIn _ _ hk, hd⟩
theorem pe_bmX {X : Cx} {o e : Expr} {es : List Expr} {to : TE} {t : TA} {name : Str} {apos cpos : Pos} {id : String} {r : V → List V → Hp → VK → Prop} (slot : Slot "tuple" name id) (hty : typeOf (.builtin id) = pure (.type "method_descriptor")) (hm : MtR X id r) (ho : PE X o to) (ha : PA X (e :: es) t)
    (hbase : attributeBase o name X.env (eval o X.env) = eval o X.env := by rfl)
    (hfew : ((backTo cpos (starEach (e :: es) X.env)).all (fun x => !x.1) && (backToKw cpos (keywordEach [] X.env)).all (fun x => x.1.isSome)
      && decide ((e :: es).length + ([] : List Keyword).length + (if ([] : List Keyword).isEmpty then 0 else 1) < 30)) = true := by rfl)
    (hline : (apos.endLine == cpos.line) = true := by rfl) (hs : starEach (e :: es) X.env = (false, eval e X.env) :: starEach es X.env := by rfl) (hplain : (backTo cpos (starEach es X.env)).any (·.1) = false := by rfl) :
    PE X (.Call (.Attribute o name apos) (e :: es) [] cpos) (fun σ H Q => to σ H fun x H1 => isX X.K x H1 ∧ t σ H1 fun xs H2 => r x xs H2 Q) := by
  refine ⟨fun pins s σ H Q I h => wpAny_Call_method_late hbase hfew hline rfl (thn (ho.run pins s σ H _ I h) fun v s1 ⟨x, H1, I1, r1, ty, q1⟩ => ?_)⟩
  obtain ⟨h1, h2⟩ := isX_ty I1 r1 ty
  refine ⟨"tuple", id, PySem.F.plainAttrs_tuple, slot, hty, h1, h2, ?_⟩
  have hA := ha.run cpos pins s1 σ H1 _ I1 q1
  rw [hs] at hA ⊢
  exact Calls.callWith_builtin (show (false || (backTo cpos (starEach es X.env)).any (·.1)) = false by rw [hplain] <;> rfl) (Calls.evalArgs_plain (thn hA fun us s2 ⟨vs, H2, I2, r2, q2⟩ => hm pins s2 σ H2 x vs v us Q I2 r1 r2 q2))
def idxTD : D → D → Option D
  | .tuple ds, .int i => (ints? ds).bind fun ns => (ns.findIdx? (fun z => z == i)).map fun j => .int (j : Nat)
  | _, _ => none
def isTu : D → Bool
  | .tuple _ => true
  | _ => false
@[simp] theorem isTu_tup {ds : List D} : isTu (.tuple ds) = true := rfl
def idxTE (fo fe : ES) : ES := fun L ρ => (fo L ρ).bind fun p => if isTu p.1 then (fe L p.2).bind fun q => (ofO (idxTD p.1 q.1)).bind fun d => .ok (d, q.2) else .bad
@[simp] theorem ev_idxTE {fo fe : ES} {L : Lv} {ρ : Slots} : idxTE fo fe L ρ = (fo L ρ).bind fun p => if isTu p.1 then (fe L p.2).bind fun q => (ofO (idxTD p.1 q.1)).bind fun d => .ok (d, q.2) else .bad := Eq.trans rfl rfl
section
variable {X : Cx} {np : Fp} {EW : XW} {o e : Expr} {fo fe : ES} {apos cpos : Pos}
theorem de_indexT (ho : DE X np EW o fo) (he : DE X np EW e fe)
    (hpe : ∀ {to t : TE}, MtR X "tuple.index" (rIndexI X.K) → PE X o to → PE X e t → PE X (.Call (.Attribute o "index" apos) [e] [] cpos) (fun σ H Q => to σ H fun x H1 => isX X.K x H1 ∧ tCons t tNil σ H1 fun xs H2 => rIndexI X.K x xs H2 Q)) : DE X np EW (.Call (.Attribute o "index" apos) [e] [] cpos) (idxTE fo fe) :=
  PE.weak (hpe mt_indexI ho he) fun σ H Q ⟨L, C, ρ, R, h⟩ => by
    refine tE_of R h fun p x H1 C1 A1 R1 r1 h1 => ?_
    obtain ⟨d1, ρ1⟩ := p
    cases d1 with
    | tuple ds =>
      obtain ⟨a, us, rfl, ha, rr⟩ := r1.tup_invX
      refine ⟨⟨a, us, rfl, ha⟩, tE_of R1 h1 fun q y H2 C2 A2 R2 r2 h2 => ?_⟩
      obtain ⟨d2, ρ2⟩ := q
      obtain ⟨d, e, h3⟩ := wp_ofO (wp_bind.mp h2)
      cases d2 with
      | int i =>
        obtain rfl := r2.int_inv
        simp only [idxTD] at e
        cases e2 : ints? ds with
        | none => rw [e2] at e; cases e
        | some ns =>
          rw [e2] at e
          have := ints?_some e2
          subst this
          have eu := (A2.rpA rr).ints
          subst eu
          cases ej : ns.findIdx? (fun z => z == i) with
          | none => simp only [Option.bind, ej] at e; cases e
          | some j =>
            simp only [Option.bind, ej, Option.map] at e
            cases e
            obtain ⟨hj, hj1, hj2⟩ := List.findIdx?_eq_some_iff_getElem.mp ej
            have hji : ns[j] = i := by simpa using hj1
            refine ⟨a, ns, i, j, rfl, rfl, SqT.keep ha.sq A2.moves.2, by rw [List.getElem?_eq_getElem hj, hji], fun m hm z => ?_, h3 _ H2 C2 (A1.trans A2) R2 (.int _)⟩
            obtain ⟨hm1, hm2⟩ := List.getElem?_eq_some_iff.mp z
            have := hj2 m hm
            rw [hm2] at this
            simp at this
      | _ => cases e
    | _ => exact h1.elim
end
@[simp] theorem ev_obE {α : Type} {kl : Kl} {b : α} {k : List Fd → α} {xs : List Fd} : obE kl b k (some (.ob kl xs)) = k xs := if_pos rfl
@[simp] theorem ev_fdG {α : Type} {b : α} {k : List D → α} {ds : List D} : fdG b k (some (.ow ds)) = k ds := Eq.trans rfl rfl
@[simp] theorem ev_fdE {kl : Kl} {j k : Nat} {L : Lv} {ρ : Slots} : fdE kl j k L ρ = obE kl .bad (fun xs => match xs[k]? with
  | some (.va d) => .ok (d, ρ)
  | some (.ow ds) => if L.okb (j + 3) then .ok (.list ds, ρ) else .bad
  | none => .bad) ρ[j]? := Eq.trans rfl rfl
@[simp] theorem ev_fsS {kl : Kl} {j k : Nat} {fe : ES} {ρ : Slots} : fsS kl j k fe ρ = (fe .an ρ).to fun p => obE kl .bad (fun xs => if noL p.1 && decide (k ≤ xs.length) then .nx (p.2.set j (.ob kl (putX k (.va p.1) xs))) else .bad) p.2[j]? := Eq.trans rfl rfl
@[simp] theorem ev_flS {kl : Kl} {j k : Nat} {fs : AS} {ρ : Slots} : flS kl j k fs ρ = (fs .an ρ).to fun p => obE kl .bad (fun xs => if noLs p.1 && decide (k ≤ xs.length) then .nx (p.2.set j (.ob kl (putX k (.ow p.1) xs))) else .bad) p.2[j]? := Eq.trans rfl rfl
@[simp] theorem ev_faS {kl : Kl} {j k : Nat} {fe : ES} {ρ : Slots} : faS kl j k fe ρ = obE kl .bad (fun xs => fdG .bad (fun ds => (fe .an ρ).to fun p => if noL p.1 && decide (ds.length < sizeLine) then .nx (ρ.set j (.ob kl (xs.set k (.ow (ds ++ [p.1]))))) else .bad) xs[k]?) ρ[j]? := Eq.trans rfl rfl
@[simp] theorem ev_fuS {kl : Kl} {j k : Nat} {g : Int → Int → Int} {fi fe : ES} {ρ : Slots} : fuS kl j k g fi fe ρ = obE kl .bad (fun xs => fdG .bad (fun ds => (fi .an ρ).to fun q => (isI q.1).to fun i => if 0 ≤ i then (match ds[i.toNat]? with
  | some old => (fe .an ρ).to fun p => (match ipAdd g old p.1 with
    | some new => .nx (ρ.set j (.ob kl (xs.set k (.ow (ds.set i.toNat new)))))
    | none => .bad)
  | none => .bad) else .bad) xs[k]?) ρ[j]? := Eq.trans rfl rfl
@[simp] theorem ev_clM {kl : Kl} {j n : Nat} {mm : ObF} {fs : AS} {L : Lv} {ρ : Slots} : clM kl j n mm fs L ρ = if !L.pure then obE kl .bad (fun _ => (fs .bo ρ).bind fun p => obE kl .bad (fun xs => if p.1.length = n then (mm xs p.1).bind fun q => .ok (q.1, p.2.set j (.ob kl q.2)) else .bad) p.2[j]?) ρ[j]? else .bad := Eq.trans rfl rfl
@[simp] theorem ev_mkS {np i : Nat} {kl : Kl} {n : Nat} {mm : ObF} {fs : AS} {ρ : Slots} : mkS np i kl n mm fs ρ = if np ≤ i then (fs .bo ρ).to fun p => if p.1.length = n ∧ i < p.2.length then (mm [] p.1).to fun q => if isNd q.1 then .nx (p.2.set i (.ob kl q.2)) else .bad else .bad else .bad := Eq.trans rfl rfl
theorem ob_eq {kl : Kl} {m : Nat} {f : SS} {xs : List Fd} {ds : List D} : obOf kl m f xs ds = (finF (.ob kl xs :: ds.map Sl.bo) (f (.ob kl xs :: ds.map Sl.bo ++ List.replicate m .no))).bind fun p => match p.2 with
  | .ob kl' xs' :: _ => if kl' = kl then .ok (p.1, xs') else .bad
  | _ => .bad := Eq.trans rfl rfl
@[simp] theorem selF_ob {k1 k2 : Kl} {a b : List Fd} : selF (.ob k1 a) (.ob k2 b) = .ob k2 b := Eq.trans rfl rfl
@[simp] theorem putX_lt {k : Nat} {x : Fd} {xs : List Fd} (h : k < xs.length) : putX k x xs = xs.set k x := if_pos h
@[simp] theorem putX_ge {k : Nat} {x : Fd} {xs : List Fd} (h : ¬ k < xs.length) : putX k x xs = xs ++ [x] := if_neg h
end
end Dm

namespace Dm
noncomputable section
open PySem PySem.Spec PyProof.Rows L2
/-! ### xs[i], xs a list of one's own with plain items, i with effects -/
def owR {α : Type} (o : Option Sl) (k : List D → Re α) : Re α := match o with
  | some (.ow ds) => k ds
  | _ => .bad
@[simp] theorem owR_ow {α : Type} {ds : List D} {k : List D → Re α} : owR (some (.ow ds)) k = k ds := Eq.trans rfl rfl
theorem owR_wp {α : Type} {o : Option Sl} {k : List D → Re α} {Q : α → Prop} {E : Exn → Prop} (h : wp (owR o k) Q E) : ∃ ds, o = some (.ow ds) ∧ wp (k ds) Q E := by
  unfold owR at h
  split at h
  · exact ⟨_, rfl, h⟩
  · exact h.elim
def oixE (j : Nat) (fi : ES) : ES := fun L ρ => owR ρ[j]? fun _ => (fi L ρ).bind fun q => owR q.2[j]? fun ds => (ofO (ixD (.list ds) q.1)).bind fun d => if noL d then .ok (d, q.2) else .bad
@[simp] theorem ev_oixE {j : Nat} {fi : ES} {L : Lv} {ρ : Slots} : oixE j fi L ρ = owR ρ[j]? fun _ => (fi L ρ).bind fun q => owR q.2[j]? fun ds => (ofO (ixD (.list ds) q.1)).bind fun d => if noL d then .ok (d, q.2) else .bad := Eq.trans rfl rfl
section
variable {X : Cx} {np : Fp} {EW : XW} {i : Expr} {fi : ES} {x : Str} {px pos : Pos}
theorem de_oix (j : Nat) (hj : PE X (.Name x px) (tVar j)) (hi : DE X np EW i fi) (hs : PlainIx i := by exact fun _ _ => rfl) : DE X np EW (.Subscript (.Name x px) i pos) (oixE j fi) :=
  PE.weak (pe_ix ix_list hj hi hs) fun σ H Q ⟨L, C, ρ, R, h⟩ => by
    unfold oixE at h
    obtain ⟨ds0, e0, h⟩ := owR_wp h
    obtain ⟨a, us0, hs, ha0, _, _⟩ := ow_get R e0
    refine ⟨.ref a, hs, tE_of R h fun q w H2 C2 A2 R2 r2 q2 => ?_⟩
    obtain ⟨ds, e, q2⟩ := owR_wp q2
    obtain ⟨a', us, hs', ha', hc', rr⟩ := ow_get R2 e
    rw [hs] at hs'; cases hs'
    obtain ⟨d, e1, q3⟩ := wp_ofO (wp_bind.mp q2)
    obtain ⟨dq, ρ2⟩ := q
    by_cases hn : noL d = true
    · rw [if_pos hn] at q3
      cases dq <;> simp only [ixD, reduceCtorEq] at e1
      obtain rfl := r2.int_inv
      obtain ⟨v, hv, rv⟩ := atI_rp rr e1
      exact ⟨a, us, _, v, rfl, rfl, .of ha', hv, q3 v H2 C2 A2 R2 (rv.free hn)⟩
    · rw [if_neg hn] at q3; exact q3.elim
end
end
end Dm

namespace Dm
noncomputable section
open PySem PySem.Spec PyProof.Rows L2
/-! ### x, y = ([..], [..]): new lists that the names hold alone -/
/-- values that wait for their names; the new lists among them stand apart -/
inductive PdA (K : PySem.W.Frag) (H0 H : Hp) (C : Col) : List V → List Sl → List Addr → Prop
  | nil : PdA K H0 H C [] [] []
  | va {v : V} {d : D} {vs : List V} {ss : List Sl} {ts : List Addr} : Rp K H (fun b => C b = 0) v d → PdA K H0 H C vs ss ts → PdA K H0 H C (v :: vs) (.va d :: ss) ts
  | ow {t : Addr} {us : List V} {ds : List D} {vs : List V} {ss : List Sl} {ts : List Addr} : H t = some (.lst us) → C t = 2 → H0 t = none → RpA K H (fun b => C b = 0) us ds → t ∉ ts → PdA K H0 H C vs ss ts → PdA K H0 H C (.ref t :: vs) (.ow ds :: ss) (t :: ts)
section
variable {K : PySem.W.Frag} {np : Fp} {H0 H00 H H1 : Hp} {C C1 : Col}
theorem PdA.fresh {vs : List V} {ss : List Sl} {ts : List Addr} (r : PdA K H0 H C vs ss ts) : ∀ t ∈ ts, H0 t = none := by
  induction r with
  | nil => intro t h; simp at h
  | va _ _ ih => exact ih
  | ow _ _ h0 _ _ _ ih =>
    intro t h
    rcases List.mem_cons.mp h with rfl | h
    · exact h0
    · exact ih t h
theorem PdA.start {vs : List V} {ss : List Sl} {ts : List Addr} (h : ∀ b, H0 b = none → H00 b = none) (r : PdA K H0 H C vs ss ts) : PdA K H00 H C vs ss ts := by
  induction r with
  | nil => exact .nil
  | va r _ ih => exact .va r ih
  | ow a b c d e _ ih => exact .ow a b (h _ c) d e ih
theorem PdA.len {vs : List V} {ss : List Sl} {ts : List Addr} (r : PdA K H0 H C vs ss ts) : vs.length = ss.length := by
  induction r with
  | nil => rfl
  | va _ _ ih => simp [ih]
  | ow _ _ _ _ _ _ ih => simp [ih]
theorem Stp.mv0 (S : Stp np H C H1 C1) : (∀ b xs, C b = 0 → H b = some (.lst xs) → H1 b = some (.lst xs) ∧ C1 b = 0) ∧ ∀ b o, H b = some o → Imm o → H1 b = some o :=
  ⟨fun b xs h e => ⟨S.keep b _ e (.inl (by omega)), by rw [S.colo b (by rw [e]; simp) (by omega), h]⟩, fun b o e i => S.keep b o e (.inr i)⟩
theorem PdA.stp {vs : List V} {ss : List Sl} {ts : List Addr} (S : Stp np H C H1 C1) (r : PdA K H0 H C vs ss ts) : PdA K H0 H1 C1 vs ss ts := by
  induction r with
  | nil => exact .nil
  | va r _ ih => exact .va (r.move S.mv0.1 S.mv0.2) ih
  | ow a b c d e _ ih => exact .ow (S.keep _ _ a (.inl (by omega))) (by rw [S.colo _ (by rw [a]; simp) (by omega), b]) c (d.move S.mv0.1 S.mv0.2) e ih
/-- another colour for what nobody holds -/
theorem PdA.col {t : Addr} {n : Nat} {vs : List V} {ss : List Sl} {ts : List Addr} (h2 : C t = 2) (r : PdA K H0 H C vs ss ts) : t ∉ ts → PdA K H0 H (setC C t n) vs ss ts := by
  have e0 : ∀ b, C b = 0 → setC C t n b = 0 := fun b h => by
    rw [setC_ne (by intro z; rw [z] at h; omega)]; exact h
  induction r with
  | nil => exact fun _ => .nil
  | va r _ ih => exact fun h => .va (r.imp e0) (ih h)
  | @ow t' _ _ _ _ _ a b c d e _ ih => exact fun h => .ow a (by rw [setC_ne (fun z => h (by simp [z]))]; exact b) c (d.imp e0) e (ih fun z => h (List.mem_cons_of_mem _ z))
theorem SlotR.col {t : Addr} {n i : Nat} {o : Option (Option V)} {s : Sl} (h2 : C t = 2) (r : SlotR K np H C i o s) : SlotR K np H (setC C t n) i o s := by
  have e : ∀ b, C b ≠ 2 → setC C t n b = C b := fun b h => setC_ne (by intro z; rw [z] at h; exact h h2)
  cases r with
  | no => exact .no
  | va r => exact .va (r.imp fun b h => by rw [e b (by omega)]; exact h)
  | bo r => exact .bo (r.imp fun b h => by rw [e b (by omega)]; exact h)
  | ow a b c d => exact .ow a (by rw [e _ (by omega)]; exact b) (c.imp fun b h => by rw [e b (by omega)]; exact h) d
  | un r => exact .un (r.imp fun b h => by rw [e b (by omega)]; exact h)
  | sc h => exact .sc h
  | ob a b c d f => exact .ob a (by rw [e _ (by omega)]; exact b) c (d.move (fun b xs h1 h2 => ⟨h2, by rw [e b (by omega)]; exact h1⟩) fun _ _ h _ => h) f
  | dc a b c d => exact .dc a (by rw [e _ (by omega)]; exact b) c d
theorem Rel.col {t : Addr} {n : Nat} {σ : L2.St} {ρ : Slots} (h2 : C t = 2) (R : Rel K np H C σ ρ) : Rel K np H (setC C t n) σ ρ := ⟨R.len, fun i s h => (R.get i s h).col h2⟩
/-- the colours of what was there -/
def ColK (H : Hp) (C C' : Col) : Prop := ∀ b, H b ≠ none → C' b = C b
theorem Stp.recol {C2 : Col} (S : Stp np H C H1 C1) (h : ColK H C1 C2) : Stp np H C H1 C2 :=
  ⟨S.keep, S.there, fun b a c => by rw [h b a]; exact S.colo b a c, fun b a c => by rw [h b a]; exact S.colh b a c⟩
end
/-- a list of values and of new lists -/
abbrev MS := Slots → Re (List Sl × Slots)
def tM (K : PySem.W.Frag) (np : Fp) (EW : XW) (f : MS) : TA := fun σ H Q => ∃ C ρ, Rel K np H C σ ρ ∧
  wp (f ρ) (fun p => ∀ vs ts H' C', Stp np H C H' C' → Rel K np H' C' σ p.2 → PdA K H H' C' vs p.1 ts → Q vs H') (fun c => ∀ H' C', Stp np H C H' C' → EW c H')
abbrev DM (X : Cx) (np : Fp) (EW : XW) (es : List Expr) (f : MS) : Prop := PA X es (tM X.K np EW f)
def nilM : MS := fun ρ => .ok ([], ρ)
def vaM (fe : ES) (f : MS) : MS := fun ρ => (fe .va ρ).bind fun p => (f p.2).bind fun q => .ok (.va p.1 :: q.1, q.2)
def owM (fa : AS) (f : MS) : MS := fun ρ => (fa .va ρ).bind fun p => (f p.2).bind fun q => .ok (.ow p.1 :: q.1, q.2)
section
variable {X : Cx} {np : Fp} {EW : XW} {e : Expr} {es : List Expr} {fe : ES} {fa : AS} {f : MS} {pos : Pos}
theorem PA.weakM {t t' : TA} (h : PA X es t) (w : ∀ σ H Q, t' σ H Q → t σ H Q) : PA X es t' := ⟨fun sp pins s σ H Q I q => h.run sp pins s σ H Q I (w σ H Q q)⟩
theorem dm_nil : DM X np EW [] nilM := PA.weakM pa_nil fun σ H Q ⟨C, ρ, R, h⟩ => h [] [] H C .refl R .nil
theorem there_none {H H1 : Hp} (h : ∀ b, H b ≠ none → H1 b ≠ none) : ∀ b, H1 b = none → H b = none := fun b e => by
  cases q : H b with
  | none => rfl
  | some o => exact absurd e (h b (by rw [q]; simp))
theorem dm_va (h : DE X np EW e fe) (hr : DM X np EW es f) (hs : starEach (e :: es) X.env = (false, eval e X.env) :: starEach es X.env := by rfl) : DM X np EW (e :: es) (vaM fe f) :=
  PA.weakM (pa_cons h hr hs) fun σ H Q ⟨C, ρ, R, h⟩ => by
    refine ⟨.va, C, ρ, R, wp_mono (wp_bind.mp h) (fun p _ hp v H1 C1 A1 R1 r1 => ?_) fun c z => z⟩
    refine ⟨C1, p.2, R1, wp_mono (wp_bind.mp hp) (fun q _ hq vs ts H2 C2 S2 R2 r2 => ?_) fun c hc H' C' S => hc H' C' (A1.stp.trans S)⟩
    refine hq (v :: vs) ts H2 C2 (A1.stp.trans S2) R2 (.va ?_ (r2.start (there_none A1.stp.there)))
    have r1' : Rp X.K H1 (fun b => C1 b = 0) v p.1 := r1.imp fun b hb => by
      have hb' : Lv.va.okb (C1 b) = true := hb
      simpa [Lv.okb] using hb'
    exact r1'.move S2.mv0.1 S2.mv0.2
theorem dm_ow (h : DN X np EW e fa) (hr : DM X np EW es f) (hs : starEach (e :: es) X.env = (false, eval e X.env) :: starEach es X.env := by rfl) : DM X np EW (e :: es) (owM fa f) :=
  PA.weakM (pa_cons h hr hs) fun σ H Q ⟨C, ρ, R, h⟩ => by
    refine ⟨.va, C, ρ, R, wp_mono (wp_bind.mp h) (fun p _ hp t us H1 C1 A1 R1 ht r1 => ?_) fun c z => z⟩
    have P1 := pstp_new (C := C1) (o := .lst us) (n := 2) ht
    have S1 : Stp np H C _ _ := A1.stp.trans P1.stp
    refine ⟨setC C1 t 2, p.2, R1.pstp P1, wp_mono (wp_bind.mp hp) (fun q _ hq vs ts H2 C2 S2 R2 r2 => ?_) fun c hc H' C' S => hc H' C' (S1.trans S)⟩
    have hf : H t = none := there_none A1.stp.there t ht
    have ht1 : upd H1 t (.lst us) t = some (.lst us) := upd_same
    refine hq (.ref t :: vs) (t :: ts) H2 C2 (S1.trans S2) R2 (.ow (S2.keep _ _ ht1 (.inl (by rw [setC_same]; omega))) (by rw [S2.colo t (by rw [ht1]; simp) (by rw [setC_same]; omega), setC_same]) hf ?_ (fun z => ?_) (r2.start (there_none S1.there)))
    · have r1' : RpA X.K H1 (fun b => C1 b = 0) us p.1 := r1.imp fun b hb => by
        have hb' : Lv.va.okb (C1 b) = true := hb
        simpa [Lv.okb] using hb'
      exact (P1.rpA (P := fun c => c = 0) r1').move S2.mv0.1 S2.mv0.2
    · have := r2.fresh t z
      rw [ht1] at this; cases this
end
/-- .. stored at the names -/
def setM : Slots → List Nat → List Sl → Slots
  | ρ, i :: is, s :: ss => setM (ρ.set i s) is ss
  | ρ, _, _ => ρ
def okM (np : Nat) : List Nat → List Sl → Bool
  | [], [] => true
  | i :: is, .ow _ :: ss => decide (np ≤ i) && okM np is ss
  | _ :: is, _ :: ss => okM np is ss
  | _, _ => false
def setV : L2.St → List Nat → List V → L2.St
  | σ, i :: is, v :: vs => setV (σ.set i (some v)) is vs
  | σ, _, _ => σ
def mtS (np : Nat) (is : List Nat) (f : MS) : SS := fun ρ => (f ρ).to fun p => if okM np is p.1 then .nx (setM p.2 is p.1) else .bad
section
variable {K : PySem.W.Frag} {np : Fp} {H0 H : Hp}
theorem pd_set : ∀ {is : List Nat} {vs : List V} {ss : List Sl} {ts : List Addr} {C : Col} {σ : L2.St} {ρ : Slots}, PdA K H0 H C vs ss ts → Rel K np H C σ ρ → okM np.n is ss = true →
    ∃ C', ColK H0 C C' ∧ Rel K np H C' (setV σ is vs) (setM ρ is ss)
  | [], _, _, _, C, σ, ρ, .nil, R, _ => ⟨C, fun _ _ => rfl, R⟩
  | [], _, _, _, _, _, _, .va _ _, _, h => by simp [okM] at h
  | [], _, _, _, _, _, _, .ow _ _ _ _ _ _, _, h => by simp [okM] at h
  | _ :: _, _, _, _, _, _, _, .nil, _, h => by simp [okM] at h
  | i :: is, _, _, _, C, σ, ρ, @PdA.va _ _ _ _ v d vs ss ts r rr, R, h => by
    obtain ⟨C', k, R'⟩ := pd_set (is := is) rr (R.set (i := i) (.va r)) (by simpa [okM] using h)
    exact ⟨C', k, R'⟩
  | i :: is, _, _, _, C, σ, ρ, @PdA.ow _ _ _ _ t us ds vs ss ts a b c d e rr, R, h => by
    simp only [okM, Bool.and_eq_true, decide_eq_true_eq] at h
    have R2 : Rel K np H (setC C t (i + 3)) σ ρ := R.col b
    have R3 := R2.set (i := i) (v := .ref t) (s := .ow ds) (.ow a setC_same (d.imp fun x hx => by rw [setC_ne (by intro z; rw [z] at hx; omega)]; exact hx) fun z => by omega)
    obtain ⟨C', k, R'⟩ := pd_set (rr.col (n := i + 3) b e) R3 h.2
    refine ⟨C', fun x hx => ?_, R'⟩
    rw [k x hx, setC_ne]
    intro z; rw [z] at hx; exact hx c
end
section
variable {X : Cx} {np : Fp} {EW : XW} {es : List Expr} {f : MS} {pos : Pos}
theorem mt_end {σ : L2.St} {H H' : Hp} {C C' : Col} {Dn : Ends} {is : List Nat} {vs : List V} {p : List Sl × Slots} {ts : List Addr} (q : pst X.K np EW Dn H C (if okM np.n is p.1 then .nx (setM p.2 is p.1) else .bad)) (S : Stp np H C H' C') (R : Rel X.K np H' C' σ p.2) (r : PdA X.K H H' C' vs p.1 ts) : is.length = vs.length ∧ Dn.nx (setV σ is vs) H' := by
  by_cases h : okM np.n is p.1 = true
  · rw [if_pos h] at q
    obtain ⟨C2, k, R2⟩ := pd_set r R h
    refine ⟨?_, q _ _ _ (S.recol k) R2⟩
    rw [r.len]
    have key : ∀ (is : List Nat) (ss : List Sl), okM np.n is ss = true → is.length = ss.length := by
      intro is
      induction is with
      | nil => intro ss h; cases ss <;> simp [okM] at h ⊢
      | cons i is ih =>
        intro ss h
        cases ss with
        | nil => simp [okM] at h
        | cons s ss =>
          have : okM np.n is ss = true := by cases s <;> simp [okM] at h <;> first | exact h | exact h.2
          simp [ih ss this]
    exact key is p.1 h
  · rw [if_neg h] at q; exact q.elim
theorem ds_mt2 {i j : Nat} {x y : Str} {a b : Expr} {px py pt : Pos} {kt k2 pt2} (hc : X.calm = true) (hN : X.N.Nodup) (hi : X.N[i]? = some x) (hj : X.N[j]? = some y) (hij : i ≠ j)
    (hx : X.env.scope.names.lookup x = some .local) (hy : X.env.scope.names.lookup y = some .local) (ha : DM X np EW [a, b] f)
    (hw : swappedStores [.Tuple [.Name x px, .Name y py] kt pt] (.Tuple [a, b] k2 pt2) X.env = pure (some [x, y]))
    (hs : swapsWithSole [.Tuple [.Name x px, .Name y py] kt pt] (.Tuple [a, b] k2 pt2) pos.line X.env = pure false := by rfl) :
    DS X np EW (.Assign [.Tuple [.Name x px, .Name y py] kt pt] (.Tuple [a, b] k2 pt2) pos) (mtS np.n [i, j] f) :=
  PS.weak (ps_par hc hN hi hj hij hx hy ha hw hs) fun Dn σ H ⟨C, ρ, R, h⟩ => by
    unfold mtS at h
    refine ⟨C, ρ, R, ?_⟩
    cases e : f ρ with
    | bad => rw [e] at h; exact h.elim
    | ex c => rw [e] at h; exact h
    | ok p =>
      rw [e] at h
      intro vs ts H' C' S R' r
      obtain ⟨hl, q⟩ := mt_end h S R' r
      match vs, hl, q with
      | [v, w], _, q => exact ⟨v, w, rfl, q⟩
theorem ds_mt3 {i j l : Nat} {x y z : Str} {a b c : Expr} {px py pz pt : Pos} {kt k2 pt2} (hc : X.calm = true) (hN : X.N.Nodup) (hi : X.N[i]? = some x) (hj : X.N[j]? = some y) (hl : X.N[l]? = some z) (hij : i ≠ j) (hil : i ≠ l) (hjl : j ≠ l)
    (hx : X.env.scope.names.lookup x = some .local) (hy : X.env.scope.names.lookup y = some .local) (hz : X.env.scope.names.lookup z = some .local) (ha : DM X np EW [a, b, c] f)
    (hw : swappedStores [.Tuple [.Name x px, .Name y py, .Name z pz] kt pt] (.Tuple [a, b, c] k2 pt2) X.env = pure (some [x, y, z]))
    (hs : swapsWithSole [.Tuple [.Name x px, .Name y py, .Name z pz] kt pt] (.Tuple [a, b, c] k2 pt2) pos.line X.env = pure false := by rfl) :
    DS X np EW (.Assign [.Tuple [.Name x px, .Name y py, .Name z pz] kt pt] (.Tuple [a, b, c] k2 pt2) pos) (mtS np.n [i, j, l] f) :=
  PS.weak (ps_par3 hc hN hi hj hl hij hil hjl hx hy hz ha hw hs) fun Dn σ H ⟨C, ρ, R, h⟩ => by
    unfold mtS at h
    refine ⟨C, ρ, R, ?_⟩
    cases e : f ρ with
    | bad => rw [e] at h; exact h.elim
    | ex c => rw [e] at h; exact h
    | ok p =>
      rw [e] at h
      intro vs ts H' C' S R' r
      obtain ⟨hl, q⟩ := mt_end h S R' r
      match vs, hl, q with
      | [u, v, w], _, q => exact ⟨u, v, w, rfl, q⟩
/-- .. with names among them that an inner comprehension reads -/
def gVs (is : List Nat) : TGs := fun vs σ H Q => is.length = vs.length ∧ Q (setV σ is vs) H
theorem gvs_nil : PGs X [] (gVs []) := PGs.weak pgs_nil fun v σ H Q ⟨h, q⟩ => by
  cases v with
  | nil => exact ⟨rfl, q⟩
  | cons _ _ => cases h
theorem gvs_cons {i : Nat} {is : List Nat} {x : Str} {ts : List Expr} (hN : X.N.Nodup) (hi : X.N[i]? = some x) (hx : Loc X.env.scope x) (h2 : PGs X ts (gVs is)) (hf : X.fn x = true ∨ X.env.scope.names.lookup x = some .local := by first | exact .inl rfl | exact .inr rfl | assumption)
    (hs : (assignEach (.Name x pos :: ts) X.env).map (·.2) = assign (.Name x pos) X.env :: (assignEach ts X.env).map (·.2) := by rfl) : PGs X (.Name x pos :: ts) (gVs (i :: is)) :=
  PGs.weak (pgs_cons (pg_name hN hi hx hf) h2 hs) fun vs σ H Q ⟨h, q⟩ => by
    cases vs with
    | nil => cases h
    | cons v r => exact ⟨v, r, rfl, by simpa using h, q⟩
theorem ds_mt {ts : List Expr} {is : List Nat} {n kt k2 : _} {pt pt2 : Pos} (hc : X.calm = true) (ha : DM X np EW es f) (hg : PGs X ts (gVs is)) (hn : (assignEach ts X.env).length = n := by rfl) (hst : (assignEach ts X.env).findIdx? (·.1) = none := by rfl)
    (hl : is.length = n := by rfl)
    (hs : swapsWithSole [.Tuple ts kt pt] (.Tuple es k2 pt2) pos.line X.env = pure false := by rfl) (hw : swappedStores [.Tuple ts kt pt] (.Tuple es k2 pt2) X.env = pure none := by rfl) (h1 : (assignEach [.Tuple ts kt pt] X.env).map (·.2) = [assign (.Tuple ts kt pt) X.env] := by rfl) (hz : is.length ≤ sizeLine := by decide) :
    DS X np EW (.Assign [.Tuple ts kt pt] (.Tuple es k2 pt2) pos) (mtS np.n is f) :=
  PS.weak (ps_asg (pe_tup ha) (pg_tup hc hg hn hst) hs hw (h1 := h1)) fun Dn σ H ⟨C, ρ, R, h⟩ => by
    unfold mtS at h
    refine ⟨C, ρ, R, ?_⟩
    cases e : f ρ with
    | bad => rw [e] at h; exact h.elim
    | ex c => rw [e] at h; exact h
    | ok p =>
      rw [e] at h
      intro vs as H' C' S R' r
      have hvl : vs.length = is.length := by
        by_cases hk : okM np.n is p.1 = true
        · exact (mt_end h S R' r).1.symm
        · have h' : pst X.K np EW Dn H C (if okM np.n is p.1 then .nx (setM p.2 is p.1) else .bad) := h
          rw [if_neg hk] at h'; exact h'.elim
      refine ⟨by rw [hvl]; exact hz, fun t ht => ?_⟩
      have P := pstp_new (C := C') (o := .tup vs) (n := 0) ht
      obtain ⟨hl2, q⟩ := mt_end h (S.trans P.stp) (R'.pstp P) (r.stp (np := np) P.stp)
      exact ⟨t, vs, rfl, .inl (.inl upd_same), by rw [hvl, hl], hl2, q⟩
end
end
end Dm

namespace Dm
noncomputable section
open PySem PySem.Spec PyProof.Rows L2
/-! ### xs.extend(e), e a list of plain things -/
def exdS (L : Lv) (j : Nat) (fe : ES) : SS := fun ρ => if isOw ρ[j]? then (fe L ρ).to fun p => match p.1 with
  | .list zs => if noLs zs then owA p.2[j]? fun ds => if ds.length + zs.length ≤ sizeLine then .nx (p.2.set j (.ow (ds ++ zs))) else .bad else .bad
  | _ => .bad
  else .bad
section
variable {X : Cx} {np : Fp} {EW : XW} {e : Expr} {fe : ES} {pos : Pos}
theorem ds_extend (L : Lv) (j : Nat) {x : Str} {px apos : Pos} {cpos : Pos} (hj : PE X (.Name x px) (tVar j)) (h : DE X np EW e fe)
    (hs : swapsWith (.Call (.Attribute (.Name x px) "extend" apos) [e] [] cpos) none pos.line X.env = pure false := by rfl) (hst : starEach [e] X.env = (false, eval e X.env) :: starEach [] X.env := by rfl)
    (hpe : ∀ {t : TE}, PE X e t → PE X (.Call (.Attribute (.Name x px) "extend" apos) [e] [] cpos) (tBM X.K "list" rExtend (tVar j) (tCons t tNil))) :
    DS X np EW (.Expr (.Call (.Attribute (.Name x px) "extend" apos) [e] [] cpos) pos) (exdS L j fe) :=
  PS.weak (ps_expr (hpe h) hs) fun Dn σ H ⟨C, ρ, R, h⟩ => by
    obtain ⟨a, us, hs, ha, h⟩ := owm_pre R h
    refine ⟨.ref a, hs, .inl ⟨rfl, _, .inl (.inl ha)⟩, toE_of (L := L) R h fun p v H' C' A R' r q => ?_⟩
    obtain ⟨dp, ρp⟩ := p
    cases dp with
    | list zs =>
      simp only at q
      by_cases hn : noLs zs = true
      · rw [if_pos hn] at q
        obtain ⟨ds, e, q⟩ := owA_of q
        obtain ⟨a', us', hs', ha', hc', rr⟩ := ow_get R' e
        rw [hs] at hs'; cases hs'
        obtain ⟨b, ws, rfl, hb, _, rz⟩ := r.lst_inv
        by_cases hz : ds.length + zs.length ≤ sizeLine
        · rw [if_pos hz] at q
          refine ⟨a, b, us', ws, rfl, rfl, ha', hb, by rw [rr.len, rz.len]; exact hz, ?_⟩
          obtain ⟨S, R2⟩ := ow_upd R' ⟨ds, e⟩ hs ha' hc' (rr.app (rz.free hn))
          exact q _ _ _ S R2
        · rw [if_neg hz] at q; exact q.elim
      · rw [if_neg hn] at q; exact q.elim
    | _ => exact q.elim
end
end
end Dm

namespace Dm
noncomputable section
open PySem PySem.Spec PyProof.Rows L2
/-! ### dicts of one's own: ints to plain things -/
def putD (ds : List (Int × D)) (i : Int) (d : D) : List (Int × D) := if (ds.any fun p => decide (p.1 = i)) = true then ds.map (fun p => if p.1 = i then (p.1, d) else p) else ds ++ [(i, d)]
section
variable {K : PySem.W.Frag} {H : Hp}
theorem KvR.len {us : List (Key × V)} {ds : List (Int × D)} (r : KvR K H us ds) : us.length = ds.length := by
  induction r with
  | nil => rfl
  | cons _ _ _ ih => simp [ih]
theorem KvR.any {us : List (Key × V)} {ds : List (Int × D)} (r : KvR K H us ds) (i : Int) : (us.any fun p => decide (p.1 = .inl i)) = ds.any fun p => decide (p.1 = i) := by
  induction r with
  | nil => rfl
  | @cons j v d r s _ _ _ ih =>
    rw [List.any_cons, List.any_cons, ih]
    congr 1
    rw [Bool.eq_iff_iff, decide_eq_true_eq, decide_eq_true_eq]
    exact ⟨fun h => Sum.inl.inj h, fun h => by have h : j = i := h; subst h; rfl⟩
theorem KvR.map {us : List (Key × V)} {ds : List (Int × D)} (r : KvR K H us ds) {i : Int} {v : V} {d : D} (hn : noL d = true) (hr : Rp K H (fun _ => False) v d) :
    KvR K H (us.map fun kv => if kv.1 = (.inl i : Key) then (kv.1, v) else kv) (ds.map fun p => if p.1 = i then (p.1, d) else p) := by
  induction r with
  | nil => exact .nil
  | @cons j w e r s n1 r1 t ih =>
    rw [List.map_cons, List.map_cons]
    by_cases h : j = i
    · subst h
      rw [if_pos rfl, if_pos rfl]; exact .cons hn hr ih
    · rw [if_neg (fun z => h (Sum.inl.inj z)), if_neg h]; exact .cons n1 r1 ih
theorem KvR.app {us us2 : List (Key × V)} {ds ds2 : List (Int × D)} (r : KvR K H us ds) (r2 : KvR K H us2 ds2) : KvR K H (us ++ us2) (ds ++ ds2) := by
  induction r with
  | nil => exact r2
  | cons n r _ ih => exact .cons n r ih
theorem KvR.put {us : List (Key × V)} {ds : List (Int × D)} (r : KvR K H us ds) {i : Int} {v : V} {d : D} (hn : noL d = true) (hr : Rp K H (fun _ => False) v d) : KvR K H (putK us (.inl i) v) (putD ds i d) := by
  unfold putK putD
  rw [r.any i]
  split
  · exact r.map hn hr
  · exact r.app (.cons hn hr .nil)
def getD' (ds : List (Int × D)) (i : Int) : Option D := (ds.find? fun p => decide (p.1 = i)).map (·.2)
theorem KvR.val {us : List (Key × V)} {ds : List (Int × D)} (r : KvR K H us ds) (i : Int) : (valV us (.inl i)).isSome = (getD' ds i).isSome := by
  induction r with
  | nil => rfl
  | @cons j v d r s _ _ _ ih =>
    unfold getD'
    rw [List.find?_cons]
    by_cases h : j = i
    · subst h
      rw [valV_pos rfl]; simp
    · rw [valV_neg (fun z => h (Sum.inl.inj z)), ih]
      simp [h, getD']
end
abbrev KS := Lv → Slots → Re (List (Int × D) × Slots)
def tDN (K : PySem.W.Frag) (np : Fp) (EW : XW) (f : KS) : TE := fun σ H Q => ∃ L C ρ, Rel K np H C σ ρ ∧
  wp (f L ρ) (fun p => ∀ t us H' C', Aft np L ρ H C p.2 H' C' → Rel K np H' C' σ p.2 → H' t = none → KvR K H' us p.1 → Q (.ref t) (upd H' t (.dK us))) (fun c => ∀ H' C', Stp np H C H' C' → EW c H')
abbrev DDN (X : Cx) (np : Fp) (EW : XW) (e : Expr) (f : KS) : Prop := PE X e (tDN X.K np EW f)
def compD (ks L : Lv) (own : List Nat) (g : GS) (ke ve : ES) : List D → List (Int × D) → Slots → Re (List (Int × D) × Slots)
  | [], acc, ρ => .ok (acc, ρ)
  | d :: ds, acc, ρ => match g ks d ρ with
    | none => .bad
    | some ρ1 => (ke L ρ1).bind fun p => match p.1 with
      | .int i => (ve L p.2).bind fun q => if noL q.1 && decide (acc.length < sizeLine) then compD ks L own g ke ve ds (putD acc i q.1) (wiS q.2 own) else .bad
      | _ => .bad
def dcA (ks : Lv) (own : List Nat) (src : AS) (g : GS) (ke ve : ES) : KS := fun L ρ => if ks.pure == L.pure then (src ks ρ).bind fun p => if okO p.2 own then
    (noEx (compD ks L own g ke ve p.1 [] (wiS p.2 own))).bind fun r => .ok (r.1, reS p.2 r.2 own) else .bad else .bad
theorem dc_main {bb : Bool} {K : PySem.W.Frag} {np : Fp} {EW : XW} {ks : Lv} {own is : List Nat} {src : AS} {g : GS} {ke ve : ES} (hsub : ∀ i ∈ is, i ∈ own) (hoff : GOff is g) {σ : L2.St} {H : Hp} {Q : VK} (h : tDN K np EW (dcA ks own src g ke ve) σ H Q) :
    tDc (tI bb K np EW src) (tG bb K np is g) (tT K np noX yesT) (tE K np noX ke) (tE K np noX ve) own σ H Q := by
  obtain ⟨L, C, ρ, R, h⟩ := h
  unfold dcA at h
  by_cases hks : (ks.pure == L.pure) = true
  · rw [if_pos hks] at h
    have hpe : ks.pure = L.pure := by simpa using hks
    refine ⟨ks, C, ρ, R, wp_mono (wp_bind.mp h) (fun p _ hp J H1 C1 A1 R1 ok => ?_) fun _ z => z⟩
    by_cases ho : okO p.2 own = true
    · rw [if_pos ho] at hp
      have A1' : Aft np L ρ H C p.2 H1 C1 := ⟨A1.stp, fun z => A1.pu (by rw [hpe]; exact z)⟩
      intro T hT
      have aft : ∀ {H2 C2 ρ2}, Stp np H1 C1 H2 C2 → (L.pure = true → PStp H1 C1 H2 C2) → Aft np ks ρ2 H1 C1 ρ2 H2 C2 := fun S P => ⟨S, fun z => ⟨rfl, P (by rw [← hpe]; exact z)⟩⟩
      have ne_new : ∀ b, H1 b ≠ none → b ≠ T := fun b hb z => by subst z; exact hb hT
      refine ⟨fun i m H2 => ∃ C2 ρ2 us acc, m = p.1.length - i ∧ i ≤ p.1.length ∧ H2 T = some (.dK us) ∧ C2 T = 2 ∧ Stp np H1 C1 H2 C2 ∧ (L.pure = true → PStp H1 C1 H2 C2 ∧ ρ2 = wiS p.2 own) ∧ Rel K np H2 C2 (wipe σ own) ρ2 ∧
          KvR K H2 us acc ∧ wp (compD ks L own g ke ve (p.1.drop i) acc ρ2) (fun r => ∀ t us H' C', Aft np L ρ H C (reS p.2 r.2 own) H' C' → Rel K np H' C' σ (reS p.2 r.2 own) → H' t = none → KvR K H' us r.1 → Q (.ref t) (upd H' t (.dK us))) (fun _ => False), ?_, ?_⟩
      · have S0 := pstp_new (C := C1) (o := .dK []) (n := 2) hT
        refine ⟨_, setC C1 T 2, wiS p.2 own, [], [], rfl, Nat.zero_le _, upd_same, setC_same, S0.stp, fun _ => ⟨S0, rfl⟩, rel_wipe (R1.pstp S0) own, .nil, ?_⟩
        rw [List.drop_zero]
        exact wp_mono (wp_noEx (wp_bind.mp hp)) (fun r _ hr => hr) fun _ z => z
      · rintro i m H2 ⟨C2, ρ2, us, acc, rfl, hi, hD, hC, S2, P2, R2, ra, hw⟩
        have imm_ne : ∀ {H3 : Hp} {us : List (Key × V)}, H3 T = some (.dK us) → ∀ {b : Addr} {o : HO}, H3 b = some o → Imm o → b ≠ T := fun {H3 us} ht {b o} h im z => by subst z; rw [ht] at h; cases h; exact im
        by_cases hlt : i < p.1.length
        · refine .inr ⟨ok.go i H2 C2 ρ2 (aft S2 fun z => (P2 z).1) hlt, fun H5 => ∃ C5 ρ5 us5 acc5, H5 T = some (.dK us5) ∧ C5 T = 2 ∧ Stp np H1 C1 H5 C5 ∧ (L.pure = true → PStp H1 C1 H5 C5 ∧ ρ5 = wiS p.2 own) ∧ Rel K np H5 C5 (wipe σ own) ρ5 ∧
            KvR K H5 us5 acc5 ∧ wp (compD ks L own g ke ve (p.1.drop (i + 1)) acc5 ρ5) (fun r => ∀ t us H' C', Aft np L ρ H C (reS p.2 r.2 own) H' C' → Rel K np H' C' σ (reS p.2 r.2 own) → H' t = none → KvR K H' us r.1 → Q (.ref t) (upd H' t (.dK us))) (fun _ => False),
            fun H5 ⟨C5, ρ5, us5, acc5, a1, a2, a3, a4, a5, a6, a7⟩ => ⟨p.1.length - (i + 1), by omega, C5, ρ5, us5, acc5, rfl, hlt, a1, a2, a3, a4, a5, a6, a7⟩, fun x H3 hy => ?_⟩
          obtain ⟨d, hd⟩ : ∃ d, p.1[i]? = some d := ⟨p.1[i], by simp [hlt]⟩
          have hdrop : p.1.drop i = d :: p.1.drop (i + 1) := by
            rw [List.drop_eq_getElem_cons hlt]
            congr 1
            rw [List.getElem?_eq_getElem hlt] at hd
            exact Option.some.inj hd
          rw [hdrop, compD] at hw
          obtain ⟨S3, _, rx⟩ := ok.yld i H2 C2 ρ2 x H3 d (aft S2 fun z => (P2 z).1) hd hy
          have hD3 := S3.same T _ hD
          have ra3 : KvR K H3 us acc := ra.move fun b o h _ => S3.same b o h
          have S13 : Stp np H1 C1 H3 C2 := S2.trans S3.stp
          have P13 : L.pure = true → PStp H1 C1 H3 C2 ∧ ρ2 = wiS p.2 own := fun z => ⟨(P2 z).1.trans S3, (P2 z).2⟩
          cases eg : g ks d ρ2 with
          | none => simp only [eg] at hw; exact hw.elim
          | some ρ3 =>
            simp only [eg] at hw
            refine ⟨ks, C2, ρ2, d, ρ3, R2.pstp S3, rx, eg, fun σ4 R4 l4 k4 => ?_⟩
            have hwe : wipe σ4 own = wipe σ own := by
              have h1 := wipe_eq (σ := wipe σ own) (σ' := σ4) (vs := own) l4 fun k hk => k4 k fun z => hk (hsub k z)
              rw [h1]
              exact wipe_eq (wipe_length σ own) fun k hk => wipe_off hk
            have pur3 : L.pure = true → wiS ρ3 own = wiS p.2 own := fun z => by
              obtain ⟨o1, o2⟩ := hoff _ _ _ _ eg
              have h1 := wiS_eq (ρ := ρ2) (ρ' := ρ3) (vs := own) o1 fun k hk => o2 k fun z => hk (hsub k z)
              rw [h1, (P2 z).2]
              refine wiS_eq (wiS_len _ _) fun k hk => ?_
              by_cases hl : k < p.2.length
              · obtain ⟨s, hs⟩ : ∃ s, (wiS p.2 own)[k]? = some s := ⟨_, List.getElem?_eq_getElem (by rw [wiS_len]; exact hl)⟩
                rw [hs]
                rcases wiS_get hs with ⟨a, _⟩ | ⟨_, b⟩
                · exact absurd a hk
                · exact b.symm
              · rw [List.getElem?_eq_none (by rw [wiS_len]; omega), List.getElem?_eq_none (by omega)]
            refine ⟨hwe, L, C2, ρ3, R4, fun H4 C4 A4 R4' => ?_⟩
            refine iteT ⟨L, C4, ρ3, R4', wp_mono (wp_bind.mp hw) (fun q _ hq y H6 C6 A6 R6 ry => ?_) fun _ z => z.elim⟩
            have hD4 : H4 T = some (.dK us) := A4.stp.keep T _ hD3 (.inl (by rw [hC]; exact Nat.le_refl _))
            have hC4 : C4 T = 2 := by rw [A4.stp.colo T (by rw [hD3]; simp) (by rw [hC]; omega)]; exact hC
            have hD6 : H6 T = some (.dK us) := A6.stp.keep T _ hD4 (.inl (by rw [hC4]; exact Nat.le_refl _))
            have hC6 : C6 T = 2 := by rw [A6.stp.colo T (by rw [hD4]; simp) (by rw [hC4]; omega)]; exact hC4
            obtain ⟨q1, q2⟩ := q
            cases q1 with
            | int k =>
              simp only at hq
              obtain rfl := ry.int_inv
              refine ⟨L, C6, q2, R6, wp_mono (wp_bind.mp hq) (fun w _ hw2 z H8 C8 A8 R8 rz => ?_) fun _ z => z.elim⟩
              have hD8 : H8 T = some (.dK us) := A8.stp.keep T _ hD6 (.inl (by rw [hC6]; exact Nat.le_refl _))
              have hC8 : C8 T = 2 := by rw [A8.stp.colo T (by rw [hD6]; simp) (by rw [hC6]; omega)]; exact hC6
              by_cases hn : (noL w.1 && decide (acc.length < sizeLine)) = true
              · rw [if_pos hn] at hw2
                rw [Bool.and_eq_true, decide_eq_true_eq] at hn
                have ra8 : KvR K H8 us acc := ((ra3.move fun b o h im => A4.stp.keep b o h (.inr im)).move fun b o h im => A6.stp.keep b o h (.inr im)).move fun b o h im => A8.stp.keep b o h (.inr im)
                have S18 := ((S13.trans A4.stp).trans A6.stp).trans A8.stp
                refine ⟨us, .inl k, rfl, hD8, by rw [ra8.len]; exact hn.2, C8, wiS w.2 own, putK us (.inl k) z, putD acc k w.1, upd_same, hC8, ⟨fun b x h k' => ?_, fun b h => ?_, S18.colo, S18.colh⟩, fun z' => ⟨⟨fun b x h => ?_, fun b h => ?_⟩, ?_⟩, ?_, ?_, hw2⟩
                · rw [upd_ne (ne_new b (by rw [h]; simp))]; exact S18.keep b x h k'
                · rw [upd_ne (ne_new b h)]; exact S18.there b h
                · rw [upd_ne (ne_new b (by rw [h]; simp))]
                  exact ((((P13 z').1.trans (A4.pu z').2).trans (A6.pu z').2).trans (A8.pu z').2).same b x h
                · exact ((((P13 z').1.trans (A4.pu z').2).trans (A6.pu z').2).trans (A8.pu z').2).col b h
                · have e6 : q2 = ρ3 := (A6.pu z').1
                  rw [(A8.pu z').1, e6]; exact pur3 z'
                · have h7 := rel_wipe R8 own
                  rw [hwe] at h7
                  exact ⟨h7.len, fun j s es => (h7.get j s es).offc (Nat.le_refl 2) (by omega) (fun b xs hb h => by rw [upd_ne (fun z => by subst z; exact hb hC8)]; exact h) fun b o h im => by rw [upd_ne (imm_ne hD8 h im)]; exact h⟩
                · exact (ra8.put hn.1 (rz.free hn.1)).move fun b o h im => by rw [upd_ne (imm_ne hD8 h im)]; exact h
              · rw [if_neg hn] at hw2; exact hw2.elim
            | _ => exact hq.elim
        · have e : i = p.1.length := by omega
          subst e
          rw [List.drop_length, compD] at hw
          refine .inl ⟨ok.stop H2 C2 ρ2 (aft S2 fun z => (P2 z).1), ?_⟩
          have hq := hw T us (hidH H2 T) C2 ?_ ?_ hidH_same ?_
          · rw [hidH_upd hD] at hq; exact hq
          · refine ⟨A1'.stp.trans ⟨fun b x h k => ?_, fun b h => ?_, S2.colo, S2.colh⟩, fun z => ?_⟩
            · rw [hidH_ne (ne_new b (by rw [h]; simp))]; exact S2.keep b x h k
            · rw [hidH_ne (ne_new b h)]; exact S2.there b h
            · refine ⟨?_, (A1'.pu z).2.trans ⟨fun b x h => ?_, fun b h => ?_⟩⟩
              · show reS p.2 ρ2 own = ρ
                rw [(P2 z).2, reS_wiS]; exact (A1'.pu z).1
              · rw [hidH_ne (ne_new b (by rw [h]; simp))]; exact (P2 z).1.same b x h
              · exact (P2 z).1.col b h
          · have hlen : p.2.length = ρ2.length := by rw [← R1.len, ← R2.len, wipe_length]
            refine ⟨by rw [reS_len, ← hlen]; exact R1.len, fun j s es => ?_⟩
            rcases reS_get es with ⟨a, b⟩ | ⟨a, b⟩
            · subst b
              by_cases hj : j < p.2.length
              · have e5 : p.2[j]? = some (p.2.getD j .no) := by rw [List.getD_eq_getElem?_getD, List.getElem?_eq_getElem hj]; rfl
                have r5 := R1.get j _ e5
                have o5 := List.all_eq_true.mp ho j a
                rw [e5] at o5
                generalize p.2.getD j .no = s5 at r5 o5
                generalize σ[j]? = o at r5 ⊢
                have mvl : ∀ {Pc : Nat → Prop} {v : V} {d : D}, (∀ k, Pc k → k ≤ 1) → Rp K H1 (fun b => Pc (C1 b)) v d → Rp K (hidH H2 T) (fun b => Pc (C2 b)) v d := fun {Pc v d} hp r =>
                  r.move (fun b xs pb h => ⟨by rw [hidH_ne (ne_new b (by rw [h]; simp))]; exact S2.keep b _ h (.inl (by have := hp _ pb; omega)), by rw [S2.colo b (by rw [h]; simp) (by have := hp _ pb; omega)]; exact pb⟩) fun b o h im => by
                    rw [hidH_ne (ne_new b (by rw [h]; simp))]; exact S2.keep b o h (.inr im)
                cases r5 with
                | no => exact .no
                | va r => exact .va (mvl (Pc := fun k => k = 0) (fun k h => by omega) r)
                | bo r => exact .bo (mvl (Pc := fun k => k ≤ 1) (fun k h => by omega) r)
                | ow _ _ _ _ => cases o5
                | un _ => cases o5
                | sc _ => cases o5
                | ob _ _ _ _ _ => cases o5
                | dc _ _ _ _ => cases o5
              · have e5 : p.2.getD j .no = .no := by rw [List.getD_eq_getElem?_getD, List.getElem?_eq_none (by omega)]; rfl
                rw [e5]; exact .no
            · have r5 := R2.get j s b
              rw [wipe_off a] at r5
              exact r5.offc (Nat.le_refl 2) (by omega) (fun b xs hb h => by rw [hidH_ne (fun z => by subst z; exact hb hC)]; exact h) fun b o h im => by rw [hidH_ne (imm_ne hD h im)]; exact h
          · exact ra.move fun b o h im => by rw [hidH_ne (imm_ne hD h im)]; exact h
    · rw [if_neg ho] at hp; exact hp.elim
  · rw [if_neg hks] at h; exact h.elim
section
variable {X : Cx} {np : Fp} {EW : XW} {e e2 kx vx tg iter : Expr} {fe ke ve : ES} {p pos : Pos} {scope : Scope} {own : List (Str × Nat)} {src : AS} {g : GS} {is : List Nat}
theorem dd_dc (ks : Lv) (hc : X.calm = true) (hN : X.N.Nodup) (hi : DI X np EW tg iter src) (ok : BlkOk X.N X.env.scope scope own) (hsub : ∀ i ∈ is, i ∈ own.map (·.2)) (hoff : GOff is g)
    (hg : ∀ (s : Shared) (H : Hp) (C : Addr) (cl : List (Str × Addr)) (fp : List Addr), DG (X.blk s H scope (compEnvC scope cl C X.env) fp) np tg is g)
    (hk : ∀ (s : Shared) (H : Hp) (C : Addr) (cl : List (Str × Addr)) (fp : List Addr), DE (X.blk s H scope (compEnvC scope cl C X.env) fp) np noX kx ke)
    (hv : ∀ (s : Shared) (H : Hp) (C : Addr) (cl : List (Str × Addr)) (fp : List Addr), DE (X.blk s H scope (compEnvC scope cl C X.env) fp) np noX vx ve) (hs : ∀ x, foldedSetIterable iter X.env x = pure x := by intro _; rfl) :
    DDN X np EW (.DictComp kx vx [⟨tg, iter, [], 0⟩] scope pos) (dcA ks (own.map (·.2)) src g ke ve) :=
  PE.weak (pe_dc hc hN hi ok hg (fun _ _ _ _ _ => dts_nil) hk hv hs) fun σ H Q h => dc_main hsub hoff h
/-- x = {.. for ..} -/
def dcS (np i : Nat) (f : KS) : SS := fun ρ => if np ≤ i then (f .va ρ).to fun p => .nx (p.2.set i (.dc p.1)) else .bad
theorem ds_dc {i : Nat} {x : Str} {pos' : Pos} {f : KS} (hN : X.N.Nodup) (hi : X.N[i]? = some x) (hx : Loc X.env.scope x) (h : DDN X np EW e f) (hs : swapsWith e (some (.Name x pos')) pos.line X.env = pure false := by rfl)
    (hf : X.fn x = true ∨ X.env.scope.names.lookup x = some .local := by first | exact .inl rfl | exact .inr rfl | assumption) : DS X np EW (.Assign [.Name x pos'] e pos) (dcS np.n i f) :=
  PS.weak (ps_set hN hi hx h hs hf) fun Dn σ H ⟨C, ρ, R, h⟩ => by
    unfold dcS at h
    by_cases hn : np.n ≤ i
    · rw [if_pos hn] at h
      refine ⟨.va, C, ρ, R, ?_⟩
      cases e : f .va ρ with
      | bad => rw [e] at h; exact h.elim
      | ex c => rw [e] at h; exact h
      | ok p =>
        rw [e] at h
        intro t us H' C' A R' ht r
        have S := pstp_new (C := C') (o := .dK us) (n := i + 3) ht
        refine h _ _ _ (A.stp.trans S.stp) ((R'.pstp S).set (.dc upd_same setC_same (r.move fun b o h _ => S.same b o h) fun z => by omega))
    · rw [if_neg hn] at h; exact h.elim
/-- an int in a dict of one's own -/
def inDcE (neg : Bool) (fe : ES) (j : Nat) : ES := fun L ρ => (fe L ρ).bind fun p => match p.1 with
  | .int i => (match p.2[j]? with
    | some (.dc ds) => .ok (.bool (if neg then !(getD' ds i).isSome else (getD' ds i).isSome), p.2)
    | _ => .bad)
  | _ => .bad
theorem notin_core {K : PySem.W.Frag} {σ : L2.St} {H : Hp} {Q : VK} {j : Nat} (h : tE K np EW (inDcE true fe j) σ H Q) : tDNotIn (tE K np EW fe) (tVar j) σ H Q := by
  obtain ⟨L, C, ρ, R, h⟩ := h
  refine tE_of R h fun p v H1 C1 A1 R1 r1 h1 => ?_
  obtain ⟨d, ρ1⟩ := p
  cases d with
  | int i =>
    simp only at h1
    obtain rfl := r1.int_inv
    cases e5 : ρ1[j]? with
    | none => rw [e5] at h1; exact h1.elim
    | some s =>
      rw [e5] at h1
      cases s with
      | dc ds =>
        have r5 := R1.get j _ e5
        generalize ho : σ[j]? = o at r5
        cases r5 with
        | dc ha hc kr pn =>
          refine ⟨_, ho, _, _, rfl, DGet.k (k := .inl i) ha, ?_⟩
          rw [kr.val i]
          exact h1 _ H1 C1 A1 R1 (.bl _)
      | _ => exact h1.elim
  | _ => exact h1.elim
theorem de_notinDc {k j : Nat} (hr : Room k X.A) (ha : DE X np EW e fe) (hj : PE X e2 (tVar j)) (hm : behindInMarks .NotIn e2 = false := by rfl) : DE X np EW (.Compare e [.NotIn] [e2] pos) (inDcE true fe j) :=
  PE.weak (pe_cmp (pc_dnotin (by have := room65 hr; omega) ha hj) hm) fun σ H Q h => notin_core h
theorem dt_notinDc {k j : Nat} (hr : Room k X.A) (ha : DE X np EW e fe) (hj : PE X e2 (tVar j)) (hm : behindInMarks .NotIn e2 = false := by rfl) : DT X np EW (.Compare e [.NotIn] [e2] pos) (asT (inDcE true fe j)) :=
  PT.weak (pt_cmp (pc_dnotin (by have := room65 hr; omega) ha hj) hm) fun σ H Q ⟨L, C, ρ, R, h⟩ => by
    refine notin_core ⟨L, C, ρ, R, wp_mono (wp_bind.mp h) (fun p _ hp v H' C' A R' r' => ?_) fun c z => z⟩
    obtain ⟨d, ρ'⟩ := p
    cases d with
    | bool b => cases r'; exact ⟨b, rfl, hp H' C' A R'⟩
    | _ => exact hp.elim
theorem in_core {K : PySem.W.Frag} {σ : L2.St} {H : Hp} {Q : VK} {j : Nat} (h : tE K np EW (inDcE false fe j) σ H Q) : tDIn (tE K np EW fe) (tVar j) σ H Q := by
  obtain ⟨L, C, ρ, R, h⟩ := h
  refine tE_of R h fun p v H1 C1 A1 R1 r1 h1 => ?_
  obtain ⟨d, ρ1⟩ := p
  cases d with
  | int i =>
    simp only at h1
    obtain rfl := r1.int_inv
    cases e5 : ρ1[j]? with
    | none => rw [e5] at h1; exact h1.elim
    | some s =>
      rw [e5] at h1
      cases s with
      | dc ds =>
        have r5 := R1.get j _ e5
        generalize ho : σ[j]? = o at r5
        cases r5 with
        | dc ha hc kr pn =>
          refine ⟨_, ho, _, _, rfl, DGet.k (k := .inl i) ha, ?_⟩
          rw [kr.val i]
          exact h1 _ H1 C1 A1 R1 (.bl _)
      | _ => exact h1.elim
  | _ => exact h1.elim
theorem de_inDc {k j : Nat} (hr : Room k X.A) (ha : DE X np EW e fe) (hj : PE X e2 (tVar j)) (hm : behindInMarks .In e2 = false := by rfl) : DE X np EW (.Compare e [.In] [e2] pos) (inDcE false fe j) :=
  PE.weak (pe_cmp (pc_din (by have := room65 hr; omega) ha hj) hm) fun σ H Q h => in_core h
theorem dt_inDc {k j : Nat} (hr : Room k X.A) (ha : DE X np EW e fe) (hj : PE X e2 (tVar j)) (hm : behindInMarks .In e2 = false := by rfl) : DT X np EW (.Compare e [.In] [e2] pos) (asT (inDcE false fe j)) :=
  PT.weak (pt_cmp (pc_din (by have := room65 hr; omega) ha hj) hm) fun σ H Q ⟨L, C, ρ, R, h⟩ => by
    refine in_core ⟨L, C, ρ, R, wp_mono (wp_bind.mp h) (fun p _ hp v H' C' A R' r' => ?_) fun c z => z⟩
    obtain ⟨d, ρ'⟩ := p
    cases d with
    | bool b => cases r'; exact ⟨b, rfl, hp H' C' A R'⟩
    | _ => exact hp.elim
/-- at a level without effects -/
def dvA (f : KS) : KS := fun L ρ => f L.toP ρ
theorem dd_lv {f : KS} (h : DDN X np EW e f) : DDN X np EW e (dvA f) := PE.weak h fun σ H Q ⟨L, C, ρ, R, h⟩ =>
  ⟨L.toP, C, ρ, R, wp_mono h (fun p _ hp t us H' C' A R' ht r => hp t us H' C' A.ofP R' ht r) fun c z => z⟩
end
section
variable {np i j : Nat} {f : KS} {ρ : Slots} {L ks : Lv} {own : List Nat} {src : AS} {g : GS} {ke ve fe : ES} {neg : Bool}
@[simp] theorem ev_dcS : dcS np i f ρ = if np ≤ i then (f .va ρ).to fun p => .nx (p.2.set i (.dc p.1)) else .bad := Eq.trans rfl rfl
@[simp] theorem ev_dvA : dvA f L ρ = f L.toP ρ := Eq.trans rfl rfl
@[simp] theorem ev_dcA : dcA ks own src g ke ve L ρ = if ks.pure == L.pure then (src ks ρ).bind fun p => if okO p.2 own then
    (noEx (compD ks L own g ke ve p.1 [] (wiS p.2 own))).bind fun r => .ok (r.1, reS p.2 r.2 own) else .bad else .bad := Eq.trans rfl rfl
@[simp] theorem ev_inDcE : inDcE neg fe j L ρ = (fe L ρ).bind fun p => match p.1 with
  | .int i => (match p.2[j]? with
    | some (.dc ds) => .ok (.bool (if neg then !(getD' ds i).isSome else (getD' ds i).isSome), p.2)
    | _ => .bad)
  | _ => .bad := Eq.trans rfl rfl
end
/-- {k: v for ..} that gives every item a key -/
theorem compD_put {α : Type} {ks L : Lv} {own : List Nat} {g : GS} {ke ve : ES} {e : α → D} {ρ0 : Slots} (kf : α → Int) (vf : α → D) : ∀ (l : List α) (acc : List (Int × D)),
    (∀ a ∈ l, ∃ ρ1, g ks (e a) ρ0 = some ρ1 ∧ wiS ρ1 own = ρ0 ∧ ke L ρ1 = .ok (.int (kf a), ρ1) ∧ ve L ρ1 = .ok (vf a, ρ1) ∧ noL (vf a) = true) → acc.length + l.length ≤ sizeLine →
    compD ks L own g ke ve (l.map e) acc ρ0 = .ok (l.foldl (fun c a => putD c (kf a) (vf a)) acc, ρ0)
  | [], acc, _, _ => rfl
  | a :: r, acc, h, hl => by
    obtain ⟨ρ1, h1, h2, h3, h4, h5⟩ := h a (List.mem_cons_self ..)
    rw [List.length_cons] at hl
    have pl : (putD acc (kf a) (vf a)).length ≤ acc.length + 1 := by
      unfold putD; split <;> simp
    rw [List.map_cons, compD, h1]
    simp only [h3, bind_ok, h4]
    rw [if_pos (by rw [h5, decide_eq_true (by omega)]; rfl), h2]
    exact compD_put kf vf r _ (fun x hx => h x (List.mem_cons_of_mem _ hx)) (by omega)
theorem getD_put {ds : List (Int × D)} {i j : Int} {d : D} : (getD' (putD ds i d) j).isSome = (decide (j = i) || (getD' ds j).isSome) := by
  have e : ∀ (ds : List (Int × D)) (j : Int), (getD' ds j).isSome = ds.any fun p => decide (p.1 = j) := fun ds j => by
    unfold getD'
    rw [Option.isSome_map, List.isSome_find?]
  rw [e, e]
  unfold putD
  split
  · rename_i h
    rw [List.any_map]
    have : ((fun p : Int × D => decide (p.1 = j)) ∘ fun p => if p.1 = i then (p.1, d) else p) = fun p => decide (p.1 = j) := by
      funext p
      simp only [Function.comp]
      split <;> rfl
    rw [this]
    by_cases z : j = i
    · subst z; rw [h]; simp
    · simp [z]
  · rw [List.any_append]
    by_cases z : j = i
    · subst z; simp
    · have : ¬ i = j := fun w => z w.symm
      simp [z, this]
theorem getD_fold {α : Type} {kf : α → Int} {vf : α → D} {j : Int} : ∀ {l : List α} {acc : List (Int × D)}, (getD' (l.foldl (fun c a => putD c (kf a) (vf a)) acc) j).isSome = (l.any (fun a => decide (j = kf a)) || (getD' acc j).isSome)
  | [], acc => by simp
  | a :: r, acc => by
    rw [List.foldl_cons, getD_fold, getD_put, List.any_cons]
    cases decide (j = kf a) <;> cases (r.any fun a => decide (j = kf a)) <;> simp
end
end Dm

namespace Dm
noncomputable section
open PySem PySem.Spec PyProof.Rows L2
/-! ### x = {.. for ..} on one line -/
section
variable {X : Cx}
theorem ps_setDc {i : Nat} {y : Str} {py : Pos} {kx vx tg iter : Expr} {ifs : List Expr} {scope : Scope} {own : List (Str × Nat)} {pos spos : Pos} {wi : TI} {g : TG} {tt : TT} {tk tv : TE} (hc : X.calm = true) (hN : X.N.Nodup) (hy : X.N[i]? = some y) (hyl : X.env.scope.names.lookup y = some .local)
    (hsw : swapsWith (.DictComp kx vx [⟨tg, iter, ifs, 0⟩] scope pos) (some (.Name y py)) spos.line X.env = pure true) (hi : PI X tg iter wi) (ok : BlkOk X.N X.env.scope scope own)
    (hg : ∀ (s : Shared) (H : Hp) (C : Addr) (cl : List (Str × Addr)) (fp : List Addr), PG (X.blk s H scope (compEnvC scope cl C X.env) fp) tg g) (ht : ∀ (s : Shared) (H : Hp) (C : Addr) (cl : List (Str × Addr)) (fp : List Addr), PTs (X.blk s H scope (compEnvC scope cl C X.env) fp) ifs tt)
    (hk : ∀ (s : Shared) (H : Hp) (C : Addr) (cl : List (Str × Addr)) (fp : List Addr), PE (X.blk s H scope (compEnvC scope cl C X.env) fp) kx tk)
    (he : ∀ (s : Shared) (H : Hp) (C : Addr) (cl : List (Str × Addr)) (fp : List Addr), PE (X.blk s H scope (compEnvC scope cl C X.env) fp) vx tv) (hs : ∀ x, foldedSetIterable iter X.env x = pure x := by intro _; rfl) :
    PS X (.Assign [.Name y py] (.DictComp kx vx [⟨tg, iter, ifs, 0⟩] scope pos) spos) (tAsg (tDc wi g tt tk tv (own.map (·.2))) (gName i)) := by
  refine ⟨fun pins s σ H D I h => ?_⟩
  rw [exec_Assign_Name_used _ _ _ _ hsw]
  refine wpAny_bind (wpAny_standAt (wpAny_bind ?_))
  show wpAny _ X.A (do let _ ← comprehension (.DictComp kx vx [⟨tg, iter, ifs, 0⟩] scope pos) scope X.env (firstIterPos [⟨tg, iter, ifs, 0⟩] pos) newDict false (eval iter X.env) (some (assign (.Name y py) X.env))) _ _ s
  have h : tDc wi g tt tk tv (own.map (·.2)) σ H (fun x H1 => gName i x σ H1 D.nx) := h
  refine wpAny_bind (thn (dc_core (Qf := fun _ s' => SP X pins D .next s') hc hN I hi ok hg ht hk he hs h fun L C s' m H' I' q hn f => ?_) fun _ s' hq => wpAny_pure (wpAny_pure hq))
  show wpAny _ _ (assign (.Name y py) X.env (.ref L)) _ _ _
  refine wpAny_assign_Name (store_ok2 (v := V.ref L) I' hN hy (.inl hyl) rfl (fun s2 I2 ⟨a, sb, ha⟩ => ?_) (.inr hyl))
  obtain ⟨f0, f1, f2, f3, f4, f5⟩ := f
  have haC : C ≠ a := by
    rcases ha with z | z
    · rw [z]; exact f1
    · exact fun e => f4 y a z e.symm
  refine ⟨m, hn.sameBut sb haC, fun h3 sb3 => ?_⟩
  exact ⟨_, H', I2.turned (t' := s2.toks) (fun b o hb e => (sb3.2 b hb).trans e) f0 f1 f3 f4 f5, q⟩
theorem sw_trueD {kx vx : Expr} {gs : List Comprehension} {scope : Scope} {pos py : Pos} {y : Str} {l : Nat} {env : Env} (hk : env.scope.kind = .function) (hy : env.scope.names.lookup y = some .local) (hl : (py.line == pos.line) = true)
    (ha : (scope.names.any fun (n, k) => n == y && (k == .local || k == .cell)) = false) : swapsWith (.DictComp kx vx gs scope pos) (some (.Name y py)) l env = pure true := by
  have ky : env.kindOf y = some .local := hy
  have hb : env.blockKind = .function := by unfold Env.blockKind; rw [hk]; rfl
  unfold swapsWith
  simp only [hb, ky, ha, Expr.pos, hl]
  rfl
end
theorem ds_asg_dc {X : Cx} {np : Fp} {EW : XW} {st : Stmt} {t : TE} {i : Nat} {f : KS} (h : PS X st (tAsg t (gName i))) (w : ∀ σ H Q, tDN X.K np EW f σ H Q → t σ H Q) : DS X np EW st (dcS np.n i f) :=
  PS.weak h fun Dn σ H ⟨C, ρ, R, h⟩ => by
    unfold dcS at h
    by_cases hn : np.n ≤ i
    · rw [if_pos hn] at h
      refine w σ H _ ⟨.va, C, ρ, R, ?_⟩
      cases e : f .va ρ with
      | bad => rw [e] at h; exact h.elim
      | ex c => rw [e] at h; exact h
      | ok p =>
        rw [e] at h
        intro t us H' C' A R' ht r
        have S := pstp_new (C := C') (o := .dK us) (n := i + 3) ht
        refine h _ _ _ (A.stp.trans S.stp) ((R'.pstp S).set (.dc upd_same setC_same (r.move fun b o h _ => S.same b o h) fun z => by omega))
    · rw [if_neg hn] at h; exact h.elim
theorem tDN_lv {K : PySem.W.Frag} {np : Fp} {EW : XW} {f : KS} {σ : L2.St} {H : Hp} {Q : VK} (h : tDN K np EW (dvA f) σ H Q) : tDN K np EW f σ H Q := by
  obtain ⟨L, C, ρ, R, h⟩ := h
  exact ⟨L.toP, C, ρ, R, wp_mono h (fun p _ hp t us H' C' A R' ht r => hp t us H' C' A.ofP R' ht r) fun c z => z⟩
end
end Dm

namespace Dm
noncomputable section
open PySem PySem.Spec PyProof.Rows L2
/-! ### [.. for x in xs for y in range(n)] -/
def compR (ks L : Lv) (own : List Nat) (g : GS) (fe : ES) (i1 : Nat) (el : ES) : List D → Slots → Re (List D × Slots)
  | [], ρ => .ok ([], ρ)
  | d :: ds, ρ => match g ks d ρ with
    | none => .bad
    | some ρ1 => (fe L ρ1).bind fun p => match p.1 with
      | .int j => if fit62 j then (compF L L [i1] (nmG i1) yesT el (rgD 0 j.toNat) (wiS p.2 [i1])).bind fun q => (compR ks L own g fe i1 el ds (wiS q.2 own)).bind fun r => .ok (q.1 ++ r.1, r.2) else .bad
      | _ => .bad
def lrcA (ks : Lv) (own : List Nat) (src : AS) (g : GS) (fe : ES) (i1 : Nat) (el : ES) : AS := fun L ρ => if ks.pure && L.pure && decide (L ≠ .an) then (src ks ρ).bind fun p => if okO p.2 own then
    (noEx (compR ks L own g fe i1 el p.1 (wiS p.2 own))).bind fun r => if r.1.length ≤ sizeLine then .ok (r.1, reS p.2 r.2 own) else .bad else .bad else .bad
theorem wiS_one {ρ ρ' : Slots} {own : List Nat} (hl : ρ'.length = ρ.length) (h : ∀ k, k ∉ own → ρ'[k]? = ρ[k]?) : wiS ρ' own = wiS ρ own := wiS_eq hl h
theorem wiS_idem (ρ : Slots) (own : List Nat) {vs : List Nat} (h : ∀ i ∈ vs, i ∈ own) : wiS (wiS ρ vs) own = wiS ρ own :=
  wiS_eq (wiS_len _ _) fun k hk => by
    by_cases hl : k < ρ.length
    · obtain ⟨s, hs⟩ : ∃ s, (wiS ρ vs)[k]? = some s := ⟨_, List.getElem?_eq_getElem (by rw [wiS_len]; exact hl)⟩
      rw [hs]
      rcases wiS_get hs with ⟨a, _⟩ | ⟨_, b⟩
      · exact absurd (h k a) hk
      · exact b.symm
    · rw [List.getElem?_eq_none (by rw [wiS_len]; omega), List.getElem?_eq_none (by omega)]
theorem wipe_sub {σ : L2.St} {vs own : List Nat} (h : ∀ i ∈ vs, i ∈ own) : wipe (wipe σ vs) own = wipe σ own :=
  wipe_eq (wipe_length σ vs) fun k hk => wipe_off fun z => hk (h k z)
theorem lrc_main {bb : Bool} {K : PySem.W.Frag} {np : Fp} {EW : XW} {ks : Lv} {own is : List Nat} {src : AS} {g : GS} {fe el : ES} {i1 : Nat} (hsub : ∀ i ∈ is, i ∈ own) (hi1 : i1 ∈ own) (hoff : GOff is g) {σ : L2.St} {H : Hp} {Q : VK} (h : tN K np EW (lrcA ks own src g fe i1 el) σ H Q) :
    tLc2 (tI bb K np EW src) (tG bb K np is g) (tT K np noX yesT) (iRng1 (tCons (tE K np noX fe) tNil)) (gName i1) (tT K np noX yesT) (tE K np noX el) own [i1] σ H Q := by
  obtain ⟨L, C, ρ, R, h⟩ := h
  unfold lrcA at h
  by_cases hks : (ks.pure && L.pure && decide (L ≠ .an)) = true
  · rw [if_pos hks] at h
    simp only [Bool.and_eq_true, decide_eq_true_eq] at hks
    obtain ⟨⟨hkp, hLp⟩, hLa⟩ := hks
    refine ⟨ks, C, ρ, R, wp_mono (wp_bind.mp h) (fun p _ hp J H1 C1 A1 R1 ok => ?_) fun _ z => z⟩
    by_cases ho : okO p.2 own = true
    · rw [if_pos ho] at hp
      obtain ⟨e0, P1⟩ := A1.pu hkp
      intro T hT
      have aft : ∀ {H2 C2 ρ2}, PStp H1 C1 H2 C2 → Aft np ks ρ2 H1 C1 ρ2 H2 C2 := fun P => ⟨P.stp, fun z => ⟨rfl, P⟩⟩
      have ne_new : ∀ b, H1 b ≠ none → b ≠ T := fun b hb z => by subst z; exact hb hT
      have imm_ne : ∀ {H3 : Hp} {us : List V}, H3 T = some (.lst us) → ∀ {b : Addr} {o : HO}, H3 b = some o → Imm o → b ≠ T := fun {H3 us} ht {b o} h im z => by subst z; rw [ht] at h; cases h; exact im
      -- what the end wants
      let Fin : List D → Slots → Prop := fun ds ρf => ds.length ≤ sizeLine ∧ ∀ t vs H' C', Aft np L ρ H C (reS p.2 ρf own) H' C' → Rel K np H' C' σ (reS p.2 ρf own) → H' t = none → RpA K H' (Cof C' L) vs ds → Q (.ref t) (upd H' t (.lst vs))
      refine ⟨fun i m H2 => ∃ C2 acc dacc, m = p.1.length - i ∧ i ≤ p.1.length ∧ H2 T = some (.lst acc) ∧ C2 T = 2 ∧ PStp H1 C1 H2 C2 ∧ Rel K np H2 C2 (wipe σ own) (wiS p.2 own) ∧
          RpA K H2 (fun b => Cof C2 L b ∧ b ≠ T) acc dacc ∧ wp (compR ks L own g fe i1 el (p.1.drop i) (wiS p.2 own)) (fun r => Fin (dacc ++ r.1) r.2) (fun _ => False), ?_, ?_⟩
      · have S0 := pstp_new (C := C1) (o := .lst []) (n := 2) hT
        refine ⟨_, setC C1 T 2, [], [], rfl, Nat.zero_le _, upd_same, setC_same, S0, rel_wipe (R1.pstp S0) own, .nil, ?_⟩
        rw [List.drop_zero]
        refine wp_mono (wp_noEx (wp_bind.mp hp)) (fun r _ hr => ?_) fun _ z => z
        by_cases hz : r.1.length ≤ sizeLine
        · rw [if_pos hz] at hr
          exact ⟨hz, hr⟩
        · rw [if_neg hz] at hr; exact hr.elim
      · rintro i m H2 ⟨C2, acc, dacc, rfl, hi, hD, hC, P2, R2, ra, hw⟩
        by_cases hlt : i < p.1.length
        · refine .inr ⟨ok.go i H2 C2 (wiS p.2 own) (aft P2) hlt, fun H5 => ∃ C5 acc5 dacc5, H5 T = some (.lst acc5) ∧ C5 T = 2 ∧ PStp H1 C1 H5 C5 ∧ Rel K np H5 C5 (wipe σ own) (wiS p.2 own) ∧
            RpA K H5 (fun b => Cof C5 L b ∧ b ≠ T) acc5 dacc5 ∧ wp (compR ks L own g fe i1 el (p.1.drop (i + 1)) (wiS p.2 own)) (fun r => Fin (dacc5 ++ r.1) r.2) (fun _ => False),
            fun H5 ⟨C5, acc5, dacc5, a1, a2, a3, a4, a5, a6⟩ => ⟨p.1.length - (i + 1), by omega, C5, acc5, dacc5, rfl, hlt, a1, a2, a3, a4, a5, a6⟩, fun x H3 hy => ?_⟩
          obtain ⟨d, hd⟩ : ∃ d, p.1[i]? = some d := ⟨p.1[i], by simp [hlt]⟩
          have hdrop : p.1.drop i = d :: p.1.drop (i + 1) := by
            rw [List.drop_eq_getElem_cons hlt]
            congr 1
            rw [List.getElem?_eq_getElem hlt] at hd
            exact Option.some.inj hd
          rw [hdrop, compR] at hw
          obtain ⟨S3, _, rx⟩ := ok.yld i H2 C2 (wiS p.2 own) x H3 d (aft P2) hd hy
          have hD3 := S3.same T _ hD
          have ra3 := ra.move (H' := H3) (P' := fun b => Cof C2 L b ∧ b ≠ T) (fun b xs pb h => ⟨S3.same b _ h, pb⟩) fun b o h _ => S3.same b o h
          have P13 : PStp H1 C1 H3 C2 := P2.trans S3
          cases eg : g ks d (wiS p.2 own) with
          | none => simp only [eg] at hw; exact hw.elim
          | some ρ3 =>
            simp only [eg] at hw
            refine ⟨ks, C2, wiS p.2 own, d, ρ3, R2.pstp S3, rx, eg, fun σ4 R4 l4 k4 => ?_⟩
            have hwe : wipe σ4 own = wipe σ own := by
              have h1 := wipe_eq (σ := wipe σ own) (σ' := σ4) (vs := own) l4 fun k hk => k4 k fun z => hk (hsub k z)
              rw [h1]
              exact wipe_eq (wipe_length σ own) fun k hk => wipe_off hk
            have pur3 : wiS ρ3 own = wiS p.2 own := by
              obtain ⟨o1, o2⟩ := hoff _ _ _ _ eg
              have h1 := wiS_eq (ρ := wiS p.2 own) (ρ' := ρ3) (vs := own) o1 fun k hk => o2 k fun z => hk (hsub k z)
              rw [h1]
              exact wiS_idem p.2 own fun _ h => h
            refine ⟨hwe, L, C2, ρ3, R4, fun H4 C4 A4 R4' => iteT ?_⟩
            obtain ⟨_, PA4⟩ := A4.pu hLp
            refine ⟨L, C4, ρ3, R4', wp_mono (wp_bind.mp hw) (fun q _ hq y H6 C6 A6 R6 ry => ?_) fun _ z => z.elim⟩
            obtain ⟨e6, PA6⟩ := A6.pu hLp
            obtain ⟨q1, q2⟩ := q
            have e6 : q2 = ρ3 := e6
            subst e6
            cases q1 with
            | int j =>
              simp only at hq
              obtain rfl := ry.int_inv
              by_cases hf : fit62 j = true
              · rw [if_pos hf] at hq
                have hf' := hf
                simp only [fit62, inB_eq, Bool.and_eq_true, decide_eq_true_eq] at hf'
                have hD4 := PA4.same T _ hD3
                have hD6 := PA6.same T _ hD4
                have hC4 : C4 T = 2 := by rw [PA4.col T (by rw [hD3]; simp)]; exact hC
                have hC6 : C6 T = 2 := by rw [PA6.col T (by rw [hD4]; simp)]; exact hC4
                have mvP : ∀ {Ha Hb : Hp} {Ca Cb : Col} {us : List V} {es : List D}, PStp Ha Ca Hb Cb → RpA K Ha (fun b => Cof Ca L b ∧ b ≠ T) us es → RpA K Hb (fun b => Cof Cb L b ∧ b ≠ T) us es := fun A r =>
                  r.move (fun b xs pb h => ⟨A.same b _ h, by unfold Cof; rw [A.col b (by rw [h]; simp)]; exact pb.1, pb.2⟩) fun b o h _ => A.same b o h
                have ra6 := mvP PA6 (mvP PA4 ra3)
                have P16 := (P13.trans PA4).trans PA6
                have hback : wiS (wiS q2 [i1]) own = wiS p.2 own := by rw [wiS_idem q2 own (fun k hk => by rw [List.mem_singleton.mp hk]; exact hi1)]; exact pur3
                have hwback : wipe (wipe σ4 [i1]) own = wipe σ own := by rw [wipe_sub (fun k hk => by rw [List.mem_singleton.mp hk]; exact hi1)]; exact hwe
                refine ⟨j, rfl, hf'.1, hf'.2, fun jj k H => ∃ C acc dacc, k = j.toNat - jj ∧ jj ≤ j.toNat ∧ H T = some (.lst acc) ∧ C T = 2 ∧ PStp H1 C1 H C ∧ Rel K np H C (wipe σ4 [i1]) (wiS q2 [i1]) ∧ RpA K H (fun b => Cof C L b ∧ b ≠ T) acc dacc ∧
                  wp (compF L L [i1] (nmG i1) yesT el ((rgD 0 j.toNat).drop jj) (wiS q2 [i1])) (fun q => wp (compR ks L own g fe i1 el (p.1.drop (i + 1)) (wiS q.2 own)) (fun r => Fin (dacc ++ (q.1 ++ r.1)) r.2) (fun _ => False)) (fun _ => False), ?_, ?_⟩
                · refine ⟨_, C6, acc, dacc, rfl, Nat.zero_le _, hD6, hC6, P16, rel_wipe R6 [i1], ra6, ?_⟩
                  rw [List.drop_zero]
                  exact wp_mono (wp_bind.mp hq) (fun q _ h2 => wp_mono (wp_bind.mp h2) (fun r _ hr => hr) fun _ z => z) fun _ z => z
                · rintro jj k H7 ⟨C7, acc7, dacc7, rfl, hj, hD7, hC7, P7, R7, ra7, hw7⟩
                  by_cases hjl : jj < j.toNat
                  · refine .inr ⟨hjl, fun H5 => ∃ C acc dacc, H5 T = some (.lst acc) ∧ C T = 2 ∧ PStp H1 C1 H5 C ∧ Rel K np H5 C (wipe σ4 [i1]) (wiS q2 [i1]) ∧ RpA K H5 (fun b => Cof C L b ∧ b ≠ T) acc dacc ∧
                      wp (compF L L [i1] (nmG i1) yesT el ((rgD 0 j.toNat).drop (jj + 1)) (wiS q2 [i1])) (fun q => wp (compR ks L own g fe i1 el (p.1.drop (i + 1)) (wiS q.2 own)) (fun r => Fin (dacc ++ (q.1 ++ r.1)) r.2) (fun _ => False)) (fun _ => False),
                      fun H5 ⟨C5, a5, d5, b1, b2, b3, b4, b5, b6⟩ => ⟨j.toNat - (jj + 1), by omega, C5, a5, d5, rfl, hjl, b1, b2, b3, b4, b5, b6⟩, fun x H8 hy8 => ?_⟩
                    obtain ⟨rfl, rfl⟩ := hy8
                    have hdr : (rgD 0 j.toNat).drop jj = .int (0 + (jj : Nat)) :: (rgD 0 j.toNat).drop (jj + 1) := by
                      have hl : jj < (rgD 0 j.toNat).length := by simp [rgD]; omega
                      rw [List.drop_eq_getElem_cons hl]
                      congr 1
                      simp [rgD]
                    rw [hdr, compF] at hw7
                    have hn1 : nmG i1 L (.int (0 + (jj : Nat))) (wiS q2 [i1]) = some ((wiS q2 [i1]).set i1 (.va (.int (0 + (jj : Nat))))) := rfl
                    simp only [hn1] at hw7
                    have Rs := R7.set (i := i1) (v := .int (0 + (jj : Nat))) (s := .va (.int (0 + (jj : Nat)))) (.va (.int _))
                    have hws : wipe ((wipe σ4 [i1]).set i1 (some (.int (0 + (jj : Nat))))) [i1] = wipe σ4 [i1] := by
                      have h1 := wipe_eq (σ := wipe σ4 [i1]) (σ' := (wipe σ4 [i1]).set i1 (some (.int (0 + (jj : Nat))))) (vs := [i1]) (List.length_set ..) fun k hk => List.getElem?_set_ne fun z => hk (by simp [z])
                      rw [h1]
                      exact wipe_eq (wipe_length σ4 [i1]) fun k hk => wipe_off hk
                    have hss : wiS ((wiS q2 [i1]).set i1 (.va (.int (0 + (jj : Nat))))) [i1] = wiS q2 [i1] := by
                      have h1 := wiS_eq (ρ := wiS q2 [i1]) (ρ' := (wiS q2 [i1]).set i1 (.va (.int (0 + (jj : Nat))))) (vs := [i1]) (List.length_set ..) fun k hk => List.getElem?_set_ne fun z => hk (by simp [z])
                      rw [h1]
                      exact wiS_idem q2 [i1] fun _ h => h
                    refine ⟨hws, L, C7, _, Rs, fun H9 C9 A9 R9 => iteT ?_⟩
                    obtain ⟨_, PA9⟩ := A9.pu hLp
                    refine ⟨L, C9, _, R9, wp_mono (wp_bind.mp hw7) (fun w _ hw8 y10 H10 C10 A10 R10 ry10 => ?_) fun _ z => z.elim⟩
                    obtain ⟨e10, PA10⟩ := A10.pu hLp
                    obtain ⟨w1, w2⟩ := w
                    have e10 : w2 = (wiS q2 [i1]).set i1 (.va (.int (0 + (jj : Nat)))) := e10
                    subst e10
                    have hD10 := PA10.same T _ (PA9.same T _ hD7)
                    have hC10 : C10 T = 2 := by rw [PA10.col T (by rw [PA9.same T _ hD7]; simp), PA9.col T (by rw [hD7]; simp)]; exact hC7
                    have ra10 := mvP PA10 (mvP PA9 ra7)
                    have P110 := (P7.trans PA9).trans PA10
                    by_cases hn : (!L.okb 2 || noL w1) = true
                    · rw [if_pos hn] at hw8
                      have ry11 : Rp K H10 (fun b => Cof C10 L b ∧ b ≠ T) y10 w1 := by
                        rw [Bool.or_eq_true] at hn
                        rcases hn with hn | hn
                        · refine ry10.imp fun b hb => ⟨hb, fun z => ?_⟩
                          subst z
                          have hb' : L.okb (C10 b) = true := hb
                          rw [hC10] at hb'
                          rw [hb'] at hn; cases hn
                        · exact ry10.free hn
                      rw [hss] at hw8
                      have h3 := wp_bind.mp hw8
                      have hsz : acc7.length < sizeLine := by
                        have hl := ra10.len
                        cases e5 : compF L L [i1] (nmG i1) yesT el ((rgD 0 j.toNat).drop (jj + 1)) (wiS q2 [i1]) with
                        | bad => rw [e5] at h3; exact h3.elim
                        | ex _ => rw [e5] at h3; exact h3.elim
                        | ok r5 =>
                          rw [e5] at h3
                          have h4 : wp (compR ks L own g fe i1 el (p.1.drop (i + 1)) (wiS r5.2 own)) (fun r => Fin (dacc7 ++ ((w1 :: r5.1) ++ r.1)) r.2) (fun _ => False) := h3
                          cases e6 : compR ks L own g fe i1 el (p.1.drop (i + 1)) (wiS r5.2 own) with
                          | bad => rw [e6] at h4; exact h4.elim
                          | ex _ => rw [e6] at h4; exact h4.elim
                          | ok r6 =>
                            rw [e6] at h4
                            have h7 : (dacc7 ++ ((w1 :: r5.1) ++ r6.1)).length ≤ sizeLine := h4.1
                            rw [List.length_append, List.length_append, List.length_cons] at h7
                            omega
                      refine ⟨acc7, hD10, hsz, C10, acc7 ++ [y10], dacc7 ++ [w1], upd_same, hC10, ⟨fun b x h => ?_, P110.col⟩, ?_, ?_, ?_⟩
                      · rw [upd_ne (ne_new b (by rw [h]; simp))]; exact P110.same b x h
                      · have h7 := rel_wipe R10 [i1]
                        rw [hws, hss] at h7
                        exact ⟨h7.len, fun j s es => (h7.get j s es).offc (Nat.le_refl 2) (by omega) (fun b xs hb h => by rw [upd_ne (fun z => by subst z; exact hb hC10)]; exact h) fun b o h im => by rw [upd_ne (imm_ne hD10 h im)]; exact h⟩
                      · have := ra10.app (.cons ry11 .nil)
                        exact this.move (fun b xs pb h => ⟨by rw [upd_ne pb.2]; exact h, pb⟩) fun b o h im => by rw [upd_ne (imm_ne hD10 h im)]; exact h
                      · refine wp_mono h3 (fun r _ hr => ?_) fun _ z => z
                        have hr : wp (compR ks L own g fe i1 el (p.1.drop (i + 1)) (wiS r.2 own)) (fun r' => Fin (dacc7 ++ ((w1 :: r.1) ++ r'.1)) r'.2) (fun _ => False) := hr
                        refine wp_mono hr (fun r' _ h9 => ?_) fun _ z => z
                        have e9 : dacc7 ++ [w1] ++ (r.1 ++ r'.1) = dacc7 ++ ((w1 :: r.1) ++ r'.1) := by simp
                        rw [e9]; exact h9
                    · rw [if_neg hn] at hw8; exact hw8.elim
                  · have e : jj = j.toNat := by omega
                    subst e
                    have hdn : (rgD 0 j.toNat).drop j.toNat = [] := List.drop_eq_nil_of_le (by simp [rgD])
                    rw [hdn, compF] at hw7
                    refine .inl ⟨Nat.le_refl _, C7, acc7, dacc7, hD7, hC7, P7, ?_, ra7, ?_⟩
                    · have := rel_wipe R7 own
                      rw [hwback, hback] at this; exact this
                    · have h8 : wp (compR ks L own g fe i1 el (p.1.drop (i + 1)) (wiS (wiS q2 [i1]) own)) (fun r => Fin (dacc7 ++ ([] ++ r.1)) r.2) (fun _ => False) := hw7
                      rw [hback] at h8; exact h8
              · rw [if_neg hf] at hq; exact hq.elim
            | _ => exact hq.elim
        · have e : i = p.1.length := by omega
          subst e
          rw [List.drop_length, compR] at hw
          have hw : Fin (dacc ++ []) (wiS p.2 own) := hw
          rw [List.append_nil] at hw
          refine .inl ⟨ok.stop H2 C2 (wiS p.2 own) (aft P2), ?_⟩
          have hq := hw.2 T acc (hidH H2 T) C2 ?_ ?_ hidH_same ?_
          · rw [hidH_upd hD] at hq; exact hq
          · have PH : PStp H1 C1 (hidH H2 T) C2 := ⟨fun b x h => by rw [hidH_ne (ne_new b (by rw [h]; simp))]; exact P2.same b x h, P2.col⟩
            exact ⟨(P1.trans PH).stp, fun _ => ⟨by rw [reS_wiS]; exact e0, P1.trans PH⟩⟩
          · rw [reS_wiS]
            refine ⟨R1.len, fun jx s es => ?_⟩
            have r5 := R1.get jx s es
            exact (r5.pstp (⟨fun b x h => by rw [hidH_ne (ne_new b (by rw [h]; simp))]; exact P2.same b x h, P2.col⟩ : PStp H1 C1 (hidH H2 T) C2))
          · exact ra.move (fun b xs pb h => ⟨by rw [hidH_ne pb.2]; exact h, pb.1⟩) fun b o h im => by rw [hidH_ne (imm_ne hD h im)]; exact h
    · rw [if_neg ho] at hp; exact hp.elim
  · rw [if_neg hks] at h; exact h.elim
section
variable {X : Cx} {np : Fp} {EW : XW} {elt tg iter tg1 iter1 : Expr} {fe el : ES} {pos : Pos} {scope : Scope} {own : List (Str × Nat)} {src : AS} {g : GS} {is : List Nat} {i1 : Nat}
theorem dn_lrc (ks : Lv) (hc : X.calm = true) (hN : X.N.Nodup) (hi : DI X np EW tg iter src) (ok : BlkOk X.N X.env.scope scope own) (hsub : ∀ i ∈ is, i ∈ own.map (·.2)) (h1 : i1 ∈ own.map (·.2)) (hoff : GOff is g)
    (hg : ∀ (s : Shared) (H : Hp) (C : Addr) (cl : List (Str × Addr)) (fp : List Addr), DG (X.blk s H scope (compEnvC scope cl C X.env) fp) np tg is g)
    (hi1 : ∀ (s : Shared) (H : Hp) (C : Addr) (cl : List (Str × Addr)) (fp : List Addr), PI (X.blk s H scope (compEnvC scope cl C X.env) fp) tg1 iter1 (iRng1 (tCons (tE X.K np noX fe) tNil)))
    (hg1 : ∀ (s : Shared) (H : Hp) (C : Addr) (cl : List (Str × Addr)) (fp : List Addr), PG (X.blk s H scope (compEnvC scope cl C X.env) fp) tg1 (gName i1))
    (he : ∀ (s : Shared) (H : Hp) (C : Addr) (cl : List (Str × Addr)) (fp : List Addr), DE (X.blk s H scope (compEnvC scope cl C X.env) fp) np noX elt el) (hs : ∀ x, foldedSetIterable iter X.env x = pure x := by intro _; rfl) (hs1 : ∀ env x, foldedSetIterable iter1 env x = pure x := by intro _ _; rfl) :
    DN X np EW (.ListComp elt [⟨tg, iter, [], 0⟩, ⟨tg1, iter1, [], 0⟩] scope pos) (lrcA ks (own.map (·.2)) src g fe i1 el) :=
  PE.weak (pe_lc2 (vs1 := [i1]) hc hN hi ok (fun i hi => by rw [List.mem_singleton.mp hi]; exact h1) hg (fun _ _ _ _ _ => dts_nil) hi1 hg1 (fun _ _ _ _ _ => dts_nil) he hs hs1) fun σ H Q h => lrc_main hsub h1 hoff h
end
section
variable {ks L : Lv} {own : List Nat} {src : AS} {g : GS} {fe el : ES} {i1 : Nat} {ρ : Slots}
@[simp] theorem ev_lrcA : lrcA ks own src g fe i1 el L ρ = if ks.pure && L.pure && decide (L ≠ .an) then (src ks ρ).bind fun p => if okO p.2 own then
    (noEx (compR ks L own g fe i1 el p.1 (wiS p.2 own))).bind fun r => if r.1.length ≤ sizeLine then .ok (r.1, reS p.2 r.2 own) else .bad else .bad else .bad := Eq.trans rfl rfl
end
/-- what such a comprehension holds -/
theorem compR_flat {α : Type} {ks L : Lv} {own : List Nat} {g : GS} {fe el : ES} {i1 : Nat} {e : α → D} {ρ0 : Slots} (kf : α → Nat) (m : α → Nat → D) : ∀ l : List α,
    (∀ a ∈ l, kf a < 2 ^ 61 ∧ ∃ ρ1, g ks (e a) ρ0 = some ρ1 ∧ fe L ρ1 = .ok (.int (kf a : Nat), ρ1) ∧ wiS (wiS ρ1 [i1]) own = ρ0 ∧
      ∀ k, k < kf a → wiS ((wiS ρ1 [i1]).set i1 (.va (.int (k : Nat)))) [i1] = wiS ρ1 [i1] ∧ el L ((wiS ρ1 [i1]).set i1 (.va (.int (k : Nat)))) = .ok (m a k, (wiS ρ1 [i1]).set i1 (.va (.int (k : Nat)))) ∧ (L.okb 2 = false ∨ noL (m a k) = true)) →
    compR ks L own g fe i1 el (l.map e) ρ0 = .ok (l.flatMap fun a => (List.range (kf a)).map (m a), ρ0)
  | [], _ => rfl
  | a :: r, h => by
    obtain ⟨hk, ρ1, h1, h2, h3, h4⟩ := h a (List.mem_cons_self ..)
    have ih := compR_flat kf m r fun x hx => h x (List.mem_cons_of_mem _ hx)
    have hf : fit62 (kf a : Nat) = true := inB_t (by omega) (by omega)
    have hr : rgD 0 ((kf a : Nat) : Int).toNat = (List.range (kf a)).map fun i : Nat => PyData.int (i : Int) := by
      rw [Int.toNat_natCast]; exact rgD_nat
    have hc : compF L L [i1] (nmG i1) yesT el ((List.range (kf a)).map fun i : Nat => PyData.int (i : Int)) (wiS ρ1 [i1]) = .ok ((List.range (kf a)).map (m a), wiS ρ1 [i1]) :=
      compF_map _ _ fun k hk => by
        obtain ⟨a1, a2, a3⟩ := h4 k (List.mem_range.mp hk)
        exact ⟨_, rfl, a1, a2, a3⟩
    rw [List.map_cons, compR, h1]
    simp only [h2, bind_ok]
    rw [if_pos hf, hr, hc]
    simp only [bind_ok, h3, ih]
    rw [List.flatMap_cons]
end
end Dm

namespace Dm
noncomputable section
open PySem PySem.Spec PyProof.Rows L2
/-! ### f(e, ..) of a pure def, the last parameters by their defaults -/
section
variable {X : Cx} {np : Fp} {EW : XW} {Xc : CXT} {k : Nat} {f : Addr} {fd : FuncData} {ps ks : List Str} {sp : Sp} {E : XK} {x : Str} {p pos kpos : Pos} {e : Expr} {es : List Expr}
theorem RpA_app {K : PySem.W.Frag} {H : Hp} {P : Addr → Prop} {b : List D} {w : List V} (s : RpA K H P w b) : ∀ {a : List D} {v : List V}, RpA K H P v a → RpA K H P (v ++ w) (a ++ b)
  | [], _, .nil => s
  | _ :: _, _, .cons h t => .cons h (RpA_app s t)
theorem gpe_callD {t : TA} {dus : List Value} {dvs : List V} (F : GFn X.prog X.w X.K X.mg X.base Xc k f fd ps sp) (hr : Room k X.A) (hgd : X.A.guards = some []) (hg : Gl X x) (hm : X.mg x = some (.ref f)) (hk : PySem.W.keepIn X.K (.ref f) = true) (hb : Binds X.K fd ps dus) (hd : Vals dvs dus) (hx : Passes Xc X E)
    (ha : PA X (e :: es) t) (hdb : (x == ("__debug__" : Str)) = false := by decide) (he : starEach (e :: es) X.env = (false, eval e X.env) :: starEach es X.env := by rfl) (hpl : (backTo pos (starEach es X.env)).any (·.1) = false := by rfl) :
    PE X (.Call (.Name x p) (e :: es) [] pos) (fun σ H Q => t σ H fun vs H1 => sp (vs ++ dvs) H1 Q E) := by
  refine ⟨fun pins s σ H Q I h => ?_⟩
  refine wpAny_Call_Name_kw (ld_glob I hg hm (PySem.W.callWith_K (h₀ := X.base) I.ok.mod.kin hk (thn (ha.run pos pins s σ H _ I h) fun us s1 ⟨vs, H1, I1, r, q⟩ => ⟨I1.kIn, ?_⟩) he hpl) hdb)
  refine wpAny_call (codeAny_mono (g_run (us := us ++ dus) (args := ⟨us, []⟩) F hr hgd (fun hl => hb s1 us I1.kIn hl) hx I1 (r.append hd) q) fun rr s' z => ?_)
  cases rr with
  | error e => exact z
  | ok fl => cases fl <;> exact z
/-- the mirror -/
def clD (kl : Lv) (n : Nat) (m : PF) (dds : List D) (fs : AS) : ES := clE kl n (fun ds => m (ds ++ dds)) fs
theorem de_callD (kl : Lv) {xo : XO} {m : PF} {n j : Nat} {fs : AS} {dus : List Value} {dvs : List V} {dds : List D} (F : GFn X.prog X.w X.K X.mg X.base Xc k f fd ps (spG X.K xo n (ofP m))) (hr : Room k X.A) (hgd : X.A.guards = some []) (hg : Gl X x) (hm : X.mg x = some (.ref f))
    (hk : PySem.W.keepIn X.K (.ref f) = true) (hb : Binds X.K fd ps dus) (hd : Vals dvs dus) (hdr : ∀ H P, RpA X.K H P dvs dds) (hj : j + dds.length = n) (hx : Passes Xc X E) (hE : ∀ c H', EW c H' → xo E c H') (ha : DA X np EW (e :: es) fs) (hdb : (x == ("__debug__" : Str)) = false := by decide)
    (he : starEach (e :: es) X.env = (false, eval e X.env) :: starEach es X.env := by rfl) (hpl : (backTo pos (starEach es X.env)).any (·.1) = false := by rfl) : DE X np EW (.Call (.Name x p) (e :: es) [] pos) (clD kl j m dds fs) :=
  PE.weak (gpe_callD F hr hgd hg hm hk hb hd hx ha hdb he hpl) fun σ H Q ⟨L, C, ρ, R, h⟩ => by
    unfold clD clE at h
    by_cases hk : (kl.pure || !L.pure) = true
    · rw [if_pos hk] at h
      refine tA_of R (L := kl) h fun q vs H1 C1 A1 R1 r1 h1 => ?_
      by_cases hl : q.1.length = j
      · rw [if_pos hl] at h1
        exact cl_fin (m := m) (ds := q.1 ++ dds) (L := L) hE (by rw [List.length_append, hl]; exact hj) R1 (RpA_app (hdr H1 _) r1) (wp_mono h1 (fun p _ hp v H' C' A R' r => hp v H' C' ((A1.lev (K := X.K) hk).trans A) R' r) fun _ z => z)
      · rw [if_neg hl] at h1; exact h1.elim
    · rw [if_neg hk] at h; exact h.elim
theorem dflt_int {K : PySem.W.Frag} (n : Int) : ∀ (H : Hp) (P : Addr → Prop), RpA K H P [V.int n] [.int n] := fun _ _ => .cons (.int _) .nil
end
end
end Dm

namespace Dm
noncomputable section
open PySem PySem.Spec PyProof.Rows L2
/-! ### the heap stands but for the frame's own names, which stand by what they are bound to -/
section
variable {X : Cx} {pins : List (Addr × Obj)} {σ : L2.St} {H : Hp} {s : Shared} {h' : Heap}
theorem isCell_k {h h' : Heap} {L c : Addr} {u : Option Value} (k : ∀ b o, b ≠ L → h.get? b = some o → h'.get? b = some o) (hc : c ≠ L) (z : h.IsCell c u) : h'.IsCell c u := by
  obtain ⟨o, ho, hd⟩ := z
  exact ⟨o, k _ _ hc ho, hd⟩
theorem inv_stands {m : Str → Option Value} {t' : Nat} (I : Inv X pins σ H s) (hl : ∀ (i : Nat) (x : Str) (v : V), X.N[i]? = some x → σ[i]? = some (some v) → Vis X.env.scope x → ∃ u, RelV v u ∧ Look X.env s.heap m x u)
    (hm' : h'.Ns X.env.locals m) (k : ∀ b u, b ≠ X.env.locals → s.heap.get? b = some u → h'.get? b = some u) : Inv X pins σ H { s with heap := h', toks := t' } := by
  have ne : ∀ {b : Addr} {o : Obj}, X.s_0.heap.get? b = some o → b ≠ X.env.locals := fun e => Nat.ne_of_lt (Nat.lt_of_lt_of_le (Heap.lt_size e) I.ok.above)
  refine ⟨I.ok, I.os, I.bare, ⟨fun b o e n hb hx => k _ _ (ne e) (I.base.keep b o e n hb hx), fun b o e n hb hx => ?_, I.base.free, fun b o e hx => ?_, I.base.tups, I.base.frzs, I.base.tbls⟩, ⟨m, hm', fun j y v' e1 e2 e3 => ?_⟩, fun y c e => ?_, I.free, I.freeC, fun p hp => ?_,
    fun b ob e => (I.hok b ob e).stay (fun c w' hc q => k c w' ?_ q) (fun _ q => q) fun _ _ q => q, I.len⟩
  · obtain ⟨sl, e1⟩ := I.base.slot b o e n hb hx
    exact ⟨sl, k _ _ (ne e) e1⟩
  · obtain ⟨o', e1⟩ := I.base.there b o e hx
    exact ⟨o', k _ _ (ne e) e1⟩
  · obtain ⟨u', r', q⟩ := hl j y v' e1 e2 e3
    refine ⟨u', r', ?_⟩
    rcases q with ⟨kk, e⟩ | ⟨kk, c, e, z⟩
    · exact .inl ⟨kk, e⟩
    · exact .inr ⟨kk, c, e, isCell_k k (I.cne y c e) z⟩
  · obtain ⟨w', z⟩ := I.cell y c e
    exact ⟨w', isCell_k k (I.cne y c e) z⟩
  · obtain ⟨e, n, ne', nf, d⟩ := I.pin p hp
    exact ⟨k _ _ ne' e, n, ne', nf, d⟩
  · rintro rfl
    have hfree := I.free
    rcases hc with rfl | hc
    · rw [hfree] at e; cases e
    · rw [hfree] at hc; cases hc
/-- all objects of a heap but the one at L and those of h₀ -/
def allBut (h₀ : Heap) (L : Addr) (h : Heap) : List (Addr × Obj) := (List.range h.objs.size).filterMap fun b => match h.get? b with
  | some o => if b ≠ L ∧ h₀.get? b = none then some (b, o) else none
  | none => none
theorem mem_allBut {h₀ h : Heap} {L b : Addr} {o : Obj} : (b, o) ∈ allBut h₀ L h ↔ h.get? b = some o ∧ b ≠ L ∧ h₀.get? b = none := by
  unfold allBut
  rw [List.mem_filterMap]
  constructor
  · rintro ⟨c, _, hc⟩
    cases e : h.get? c with
    | none => simp [e] at hc
    | some u =>
      simp only [e] at hc
      split at hc
      · rename_i hh
        cases hc
        exact ⟨e, hh⟩
      · cases hc
  · rintro ⟨e, hh⟩
    exact ⟨b, List.mem_range.mpr (Heap.lt_size e), by simp only [e]; rw [if_pos hh]⟩
theorem news_allBut {h₀ h : Heap} {L : Addr} : News h₀ L h (allBut h₀ L h) := fun p hp => mem_allBut.mp hp
/-- what News of all says of a later heap -/
theorem stand_of {h₀ h h' : Heap} {L : Addr} {m : Str → Option Value} {more : List (Addr × Obj)} (hk : ∀ b o, h₀.get? b = some o → h.get? b = some o) (F : Fr h₀ L h' m) (N : News h₀ L h' (allBut h₀ L h ++ more)) :
    ∀ b u, b ≠ L → h.get? b = some u → h'.get? b = some u := fun b u hb e => by
  cases q : h₀.get? b with
  | some o =>
    have := hk b o q
    rw [e] at this; cases this
    exact F.keep b u q
  | none => exact (N (b, u) (List.mem_append_left _ (mem_allBut.mpr ⟨e, hb, q⟩))).1
end
end
end Dm

namespace Dm
noncomputable section
open PySem PySem.Spec PyProof.Rows L2 PySem.W
/-! ### sorted(xs), xs tuples of ints, none of them empty -/
def encT (b : List Int) : D := .tuple (b.map PyData.int)
def leT : List Int → List Int → Bool := dataLe false encT
abbrev RT (K : PySem.W.Frag) (H : Hp) (u : Value) (b : List Int) : Prop := ∃ v, RelV v u ∧ Rp K H (fun _ => True) v (encT b)
theorem each_RT {K : PySem.W.Frag} {H : Hp} : ∀ {bs : List (List Int)} {vs : List V} {us : List Value}, Vals vs us → RpA K H (fun _ => True) vs (bs.map encT) → EachIs (RT K H) us bs
  | [], _, _, r, .nil => by cases r; exact .nil
  | b :: bs, _, _, r, .cons h t => by
    cases r with
    | cons a b => exact .cons ⟨_, a, h⟩ (each_RT b t)
theorem RT_each {K : PySem.W.Frag} {H : Hp} : ∀ {bs : List (List Int)} {us : List Value}, EachIs (RT K H) us bs → ∃ vs, Vals vs us ∧ RpA K H (fun _ => True) vs (bs.map encT)
  | [], _, .nil => ⟨[], .nil, .nil⟩
  | b :: bs, _, .cons ⟨v, a, h⟩ t => by
    obtain ⟨vs, r, q⟩ := RT_each t
    exact ⟨v :: vs, .cons a r, .cons h q⟩
theorem reads_ints {h : Heap} : ∀ {ns : List Int} {us : List Value}, Vals (ns.map V.int) us → ReadsAll h us (ns.map PyData.int) []
  | [], _, r => by cases r; exact .nil
  | n :: ns, _, r => by
    cases r with
    | cons a b =>
      obtain ⟨t, rfl⟩ := a
      exact .cons (as := []) (bs := []) (.int n t) (reads_ints b)
def rSortedTT (K : PySem.W.Frag) : List V → Hp → VK → Prop := fun vs H Q => ∃ (a : Addr) (xs : List V) (bs : List (List Int)), vs = [V.ref a] ∧ SqL K H a xs ∧ RpA K H (fun _ => True) xs (bs.map encT) ∧ (∀ b ∈ bs, b ≠ []) ∧
  ∀ (ys : List V) (p : Addr), RpA K H (fun _ => True) ys ((bs.mergeSort leT).map encT) → H p = none → Q (.ref p) (upd H p (.lst ys))
section
variable {X : Cx}
theorem cr_sortedTT {k : Nat} (hr : Room k X.A) : CallR X (.builtin "sorted") (rSortedTT X.K) := by
  intro pins s σ H vs us Q I r h
  obtain ⟨a, xs, bs, rfl, hs, rx, hne, q⟩ := h
  obtain ⟨its, rv, hl, hz⟩ := I.list hs
  rw [Vals.ref1 r]
  have e := each_RT rv rx
  have hlen : bs.length = its.length := e.length.symm
  refine sorted_data (enc := encT) hl.isList e (e.mono fun u b hub => ?_) (AllAlike.of fun b b' => ?_) ?_ (by rw [hlen, ← rv.length]; exact hz) (fun b _ => ?_) fun out ho eo => ?_
  · obtain ⟨v, hv, hb⟩ := hub
    unfold encT at hb
    cases hb with
    | tup hx ra =>
      have eu := ra.ints
      subst eu
      obtain ⟨its', rv', ⟨o, ho, hc, n, hd⟩, _⟩ := I.tuple hx.sq
      have hu := hv
      cases hu
      exact ⟨_, .tuple ho hc hd (reads_ints rv')⟩
  · show alike (.tuple (b.map PyData.int)) (.tuple (b'.map PyData.int)) = true
    unfold alike
    exact alike_ints _ _
  · refine .inl fun d hd => ?_
    obtain ⟨b, hb, rfl⟩ := List.mem_map.mp hd
    cases b with
    | nil => exact absurd rfl (hne _ hb)
    | cons x r => exact ⟨_, _, rfl⟩
  · have hd : (encT b).depth ≤ 1 := by
      unfold encT PyData.depth
      rw [depth_ints]
      exact Nat.le_refl _
    have := hr.un
    omega
  · obtain ⟨ys, ry, rr⟩ := RT_each eo
    obtain ⟨ep, he'⟩ := PyProof.Rows.sortedAll_at s.heap its out.toArray
    have hl2 : ys.length ≤ sizeLine := by rw [ry.length, ho, hlen, ← rv.length]; exact hz
    exact ⟨.ref _, upd H (s.heap.objs.size + 1) (.lst ys), I.laid (t' := s.toks) (fun _ _ => PyProof.Rows.sortedAll_old) (Nat.le_succ _) ⟨hl2, _, ep, ry, by simpa using he'⟩, rfl, q _ _ rr (I.hok.fresh (Nat.le_succ _))⟩
end
/-- the items, if all are tuples of ints and none is empty -/
def tup1 : D → Option (List Int)
  | .tuple l => match ints? l with
    | some (x :: r) => some (x :: r)
    | _ => none
  | _ => none
def tups? : List D → Option (List (List Int))
  | [] => some []
  | d :: r => match tup1 d, tups? r with
    | some b, some bs => some (b :: bs)
    | _, _ => none
theorem tup1_some {d : D} {b : List Int} (h : tup1 d = some b) : d = encT b ∧ b ≠ [] := by
  unfold tup1 at h
  split at h
  · split at h
    · rename_i l x r e
      cases h
      have := ints?_some e
      subst this
      exact ⟨rfl, by simp⟩
    · cases h
  · cases h
theorem tups?_some : ∀ {l : List D} {bs : List (List Int)}, tups? l = some bs → l = bs.map encT ∧ ∀ b ∈ bs, b ≠ []
  | [], bs, h => by cases h; exact ⟨rfl, by simp⟩
  | d :: r, bs, h => by
    unfold tups? at h
    split at h
    · rename_i b bs' e1 e2
      cases h
      obtain ⟨rfl, hb⟩ := tup1_some e1
      obtain ⟨rfl, hbs⟩ := tups?_some e2
      refine ⟨rfl, fun c hc => ?_⟩
      rcases List.mem_cons.mp hc with rfl | hc
      · exact hb
      · exact hbs c hc
    · cases h
theorem tups?_map : ∀ {bs : List (List Int)}, (∀ b ∈ bs, b ≠ []) → tups? (bs.map encT) = some bs
  | [], _ => rfl
  | b :: bs, h => by
    have ih := tups?_map (bs := bs) fun c hc => h c (List.mem_cons_of_mem _ hc)
    cases b with
    | nil => exact absurd rfl (h [] (List.mem_cons_self ..))
    | cons x r =>
      have e1 : tup1 (encT (x :: r)) = some (x :: r) := by
        unfold tup1 encT
        simp only [ints?_map]
      show (match tup1 (encT (x :: r)), tups? (bs.map encT) with | some b, some bs => some (b :: bs) | _, _ => none) = _
      rw [e1, ih]
def tupsD : D → Option (List (List Int))
  | .list l => tups? l
  | _ => none
def soPA (fe : ES) : AS := fun L ρ => (fe L ρ).bind fun p => (ofO (tupsD p.1)).bind fun bs => .ok ((bs.mergeSort leT).map encT, p.2)
theorem noLs_encT : ∀ {bs : List (List Int)}, noLs (bs.map encT) = true := noLs_map (f := encT) fun b => (show noL (.tuple (b.map PyData.int)) = true by
  unfold noL
  exact noLs_map_int)
/-- the order is the lists' own -/
theorem leT_eq : leT = fun a b => decide (a ≤ b) := by
  funext p q
  show (!dataLt (.tuple (q.map .int)) (.tuple (p.map .int))) = _
  rw [dataLt_tuple]
  show (!rowLt (q.map .int) (p.map .int)) = _
  rw [dataLt_ints]
  by_cases h : q < p
  · have h' : ¬ p ≤ q := fun r => List.not_lt.mpr r h
    simp [h, h']
  · have h' : p ≤ q := List.not_lt.mp h
    simp [h, h']
section
variable {X : Cx} {np : Fp} {EW : XW} {p pos : Pos} {e : Expr} {fe : ES}
theorem dn_sortedP {k : Nat} {x : Str} (hr : Room k X.A) (hg : Gl X x) (hm : X.mg x = none) (hv : bootBuiltins x = some (.builtin "sorted")) (ha : DE X np EW e fe) (hn : x ≠ "__name__" := by decide) (hdb : (x == ("__debug__" : Str)) = false := by decide)
    (he : starEach [e] X.env = (false, eval e X.env) :: starEach [] X.env := by rfl) : DN X np EW (.Call (.Name x p) [e] [] pos) (soPA fe) :=
  PE.weak (pe_callB (cr_sortedTT hr) hg hm hv (pa_cons ha pa_nil he) hn hdb he rfl) fun σ H Q ⟨L, C, ρ, R, h⟩ => tE_of R h fun q v H1 C1 A1 R1 r1 h1 => by
    obtain ⟨bs, e, h2⟩ := wp_ofO (wp_bind.mp h1)
    obtain ⟨dq, ρ1⟩ := q
    cases dq <;> simp only [tupsD, reduceCtorEq] at e
    obtain ⟨rfl, hne⟩ := tups?_some e
    obtain ⟨a, us, rfl, ha, _, rr⟩ := r1.lst_inv
    exact ⟨_, us, bs, rfl, .of ha, rr.free noLs_encT, hne, fun ys t k1 ht => h2 t _ H1 C1 A1 R1 ht (k1.free noLs_encT)⟩
end
variable {fe : ES} {L : Lv} {ρ : Slots}
@[simp] theorem ev_soPA : soPA fe L ρ = (fe L ρ).bind fun p => (ofO (tupsD p.1)).bind fun bs => .ok ((bs.mergeSort leT).map encT, p.2) := Eq.trans rfl rfl
end
end Dm

namespace Dm
noncomputable section
open PySem PySem.Spec PyProof.Rows L2 PySem.W
/-! ### sorted(xs, key=f), xs tuples of ints, f a def of one's own that keeps the heap -/
/-- what is asked of the key's def: its key of what stands for b is kf b, all of the heap kept -/
def KeyT (X : Cx) (f : Addr) (kf : List Int → D) : Prop := ∀ (pins : List (Addr × Obj)) (σ : L2.St) (H : Hp) (s : Shared) (u : Value) (b : List Int), Inv X pins σ H s → RT X.K H u b →
  wpAny (model X.prog X.w) X.A.in1.in1 (call (.ref f) [u]) (KeyPure (kf b) s) (fun _ _ => False) s
structure KfOk (kf : List Int → D) : Prop where
  al : ∀ b b', alike (kf b) (kf b') = true
  tu : ∀ b, ∃ x r, kf b = .tuple (x :: r)
  dp : ∀ b, (kf b).depth ≤ 60
def rSortedKT (K : PySem.W.Frag) (f : Addr) (kf : List Int → D) : List V → List V → Hp → VK → Prop := fun vs zs H Q => ∃ (a : Addr) (xs : List V) (bs : List (List Int)), vs = [V.ref a] ∧ zs = [V.ref f] ∧ SqL K H a xs ∧ RpA K H (fun _ => True) xs (bs.map encT) ∧
  ∀ (ys : List V) (p : Addr), RpA K H (fun _ => True) ys ((bs.mergeSort (dataLe false kf)).map encT) → H p = none → Q (.ref p) (upd H p (.lst ys))
section
variable {X : Cx}
theorem cr_sortedKT {k : Nat} {f : Addr} {kf : List Int → D} (hr : Room k X.A) (ok : KfOk kf) (turn : KeyT X f kf) : CallRK X (.builtin "sorted") [Str.ofString "key"] (rSortedKT X.K f kf) := by
  intro pins s σ H vs zs us ws Q I r rz h
  obtain ⟨a, xs, bs, rfl, rfl, hs, rx, q⟩ := h
  obtain ⟨its, rv, hl, hz⟩ := I.list hs
  rw [Vals.ref1 r, Vals.ref1 rz]
  have e := each_RT rv rx
  have hlen : bs.length = its.length := e.length.symm
  show wpAny (model X.prog X.w) X.A (call (.builtin "sorted") [.ref a] [(Str.ofString "key", .ref f)]) _ _ s
  refine sorted_key_data (b := false) kf hl.isList e (AllAlike.of ok.al) (Sortable.tuples ok.tu) (by rw [hlen, ← rv.length]; exact hz) (fun b _ => ?_) (ksk_s1 _ _) (fun _ => ksk_l1 _ _) (fun _ => ksk_t1 _ _)
    (fun v b hb _ h tk kp => turn pins σ H { s with heap := h, toks := tk } v b (I.kept (t' := tk) kp) hb) fun out c h' tk kp hn hD ho eo => ?_
  · have := ok.dp b
    have := hr.un
    omega
  · obtain ⟨ys, ry, rr⟩ := RT_each eo
    have hl2 : ys.length ≤ sizeLine := by rw [ry.length, ho, hlen, ← rv.length]; exact hz
    exact ⟨.ref _, upd H (s.heap.objs.size + 1) (.lst ys), I.laid (t' := tk) kp (Nat.le_succ _) ⟨hl2, _, _, ry, hD⟩, rfl, q _ _ rr (I.hok.fresh (Nat.le_succ _))⟩
end
/-- (sum(t), t) -/
def totK (b : List Int) : D := .tuple [.int b.sum, encT b]
theorem totK_ok : KfOk totK where
  al := fun b b' => by
    unfold totK encT
    simp only [alike, alikeAll, alike_ints, Bool.and_self]
  tu := fun b => ⟨_, _, rfl⟩
  dp := fun b => by
    unfold totK encT
    simp only [PyData.depth, PyData.depthAll, depth_ints]
    omega
end
end Dm

namespace Dm
noncomputable section
open PySem PySem.Spec PyProof.Rows L2 PySem.W
/-! ### def by_total(standing): return (sum(standing), standing), as the key of sorted -/
section
variable {X : Cx} {pins : List (Addr × Obj)} {σ : L2.St} {H : Hp} {s : Shared}
/-- a local's value, at any state -/
theorem ld_var {i : Nat} {x : Str} {pos : Pos} {v : V} {Q E : Value → Shared → Prop} (I : Inv X pins σ H s) (hN : X.N[i]? = some x) (hv : Vis X.env.scope x) (e : σ[i]? = some (some v)) (h : ∀ u, RelV v u → Q u s)
    (hd : (x == ("__debug__" : Str)) = false := by decide) (hcd : (x == ("__classdict__" : Str)) = false := by decide) : wpAny (model X.prog X.w) X.A (eval (.Name x pos) X.env) Q E s := by
  obtain ⟨m, hn, hl⟩ := I.loc
  obtain ⟨u, r, l⟩ := hl i x v hN e hv
  have fin : Q u s := h u r
  rcases l with ⟨hk, hm⟩ | ⟨hk, c, hc, hcell⟩
  · exact wpAny_Name (wpAny_loadName_local I.ok.kind hk hn hm fin) hd
  · rcases hk with hk | hk
    · exact wpAny_Name (wpAny_loadName_cell I.ok.kind hk hc hcell fin) hd
    · exact wpAny_Name (wpAny_loadName_free I.ok.kind hk hc hcell fin hcd) hd
end
theorem keyT_total {X : Cx} {k : Nat} {f : Addr} {fd : FuncData} {st : Stmt} {kn qual : Str} {p1 p2 p3 p4 p5 p6 : Pos} {x1}
    (Fn : Fun X.K kn qual st f fd) (Sc : FnScope ["standing"] ["standing"] (defScope st))
    (hbd : defBody st = [.Return (some (.Tuple [.Call (.Name "sum" p1) [.Name "standing" p2] [] p3, .Name "standing" p4] x1 p5)) p6])
    (hbi : Binds X.K fd ["standing"] []) (hr : Room (k + 3) X.A) (hm : X.mg "sum" = none)
    (hgl : ∀ L a cd, (envOfC qual (defScope st) L a cd).kindOf "sum" = some .globalImplicit) (hvis : Vis (defScope st) "standing") : KeyT X f totK := by
  intro pins σ H s u b I hu
  obtain ⟨v, rv, rp⟩ := hu
  have e0 := I.env0.in1.in1
  have hr2 : Room (k + 1) X.A.in1.in1 := hr.in1.in1
  obtain ⟨oc, od, kV, doc, pm, an, cdv, ct, osl, rfl, lk, hcd⟩ := Fn.ex
  have kin := I.kIn
  have kinds : ∀ y ∈ (["standing"] : List Str).zip [u], (defScope st).names.lookup y.1 = some .local ∨ ((defScope st).names.lookup y.1 = some .cell ∧ ((cellsFrom (s.heap.objs.size + 1) (defScope st).names []).lookup y.1).isSome = true) := by
    intro y hy
    rcases Sc.par y.1 (List.of_mem_zip (show (y.1, y.2) ∈ (["standing"] : List Str).zip [u] from hy)).1 with q | q
    · exact .inl q
    · exact .inr ⟨q, PySem.W.cellsFrom_some _ _ _ (.inl q)⟩
  refine wpAny_call ?_
  refine codeAny_call_function hr2.depth (kin _ _ lk) rfl Sc.co Sc.gen rfl (PySem.W.codeRec_of kin hcd) (hbi s [u] kin rfl _ _ _ _ (wpAny_newFunctionEnv_cells Sc.kind kinds fun env he s1 x => ?_))
  subst he
  refine ⟨I.nolimit.keeps x.toInCall.keep, codeAny_func ?_⟩
  have J := inv_start (CX := CX0) (E := fun _ _ _ => False) Sc hr2.hd e0 (vs := [v]) rfl (.cons rv .nil) x
  obtain ⟨h1, tk, rfl, kp⟩ := x.done
  have rp' := rp
  unfold encT at rp'
  obtain ⟨a, us, rfl, hx, ra⟩ := rp'.tup_inv
  obtain rfl : u = .ref a := rv
  have eu := ra.ints
  subst eu
  obtain ⟨its', rv', ht, hz⟩ := J.tuple hx
  obtain ⟨o, ho, hc, n, hd⟩ := id ht
  obtain ⟨xs, e⟩ := rv'.ints.allInts.items
  have hn : numsOf (intItems xs).toList = b := by rw [← e]; exact rv'.ints.numsOf
  rw [nums_intItems] at hn
  have ht2 := ht
  rw [e] at ht2
  refine Eq.mpr (congrArg (fun B => wpAny _ _ (execs B _) _ _ _) hbd) ?_
  refine wpAny_execs_cons (wpAny_Return_some (wpAny_Tuple_spliced ?_))
  show wpAny _ _ (spliced ((false, eval (.Call (.Name "sum" p1) [.Name "standing" p2] [] p3) _) :: [(false, eval (.Name "standing" p4) _)])) _ _ _
  refine Calls.spliced_cons (wpAny_Call_Name_kw (ld_blt J (hgl _ _ _) hm (by rfl) ?_))
  refine PyProof.Rows.callWith_builtin1 ?_
  show wpAny _ _ (spliced ((false, eval (.Name "standing" p2) _) :: [])) _ _ _
  refine Calls.spliced_cons (ld_var (i := 0) J rfl hvis rfl fun u1 r1 => Calls.spliced_nil ?_)
  obtain rfl : u1 = .ref a := r1
  refine PySem.W.ktm_sumG hr2.hd ht2 fun h' tk' t' hk => ?_
  rw [preSum_eq, List.take_of_length_le (by simp), hn]
  have J2 := J.kept (t' := tk') hk
  refine Calls.spliced_cons (ld_var (i := 0) J2 rfl hvis rfl fun u2 r2 => Calls.spliced_nil ?_)
  obtain rfl : u2 = .ref a := r2
  refine ⟨by show 2 ≤ sizeLine; decide, ?_⟩
  refine ⟨_, _, rfl, fun b o e => Heap.get?_push_of_some _ (hk _ _ (kp _ _ e)), ?_⟩
  have h9 := Heap.get?_push_of_some (o := { cls := .type "tuple", data := .seq [Value.int b.sum t', .ref a].toArray }) (hk _ _ ho)
  exact .tuple (as := [] ++ ([] ++ [])) (Heap.get?_push_size _ rfl) rfl rfl (.cons (.int _ _) (.cons (.tuple h9 hc hd (reads_ints rv')) .nil))
def soKA (kf : List Int → D) (fe : ES) : AS := fun L ρ => (fe L ρ).bind fun p => (ofO (tupsD p.1)).bind fun bs => .ok ((bs.mergeSort (dataLe false kf)).map encT, p.2)
section
variable {X : Cx} {np : Fp} {EW : XW} {p pos pk kpos : Pos} {e : Expr} {fe : ES}
theorem dn_sortedKT {k : Nat} {x kx : Str} {f : Addr} {kf : List Int → D} (hr : Room k X.A) (ok : KfOk kf) (turn : KeyT X f kf) (hg : Gl X x) (hm : X.mg x = none) (hv : bootBuiltins x = some (.builtin "sorted")) (hgk : Gl X kx) (hmk : X.mg kx = some (.ref f))
    (ha : DE X np EW e fe) (hn : x ≠ "__name__" := by decide) (hdb : (x == ("__debug__" : Str)) = false := by decide) (hdk : (kx == ("__debug__" : Str)) = false := by decide)
    (he : backTo pos (starEach [e] X.env) = (false, eval e X.env) :: backTo pos (starEach [] X.env) := by rfl) (hpl : (backTo pos (starEach [e] X.env)).any (·.1) = false := by rfl)
    (hks : (backToKw pos (keywordEach [⟨some (Str.ofString "key"), .Name kx pk, kpos⟩] X.env)).filterMap (·.1) = [Str.ofString "key"] := by rfl)
    (hse : starEach [e] X.env = (false, eval e X.env) :: starEach [] X.env := by rfl) : DN X np EW (.Call (.Name x p) [e] [⟨some (Str.ofString "key"), .Name kx pk, kpos⟩] pos) (soKA kf fe) :=
  PE.weak (pe_callBK (cr_sortedKT hr ok turn) hg hm hv (pa_cons ha pa_nil hse) (pk_cons (pe_glob (v := .ref f) hgk hmk rfl hdk) pk_nil) hn hdb he hpl rfl rfl hks) fun σ H Q ⟨L, C, ρ, R, h⟩ => tE_of R h fun q v H1 C1 A1 R1 r1 h1 => by
    obtain ⟨bs, e, h2⟩ := wp_ofO (wp_bind.mp h1)
    obtain ⟨dq, ρ1⟩ := q
    cases dq <;> simp only [tupsD, reduceCtorEq] at e
    obtain ⟨rfl, hne⟩ := tups?_some e
    obtain ⟨a, us, rfl, ha, _, rr⟩ := r1.lst_inv
    exact ⟨_, us, bs, rfl, rfl, .of ha, rr.free noLs_encT, fun ys t k1 ht => h2 t _ H1 C1 A1 R1 ht (k1.free noLs_encT)⟩
/-! many *= e at a name -/
def ipMW : TIp := fun x y H Q => ∃ i j, x = .int i ∧ y = .int j ∧ CMulW i j ∧ Q (.int (i * j)) H
theorem ip_mulW : PIp X .Mult ipMW := by
  intro pins s σ H x y v u Q I r1 r2 h
  obtain ⟨i, j, e1, e2, hc, q⟩ := h
  subst e1; subst e2
  obtain ⟨t, rfl⟩ := r1
  obtain ⟨t', rfl⟩ := r2
  exact imul_int ⟨.int _, H, I.tok _, ⟨_, rfl⟩, q⟩ hc.ok
def amS (i : Nat) (fe : ES) : SS := fun ρ => match ρ[i]? with
  | some (.va (.int a)) => (fe .an ρ).to fun p => (isI p.1).to fun b => if a.natAbs.log2 + b.natAbs.log2 < 1000000 then .nx (p.2.set i (.va (.int (a * b)))) else .bad
  | _ => .bad
theorem ds_amn {i : Nat} {x : Str} {pos' : Pos} (hN : X.N.Nodup) (hi : X.N[i]? = some x) (hx : Loc X.env.scope x) (h : DE X np EW e fe)
    (hf : X.fn x = true ∨ X.env.scope.names.lookup x = some .local := by first | exact .inl rfl | exact .inr rfl | assumption) : DS X np EW (.AugAssign (.Name x pos') .Mult e pos) (amS i fe) :=
  PS.weak (ps_aug hN hi hx h ip_mulW hf) fun Dn σ H ⟨C, ρ, R, h⟩ => by
    unfold amS at h
    cases e1 : ρ[i]? with
    | none => rw [e1] at h; exact h.elim
    | some s =>
      rw [e1] at h
      have r := R.get i s e1
      cases s with
      | va d =>
        cases d with
        | int a =>
          generalize eo : σ[i]? = o at r
          cases r with
          | va r =>
            obtain rfl := r.int_inv
            refine ⟨_, eo, toE_of (L := .an) R h fun p v H' C' A R' rv q => ?_⟩
            obtain ⟨dp, ρ1⟩ := p
            cases dp with
            | int b =>
              obtain rfl := rv.int_inv
              by_cases hz : a.natAbs.log2 + b.natAbs.log2 < 1000000
              · have q2 : pst X.K np EW Dn H' C' (if a.natAbs.log2 + b.natAbs.log2 < 1000000 then Fl.nx (List.set ρ1 i (Sl.va (PyData.int (a * b)))) else Fl.bad) := q
                rw [if_pos hz] at q2
                exact ⟨a, b, rfl, rfl, hz, q2 _ H' C' .refl (R'.set (.va (.int _)))⟩
              · have q2 : pst X.K np EW Dn H' C' (if a.natAbs.log2 + b.natAbs.log2 < 1000000 then Fl.nx (List.set ρ1 i (Sl.va (PyData.int (a * b)))) else Fl.bad) := q
                rw [if_neg hz] at q2
                exact q2.elim
            | _ => exact q.elim
        | _ => exact h.elim
      | _ => exact h.elim
end
section
variable {fe : ES} {L : Lv} {ρ : Slots} {kf : List Int → D}
@[simp] theorem ev_soKA : soKA kf fe L ρ = (fe L ρ).bind fun p => (ofO (tupsD p.1)).bind fun bs => .ok ((bs.mergeSort (dataLe false kf)).map encT, p.2) := Eq.trans rfl rfl
end
@[simp] theorem ev_amS {i : Nat} {fe : ES} {ρ : Slots} : amS i fe ρ = (match ρ[i]? with
  | some (.va (.int a)) => (fe .an ρ).to fun p => (isI p.1).to fun b => if a.natAbs.log2 + b.natAbs.log2 < 1000000 then .nx (p.2.set i (.va (.int (a * b)))) else .bad
  | _ => .bad) := Eq.trans rfl rfl
/-- the key's order in plain words -/
theorem eqv_intsK : ∀ {a b : List Int}, PyData.eqvAll (a.map PyData.int) (b.map PyData.int) = decide (a = b)
  | [], [] => rfl
  | [], b :: t => by simp [PyData.eqvAll]
  | a :: s, [] => by simp [PyData.eqvAll]
  | a :: s, b :: t => by
    have ih := eqv_intsK (a := s) (b := t)
    rw [List.map_cons, List.map_cons, PyData.eqvAll, ih]
    simp only [PyData.eqv]
    rw [Bool.eq_iff_iff]
    simp
theorem leK_eq : dataLe false totK = fun a b => decide (a.sum < b.sum ∨ (a.sum = b.sum ∧ a ≤ b)) := by
  funext p q
  show (!dataLt (totK q) (totK p)) = _
  unfold totK encT
  rw [dataLt_pair (by simp [alike]) (by unfold alike; exact alike_ints _ _), dataLt_int, dataLt_tuple]
  have e3 : PyData.eqv (.tuple (q.map PyData.int)) (.tuple (p.map PyData.int)) = decide (q = p) := by
    show PyData.eqvAll _ _ = _
    exact eqv_intsK
  have e4 : PyData.eqv (.int q.sum) (.int p.sum) = decide (q.sum = p.sum) := by
    rw [Bool.eq_iff_iff]
    simp [PyData.eqv]
  rw [e3, e4]
  have e5 : PyProof.Rows.lexLt itemOrd (keyToksAll (q.map PyData.int)) (keyToksAll (p.map PyData.int)) = decide (q < p) := dataLt_ints q p
  rw [e5]
  by_cases h1 : q.sum = p.sum
  · rw [if_pos (decide_eq_true h1)]
    by_cases h2 : q = p
    · subst h2
      simp [List.le_refl]
    · rw [if_neg (by simpa using h2)]
      by_cases h3 : q < p
      · have h4 : ¬ p ≤ q := fun r => List.not_lt.mpr r h3
        simp [h1, h3, h4]
      · have h4 : p ≤ q := List.not_lt.mp h3
        simp [h1, h3, h4]
  · rw [if_neg (by simpa using h1)]
    by_cases h3 : q.sum < p.sum
    · have h4 : ¬ (p.sum < q.sum ∨ (p.sum = q.sum ∧ p ≤ q)) := by omega
      simp [h3, h4]
    · have h4 : p.sum < q.sum ∨ (p.sum = q.sum ∧ p ≤ q) := by omega
      simp [h3, h4]
end
end Dm

namespace W
noncomputable section
open PySem PySem.Spec PyProof.Rows L2 Dm
def f_is_amount : SS :=
    (rtS 1 (atE .an (anE (isiE "int" (nmE 0)) (anE (ntE (isiE "bool" (nmE 0))) (opE geD (nmE 0) (csE (.int 0)))))))
def m_is_amount : PF := pfOf 0 f_is_amount
def f_changed : SS :=
    (rtS 3 (opE addD (opE addD (slE (nmE 0) noO (soO (nmE 1))) (tuE (consA (opE addD (opE ixD (nmE 0) (nmE 1)) (nmE 2)) nilA))) (slE (nmE 0) (soO (atE .an (opE addD (nmE 1) (csE (.int 1))))) noO)))
def m_changed : PF := pfOf 0 f_changed
abbrev lp_taken_from_0 : SS :=
    (ifS .an (asT (opE gtD (opE ixD (nmE 0) (nmE 2)) (csE (.int 0)))) (rtS 2 (nmE 2)) skS)
def f_taken_from : SS :=
    (sqS (forS .bo (itA (nmE 1)) (nmG 2) lp_taken_from_0)
    (rtS 2 (csE .none)))
def m_taken_from : PF := pfOf 1 f_taken_from
abbrev lp_left_at_0 : SS :=
    (ifS .an (orT (asT (opE isND (opE ixD (nmE 0) (nmE 3)) (csE .none))) (asT (opE ltD (opE ixD (nmE 1) (nmE 3)) (opE ixD (nmE 0) (nmE 3))))) (rtS 3 (nmE 3)) skS)
def f_left_at : SS :=
    (sqS (forS .bo (itA (nmE 2)) (nmG 3) lp_left_at_0)
    (rtS 3 (csE .none)))
def m_left_at : PF := pfOf 1 f_left_at
def f_need_open : SS :=
    (ifS .an (asT (opE neD (lsE (lcA .bp [1] (itA (nmE 0)) (nmG 1) (asT (opE notND (nmE 1) (csE .none))) (nmE 1))) (liE nilA))) badS skS)
def m_need_open : PF := pfOf 1 f_need_open
def f_is_above : SS :=
    (rtS 2 (atE .an (cbE allG (consA (lsE (lcA .bp [2, 3] (agA zipG (consA (nmE 0) (consA (nmE 1) nilA))) (tuG 2 (consG (nmG 2) (consG (nmG 3) nilG))) yesT (opE geD (nmE 2) (nmE 3)))) nilA))))
def m_is_above : PF := pfOf 2 f_is_above
def f_wanted : SS :=
    (rtS 2 (lsE (lcA .bp [2] (agA rg1D (consA (atE .an (cbE lenG (consA (nmE 0) nilA))) nilA)) (nmG 2) yesT (atE .an (cbE lenG (consA (lsE (lcA .bp [3, 4] (itA (nmE 1)) (tuG 2 (consG (nmG 3) (consG (nmG 4) nilG))) (asT (opE inTD (nmE 2) (nmE 3))) (csE (.int 1)))) nilA))))))
def m_wanted : PF := pfOf 3 f_wanted
def f_by_total : SS :=
    (rtS 1 (tuE (consA (atE .an (cbE sumA (consA (nmE 0) nilA))) (consA (nmE 0) nilA))))
def m_by_total : PF := pfOf 0 f_by_total
def f__law_cell_at : SS :=
    (sqS (ifS .an (asT (opE ltD (nmE 1) (slenE 0))) (rtS 2 (sixE 0 (nmE 1))) skS)
    (rtS 2 (csE (.int 0))))
def c__law_cell_at : SF := sfOf 0 f__law_cell_at
def f__law_bag : SS :=
    (rtS 2 (liE (consA (atE .an (cbE maxG (consA (csE (.int 0)) (consA (opE subD (nmE 0) (opE powD (csE (.int 10)) (csE (.int 18)))) nilA)))) (consA (atE .an (opE addD (opE modD (nmE 0) (csE (.int 162259276829213363391578010288127))) (opE mulD (csE (.int 5417)) (opE addD (nmE 1) (csE (.int 1)))))) (consA (csE (.int 0)) nilA)))))
def m__law_bag : PF := pfOf 0 f__law_bag
def f__law_take : SS :=
    (sqS (ifS .an (asT (opE gtD (opE ixD (nmE 0) (csE (.int 0))) (csE (.int 1)))) (sqS (vaS 2 (atE .an (opE modD (opE ixD (nmE 0) (csE (.int 0))) (nmE 1))))
    (sqS (stS 0 (atE .an (opE divD (opE ixD (nmE 0) (csE (.int 0))) (nmE 1))) (csE (.int 0)))
    (rtS 2 (nmE 2)))) skS)
    (sqS (stS 0 (atE .an (opE addD (opE ixD (nmE 0) (csE (.int 2))) (csE (.int 1)))) (csE (.int 2)))
    (sqS (vaS 3 (atE .an (opE modD (opE powD (opE addD (opE ixD (nmE 0) (csE (.int 1))) (opE mulD (csE (.int 1299721)) (opE ixD (nmE 0) (csE (.int 2))))) (csE (.int 3))) (csE (.int 162259276829213363391578010288127)))))
    (sqS (vaS 3 (atE .an (opE modD (opE powD (opE addD (nmE 3) (opE mulD (csE (.int 15485867)) (opE ixD (nmE 0) (csE (.int 2))))) (csE (.int 5))) (csE (.int 618970019642690137449562111)))))
    (rtS 2 (atE .an (opE modD (opE divD (nmE 3) (csE (.int 1048576))) (nmE 1))))))))
def o__law_take : OF := ofOf 2 f__law_take
abbrev lp__law_most_0 : SS :=
    (sqS (ifS .an (asT (opE eqD (opE ixD (nmE 6) (csE (.int 0))) (nmE 1))) (sqS (vaS 2 (atE .an (opE subD (nmE 2) (csE (.int 1)))))
    (ifS .an (asT (opE gtD (opE subD (csE (.int 0)) (nmE 2)) (nmE 3))) (tgS .va (tuG 2 (consG (nmG 3) (consG (nmG 4) nilG))) (tuE (consA (atE .an (opE subD (csE (.int 0)) (nmE 2))) (consA (nmE 5) nilA)))) skS)) skS)
    (ifS .an (asT (opE eqD (nmE 7) (tuE (consA (nmE 1) nilA)))) (vaS 2 (atE .an (opE addD (nmE 2) (csE (.int 1))))) skS))
def f__law_most : SS :=
    (sqS (tgS .va (tuG 3 (consG (nmG 2) (consG (nmG 3) (consG (nmG 4) nilG)))) (tuE (consA (csE (.int 0)) (consA (csE (.int 0)) (consA (csE .none) nilA)))))
    (sqS (forS .bo (agA enumG (consA (nmE 0) nilA)) (tuG 2 (consG (nmG 5) (consG (tuG 2 (consG (nmG 6) (consG (nmG 7) nilG))) nilG))) lp__law_most_0)
    (rtS 2 (tuE (consA (nmE 3) (consA (nmE 4) nilA))))))
def m__law_most : PF := pfOf 6 f__law_most
def f_is_yard : SS :=
    (sqS (ifS .an (orT (ntT (asT (isiE "tuple" (nmE 0)))) (ntT (asT (chE leD leD (csE (.int 1)) (cbE lenG (consA (nmE 0) nilA)) (csE (.int 9)))))) (rtS 1 (csE (.bool false))) skS)
    (rtS 1 (atE .an (cbE allG (consA (lsE (lcA .bp [1] (itA (nmE 0)) (nmG 1) yesT (orE (opE isND (nmE 1) (csE .none)) (clE .an 1 m_is_amount (consA (nmE 1) nilA))))) nilA)))))
def m_is_yard : PF := pfOf 1 f_is_yard
def f_is_place : SS :=
    (rtS 2 (atE .an (anE (clE .an 1 m_is_amount (consA (nmE 1) nilA)) (opE ltD (nmE 1) (cbE lenG (consA (nmE 0) nilA))))))
def m_is_place : PF := pfOf 0 f_is_place
def f_asked : SS :=
    (sqS (tgS .va (tuG 2 (consG (nmG 3) (consG (nmG 4) nilG))) (nmE 2))
    (sqS (vaS 5 (clE .an 2 m_taken_from (consA (nmE 1) (consA (nmE 3) nilA))))
    (sqS (ifS .an (asT (opE isND (nmE 5) (csE .none))) (rtS 3 (tuE (consA (csE .none) (consA (nmE 1) nilA)))) skS)
    (sqS (vaS 1 (clE .an 3 m_changed (consA (nmE 1) (consA (nmE 5) (consA (unE negD (csE (.int 1))) nilA)))))
    (sqS (vaS 6 (clE .an 3 m_left_at (consA (nmE 0) (consA (nmE 1) (consA (nmE 4) nilA)))))
    (rtS 3 (tuE (consA (tuE (consA (nmE 5) (consA (nmE 6) nilA))) (consA (ifE (atT .an (asT (opE isND (nmE 6) (csE .none)))) (nmE 1) (clE .an 3 m_changed (consA (nmE 1) (consA (nmE 6) (consA (csE (.int 1)) nilA))))) nilA)))))))))
def m_asked : PF := pfOf 4 f_asked
def f_need_some : SS :=
    (sqS (ifS .an (orT (ntT (asT (isiE "list" (nmE 1)))) (ntT (asT (cbE allG (consA (lsE (lcA .bp [2] (itA (nmE 1)) (nmG 2) yesT (anE (clE .an 1 m_is_amount (consA (nmE 2) nilA)) (opE ltD (nmE 2) (cbE lenG (consA (nmE 0) nilA)))))) nilA))))) badS skS)
    (ifS .an (ntT (asT (cbE allG (consA (lsE (lcA .bp [2, 3] (agA zipG (consA (nmE 1) (consA (slE (nmE 1) (soO (csE (.int 1))) noO) nilA))) (tuG 2 (consG (nmG 2) (consG (nmG 3) nilG))) yesT (opE ltD (nmE 2) (nmE 3)))) nilA)))) badS skS))
def m_need_some : PF := pfOf 2 f_need_some
def f_need_most : SS :=
    (ifS .an (orT (ntT (asT (clE .an 1 m_is_amount (consA (nmE 0) nilA)))) (asT (opE ltD (nmE 0) (csE (.int 1))))) badS skS)
def m_need_most : PF := pfOf 0 f_need_most
abbrev lp__law_unlike_0 : SS :=
    (apS 5 (poE 4 (clO 0 1 o__law_take (consA (atE .an (cbE lenG (consA (nmE 4) nilA))) nilA))))
def f__law_unlike : SS :=
    (sqS (owS 4 4 (lrA (nmE 1)))
    (sqS (owS 4 5 (szA nilA))
    (sqS (forS .bo (agA rg1D (consA (cbE minG (consA (nmE 1) (consA (opE addD (nmE 2) (clO 0 1 o__law_take (consA (atE .an (opE addD (opE subD (nmE 3) (nmE 2)) (csE (.int 1)))) nilA))) nilA))) nilA)) (nmG 6) lp__law_unlike_0)
    (rtS 4 (cbE tupG (consA (nmE 5) nilA))))))
def o__law_unlike : OF := ofOf 3 f__law_unlike
def f_are_places : SS :=
    (sqS (ifS .an (orT (ntT (asT (isiE "tuple" (nmE 1)))) (ntT (asT (cbE allG (consA (lsE (lcA .bp [2] (itA (nmE 1)) (nmG 2) yesT (clE .an 2 m_is_place (consA (nmE 0) (consA (nmE 2) nilA))))) nilA))))) (rtS 2 (csE (.bool false))) skS)
    (rtS 2 (atE .an (opE eqD (unE lsetD (nmE 1)) (cbE lenG (consA (nmE 1) nilA))))))
def m_are_places : PF := pfOf 1 f_are_places
def f_need_yard : SS :=
    (ifS .an (ntT (asT (clE .an 1 m_is_yard (consA (nmE 0) nilA)))) badS skS)
def m_need_yard : PF := pfOf 0 f_need_yard
abbrev lp_gone_0 : SS :=
    (sqS (tgS .va (tuG 2 (consG (nmG 5) (consG (nmG 1) nilG))) (clE .an 3 m_asked (consA (nmE 0) (consA (nmE 1) (consA (nmE 4) nilA)))))
    (apS 3 (nmE 5)))
def f_gone : SS :=
    (sqS (owS 3 3 (szA nilA))
    (sqS (forS .bo (itA (nmE 2)) (nmG 4) lp_gone_0)
    (rtS 3 (tuE (consA (nmE 3) (consA (nmE 1) nilA))))))
def m_gone : PF := pfOf 3 f_gone
abbrev lp__law_plain_0 : SS :=
    (sqS (vaS 5 (clO 0 3 o__law_unlike (consA (nmE 1) (consA (csE (.int 1)) (consA (csE (.int 1)) nilA)))))
    (sqS (ifS .bo (anT (asT (opE gtD (nmE 4) (csE (.int 0)))) (anT (asT (opE neD (atE .an (opE ixD (opE ixD (nmE 3) (unE negD (csE (.int 1)))) (csE (.int 1)))) (tuE nilA))) (asT (opE eqD (clO 0 1 o__law_take (consA (csE (.int 3)) nilA)) (csE (.int 0)))))) (vaS 5 (atE .an (opE ixD (opE ixD (nmE 3) (unE negD (csE (.int 1)))) (csE (.int 1))))) skS)
    (apS 3 (tuE (consA (nmE 5) (consA (clO 0 3 o__law_unlike (consA (nmE 1) (consA (cbE intG (consA (opE gtD (clO 0 1 o__law_take (consA (csE (.int 5)) nilA)) (csE (.int 0))) nilA)) (consA (csE (.int 1)) nilA)))) nilA))))))
def f__law_plain : SS :=
    (sqS (owS 3 3 (szA nilA))
    (sqS (forS .bo (agA rg1D (consA (nmE 2) nilA)) (nmG 4) lp__law_plain_0)
    (rtS 3 (nmE 3))))
def o__law_plain : OF := ofOf 3 f__law_plain
def f_is_standing : SS :=
    (sqS (exS .an (clE .an 1 m_need_yard (consA (nmE 0) nilA)))
    (sqS (ifS .an (orT (ntT (asT (isiE "tuple" (nmE 1)))) (orT (asT (opE neD (cbE lenG (consA (nmE 1) nilA)) (cbE lenG (consA (nmE 0) nilA)))) (ntT (asT (cbE allG (consA (lsE (lcA .bp [2] (itA (nmE 1)) (nmG 2) yesT (clE .an 1 m_is_amount (consA (nmE 2) nilA)))) nilA)))))) (rtS 2 (csE (.bool false))) skS)
    (rtS 2 (atE .an (cbE allG (consA (lsE (lcA .bp [2, 3] (agA zipG (consA (nmE 1) (consA (nmE 0) nilA))) (tuG 2 (consG (nmG 2) (consG (nmG 3) nilG))) yesT (orE (opE isND (nmE 3) (csE .none)) (opE leD (nmE 2) (nmE 3))))) nilA))))))
def m_is_standing : PF := pfOf 2 f_is_standing
def f_is_ask : SS :=
    (rtS 2 (atE .an (anE (isiE "tuple" (nmE 1)) (anE (opE eqD (cbE lenG (consA (nmE 1) nilA)) (csE (.int 2))) (cbE allG (consA (lsE (lcA .bp [2] (itA (nmE 1)) (nmG 2) yesT (clE .an 2 m_are_places (consA (nmE 0) (consA (nmE 2) nilA))))) nilA))))))
def m_is_ask : PF := pfOf 1 f_is_ask
def f_served_by : SS :=
    (rtS 3 (lsE (lcA .bp [3, 4] (agA enumG (consA (opE ixD (clE .an 3 m_gone (consA (nmE 0) (consA (nmE 1) (consA (nmE 2) nilA)))) (csE (.int 0))) nilA)) (tuG 2 (consG (nmG 3) (consG (nmG 4) nilG))) (atT .an (asT (opE notND (nmE 4) (csE .none)))) (nmE 3))))
def m_served_by : PF := pfOf 2 f_served_by
abbrev lp_all_up_to_0 : SS :=
    (vaS 1 (lsE (lvA (lrcA .bp [3, 4] (itA (nmE 1)) (nmG 3) (atE .an (opE addD (nmE 2) (csE (.int 1)))) 4 (opE addD (nmE 3) (tuE (consA (nmE 4) nilA)))))))
def f_all_up_to : SS :=
    (sqS (vaS 1 (liE (consA (tuE nilA) nilA)))
    (sqS (forS .bo (itA (nmE 0)) (nmG 2) lp_all_up_to_0)
    (rtS 1 (lsE (soKA totK (nmE 1))))))
def m_all_up_to : PF := pfOf 4 f_all_up_to
def f_is_day : SS :=
    (sqS (exS .an (clE .an 1 m_need_yard (consA (nmE 0) nilA)))
    (rtS 2 (atE .an (anE (isiE "list" (nmE 1)) (cbE allG (consA (lsE (lcA .bp [2] (itA (nmE 1)) (nmG 2) yesT (clE .an 2 m_is_ask (consA (nmE 0) (consA (nmE 2) nilA))))) nilA))))))
def m_is_day : PF := pfOf 1 f_is_day
def f_need_standing : SS :=
    (ifS .an (ntT (asT (clE .an 2 m_is_standing (consA (nmE 0) (consA (nmE 1) nilA))))) badS skS)
def m_need_standing : PF := pfOf 0 f_need_standing
abbrev lp_first_without_0 : SS :=
    (ifS .an (asT (inDcE true (nmE 5) 4)) (rtS 4 (nmE 5)) skS)
def f_first_without : SS :=
    (sqS (dcS 4 4 (dvA (dcA .bp [5] (itA (clE .an 3 m_served_by (consA (nmE 0) (consA (nmE 1) (consA (nmE 2) nilA))))) (nmG 5) (nmE 5) (csE (.bool true)))))
    (sqS (forS .bo (itA (nmE 3)) (nmG 5) lp_first_without_0)
    (rtS 4 (csE .none))))
def m_first_without : PF := pfOf 2 f_first_without
def f_need_day : SS :=
    (ifS .an (ntT (asT (clE .an 2 m_is_day (consA (nmE 0) (consA (nmE 1) nilA))))) badS skS)
def m_need_day : PF := pfOf 0 f_need_day
def f_need_all : SS :=
    (sqS (exS .an (clE .an 1 m_need_yard (consA (nmE 0) nilA)))
    (sqS (exS .an (clE .an 2 m_need_standing (consA (nmE 0) (consA (nmE 1) nilA))))
    (exS .an (clE .an 2 m_need_day (consA (nmE 0) (consA (nmE 2) nilA))))))
def m_need_all : PF := pfOf 0 f_need_all
abbrev lp_least_for_0 : SS :=
    (ifS .an (ntT (asT (cbE anyG (consA (lsE (lcA .an [9] (itA (nmE 7)) (nmG 9) yesT (clE .an 2 m_is_above (consA (nmE 8) (consA (nmE 9) nilA))))) nilA)))) (ifS .an (asT (opE isND (clE .an 4 m_first_without (consA (nmE 0) (consA (nmE 8) (consA (nmE 1) (consA (nmE 2) nilA))))) (csE .none))) (apS 7 (nmE 8)) skS) skS)
abbrev lp_least_for_1 : SS :=
    (amS 5 (opE addD (nmE 6) (csE (.int 1))))
def f_least_for : SS :=
    (sqS (exS .an (clE .an 1 m_need_yard (consA (nmE 0) nilA)))
    (sqS (exS .an (clE .an 2 m_need_day (consA (nmE 0) (consA (nmE 1) nilA))))
    (sqS (exS .an (clE .an 1 m_need_open (consA (nmE 0) nilA)))
    (sqS (exS .an (clE .an 2 m_need_some (consA (nmE 1) (consA (nmE 2) nilA))))
    (sqS (exS .an (clE .an 1 m_need_most (consA (nmE 3) nilA)))
    (sqS (vaS 4 (clE .an 2 m_wanted (consA (nmE 0) (consA (nmE 1) nilA))))
    (sqS (vaS 5 (csE (.int 1)))
    (sqS (forS .bo (itA (nmE 4)) (nmG 6) lp_least_for_1)
    (sqS (ifS .an (asT (opE gtD (nmE 5) (nmE 3))) badS skS)
    (sqS (owS 4 7 (szA nilA))
    (sqS (forS .bo (itA (clE .an 1 m_all_up_to (consA (nmE 4) nilA))) (nmG 8) lp_least_for_0)
    (rtS 4 (lsE (soPA (nmE 7)))))))))))))))
def m_least_for : PF := pfOf 6 f_least_for
def f_lacks : SS :=
    (sqS (exS .an (clE .an 1 m_need_yard (consA (nmE 0) nilA)))
    (sqS (exS .an (clE .an 2 m_need_standing (consA (nmE 0) (consA (nmE 1) nilA))))
    (sqS (exS .an (clE .an 2 m_need_day (consA (nmE 0) (consA (nmE 2) nilA))))
    (sqS (exS .an (clE .an 2 m_need_some (consA (nmE 2) (consA (nmE 3) nilA))))
    (rtS 4 (clE .an 4 m_first_without (consA (nmE 0) (consA (nmE 1) (consA (nmE 2) (consA (nmE 3) nilA))))))))))
def m_lacks : PF := pfOf 0 f_lacks
def f_go : SS :=
    (sqS (exS .an (clE .an 3 m_need_all (consA (nmE 0) (consA (nmE 1) (consA (nmE 2) nilA)))))
    (rtS 3 (clE .an 3 m_gone (consA (nmE 0) (consA (nmE 1) (consA (nmE 2) nilA))))))
def m_go : PF := pfOf 0 f_go
abbrev lp_one_fewer_0 : SS :=
    (ifS .an (asT (opE gtD (nmE 6) (csE (.int 0)))) (sqS (vaS 7 (opE addD (opE addD (slE (nmE 1) noO (soO (nmE 5))) (tuE (consA (atE .an (opE subD (nmE 6) (csE (.int 1)))) nilA))) (slE (nmE 1) (soO (atE .an (opE addD (nmE 5) (csE (.int 1))))) noO)))
    (apS 4 (tuE (consA (nmE 5) (consA (clE .an 4 m_first_without (consA (nmE 0) (consA (nmE 7) (consA (nmE 2) (consA (nmE 3) nilA))))) nilA))))) skS)
def f_one_fewer : SS :=
    (sqS (exS .an (clE .an 4 m_lacks (consA (nmE 0) (consA (nmE 1) (consA (nmE 2) (consA (nmE 3) nilA))))))
    (sqS (owS 4 4 (szA nilA))
    (sqS (forS .bo (agA enumA (consA (nmE 1) nilA)) (tuG 2 (consG (nmG 5) (consG (nmG 6) nilG))) lp_one_fewer_0)
    (rtS 4 (nmE 4)))))
def m_one_fewer : PF := pfOf 4 f_one_fewer
def f__law_right : SS :=
    (sqS (vaS 1 (opE eqD (clO 0 1 o__law_take (consA (csE (.int 2)) nilA)) (csE (.int 0))))
    (sqS (vaS 2 (opE addD (csE (.int 1)) (clO 0 1 o__law_take (consA (opE ixD (liE (consA (csE (.int 9)) (consA (csE (.int 4)) nilA))) (atE .an (cbE intG (consA (nmE 1) nilA)))) nilA))))
    (sqS (vaS 3 (clO 0 2 o__law_plain (consA (nmE 2) (consA (clO 0 1 o__law_take (consA (opE ixD (liE (consA (csE (.int 61)) (consA (csE (.int 9)) nilA))) (atE .an (cbE intG (consA (nmE 1) nilA)))) nilA)) nilA))))
    (sqS (vaS 4 (opE mulT (tuE (consA (csE .none) nilA)) (nmE 2)))
    (sqS (vaS 5 (lsE (lvA (lcA .bp [12] (agA rg1D (consA (nmE 2) nilA)) (nmG 12) yesT (clE .an 2 m__law_most (consA (nmE 3) (consA (nmE 12) nilA)))))))
    (sqS (vaS 6 (cbE tupG (consA (lsE (lvA (lcA .bp [13, 14] (itA (nmE 5)) (tuG 2 (consG (nmG 13) (consG (nmG 14) nilG))) yesT (nmE 13)))) nilA)))
    (sqS (vaS 7 (lsE (lrA (atE .an (cbE lenG (consA (nmE 3) nilA))))))
    (sqS (ifS .an (asT (opE notND (clE .an 4 m_lacks (consA (nmE 4) (consA (nmE 6) (consA (nmE 3) (consA (nmE 7) nilA))))) (csE .none))) (rtS 1 (csE (.bool false))) skS)
    (sqS (vaS 8 (lsE (lvA (lcA .bp [12] (agA rg1D (consA (nmE 2) nilA)) (nmG 12) (atT .an (asT (opE gtD (opE ixD (nmE 6) (nmE 12)) (csE (.int 0))))) (tuE (consA (nmE 12) (consA (opE ixD (opE ixD (nmE 5) (nmE 12)) (csE (.int 1))) nilA)))))))
    (sqS (ifS .an (asT (opE neD (clE .an 4 m_one_fewer (consA (nmE 4) (consA (nmE 6) (consA (nmE 3) (consA (nmE 7) nilA))))) (nmE 8))) (rtS 1 (csE (.bool false))) skS)
    (sqS (ifS .an (anT (asT (nmE 1)) (asT (opE neD (clK 3 1 [0, 1, 2, 3] m_least_for (consA (nmE 4) (consA (nmE 3) (consA (nmE 7) nilA))) (consA (opE powD (csE (.int 10)) (csE (.int 6))) nilA)) (liE (consA (nmE 6) nilA))))) (rtS 1 (csE (.bool false))) skS)
    (sqS (tgS .va (tuG 2 (consG (nmG 9) (consG (nmG 10) nilG))) (clE .an 3 m_go (consA (nmE 4) (consA (nmE 6) (consA (nmE 3) nilA)))))
    (sqS (vaS 11 (atE .an (cbE lenG (consA (lsE (lcA .bp [15] (itA (nmE 9)) (nmG 15) (orT (asT (opE isND (nmE 15) (csE .none))) (asT (opE isND (opE ixD (nmE 15) (csE (.int 1))) (csE .none)))) (csE (.int 1)))) nilA))))
    (rtS 1 (atE .an (anE (opE eqD (opE addD (cbE sumA (consA (nmE 10) nilA)) (nmE 11)) (cbE sumA (consA (nmE 6) nilA))) (opE notInD (csE .none) (nmE 9))))))))))))))))))
def o__law_right : OF := ofOf 15 f__law_right
def f_law : SS :=
    (rtS 1 (atE .an (cbE allG (consA (lsE (lcA .bp [1] (agA rg1D (consA (csE (.int 3)) nilA)) (nmG 1) yesT (clF o__law_right (clE .an 2 m__law_bag (consA (clSc 0 1 c__law_cell_at (consA (nmE 1) nilA)) (consA (nmE 1) nilA)))))) nilA))))
/-! ### the program's yards, typed -/
def eO : Option Int → D
  | none => .none
  | some i => .int i
def eN (n : Nat) : D := .int (n : Int)
def eNO : Option Nat → D
  | none => .none
  | some i => eN i
def eY (y : List (Option Int)) : D := .tuple (y.map eO)
def eS (s : List Int) : D := .tuple (s.map PyData.int)
def eP (p : List Nat) : D := .tuple (p.map eN)
abbrev Ask := List Nat × List Nat
def eA (a : Ask) : D := .tuple [eP a.1, eP a.2]
def eD (d : List Ask) : D := .list (d.map eA)
abbrev Row := Option (Nat × Option Nat)
def eRow : Row → D
  | none => .none
  | some r => .tuple [eN r.1, eNO r.2]
@[simp] theorem noL_eO {o : Option Int} : noL (eO o) = true := by cases o <;> rfl
@[simp] theorem noL_eN {o : Nat} : noL (eN o) = true := rfl
@[simp] theorem noL_eNO {o : Option Nat} : noL (eNO o) = true := by cases o <;> rfl
@[simp] theorem noL_eY {y : List (Option Int)} : noL (eY y) = true := noLs_map fun _ => noL_eO
@[simp] theorem noL_eS {y : List Int} : noL (eS y) = true := noLs_map fun _ => rfl
@[simp] theorem noL_eP {y : List Nat} : noL (eP y) = true := noLs_map fun _ => rfl
@[simp] theorem noL_eA {y : Ask} : noL (eA y) = true := by simp [eA]
@[simp] theorem noL_eRow {y : Row} : noL (eRow y) = true := by cases y <;> simp [eRow]
@[simp] theorem noLs_eN {l : List Nat} : noLs (l.map eN) = true := noLs_map fun _ => rfl
@[simp] theorem noLs_eO {l : List (Option Int)} : noLs (l.map eO) = true := noLs_map fun _ => noL_eO
@[simp] theorem noLs_eA {l : List Ask} : noLs (l.map eA) = true := noLs_map fun _ => noL_eA
@[simp] theorem noLs_eRow {l : List Row} : noLs (l.map eRow) = true := noLs_map fun _ => noL_eRow
@[simp] theorem itD_eS {s : List Int} : itD (eS s) = some (s.map PyData.int) := rfl
@[simp] theorem itD_eP {s : List Nat} : itD (eP s) = some (s.map eN) := rfl
@[simp] theorem itD_eY {s : List (Option Int)} : itD (eY s) = some (s.map eO) := rfl
@[simp] theorem itD_eD {s : List Ask} : itD (eD s) = some (s.map eA) := rfl
@[simp] theorem noL_eD {d : List Ask} : noL (eD d) = false := rfl
structure OkY (y : List (Option Int)) : Prop where
  lo : 1 ≤ y.length
  hi : y.length ≤ 9
  pos : ∀ i, some i ∈ y → 0 ≤ i
structure OkS (y : List (Option Int)) (s : List Int) : Prop where
  len : s.length = y.length
  pos : ∀ i ∈ s, 0 ≤ i
  fit : ∀ (p : Nat) (r x : Int), y[p]? = some (some r) → s[p]? = some x → x ≤ r
structure OkP (n : Nat) (p : List Nat) : Prop where
  lt : ∀ x ∈ p, x < n
  nodup : p.Nodup
def OkA (n : Nat) (a : Ask) : Prop := OkP n a.1 ∧ OkP n a.2
def OkD (n : Nat) (d : List Ask) : Prop := ∀ a ∈ d, OkA n a
def gS (s : List Int) (p : Nat) : Int := s[p]?.getD 0
def gO (s : List (Option Int)) (p : Nat) : Option Int := s[p]?.getD none
def takeT (s : List Int) (w : List Nat) : Option Nat := w.find? fun p => decide (0 < gS s p)
def leftT (y : List (Option Int)) (s : List Int) (l : List Nat) : Option Nat := l.find? fun p => match gO y p with
  | none => true
  | some r => decide (gS s p < r)
def chT (s : List Int) (p : Nat) (b : Int) : List Int := s.set p (gS s p + b)
def askT (y : List (Option Int)) (s : List Int) (a : Ask) : Row × List Int := match takeT s a.1 with
  | none => (none, s)
  | some p => match leftT y (chT s p (-1)) a.2 with
    | none => (some (p, none), chT s p (-1))
    | some q => (some (p, some q), chT (chT s p (-1)) q 1)
def goT (y : List (Option Int)) : List Int → List Ask → List Row × List Int
  | s, [] => ([], s)
  | s, a :: r => ((askT y s a).1 :: (goT y (askT y s a).2 r).1, (goT y (askT y s a).2 r).2)
@[simp] theorem ixS {s : List Int} {p : Nat} (h : p < s.length) : ixD (eS s) (eN p) = some (.int (gS s p)) := by
  unfold eS eN gS
  rw [ixd_tup, List.getElem?_map, List.getElem?_eq_getElem h]
  simp [h]
@[simp] theorem ixY {s : List (Option Int)} {p : Nat} (h : p < s.length) : ixD (eY s) (eN p) = some (eO (gO s p)) := by
  unfold eY eN gO
  rw [ixd_tup, List.getElem?_map, List.getElem?_eq_getElem h]
  simp [h]
@[simp] theorem slS1 {s : List Int} {p : Nat} : slD2 (eS s) none (some (p : Int)) = some (eS (s.take p)) := by
  show some (PyData.tuple (Dm.cutD _ _ _)) = _
  rw [cut_to, eS, List.map_take]
@[simp] theorem slS2 {s : List Int} {p : Nat} : slD2 (eS s) (some (p : Int)) none = some (eS (s.drop p)) := by
  show some (PyData.tuple (Dm.cutD _ _ _)) = _
  rw [cut_from, eS, List.map_drop]
@[simp] theorem slS3 {s : List Int} {p : Nat} : slD2 (eS s) (some ((p : Int) + 1)) none = some (eS (s.drop (p + 1))) := slS2
@[simp] theorem addS {s t : List Int} (h : s.length + t.length ≤ 16777216) : addD (eS s) (eS t) = some (eS (s ++ t)) := by
  unfold eS
  rw [add_tup (by simpa using h), List.map_append]
@[simp] theorem addS1 {s : List Int} {i : Int} (h : s.length < 16777216) : addD (eS s) (.tuple [.int i]) = some (eS (s ++ [i])) := addS (t := [i]) h
@[simp] theorem isNd_eN {n : Nat} : isNd (eN n) = false := rfl
@[simp] theorem isNd_eS {n : List Int} : isNd (eS n) = false := rfl
theorem isNd_eNO {n : Option Nat} : isNd (eNO n) = n.isNone := by cases n <;> rfl
theorem isNd_eO {n : Option Int} : isNd (eO n) = n.isNone := by cases n <;> rfl
theorem isNd_eRow {n : Row} : isNd (eRow n) = n.isNone := by cases n <;> rfl
@[simp] theorem add_eN {p : Nat} : addD (eN p) (.int 1) = some (eN (p + 1)) := rfl
@[simp] theorem isI_eN {p : Nat} : isI (eN p) = .ok (p : Int) := rfl
@[simp] theorem lenS {s : List Int} : lenG [eS s] = some (.int s.length) := by simp [eS]
@[simp] theorem lenY {s : List (Option Int)} : lenG [eY s] = some (.int s.length) := by simp [eY]
@[simp] theorem lenP {s : List Nat} : lenG [eP s] = some (.int s.length) := by simp [eP]
@[simp] theorem lenA {s : Ask} : lenG [eA s] = some (.int 2) := by simp [eA]
@[simp] theorem isiS {s : List Int} {T : String} : isiB T (eS s) = (T == "tuple") := isi_tup
@[simp] theorem isiY {s : List (Option Int)} {T : String} : isiB T (eY s) = (T == "tuple") := isi_tup
@[simp] theorem isiP {s : List Nat} {T : String} : isiB T (eP s) = (T == "tuple") := isi_tup
@[simp] theorem isiA {s : Ask} {T : String} : isiB T (eA s) = (T == "tuple") := isi_tup
@[simp] theorem isiD {s : List Ask} {T : String} : isiB T (eD s) = (T == "list") := isi_lst
@[simp] theorem isiN {s : Nat} {T : String} : isiB T (eN s) = (T == "int") := isi_int

theorem p_amount {i : Int} : m_is_amount [.int i] = .ok (.bool (decide (0 ≤ i))) := by
  simp [m_is_amount, pf_eq, f_is_amount, ev_nmE]
theorem chT_take {s : List Int} {p : Nat} {b : Int} (h : p < s.length) : s.take p ++ [gS s p + b] ++ s.drop (p + 1) = chT s p b := by
  unfold chT
  rw [List.set_eq_take_append_cons_drop, if_pos h]
  simp
theorem p_changed {s : List Int} {p : Nat} {b : Int} (h : p < s.length) (hs : s.length ≤ 9) : m_changed [eS s, eN p, .int b] = .ok (eS (chT s p b)) := by
  have h1 : (s.take p).length < 16777216 := by rw [List.length_take]; omega
  have h2 : (s.take p ++ [gS s p + b]).length + (s.drop (p + 1)).length ≤ 16777216 := by simp; omega
  simp only [m_changed, pf_eq, f_changed]
  simp [ev_nmE, h, addS1 h1, addS h2]
  rw [← chT_take h]; simp
theorem p_taken {s : List Int} {w : List Nat} (h : ∀ p ∈ w, p < s.length) : m_taken_from [eS s, eP w] = .ok (eNO (takeT s w)) := by
  have key : ∀ (w' : List Nat) (x : Sl), (∀ p ∈ w', p < s.length) → ∃ ρ, (forF .bo (nmG 2) (ifS .an (asT (opE gtD (opE ixD (nmE 0) (nmE 2)) (csE (.int 0)))) (rtS 2 (nmE 2)) skS) (w'.map eN) [.bo (eS s), .bo (eP w), x]) = (match takeT s w' with | none => .nx ρ | some p => .rt (eN p) ρ) := by
    intro w'
    induction w' with
    | nil => intro x _; exact ⟨_, rfl⟩
    | cons p r ih =>
      intro x hp
      have e := hp p (List.mem_cons_self ..)
      rw [List.map_cons, ev_forF_cons]
      simp [itS, ev_nmE, e, takeT, List.find?_cons]
      by_cases hg : 0 < gS s p
      · simp [hg]
      · simp [hg]
        have := ih (.va (eN p)) fun q hq => hp q (List.mem_cons_of_mem _ hq)
        simpa [takeT] using this
  obtain ⟨ρ, e⟩ := key w .no h
  simp [m_taken_from, pf_eq, f_taken_from, ev_nmE, e]
  cases takeT s w <;> simp [eNO, ev_nmE]
theorem p_left {y : List (Option Int)} {s : List Int} {w : List Nat} (h : ∀ p ∈ w, p < s.length) (hy : s.length = y.length) : m_left_at [eY y, eS s, eP w] = .ok (eNO (leftT y s w)) := by
  have key : ∀ (w' : List Nat) (x : Sl), (∀ p ∈ w', p < s.length) → ∃ ρ, (forF .bo (nmG 3) (ifS .an (orT (asT (opE isND (opE ixD (nmE 0) (nmE 3)) (csE .none))) (asT (opE ltD (opE ixD (nmE 1) (nmE 3)) (opE ixD (nmE 0) (nmE 3))))) (rtS 3 (nmE 3)) skS) (w'.map eN) [.bo (eY y), .bo (eS s), .bo (eP w), x]) = (match leftT y s w' with | none => .nx ρ | some p => .rt (eN p) ρ) := by
    intro w'
    induction w' with
    | nil => intro x _; exact ⟨_, rfl⟩
    | cons p r ih =>
      intro x hp
      have e := hp p (List.mem_cons_self ..)
      have ey : p < y.length := by omega
      rw [List.map_cons, ev_forF_cons]
      simp [itS, ev_nmE, e, ey, leftT, List.find?_cons]
      cases hg : gO y p with
      | none => simp [eO]
      | some m =>
        by_cases hl : gS s p < m
        · simp [eO, hl]
        · simp [eO, hl]
          have := ih (.va (eN p)) fun q hq => hp q (List.mem_cons_of_mem _ hq)
          simpa [leftT] using this
  obtain ⟨ρ, e⟩ := key w .no h
  simp [m_left_at, pf_eq, f_left_at, ev_nmE, e]
  cases leftT y s w <;> simp [eNO, ev_nmE]
theorem len_ch {s : List Int} {p : Nat} {b : Int} : (chT s p b).length = s.length := by simp [chT]
theorem find_mem {p : Nat → Bool} {w : List Nat} {x : Nat} (h : w.find? p = some x) : x ∈ w := List.mem_of_find?_eq_some h
theorem p_asked {y : List (Option Int)} {s : List Int} {a : Ask} (hy : s.length = y.length) (hl : y.length ≤ 9) (ha : OkA y.length a) : m_asked [eY y, eS s, eA a] = .ok (.tuple [eRow (askT y s a).1, eS (askT y s a).2]) := by
  have h1 : ∀ p ∈ a.1, p < s.length := fun p hp => by rw [hy]; exact ha.1.lt p hp
  have h2 : ∀ p ∈ a.2, p < s.length := fun p hp => by rw [hy]; exact ha.2.lt p hp
  simp only [m_asked, pf_eq, f_asked]
  simp [ev_nmE, eA, itS, p_taken h1]
  unfold askT
  cases ht : takeT s a.1 with
  | none => simp [eNO, eRow]
  | some p =>
    have hp := h1 p (find_mem ht)
    have h3 : ∀ q ∈ a.2, q < (chT s p (-1)).length := fun q hq => by rw [len_ch]; exact h2 q hq
    simp [eNO, ev_nmE, p_changed hp (by omega : s.length ≤ 9), p_left h3 (by rw [len_ch]; exact hy)]
    cases hq : leftT y (chT s p (-1)) a.2 with
    | none => simp [eNO, ev_nmE, eRow]
    | some q =>
      simp [eNO, ev_nmE, eRow, p_changed (h3 q (find_mem hq)) (by rw [len_ch]; omega)]
theorem gS_of {s : List Int} {p : Nat} {x : Int} (h : s[p]? = some x) : gS s p = x := by simp [gS, h]
theorem gO_of {s : List (Option Int)} {p : Nat} {x : Option Int} (h : s[p]? = some x) : gO s p = x := by simp [gO, h]
theorem get_ch {s : List Int} {p q : Nat} {b x : Int} (h : (chT s p b)[q]? = some x) : (q = p ∧ x = gS s p + b ∧ p < s.length) ∨ (q ≠ p ∧ s[q]? = some x) := by
  unfold chT at h
  rw [List.getElem?_set] at h
  by_cases e : p = q
  · subst e
    rw [if_pos rfl] at h
    by_cases hl : p < s.length
    · rw [if_pos hl] at h; cases h; exact .inl ⟨rfl, rfl, hl⟩
    · rw [if_neg hl] at h; cases h
  · rw [if_neg e] at h; exact .inr ⟨fun z => e z.symm, h⟩
theorem OkS.get {y : List (Option Int)} {s : List Int} (h : OkS y s) {p : Nat} (hp : p < s.length) : s[p]? = some (gS s p) ∧ 0 ≤ gS s p := by
  have e : s[p]? = some (s[p]) := List.getElem?_eq_getElem hp
  have e2 : gS s p = s[p] := gS_of e
  rw [e2]
  exact ⟨e, h.pos _ (List.getElem_mem hp)⟩
theorem OkS.down {y : List (Option Int)} {s : List Int} (h : OkS y s) {p : Nat} (hp : p < s.length) (hg : 0 < gS s p) : OkS y (chT s p (-1)) where
  len := by rw [len_ch, h.len]
  pos := fun i hi => by
    obtain ⟨q, hq⟩ := List.mem_iff_getElem?.mp hi
    rcases get_ch hq with ⟨_, e, _⟩ | ⟨_, e⟩
    · omega
    · exact h.pos i (List.mem_of_getElem? e)
  fit := fun q r x hr hx => by
    rcases get_ch hx with ⟨e1, e, _⟩ | ⟨_, e⟩
    · subst e1
      have := h.fit q r _ hr (h.get hp).1
      omega
    · exact h.fit q r x hr e
theorem OkS.up {y : List (Option Int)} {s : List Int} (h : OkS y s) {p : Nat} (hp : p < s.length) (hg : ∀ r, gO y p = some r → gS s p < r) : OkS y (chT s p 1) where
  len := by rw [len_ch, h.len]
  pos := fun i hi => by
    obtain ⟨q, hq⟩ := List.mem_iff_getElem?.mp hi
    rcases get_ch hq with ⟨_, e, _⟩ | ⟨_, e⟩
    · have := (h.get hp).2; omega
    · exact h.pos i (List.mem_of_getElem? e)
  fit := fun q r x hr hx => by
    rcases get_ch hx with ⟨e1, e, _⟩ | ⟨_, e⟩
    · subst e1
      have := hg r (gO_of hr)
      omega
    · exact h.fit q r x hr e
theorem take_pos {s : List Int} {w : List Nat} {p : Nat} (h : takeT s w = some p) : p ∈ w ∧ 0 < gS s p := ⟨List.mem_of_find?_eq_some h, by simpa using List.find?_some h⟩
theorem left_ok {y : List (Option Int)} {s : List Int} {w : List Nat} {p : Nat} (h : leftT y s w = some p) : p ∈ w ∧ ∀ r, gO y p = some r → gS s p < r := ⟨List.mem_of_find?_eq_some h, fun r hr => by
  have := List.find?_some h
  simpa [hr] using this⟩
theorem OkS.ask {y : List (Option Int)} {s : List Int} {a : Ask} (h : OkS y s) (ha : OkA y.length a) : OkS y (askT y s a).2 := by
  unfold askT
  cases ht : takeT s a.1 with
  | none => exact h
  | some p =>
    obtain ⟨h1, h2⟩ := take_pos ht
    have hp : p < s.length := by rw [h.len]; exact ha.1.lt p h1
    have hd := h.down hp h2
    dsimp only
    cases hq : leftT y (chT s p (-1)) a.2 with
    | none => exact hd
    | some q =>
      obtain ⟨h3, h4⟩ := left_ok hq
      exact hd.up (by rw [hd.len]; exact ha.2.lt q h3) h4
theorem OkD.tl {n : Nat} {a : Ask} {d : List Ask} (h : OkD n (a :: d)) : OkD n d := fun b hb => h b (List.mem_cons_of_mem _ hb)
theorem OkD.hd {n : Nat} {a : Ask} {d : List Ask} (h : OkD n (a :: d)) : OkA n a := h a (List.mem_cons_self ..)
theorem OkS.go {y : List (Option Int)} : ∀ {d : List Ask} {s : List Int}, OkS y s → OkD y.length d → OkS y (goT y s d).2
  | [], _, h, _ => h
  | a :: r, s, h, hd => by
    have := OkS.go (d := r) (h.ask hd.hd) hd.tl
    exact this
theorem go_len {y : List (Option Int)} : ∀ {d : List Ask} {s : List Int}, (goT y s d).1.length = d.length
  | [], _ => rfl
  | _ :: _, _ => by simp [goT, go_len]
theorem p_gone {y : List (Option Int)} {s : List Int} {d : List Ask} (hy : OkY y) (hs : OkS y s) (hd : OkD y.length d) (hl : d.length ≤ 1000000) : m_gone [eY y, eS s, eD d] = .ok (.tuple [.list ((goT y s d).1.map eRow), eS (goT y s d).2]) := by
  have key : ∀ (d' : List Ask) (s : List Int) (rows : List Row) (x x2 xs : Sl), (xs = .va (eS s) ∨ xs = .bo (eS s)) → OkS y s → OkD y.length d' → rows.length + d'.length ≤ 1000000 →
      ∃ x' x2' xs' : Sl, (xs' = .va (eS (goT y s d').2) ∨ xs' = .bo (eS (goT y s d').2)) ∧ forF .bo (nmG 4) (sqS (tgS .va (tuG 2 (consG (nmG 5) (consG (nmG 1) nilG))) (clE .an 3 m_asked (consA (nmE 0) (consA (nmE 1) (consA (nmE 4) nilA))))) (apS 3 (nmE 5))) (d'.map eA) [.bo (eY y), xs, .bo (eD d), .ow (rows.map eRow), x, x2] =
      .nx [.bo (eY y), xs', .bo (eD d), .ow (rows.map eRow ++ (goT y s d').1.map eRow), x', x2'] := by
    intro d'
    induction d' with
    | nil => intro s rows x x2 xs hx _ _ _; exact ⟨x, x2, xs, hx, by simp [ev_forF_nil, goT]⟩
    | cons a r ih =>
      intro s rows x x2 xs hx hs hd hl
      rw [List.length_cons] at hl
      have e := p_asked (a := a) hs.len hy.hi hd.hd
      have hn : slD Lv.an 1 xs = .ok (eS s) := by rcases hx with rfl | rfl <;> simp
      have hlr : rows.length < 16777216 := by omega
      obtain ⟨x', x2', xs', hx', h⟩ := ih (askT y s a).2 (rows ++ [(askT y s a).1]) (.va (eA a)) (.va (eRow (askT y s a).1)) _ (.inl rfl) (hs.ask hd.hd) hd.tl (by simp; omega)
      refine ⟨x', x2', xs', hx', ?_⟩
      rw [List.map_cons, ev_forF_cons]
      simp [itS, ev_nmE, hn, e, hlr]
      simpa [goT] using h
  obtain ⟨x', x2', xs', hx', h⟩ := key d s [] .no .no (.bo (eS s)) (.inr rfl) hs hd (by simpa using hl)
  simp [m_gone, pf_eq, f_gone, ev_nmE]
  simp at h
  rw [h]
  rcases hx' with rfl | rfl <;> simp [ev_nmE]
theorem map_true {l : List Bool} (h : ∀ b ∈ l, b = true) : l = List.replicate l.length true := List.eq_replicate_of_mem h
theorem bools_map {α : Type} {f : α → Bool} {l : List α} : bools? (l.map fun a => PyData.bool (f a)) = some (l.map f) := by
  have := @bools?_map (l.map f)
  rwa [List.map_map] at this
theorem all_map {α : Type} {f : α → Bool} {l : List α} : allG [.list (l.map fun a => PyData.bool (f a))] = some (.bool (l.all f)) := by
  have := @all_bools (l.map f)
  rw [List.map_map] at this
  rw [show (fun a => PyData.bool (f a)) = PyData.bool ∘ f from rfl, this]; simp
theorem p_is_yard {y : List (Option Int)} (h : OkY y) : m_is_yard [eY y] = .ok (.bool true) := by
  have hc : compF .bp .an [1] (nmG 1) yesT (orE (opE isND (nmE 1) (csE .none)) (clE .an 1 m_is_amount (consA (nmE 1) nilA))) (y.map eO) [.bo (eY y), .no] = .ok (y.map fun _ => .bool true, [.bo (eY y), .no]) :=
    compF_map _ y fun o ho => by
      cases o with
      | none => exact ⟨[.bo (eY y), .va .none], by simp [itS, eO], by simp [wiS], by simp [ev_nmE], .inr rfl⟩
      | some i => exact ⟨[.bo (eY y), .va (.int i)], by simp [itS, eO], by simp [wiS], by simp [ev_nmE, p_amount, h.pos i ho], .inr rfl⟩
  have h1 := h.lo
  have h2 := h.hi
  have h3 : y.length ≤ 16777216 := by omega
  have h4 : (1 : Int) ≤ (y.length : Int) := by omega
  have h5 : (y.length : Int) ≤ 9 := by omega
  simp [m_is_yard, pf_eq, f_is_yard, ev_nmE, okO, wiS, h4, h5, hc, h3, reS, all_map]
theorem p_is_place {y : List (Option Int)} {p : Nat} (h : p < y.length) : m_is_place [eY y, eN p] = .ok (.bool true) := by
  have e : m_is_amount [eN p] = .ok (.bool true) := by have := @p_amount (p : Int); simpa [eN] using this
  have hp : (p : Int) < (y.length : Int) := by omega
  simp [m_is_place, pf_eq, f_is_place, ev_nmE, e]
  simp [eN, hp]
theorem ints_eN : ∀ {l : List Nat}, ints? (l.map eN) = some (l.map fun n : Nat => (n : Int))
  | [] => rfl
  | a :: r => by rw [List.map_cons, eN, ints?, ints_eN]; rfl
theorem all_tt {α : Type} {l : List α} : allG [.list (l.map fun _ => PyData.bool true)] = some (.bool true) := by
  rw [all_map (f := fun _ => true)]; simp
theorem p_are_places {y : List (Option Int)} {w : List Nat} (hy : y.length ≤ 9) (h : OkP y.length w) : m_are_places [eY y, eP w] = .ok (.bool true) := by
  have hc : compF .bp .an [2] (nmG 2) yesT (clE .an 2 m_is_place (consA (nmE 0) (consA (nmE 2) nilA))) (w.map eN) [.bo (eY y), .bo (eP w), .no] = .ok (w.map fun _ => .bool true, [.bo (eY y), .bo (eP w), .no]) :=
    compF_map _ w fun p hp => ⟨[.bo (eY y), .bo (eP w), .va (eN p)], by simp [itS], by simp [wiS], by simp [ev_nmE, p_is_place (h.lt p hp)], .inr rfl⟩
  have hn : (w.map fun n : Nat => (n : Int)).Nodup := by
    exact List.Pairwise.map _ (fun a b (hab : a ≠ b) z => hab (by omega)) h.nodup
  have hl : w.length ≤ 9 := by
    have := nodup_len (m := List.range y.length) h.nodup fun x hx => List.mem_range.mpr (h.lt x hx)
    rw [List.length_range] at this; omega
  have hs : lsetD (eP w) = some (.int w.length) := by
    unfold eP lsetD
    simp only [ints_eN]
    rw [dd_of_nodup hn, if_pos (by simp; omega)]; simp
  simp [m_are_places, pf_eq, f_are_places, ev_nmE, okO, wiS, hc, (by omega : w.length ≤ 16777216), reS, all_tt, hs]
theorem p_is_ask {y : List (Option Int)} {a : Ask} (hy : y.length ≤ 9) (h : OkA y.length a) : m_is_ask [eY y, eA a] = .ok (.bool true) := by
  have hc : compF .bp .an [2] (nmG 2) yesT (clE .an 2 m_are_places (consA (nmE 0) (consA (nmE 2) nilA))) ([a.1, a.2].map eP) [.bo (eY y), .bo (eA a), .no] = .ok ([a.1, a.2].map fun _ => .bool true, [.bo (eY y), .bo (eA a), .no]) :=
    compF_map _ _ fun p hp => ⟨[.bo (eY y), .bo (eA a), .va (eP p)], by simp [itS], by simp [wiS], by
      have : OkP y.length p := by
        simp at hp
        rcases hp with rfl | rfl
        · exact h.1
        · exact h.2
      simp [ev_nmE, p_are_places hy this], .inr rfl⟩
  have hi : itD (eA a) = some ([a.1, a.2].map eP) := rfl
  simp [m_is_ask, pf_eq, f_is_ask, ev_nmE, okO, wiS, hi]
  simp at hc
  simp [hc, reS]
  rfl
theorem p_need_yard {y : List (Option Int)} (h : OkY y) : m_need_yard [eY y] = .ok .none := by
  simp [m_need_yard, pf_eq, f_need_yard, ev_nmE, p_is_yard h]
theorem p_is_day {y : List (Option Int)} {d : List Ask} (h : OkY y) (hd : OkD y.length d) (hl : d.length ≤ 1000000) : m_is_day [eY y, eD d] = .ok (.bool true) := by
  have hc : compF .bp .an [2] (nmG 2) yesT (clE .an 2 m_is_ask (consA (nmE 0) (consA (nmE 2) nilA))) (d.map eA) [.bo (eY y), .bo (eD d), .no] = .ok (d.map fun _ => .bool true, [.bo (eY y), .bo (eD d), .no]) :=
    compF_map _ _ fun p hp => ⟨[.bo (eY y), .bo (eD d), .va (eA p)], by simp [itS], by simp [wiS], by
      simp [ev_nmE, p_is_ask h.hi (hd p hp)], .inr rfl⟩
  simp [m_is_day, pf_eq, f_is_day, ev_nmE, okO, wiS, p_need_yard h, hc, (by omega : d.length ≤ 16777216), reS, all_tt]
theorem p_is_standing {y : List (Option Int)} {s : List Int} (h : OkY y) (hs : OkS y s) : m_is_standing [eY y, eS s] = .ok (.bool true) := by
  have hl := hs.len
  have h9 := h.hi
  have hc : compF .bp .an [2] (nmG 2) yesT (clE .an 1 m_is_amount (consA (nmE 2) nilA)) (s.map PyData.int) [.bo (eY y), .bo (eS s), .no, .no] = .ok (s.map fun _ => .bool true, [.bo (eY y), .bo (eS s), .no, .no]) :=
    compF_map _ _ fun p hp => ⟨[.bo (eY y), .bo (eS s), .va (.int p), .no], by simp [itS], by simp [wiS], by
      simp [ev_nmE, p_amount, hs.pos p hp], .inr rfl⟩
  have hc2 : compF .bp .an [2, 3] (tuG 2 (consG (nmG 2) (consG (nmG 3) nilG))) yesT (orE (opE isND (nmE 3) (csE .none)) (opE leD (nmE 2) (nmE 3))) ((s.zip y).map fun z => .tuple [.int z.1, eO z.2]) [.bo (eY y), .bo (eS s), .no, .no] = .ok ((s.zip y).map fun _ => .bool true, [.bo (eY y), .bo (eS s), .no, .no]) :=
    compF_map _ _ fun z hz => by
      obtain ⟨x, o⟩ := z
      refine ⟨[.bo (eY y), .bo (eS s), .va (.int x), .va (eO o)], by simp [itS], by simp [wiS], ?_, .inr rfl⟩
      cases o with
      | none => simp [ev_nmE, eO]
      | some r =>
        obtain ⟨q, hq⟩ := List.mem_iff_getElem?.mp hz
        obtain ⟨e1, e2⟩ := List.getElem?_zip_eq_some.mp hq
        simp [ev_nmE, eO, hs.fit q r x e2 e1]
  have hz : zipG [eS s, eY y] = some ((s.zip y).map fun z => .tuple [.int z.1, eO z.2]) := by
    show some ((List.zip (s.map PyData.int) (y.map eO)).map fun p => PyData.tuple [p.1, p.2]) = _
    rw [List.zip_map, List.map_map]; rfl
  have hzl : (s.zip y).length ≤ 16777216 := by rw [List.length_zip]; omega
  simp at hzl
  simp [m_is_standing, pf_eq, f_is_standing, ev_nmE, okO, wiS, p_need_yard h, hc, (by omega : s.length ≤ 16777216), reS, all_tt, hl, hz, hc2, (by omega : y.length ≤ 16777216)]
theorem p_need_all {y : List (Option Int)} {s : List Int} {d : List Ask} (h : OkY y) (hs : OkS y s) (hd : OkD y.length d) (hl : d.length ≤ 1000000) : m_need_all [eY y, eS s, eD d] = .ok .none := by
  have h1 : m_need_standing [eY y, eS s] = .ok .none := by simp [m_need_standing, pf_eq, f_need_standing, ev_nmE, p_is_standing h hs]
  have h2 : m_need_day [eY y, eD d] = .ok .none := by simp [m_need_day, pf_eq, f_need_day, ev_nmE, p_is_day h hd hl]
  simp [m_need_all, pf_eq, f_need_all, ev_nmE, p_need_yard h, h1, h2]
theorem p_go {y : List (Option Int)} {s : List Int} {d : List Ask} (h : OkY y) (hs : OkS y s) (hd : OkD y.length d) (hl : d.length ≤ 1000000) : m_go [eY y, eS s, eD d] = .ok (.tuple [.list ((goT y s d).1.map eRow), eS (goT y s d).2]) := by
  simp [m_go, pf_eq, f_go, ev_nmE, p_need_all h hs hd hl, p_gone h hs hd hl]
theorem fm_eN {n : Nat} (h : n < 1000000) {a b : Nat} : Fm a b (eN n) := Fm.int (log_lt (by omega) (by omega) (by decide))
theorem fm_int {n : Int} (h : 0 ≤ n) (h2 : n < 10 ^ 20) {a b : Nat} : Fm a b (.int n) := Fm.int (log_lt h (by omega) (by decide))
/-! ### what the law draws -/
def Ct (k : Nat) (cs : List D) : Prop := ∃ a b c : Int, cs = [.int a, .int b, .int c] ∧ 0 ≤ b ∧ b < 2 ^ 200 ∧ 0 ≤ c ∧ c + k ≤ 2 ^ 40
theorem Ct.mono {k k' : Nat} {cs : List D} (h : Ct k cs) (hk : k' ≤ k) : Ct k' cs := by
  obtain ⟨a, b, c, e, h1, h2, h3, h4⟩ := h
  exact ⟨a, b, c, e, h1, h2, h3, by omega⟩
theorem Ct.noL {k : Nat} {cs : List D} (h : Ct k cs) : noLs cs = true := by
  obtain ⟨a, b, c, e, _⟩ := h
  subst e; rfl
theorem erase_perm {α : Type} : ∀ {l : List α} {q : Nat} (h : q < l.length), (l[q] :: l.eraseIdx q).Perm l
  | a :: r, 0, h => .refl _
  | a :: r, q + 1, h => by
    have := erase_perm (l := r) (q := q) (by simpa using h)
    exact (List.Perm.swap _ _ _).trans (.cons _ this)
theorem erase_map {α β : Type} {f : α → β} : ∀ {l : List α} {q : Nat}, (l.map f).eraseIdx q = (l.eraseIdx q).map f
  | [], _ => rfl
  | a :: r, 0 => rfl
  | a :: r, q + 1 => by
    have := erase_map (f := f) (l := r) (q := q)
    simp [this]
theorem rgN' {n : Nat} : (List.range n).map (fun i : Nat => PyData.int (i : Int)) = (List.range n).map eN := rfl
theorem rgN {n : Nat} : rgD 0 n = (List.range n).map eN := rgD_nat
theorem isIN {p : Nat} : isI (eN p) = .ok (p : Int) := rfl
def servT (y : List (Option Int)) (s : List Int) (d : List Ask) : List Nat := ((goT y s d).1.zipIdx.filter fun z => z.1.isSome).map (·.2)
theorem enumR {rows : List Row} : enumG [.list (rows.map eRow)] = some (rows.zipIdx.map fun z => .tuple [.int (z.2 : Int), eRow z.1]) := by
  show some ((rows.map eRow).zipIdx.map fun p => PyData.tuple [.int (p.2 : Nat), p.1]) = _
  rw [List.zipIdx_map, List.map_map]; rfl
theorem p_served_by {y : List (Option Int)} {s : List Int} {d : List Ask} (h : OkY y) (hs : OkS y s) (hd : OkD y.length d) (hl : d.length ≤ 1000000) : m_served_by [eY y, eS s, eD d] = .ok (.list ((servT y s d).map eN)) := by
  have hg := p_gone h hs hd hl
  have hc : compF .bp (.rt 3) [3, 4] (tuG 2 (consG (nmG 3) (consG (nmG 4) nilG))) (atT .an (asT (opE notND (nmE 4) (csE .none)))) (nmE 3) ((goT y s d).1.zipIdx.map fun z => .tuple [.int (z.2 : Int), eRow z.1]) [.bo (eY y), .bo (eS s), .bo (eD d), .no, .no] = .ok (((goT y s d).1.zipIdx.filter fun z => z.1.isSome).map fun z => eN z.2, [.bo (eY y), .bo (eS s), .bo (eD d), .no, .no]) :=
    compF_pure _ _ _ fun z hz => ⟨[.bo (eY y), .bo (eS s), .bo (eD d), .va (.int (z.2 : Int)), .va (eRow z.1)], by simp [itS], by
      simp [ev_nmE, isNd_eRow], by simp [wiS], fun _ => ⟨by simp [ev_nmE]; rfl, .inr rfl⟩⟩
  have hlen : ((goT y s d).1.zipIdx.filter fun z => z.1.isSome).length ≤ 16777216 := by
    have h1 := List.length_filter_le (fun z : Row × Nat => z.1.isSome) (goT y s d).1.zipIdx
    have h2 : (goT y s d).1.zipIdx.length = d.length := by rw [List.length_zipIdx, go_len]
    omega
  simp [m_served_by, pf_eq, f_served_by, ev_nmE, hg, okO, wiS, reS, enumR, hc, hlen, servT]
theorem p_goK {y : List (Option Int)} {s : List Int} {d : List Ask} (h : OkY y) (hs : OkS y s) (hd : OkD y.length d) (hl : d.length ≤ 1000000) : m_go [eY y, eS s, eD d] = .ok (.tuple [.list ((goT y s d).1.map eRow), eS (goT y s d).2]) := p_go h hs hd hl
/-! sizes -/
def SmY (y : List (Option Int)) : Prop := ∀ i, some i ∈ y → i < 10 ^ 20
def SmS (s : List Int) : Prop := ∀ i ∈ s, i < 10 ^ 20
theorem fm_Y {y : List (Option Int)} (h : OkY y) (hb : SmY y) : Fm 1 9 (eY y) := Fm.tuple (a := 0) (b := 0) (n := 9) (fun d hd => by
  obtain ⟨o, ho, rfl⟩ := List.mem_map.mp hd
  cases o with
  | none => exact Fm.none
  | some i => exact fm_int (h.pos i ho) (hb i ho)) (by simpa using h.hi)
theorem fm_S {y : List (Option Int)} {s : List Int} (hy : OkY y) (h : OkS y s) (hb : SmS s) : Fm 1 9 (eS s) := Fm.tuple (a := 0) (b := 0) (n := 9) (fun d hd => by
  obtain ⟨o, ho, rfl⟩ := List.mem_map.mp hd
  exact fm_int (h.pos o ho) (hb o ho)) (by have := h.len; have := hy.hi; simp; omega)
theorem okp_len {n : Nat} {p : List Nat} (h : OkP n p) : p.length ≤ n := by
  have := nodup_len (m := List.range n) h.nodup fun x hx => List.mem_range.mpr (h.lt x hx)
  simpa using this
theorem fm_P {n : Nat} {p : List Nat} (h : OkP n p) (hn : n ≤ 9) : Fm 1 9 (eP p) := Fm.tuple (a := 0) (b := 0) (n := 9) (fun d hd => by
  obtain ⟨o, ho, rfl⟩ := List.mem_map.mp hd
  exact fm_eN (by have := h.lt o ho; omega)) (by have := okp_len h; simp; omega)
theorem fm_A {n : Nat} {a : Ask} (h : OkA n a) (hn : n ≤ 9) : Fm 2 20 (eA a) := Fm.tuple (a := 1) (b := 9) (n := 2) (fun d hd => by
  simp at hd
  rcases hd with rfl | rfl
  · exact fm_P h.1 hn
  · exact fm_P h.2 hn) (by simp)
theorem fm_D {n : Nat} {d : List Ask} (h : OkD n d) (hn : n ≤ 9) (hl : d.length ≤ 1000) : Fm 3 21000 (eD d) := Fm.list (a := 2) (b := 20) (n := 1000) (fun x hx => by
  obtain ⟨o, ho, rfl⟩ := List.mem_map.mp hx
  exact fm_A (h o ho) hn) (by simpa using hl)
def OkR (r : Row) : Prop := ∀ p q, r = some (p, q) → p < 9 ∧ ∀ x, q = some x → x < 9
theorem fm_R {r : Row} (h : OkR r) : Fm 1 2 (eRow r) := by
  cases r with
  | none => exact Fm.none
  | some z =>
    obtain ⟨p, q⟩ := z
    obtain ⟨h1, h2⟩ := h p q rfl
    refine Fm.tuple (a := 0) (b := 0) (n := 2) (fun d hd => ?_) (by simp)
    simp at hd
    rcases hd with rfl | rfl
    · exact fm_eN (by omega)
    · cases q with
      | none => exact Fm.none
      | some x => exact fm_eN (by have := h2 x rfl; omega)
theorem okr_ask {y : List (Option Int)} {s : List Int} {a : Ask} (ha : OkA y.length a) (h9 : y.length ≤ 9) : OkR (askT y s a).1 := by
  unfold askT
  cases ht : takeT s a.1 with
  | none => intro p q h; cases h
  | some p =>
    have := ha.1.lt p (find_mem ht)
    dsimp only
    cases hq : leftT y (chT s p (-1)) a.2 with
    | none =>
      intro p' q' h
      cases h
      exact ⟨by omega, by simp⟩
    | some q =>
      have := ha.2.lt q (find_mem hq)
      intro p' q' h
      cases h
      exact ⟨by omega, fun x hx => by cases hx; omega⟩
theorem okr_go {y : List (Option Int)} (h9 : y.length ≤ 9) : ∀ {d : List Ask} {s : List Int}, OkD y.length d → ∀ r ∈ (goT y s d).1, OkR r
  | [], s, _, r, hr => by simp [goT] at hr
  | a :: t, s, hd, r, hr => by
    rw [show (goT y s (a :: t)).1 = (askT y s a).1 :: (goT y (askT y s a).2 t).1 from rfl] at hr
    rcases List.mem_cons.mp hr with rfl | hr
    · exact okr_ask hd.hd h9
    · exact okr_go h9 hd.tl r hr
theorem fm_rows {y : List (Option Int)} {s : List Int} {d : List Ask} (h9 : y.length ≤ 9) (hd : OkD y.length d) (hl : d.length ≤ 1000) : Fm 2 3000 (.list ((goT y s d).1.map eRow)) := Fm.list (a := 1) (b := 2) (n := 1000) (fun x hx => by
  obtain ⟨o, ho, rfl⟩ := List.mem_map.mp hx
  exact fm_R (okr_go h9 hd o ho)) (by simpa [go_len] using hl)
/-- how large what lies there may be -/
def SmB (b : Int) (s : List Int) : Prop := ∀ i ∈ s, i < b
theorem smb_ch {s : List Int} {p : Nat} {b c : Int} (h : SmB b s) (hp : p < s.length) (hc : c ≤ 1) : SmB (b + 1) (chT s p c) := fun i hi => by
  obtain ⟨q, hq⟩ := List.mem_iff_getElem?.mp hi
  have e : s[p]? = some s[p] := List.getElem?_eq_getElem hp
  rcases get_ch hq with ⟨_, e1, _⟩ | ⟨_, e2⟩
  · have := h _ (List.getElem_mem hp)
    rw [gS_of e] at e1
    omega
  · have := h i (List.mem_of_getElem? e2)
    omega
theorem SmB.mono {s : List Int} {b c : Int} (h : SmB b s) (hc : b ≤ c) : SmB c s := fun i hi => by have := h i hi; omega
theorem smb_ask {y : List (Option Int)} {s : List Int} {a : Ask} {b : Int} (hs : OkS y s) (ha : OkA y.length a) (h : SmB b s) : SmB (b + 2) (askT y s a).2 := by
  unfold askT
  cases ht : takeT s a.1 with
  | none => exact h.mono (by omega)
  | some p =>
    have hp : p < s.length := by rw [hs.len]; exact ha.1.lt p (find_mem ht)
    have h1 := smb_ch (c := -1) h hp (by omega)
    dsimp only
    cases hq : leftT y (chT s p (-1)) a.2 with
    | none => exact h1.mono (by omega)
    | some q => exact (smb_ch (c := 1) h1 (by rw [len_ch, hs.len]; exact ha.2.lt q (find_mem hq)) (by omega)).mono (by omega)
theorem smb_go {y : List (Option Int)} : ∀ {d : List Ask} {s : List Int} {b : Int}, OkS y s → OkD y.length d → SmB b s → SmB (b + 2 * d.length) (goT y s d).2
  | [], s, b, _, _, h => h.mono (by simp)
  | a :: t, s, b, hs, hd, h => by
    have := smb_go (d := t) (hs.ask hd.hd) hd.tl (smb_ask hs hd.hd h)
    exact this.mono (by rw [List.length_cons]; omega)
theorem noLs_two {a b : D} (h : noL b = true) : noLs (List.eraseIdx [a, b] 0) = true := by simp [h]
theorem zip_range {rows : List Row} : rows.zipIdx = (List.range rows.length).map fun i => ((rows[i]?).getD none, i) := by
  apply List.ext_getElem (by simp)
  intro i h1 h2
  simp at h1
  simp [h1]
theorem serv_range {y : List (Option Int)} {s : List Int} {d : List Ask} : servT y s d = (List.range (goT y s d).1.length).filter fun i => (((goT y s d).1[i]?).getD none).isSome := by
  unfold servT
  rw [zip_range, List.filter_map, List.map_map]
  simp [Function.comp_def]
theorem serv_lt {y : List (Option Int)} {s : List Int} {d : List Ask} {n : Nat} (h : n ∈ servT y s d) : n < d.length := by
  rw [serv_range] at h
  have := (List.mem_filter.mp h).1
  rw [go_len] at this
  exact List.mem_range.mp this
/-! ### what the laws with a bag draw -/
theorem pow_5 {i : Int} (h0 : 0 ≤ i) (h : i < 2 ^ 1000) : powD (.int i) (.int 5) = some (.int (i ^ 5)) := by
  have := bits_le h0 h
  unfold powD gI2c
  simp
  omega
theorem mix5 {x m c q : Int} (hm : 0 < m) (hm2 : m ≤ 2 ^ 200) (h3 : 0 ≤ c) (h4 : c ≤ 2 ^ 40) (hq : 0 ≤ q) (hq2 : q < 2 ^ 200) : powD (.int (x % m + q * c)) (.int 5) = some (.int ((x % m + q * c) ^ 5)) := by
  have h5 : 0 ≤ q * c := Int.mul_nonneg hq h3
  have h6 : q * c < 2 ^ 250 := Int.lt_of_le_of_lt (Int.mul_le_mul (Int.le_of_lt hq2) h4 h3 (by decide)) (by decide)
  have h7 := Int.emod_nonneg x (b := m) (by omega)
  have h8 := Int.emod_lt_of_pos x hm
  exact pow_5 (by omega) (Int.lt_trans (Int.add_lt_add (Int.lt_of_lt_of_le h8 hm2) h6) (by decide))
theorem b_take {k k2 : Nat} {cs : List D} {w : Int} (h : Ct k2 cs) (hw : 0 < w) (hw2 : w < 2 ^ 100) (hk : k + 1 ≤ k2 := by first | omega | (simp; omega)) : ∃ r cs', o__law_take cs [.int w] = .ok (.int r, cs') ∧ 0 ≤ r ∧ r < w ∧ Ct k cs' := by
  obtain ⟨a, b, c, rfl, h1, h2, h3, h4⟩ := h
  have hl : w.natAbs.log2 < 9000 := Nat.lt_of_lt_of_le (log_lt (by omega) hw2 (by decide)) (by decide)
  by_cases ha : 1 < a
  · refine ⟨a % w, [.int (a / w), .int b, .int c], ?_, Int.emod_nonneg _ (by omega), Int.emod_lt_of_pos _ hw, _, _, _, rfl, h1, h2, h3, by omega⟩
    simp [o__law_take, of_eq, f__law_take, ev_nmE, ha, mod_p hw, div_p hw hl]
  · have c1 : 0 ≤ c + 1 := by omega
    have c2 : c + 1 ≤ 2 ^ 40 := by omega
    have e : ∃ r, o__law_take [.int a, .int b, .int c] [.int w] = .ok (.int r, [.int a, .int b, .int (c + 1)]) ∧ 0 ≤ r ∧ r < w := by
      have e1 := mix1 (q := 1299721) h1 h2 c1 c2 (by decide) (by decide)
      have e2 := fun x => mix5 (x := x) (m := 162259276829213363391578010288127) (q := 15485867) (by decide) (by decide) c1 c2 (by decide) (by decide)
      have e3 := mix3 (q := 1299721) c1 c2 (by decide) (by decide)
      have e4 := mix3 (q := 15485867) c1 c2 (by decide) (by decide)
      have e5 := fun x => mod_p (i := x) (j := 162259276829213363391578010288127) (by decide)
      have e6 := fun x => mod_p (i := x) (j := 618970019642690137449562111) (by decide)
      have e7 := fun x => div_p (i := x) (j := 1048576) (by decide) (by decide)
      refine Exists.intro ?r (And.intro ?h ?h2)
      case h =>
        simp [o__law_take, of_eq, f__law_take, ev_nmE, ha, e1, e2, e3, e4, e5, e6, e7, mod_p hw]
        rfl
      case h2 => exact ⟨Int.emod_nonneg _ (by omega), Int.emod_lt_of_pos _ hw⟩
    obtain ⟨r, e, h5, h6⟩ := e
    exact ⟨r, _, e, h5, h6, _, _, _, rfl, h1, h2, c1, by omega⟩
theorem b_bag {cell : Int} {k : Nat} (hk : k < 100) : ∃ cs, m__law_bag [.int cell, .int (k : Int)] = .ok (.list cs) ∧ Ct 1000000000 cs := by
  have e1 := fun x => mod_p (i := x) (j := 162259276829213363391578010288127) (by decide)
  have e2 := mix3 (c := (k : Int) + 1) (q := 5417) (by omega) (by omega) (by decide) (by decide)
  have h3 := Int.emod_nonneg cell (b := 162259276829213363391578010288127) (by decide)
  have h4 := Int.emod_lt_of_pos cell (b := 162259276829213363391578010288127) (by decide)
  refine ⟨[.int (if 0 < cell - 1000000000000000000 then cell - 1000000000000000000 else 0), .int (cell % 162259276829213363391578010288127 + 5417 * ((k : Int) + 1)), .int 0], ?_, _, _, _, rfl, by omega, by omega, by decide, by decide⟩
  simp [m__law_bag, pf_eq, f__law_bag, ev_nmE, e1, e2]
theorem b_cell {ns : List Int} {k : Nat} : ∃ z, c__law_cell_at ns [.int (k : Int)] = .ok (.int z) := by
  by_cases h : k < ns.length
  · have h' : (k : Int) < (ns.length : Int) := by omega
    exact ⟨ns[k], by simp [c__law_cell_at, sf_eq, f__law_cell_at, ev_nmE, h', h]⟩
  · have h' : ¬ (k : Int) < (ns.length : Int) := by omega
    exact ⟨0, by simp [c__law_cell_at, sf_eq, f__law_cell_at, ev_nmE, h']⟩
theorem b_unlike {k n a m : Nat} {cs : List D} (h : Ct (k + 100) cs) (hn : n ≤ 9) (ham : a ≤ m) (hm : m ≤ 1000) : ∃ w cs', o__law_unlike cs [.int (n : Int), .int (a : Int), .int (m : Int)] = .ok (eP w, cs') ∧ OkP n w ∧ Ct k cs' ∧ min n a ≤ w.length ∧ w.length ≤ m := by
  obtain ⟨r1, d1, f1, g1, g2, u1⟩ := b_take (w := (m : Int) - (a : Int) + 1) (k := k + 99) h (by omega) (by omega)
  obtain ⟨r1, rfl⟩ := Int.eq_ofNat_of_zero_le g1
  obtain ⟨cnt, hcnt⟩ : ∃ cnt : Nat, cnt = min n (a + r1) := ⟨_, rfl⟩
  have hmin : (if (a : Int) + (r1 : Int) < (n : Int) then (a : Int) + (r1 : Int) else (n : Int)) = (cnt : Int) := by split <;> omega
  have key := forF_run (L := .bo) (g := nmG 6) (e := fun i : Nat => PyData.int (i : Int)) (f := lp__law_unlike_0)
    (fun (l : List Nat) ρ => ∃ cs x6, ∃ left w : List Nat, ρ = [.ow cs, .bo (.int (n : Int)), .bo (.int (a : Int)), .bo (.int (m : Int)), .ow (left.map eN), .ow (w.map eN), x6] ∧ Ct (k + l.length) cs ∧ l.length ≤ left.length ∧ left.length ≤ n ∧ (w ++ left).Perm (List.range n) ∧ w.length + l.length = cnt)
    (fun b r ρ ⟨cs, x6, left, w, hρ, hc, hl, hln, hp, hw⟩ => by
      subst hρ
      rw [List.length_cons] at hc hl hw
      obtain ⟨q, d3, f3, g5, g6, u3⟩ := b_take (w := (left.length : Int)) (k := k + r.length) hc (by omega) (by omega)
      obtain ⟨q, rfl⟩ := Int.eq_ofNat_of_zero_le g5
      have hq : q < left.length := by omega
      refine ⟨[.ow cs, .bo (.int (n : Int)), .bo (.int (a : Int)), .bo (.int (m : Int)), .ow (left.map eN), .ow (w.map eN), .va (.int (b : Int))], _, by simp [itS], .inl ?_, d3, .va (.int (b : Int)), left.eraseIdx q, w ++ [left[q]], rfl, u3, ?_, ?_, ?_, by simp; omega⟩
      · have hq63 : inB 0 9223372036854775808 (q : Int) = true := inB_t (by omega) (by omega)
        have hwl : w.length < 16777216 := by omega
        simp [ev_nmE, hc.noL, u3.noL, f3, hq, hq63, erase_map, hwl]
      · rw [List.length_eraseIdx_of_lt hq]; omega
      · rw [List.length_eraseIdx_of_lt hq]; omega
      · have hp2 : (w ++ [left[q]] ++ left.eraseIdx q).Perm (w ++ left) := by
          rw [List.append_assoc]
          exact List.Perm.append_left _ (erase_perm hq)
        exact hp2.trans hp)
    (List.range cnt) [.ow d1, .bo (.int (n : Int)), .bo (.int (a : Int)), .bo (.int (m : Int)), .ow ((List.range n).map eN), .ow [], .no]
    ⟨d1, .no, List.range n, [], rfl, u1.mono (by simp; omega), by simp; omega, by simp, .refl _, by simp⟩
  obtain ⟨ρ', e3, cs3, x6, left, w, rfl, hc3, _, _, hp, hw⟩ := key
  have hnd : (w ++ left).Nodup := hp.nodup_iff.mpr List.nodup_range
  have hlt : ∀ x ∈ w ++ left, x < n := fun x hx => List.mem_range.mp (hp.mem_iff.mp hx)
  have hwn : w.Nodup := (List.nodup_append.mp hnd).1
  have hwc : w.length = cnt := by simpa using hw
  refine ⟨w, cs3, ?_, ⟨fun x hx => hlt x (by simp [hx]), hwn⟩, hc3.mono (by simp), by omega, by omega⟩
  have er : rg1D [.int (cnt : Int)] = some ((List.range cnt).map fun i => PyData.int (i : Nat)) := rg1_nat (by omega)
  have hn1 : inB 0 16777217 (n : Int) = true := inB_t (by omega) (by omega)
  simp only [rgN'] at e3 er
  simp [o__law_unlike, of_eq, f__law_unlike, ev_nmE, h.noL, u1.noL, f1, hmin, er, hn1, rgN', e3]
  rfl
/-! ### the law's comparing of all that lies within -/
theorem all_true {n : Nat} : allG [.list ((List.range n).map fun _ => PyData.bool true)] = some (.bool true) := by
  rw [all_map (f := fun _ => true)]; simp
theorem two_of {a b : Nat} {r : Int} (h0 : 0 ≤ r) (h1 : r < 2) : ∃ c : Nat, ixD (.list [.int (a : Int), .int (b : Int)]) (.int r) = some (.int (c : Int)) ∧ (c = a ∨ c = b) := by
  have : r = 0 ∨ r = 1 := by omega
  rcases this with rfl | rfl
  · exact ⟨a, rfl, .inl rfl⟩
  · exact ⟨b, rfl, .inr rfl⟩
theorem turn_range {ns : List Int} {T : Int} (t : Nat) (hT : T = (t : Int)) (ht : t < 1000) (h1 : 1 ≤ t) : ∃ n : Nat, n ≤ t ∧ rg1D [.int (if (1 : Int) < (if (ns.length : Int) < T then (ns.length : Int) else T) then (if (ns.length : Int) < T then (ns.length : Int) else T) else 1)] = some ((List.range n).map fun i : Nat => PyData.int (i : Int)) := by
  refine ⟨(if (1 : Int) < (if (ns.length : Int) < T then (ns.length : Int) else T) then (if (ns.length : Int) < T then (ns.length : Int) else T) else 1).toNat, ?_, ?_⟩
  · split <;> split <;> omega
  · exact rg1_int (by split <;> split <;> omega) (by split <;> split <;> omega)
/-! ### one thing more -/
theorem gS_ch {s : List Int} {p q : Nat} {b : Int} (hp : p < s.length) : gS (chT s p b) q = if q = p then gS s p + b else gS s q := by
  unfold chT
  by_cases e : q = p
  · subst e
    rw [if_pos rfl]
    exact gS_of (by rw [List.getElem?_set_self hp])
  · rw [if_neg e]
    unfold gS
    rw [List.getElem?_set_ne (fun z => e z.symm)]
theorem gS_ext {s t : List Int} (hl : s.length = t.length) (h : ∀ i, i < s.length → gS s i = gS t i) : s = t := by
  refine List.ext_getElem hl fun i h1 h2 => ?_
  have := h i h1
  rwa [gS_of (List.getElem?_eq_getElem h1), gS_of (List.getElem?_eq_getElem h2)] at this
theorem ch_comm {s : List Int} {p q : Nat} {a b : Int} (hp : p < s.length) (hq : q < s.length) : chT (chT s p a) q b = chT (chT s q b) p a := by
  refine gS_ext (by rw [len_ch, len_ch, len_ch, len_ch]) fun i hi => ?_
  have hp' : p < (chT s q b).length := by rw [len_ch]; exact hp
  have hq' : q < (chT s p a).length := by rw [len_ch]; exact hq
  rw [gS_ch hq', gS_ch hp', gS_ch hp, gS_ch hq, gS_ch hp, gS_ch hq]
  by_cases e1 : i = q <;> by_cases e2 : i = p <;> by_cases e3 : q = p <;> simp_all <;> omega
theorem ch_inv {s : List Int} {p : Nat} {a b : Int} (hp : p < s.length) (h : a + b = 0) : chT (chT s p a) p b = s := by
  refine gS_ext (by rw [len_ch, len_ch]) fun i hi => ?_
  have hp' : p < (chT s p a).length := by rw [len_ch]; exact hp
  rw [gS_ch hp', gS_ch hp, gS_ch hp]
  by_cases e1 : i = p <;> simp_all; omega
theorem sum_set {b : Int} : ∀ {s : List Int} {p : Nat} (hp : p < s.length), (s.set p (gS s p + b)).sum = s.sum + b
  | a :: r, 0, _ => by simp [gS]; omega
  | a :: r, p + 1, hp => by
    have := sum_set (b := b) (s := r) (p := p) (by simpa using hp)
    have e : gS (a :: r) (p + 1) = gS r p := by simp [gS]
    rw [e, List.set_cons_succ, List.sum_cons, List.sum_cons, this]; omega
theorem sum_ch {s : List Int} {p : Nat} {b : Int} (hp : p < s.length) : (chT s p b).sum = s.sum + b := sum_set hp
/-- t is s, or has one thing more somewhere -/
def Mo (s t : List Int) : Prop := t = s ∨ ∃ q, q < s.length ∧ t = chT s q 1
def freeT (y : List (Option Int)) (s : List Int) (p : Nat) : Bool := match gO y p with
  | none => true
  | some r => decide (gS s p < r)
theorem left_cons {y : List (Option Int)} {s : List Int} {x : Nat} {r : List Nat} : leftT y s (x :: r) = if freeT y s x then some x else leftT y s r := by
  unfold leftT freeT
  rw [List.find?_cons]
  cases gO y x with
  | none => simp
  | some m => by_cases h : gS s x < m <;> simp [h]
theorem take_cons {s : List Int} {x : Nat} {r : List Nat} : takeT s (x :: r) = if 0 < gS s x then some x else takeT s r := by
  unfold takeT
  rw [List.find?_cons]
  by_cases h : 0 < gS s x <;> simp [h]
def lvT (y : List (Option Int)) (s : List Int) (l : List Nat) : List Int := match leftT y s l with
  | none => s
  | some q => chT s q 1
theorem lv_mo {y : List (Option Int)} {s : List Int} {q : Nat} (hq : q < s.length) : ∀ {l : List Nat}, (∀ x ∈ l, x < s.length) → Mo (lvT y s l) (lvT y (chT s q 1) l)
  | [], _ => .inr ⟨q, hq, rfl⟩
  | x :: r, h => by
    have hx := h x (List.mem_cons_self ..)
    unfold lvT
    rw [left_cons, left_cons]
    by_cases h1 : freeT y (chT s q 1) x = true
    · have h2 : freeT y s x = true := by
        unfold freeT at h1 ⊢
        cases e : gO y x with
        | none => rfl
        | some m =>
          rw [e] at h1
          simp only [decide_eq_true_eq] at h1 ⊢
          rw [gS_ch hq] at h1
          split at h1 <;> simp_all <;> omega
      rw [h1, h2]
      show Mo (chT s x 1) (chT (chT s q 1) x 1)
      exact .inr ⟨q, by rw [len_ch]; exact hq, ch_comm hq hx⟩
    · rw [if_neg h1]
      by_cases h2 : freeT y s x = true
      · rw [if_pos h2]
        have e : x = q := by
          by_cases e : x = q
          · exact e
          · exfalso
            apply h1
            unfold freeT at h2 ⊢
            rw [gS_ch hq, if_neg e]
            exact h2
        subst e
        show Mo (chT s x 1) _
        cases e : leftT y (chT s x 1) r with
        | none => exact .inl rfl
        | some v => exact .inr ⟨v, by rw [len_ch]; exact h v (List.mem_cons_of_mem _ (find_mem e)), rfl⟩
      · rw [if_neg h2]
        have := lv_mo (y := y) hq (l := r) fun z hz => h z (List.mem_cons_of_mem _ hz)
        exact this
theorem take_mo {s : List Int} {q : Nat} (hq : q < s.length) (h0 : ∀ i, i < s.length → 0 ≤ gS s i) : ∀ {w : List Nat}, (∀ x ∈ w, x < s.length) →
    (takeT s w = none ∧ (takeT (chT s q 1) w = none ∨ takeT (chT s q 1) w = some q)) ∨ ∃ p, takeT s w = some p ∧ (takeT (chT s q 1) w = some p ∨ takeT (chT s q 1) w = some q)
  | [], _ => .inl ⟨rfl, .inl rfl⟩
  | x :: r, h => by
    have hx := h x (List.mem_cons_self ..)
    rw [take_cons, take_cons, gS_ch hq]
    have := h0 x hx
    by_cases h1 : 0 < gS s x
    · refine .inr ⟨x, if_pos h1, .inl (if_pos ?_)⟩
      split <;> simp_all <;> omega
    · rw [if_neg h1]
      by_cases e : x = q
      · subst e
        have h2 : 0 < gS s x + 1 := by omega
        rw [if_pos rfl, if_pos h2]
        cases takeT s r with
        | none => exact .inl ⟨rfl, .inr rfl⟩
        | some p => exact .inr ⟨p, rfl, .inr rfl⟩
      · rw [if_neg e, if_neg h1]
        exact take_mo hq h0 fun z hz => h z (List.mem_cons_of_mem _ hz)
theorem ask_eq {y : List (Option Int)} {s : List Int} {a : Ask} : (askT y s a).2 = (match takeT s a.1 with | none => s | some p => lvT y (chT s p (-1)) a.2) ∧ (askT y s a).1.isSome = (takeT s a.1).isSome := by
  unfold askT lvT
  cases takeT s a.1 with
  | none => exact ⟨rfl, rfl⟩
  | some p => dsimp only; cases leftT y (chT s p (-1)) a.2 <;> exact ⟨rfl, rfl⟩
theorem ask_mo {y : List (Option Int)} {s t : List Int} {a : Ask} (hs : OkS y s) (ha : OkA y.length a) (h : Mo s t) : Mo (askT y s a).2 (askT y t a).2 ∧ ((askT y s a).1.isSome = true → (askT y t a).1.isSome = true) := by
  rcases h with rfl | ⟨q, hq, rfl⟩
  · exact ⟨.inl rfl, fun z => z⟩
  · have h1 : ∀ x ∈ a.1, x < s.length := fun x hx => by rw [hs.len]; exact ha.1.lt x hx
    have h2 : ∀ x ∈ a.2, x < s.length := fun x hx => by rw [hs.len]; exact ha.2.lt x hx
    have h3 : ∀ p, ∀ x ∈ a.2, x < (chT s p (-1)).length := fun p x hx => by rw [len_ch]; exact h2 x hx
    rw [ask_eq.1, ask_eq.1, ask_eq.2, ask_eq.2]
    rcases take_mo hq (fun i hi => (hs.get hi).2) h1 with ⟨e1, e2 | e2⟩ | ⟨p, e1, e2 | e2⟩
    · rw [e1, e2]; exact ⟨.inr ⟨q, hq, rfl⟩, fun z => z⟩
    · rw [e1, e2]
      refine ⟨?_, fun z => by cases z⟩
      show Mo s (lvT y (chT (chT s q 1) q (-1)) a.2)
      rw [ch_inv hq (by omega)]
      unfold lvT
      cases e : leftT y s a.2 with
      | none => exact .inl rfl
      | some v => exact .inr ⟨v, h2 v (find_mem e), rfl⟩
    · rw [e1, e2]
      have hp := h1 p (find_mem e1)
      refine ⟨?_, fun z => rfl⟩
      show Mo (lvT y (chT s p (-1)) a.2) (lvT y (chT (chT s q 1) p (-1)) a.2)
      rw [ch_comm hq hp]
      exact lv_mo (by rw [len_ch]; exact hq) (h3 p)
    · rw [e1, e2]
      have hp := h1 p (find_mem e1)
      refine ⟨?_, fun z => rfl⟩
      show Mo (lvT y (chT s p (-1)) a.2) (lvT y (chT (chT s q 1) q (-1)) a.2)
      rw [ch_inv hq (by omega)]
      have := lv_mo (y := y) (s := chT s p (-1)) (q := p) (by rw [len_ch]; exact hp) (h3 p)
      rwa [ch_inv hp (by omega)] at this
theorem go_mo {y : List (Option Int)} : ∀ {d : List Ask} {s t : List Int}, OkS y s → OkS y t → OkD y.length d → Mo s t → Mo (goT y s d).2 (goT y t d).2 ∧ ∀ i : Nat, (((goT y s d).1[i]?).getD none).isSome = true → (((goT y t d).1[i]?).getD none).isSome = true
  | [], _, _, _, _, _, h => ⟨h, fun i z => by simp [goT] at z⟩
  | a :: r, s, t, hs, ht, hd, h => by
    obtain ⟨h1, h2⟩ := ask_mo hs hd.hd h
    obtain ⟨h3, h4⟩ := go_mo (d := r) (hs.ask hd.hd) (ht.ask hd.hd) hd.tl h1
    refine ⟨h3, fun i => ?_⟩
    cases i with
    | zero => exact h2
    | succ i => exact h4 i
theorem ask_cases {y : List (Option Int)} {s : List Int} {a : Ask} : (takeT s a.1 = none ∧ askT y s a = (none, s)) ∨ (∃ p, takeT s a.1 = some p ∧ leftT y (chT s p (-1)) a.2 = none ∧ askT y s a = (some (p, none), chT s p (-1))) ∨
    ∃ p q, takeT s a.1 = some p ∧ leftT y (chT s p (-1)) a.2 = some q ∧ askT y s a = (some (p, some q), chT (chT s p (-1)) q 1) := by
  unfold askT
  cases e : takeT s a.1 with
  | none => exact .inl ⟨rfl, rfl⟩
  | some p =>
    dsimp only
    cases e2 : leftT y (chT s p (-1)) a.2 with
    | none => exact .inr (.inl ⟨p, rfl, e2, rfl⟩)
    | some q => exact .inr (.inr ⟨p, q, rfl, e2, rfl⟩)
def offB : Row → Bool
  | some (_, none) => true
  | _ => false
/-- what is there in the end and what was carried off is what was there -/
theorem ask_kept {y : List (Option Int)} {s : List Int} {a : Ask} (hs : OkS y s) (ha : OkA y.length a) : (askT y s a).2.sum + (if offB (askT y s a).1 = true then 1 else 0) = s.sum := by
  rcases ask_cases (y := y) (s := s) (a := a) with ⟨_, e⟩ | ⟨p, h1, _, e⟩ | ⟨p, q, h1, h2, e⟩
  · rw [e]; simp [offB]
  · have hp : p < s.length := by rw [hs.len]; exact ha.1.lt p (find_mem h1)
    rw [e]; simp [offB, sum_ch hp]; omega
  · have hp : p < s.length := by rw [hs.len]; exact ha.1.lt p (find_mem h1)
    have hq : q < (chT s p (-1)).length := by rw [len_ch, hs.len]; exact ha.2.lt q (find_mem h2)
    rw [e]; simp [offB, sum_ch hp, sum_ch hq]; omega
theorem go_kept {y : List (Option Int)} : ∀ {d : List Ask} {s : List Int}, OkS y s → OkD y.length d → (goT y s d).2.sum + (((goT y s d).1.filter offB).length : Int) = s.sum
  | [], s, _, _ => by simp [goT]
  | a :: r, s, hs, hd => by
    have h1 := ask_kept hs hd.hd
    have h2 := go_kept (d := r) (hs.ask hd.hd) hd.tl
    show (goT y (askT y s a).2 r).2.sum + ((((askT y s a).1 :: (goT y (askT y s a).2 r).1).filter offB).length : Int) = s.sum
    rw [List.filter_cons]
    by_cases h : offB (askT y s a).1 = true
    · rw [if_pos h] at h1
      rw [if_pos h, List.length_cons]; omega
    · rw [if_neg h] at h1
      rw [if_neg h]; omega
theorem Mo.le {s t : List Int} (h : Mo s t) : t.length = s.length ∧ (∀ i, gS s i ≤ gS t i) ∧ t.sum - s.sum ≤ 1 := by
  rcases h with rfl | ⟨q, hq, rfl⟩
  · exact ⟨rfl, fun i => Int.le_refl _, by omega⟩
  · refine ⟨len_ch, fun i => ?_, by rw [sum_ch hq]; omega⟩
    rw [gS_ch hq]; split <;> simp_all <;> omega
/-! ### pieces of days, of rows -/
theorem cut_two {xs : List D} {a b : Nat} (h1 : a ≤ b) (h2 : b ≤ xs.length) : Dm.cutD xs (some (a : Int)) (some (b : Int)) = (xs.drop a).take (b - a) := by
  unfold Dm.cutD
  rw [HT.sIx_nat, HT.sIx_nat, Nat.min_eq_left h2, Nat.min_eq_left (Nat.le_trans h1 h2)]
theorem slAA {d : List Ask} {a b : Nat} (h1 : a ≤ b) (h2 : b ≤ d.length) : slD2 (eD d) (some (a : Int)) (some (b : Int)) = some (eD ((d.drop a).take (b - a))) := by
  show some (PyData.list (Dm.cutD _ _ _)) = _
  rw [cut_two h1 (by simpa using h2), eD, List.map_take, List.map_drop]
theorem slA1 {d : List Ask} {n : Nat} : slD2 (eD d) none (some (n : Int)) = some (eD (d.take n)) := by
  show some (PyData.list (Dm.cutD _ _ _)) = _
  rw [cut_to, eD, List.map_take]
theorem slA2 {d : List Ask} {k : Nat} : slD2 (eD d) (some (k : Int)) none = some (eD (d.drop k)) := by
  show some (PyData.list (Dm.cutD _ _ _)) = _
  rw [cut_from, eD, List.map_drop]
theorem addAD {s t : List Ask} (h : s.length + t.length ≤ 16777216) : addD (eD s) (eD t) = some (eD (s ++ t)) := by
  unfold eD
  rw [add_lst (by simpa using h), List.map_append]
@[simp] theorem flL_D {d : List Ask} : flL (eD d) = .ok (d.map eA) := by
  show flL (.list _) = _
  rw [flL_list, if_pos noLs_eA]
@[simp] theorem flL_I {l : List Int} : flL (.list (l.map PyData.int)) = .ok (l.map PyData.int) := by
  rw [flL_list, if_pos noLs_map_int]
theorem ixAsk {d : List Ask} {k : Nat} {a : Ask} (h : d[k]? = some a) : ixD (eD d) (.int (k : Int)) = some (eA a) := by
  unfold eD
  rw [ixd_lst, List.getElem?_map, h]; rfl
theorem addP {s t : List Nat} (h : s.length + t.length ≤ 16777216) : addD (eP s) (eP t) = some (eP (s ++ t)) := by
  unfold eP
  rw [add_tup (by simpa using h), List.map_append]
theorem addI {s t : List Int} (h : s.length + t.length ≤ 16777216) : addD (.list (s.map PyData.int)) (.list (t.map PyData.int)) = some (.list ((s ++ t).map PyData.int)) := by
  rw [add_lst (by simpa using h), List.map_append]
theorem eqv_ints : ∀ {a b : List Int}, PyData.eqvAll (a.map PyData.int) (b.map PyData.int) = decide (a = b)
  | [], [] => rfl
  | [], _ :: _ => rfl
  | _ :: _, [] => rfl
  | x :: a, y :: b => by
    have ih := eqv_ints (a := a) (b := b)
    rw [List.map_cons, List.map_cons, PyData.eqvAll, ih]
    have e : PyData.eqv (.int x) (.int y) = decide (x = y) := by
      show (x == y) = decide (x = y)
      by_cases h : x = y <;> simp [h]
    rw [e]
    by_cases h1 : x = y <;> by_cases h2 : a = b <;> simp [h1, h2]
theorem fm_ints {l : List Int} (h : ∀ x ∈ l, 0 ≤ x ∧ x < 10 ^ 20) (hl : l.length ≤ 2000) : Fm 1 2000 (.list (l.map PyData.int)) := Fm.list (a := 0) (b := 0) (n := 2000) (fun d hd => by
  obtain ⟨o, ho, rfl⟩ := List.mem_map.mp hd
  exact fm_int (h o ho).1 (h o ho).2) (by simpa using hl)
theorem ne_ints {l : List Int} (h : ∀ x ∈ l, 0 ≤ x ∧ x < 10 ^ 20) (hl : l.length ≤ 2000) : neD (.list (l.map PyData.int)) (.list (l.map PyData.int)) = some (.bool false) := Fm.ne_self (b := 10000) ((fm_ints h hl).mono (by omega) (by omega))
theorem eq_ints {l : List Int} (h : ∀ x ∈ l, 0 ≤ x ∧ x < 10 ^ 20) (hl : l.length ≤ 2000) : eqD (.list (l.map PyData.int)) (.list (l.map PyData.int)) = some (.bool true) := Fm.eq_self (b := 10000) ((fm_ints h hl).mono (by omega) (by omega))
theorem eq_S {y : List (Option Int)} {s t : List Int} (hy : OkY y) (hs : OkS y s) (ht : OkS y t) (bs : SmS s) (bt : SmS t) : eqD (eS s) (eS t) = some (.bool (decide (s = t))) := by
  rw [((fm_S hy hs bs).mono (by omega) (Nat.le_refl _)).eq ((fm_S hy ht bt).mono (by omega) (Nat.le_refl _))]
  show some (PyData.bool (PyData.eqvAll _ _)) = _
  rw [eqv_ints]
theorem slI1 {l : List Int} {j : Nat} : slD2 (.list (l.map PyData.int)) none (some (j : Int)) = some (.list ((l.take j).map PyData.int)) := by
  show some (PyData.list (Dm.cutD _ _ _)) = _
  rw [cut_to, List.map_take]
theorem slI2 {l : List Int} {j : Nat} : slD2 (.list (l.map PyData.int)) (some (j : Int)) none = some (.list ((l.drop j).map PyData.int)) := by
  show some (PyData.list (Dm.cutD _ _ _)) = _
  rw [cut_from, List.map_drop]
theorem rep_flat {n : Nat} {x : Int} : (List.replicate n [PyData.int x]).flatten = (List.replicate n x).map PyData.int := by
  induction n with
  | zero => rfl
  | succ n ih => rw [List.replicate_succ, List.replicate_succ, List.flatten_cons, ih]; rfl
theorem mul_zeros {n : Nat} (h : n ≤ 1000000) : mulD (.list [.int 0]) (.int (n : Int)) = some (.list ((List.replicate n (0 : Int)).map PyData.int)) := by
  have h1 : fitI (n : Int) = true := by
    unfold fitI
    exact inB_t (by omega) (by omega)
  have h2 : [PyData.int 0].length * ((n : Nat) : Int).toNat ≤ sizeLine := by
    show 1 * n ≤ 16777216
    omega
  show (if _ then _ else _) = _
  rw [if_pos (by rw [h1]; simpa using h2), Int.toNat_natCast, rep_flat]
@[simp] theorem eq_bool {a b : Bool} : eqD (.bool a) (.bool b) = some (.bool (a == b)) := by cases a <;> cases b <;> rfl
@[simp] theorem ne_bool {a b : Bool} : neD (.bool a) (.bool b) = some (.bool (!(a == b))) := by cases a <;> cases b <;> rfl
theorem max_lst {l : List Int} (h : 0 < l.length) : maxG [.list (l.map PyData.int)] = some (.int (maxL l)) := by
  unfold maxG
  simp only [ints?_map]
  rw [if_pos h]
def dif (a b : Int) : Int := if a - b < 0 then -(a - b) else a - b
def apT (s t : List Int) : Int := ((s.zip t).map fun z => dif z.1 z.2).sum
theorem zipS {s t : List Int} : zipG [eS s, eS t] = some ((s.zip t).map fun z => .tuple [.int z.1, .int z.2]) := by
  show some ((List.zip (s.map PyData.int) (t.map PyData.int)).map fun p => PyData.tuple [p.1, p.2]) = _
  rw [List.zip_map, List.map_map]; rfl
def distR (y : List (Option Int)) : List Int → List Int → List Ask → List Int
  | _, _, [] => []
  | s, t, a :: r => apT (askT y s a).2 (askT y t a).2 :: distR y (askT y s a).2 (askT y t a).2 r
def distT (y : List (Option Int)) (s t : List Int) (d : List Ask) : List Int := apT s t :: distR y s t d
theorem p_need_day {y : List (Option Int)} {d : List Ask} (h : OkY y) (hd : OkD y.length d) (hl : d.length ≤ 1000) : m_need_day [eY y, eD d] = .ok .none := by
  simp [m_need_day, pf_eq, f_need_day, ev_nmE, p_is_day h hd (by omega : d.length ≤ 1000000)]
def firstT (l : List Int) : Option Nat := l.findIdx? fun z => z == 0
theorem distR_len {y : List (Option Int)} : ∀ {d : List Ask} {s t : List Int}, (distR y s t d).length = d.length
  | [], _, _ => rfl
  | _ :: _, _, _ => by simp [distR, distR_len]
theorem dist_len {y : List (Option Int)} {d : List Ask} {s t : List Int} : (distT y s t d).length = d.length + 1 := by simp [distT, distR_len]
theorem shaped_ints {l : List Int} : SeqAt.shaped (.list (l.map PyData.int)) = true := by
  have h3 : ∀ l : List Int, PyData.canLayAll0 (l.map PyData.int) = true ∧ PyData.depthAll (l.map PyData.int) = 0 := fun l => by
    induction l with
    | nil => exact ⟨rfl, rfl⟩
    | cons a r ih => exact ⟨by simp [PyData.canLayAll0, PyData.canLay0, ih.1], by simp [PyData.depthAll, PyData.depth, ih.2]⟩
  unfold SeqAt.shaped
  simp [PyData.canLay0, PyData.depth, (h3 l).1, (h3 l).2]
/-! ### nowhere more stays nowhere more; two worlds never get farther apart -/
theorem le_sum : ∀ {s t : List Int}, s.length = t.length → (∀ i, gS s i ≤ gS t i) → s.sum ≤ t.sum ∧ (s.sum = t.sum → s = t) ∧ (s.sum < t.sum → ∃ q, q < s.length ∧ gS s q < gS t q)
  | [], [], _, _ => ⟨by simp, fun _ => rfl, fun h => by simp at h⟩
  | a :: s, b :: t, hl, h => by
    have h0 : a ≤ b := by simpa [gS] using h 0
    obtain ⟨i1, i2, i3⟩ := le_sum (s := s) (t := t) (by simpa using hl) fun i => by simpa [gS] using h (i + 1)
    simp only [List.sum_cons, List.length_cons]
    refine ⟨by omega, fun e => ?_, fun e => ?_⟩
    · have e1 : a = b := by omega
      rw [e1, i2 (by omega)]
    · by_cases e1 : a = b
      · obtain ⟨q, hq, hlt⟩ := i3 (by omega)
        exact ⟨q + 1, by omega, by simpa [gS] using hlt⟩
      · exact ⟨0, by omega, by simp [gS]; omega⟩
theorem OkS.le_room {y : List (Option Int)} {t : List Int} (h : OkS y t) {q : Nat} {r : Int} (hq : q < t.length) (hr : gO y q = some r) : gS t q ≤ r := by
  have hy : y[q]? = some (some r) := by
    unfold gO at hr
    cases e2 : y[q]? with
    | none => rw [e2] at hr; cases hr
    | some z => rw [e2] at hr; simp at hr; rw [hr]
  exact h.fit q r _ hy (h.get hq).1
theorem go_le_aux {y : List (Option Int)} {d : List Ask} (hd : OkD y.length d) : ∀ (n : Nat) {s t : List Int}, OkS y s → OkS y t → (∀ i, gS s i ≤ gS t i) → t.sum - s.sum = n →
    (∀ i, gS (goT y s d).2 i ≤ gS (goT y t d).2 i) ∧ (goT y t d).2.sum - (goT y s d).2.sum ≤ t.sum - s.sum ∧ ∀ i : Nat, (((goT y s d).1[i]?).getD none).isSome = true → (((goT y t d).1[i]?).getD none).isSome = true
  | 0, s, t, hs, ht, h, e => by
    have := (le_sum (by rw [hs.len, ht.len]) h).2.1 (by omega)
    subst this
    exact ⟨fun i => Int.le_refl _, by omega, fun i z => z⟩
  | n + 1, s, t, hs, ht, h, e => by
    obtain ⟨q, hq, hlt⟩ := (le_sum (by rw [hs.len, ht.len]) h).2.2 (by omega)
    have hu : OkS y (chT s q 1) := hs.up hq fun r hr => by
      have := ht.le_room (q := q) (by rw [ht.len, ← hs.len]; exact hq) hr
      omega
    have hm := go_mo hs hu hd (.inr ⟨q, hq, rfl⟩)
    obtain ⟨m1, m2, m3⟩ := hm.1.le
    have hsum := sum_ch (b := 1) hq
    obtain ⟨i1, i2, i3⟩ := go_le_aux hd n hu ht (fun i => by
      rw [gS_ch hq]
      split
      · rename_i e1; subst e1; omega
      · exact h i) (by omega)
    exact ⟨fun i => Int.le_trans (m2 i) (i1 i), by omega, fun i z => i3 i (hm.2 i z)⟩
theorem go_le {y : List (Option Int)} {d : List Ask} {s t : List Int} (hd : OkD y.length d) (hs : OkS y s) (ht : OkS y t) (h : ∀ i, gS s i ≤ gS t i) :
    (∀ i, gS (goT y s d).2 i ≤ gS (goT y t d).2 i) ∧ (goT y t d).2.sum - (goT y s d).2.sum ≤ t.sum - s.sum ∧ ∀ i : Nat, (((goT y s d).1[i]?).getD none).isSome = true → (((goT y t d).1[i]?).getD none).isSome = true := by
  have := (le_sum (by rw [hs.len, ht.len]) h).1
  exact go_le_aux hd (t.sum - s.sum).toNat hs ht h (by omega)
def two (f : Int → Int → Int) (s t : List Int) : List Int := (s.zip t).map fun z => f z.1 z.2
theorem two_len {f : Int → Int → Int} {s t : List Int} (h : s.length = t.length) : (two f s t).length = s.length := by simp [two]; omega
theorem gS_two {f : Int → Int → Int} {s t : List Int} {i : Nat} (h1 : i < s.length) (h2 : i < t.length) : gS (two f s t) i = f (gS s i) (gS t i) := by
  have e : (s.zip t)[i]? = some (s[i], t[i]) := List.getElem?_zip_eq_some.mpr ⟨List.getElem?_eq_getElem h1, List.getElem?_eq_getElem h2⟩
  unfold two gS
  rw [List.getElem?_map, e, List.getElem?_eq_getElem h1, List.getElem?_eq_getElem h2]; rfl
theorem gS_out {s : List Int} {i : Nat} (h : s.length ≤ i) : gS s i = 0 := by unfold gS; rw [List.getElem?_eq_none h]; rfl
def mn (a b : Int) : Int := if a ≤ b then a else b
def mx (a b : Int) : Int := if a ≤ b then b else a
theorem ok_two {y : List (Option Int)} {f : Int → Int → Int} {s t : List Int} (hs : OkS y s) (ht : OkS y t) (hf : ∀ a b, f a b = a ∨ f a b = b) : OkS y (two f s t) where
  len := by rw [two_len (by rw [hs.len, ht.len]), hs.len]
  pos := fun i hi => by
    obtain ⟨z, hz, rfl⟩ := List.mem_map.mp hi
    have h := List.of_mem_zip hz
    rcases hf z.1 z.2 with e | e <;> rw [e]
    · exact hs.pos _ h.1
    · exact ht.pos _ h.2
  fit := fun p r x hr hx => by
    have hp : p < (two f s t).length := (List.getElem?_eq_some_iff.mp hx).1
    rw [two_len (by rw [hs.len, ht.len])] at hp
    have hp2 : p < t.length := by rw [ht.len, ← hs.len]; exact hp
    have e := gS_two (f := f) hp hp2
    rw [gS_of hx] at e
    rcases hf (gS s p) (gS t p) with e2 | e2 <;> rw [e2] at e <;> rw [e]
    · exact hs.fit p r _ hr (hs.get hp).1
    · exact ht.fit p r _ hr (ht.get hp2).1
theorem apT_two : ∀ {s t : List Int}, s.length = t.length → apT s t = (two mx s t).sum - (two mn s t).sum
  | [], [], _ => rfl
  | a :: s, b :: t, h => by
    have ih := apT_two (s := s) (t := t) (by simpa using h)
    simp only [apT, two, List.zip_cons_cons, List.map_cons, List.sum_cons] at ih ⊢
    rw [ih]
    unfold dif mx mn
    split <;> split <;> omega
theorem apT_le : ∀ {s t m M : List Int}, s.length = t.length → m.length = s.length → M.length = s.length → (∀ i, gS m i ≤ gS s i ∧ gS m i ≤ gS t i ∧ gS s i ≤ gS M i ∧ gS t i ≤ gS M i) → apT s t ≤ M.sum - m.sum
  | [], [], [], [], _, _, _, _ => by simp [apT]
  | a :: s, b :: t, c :: m, e :: M, h1, h2, h3, h => by
    have ih := apT_le (s := s) (t := t) (m := m) (M := M) (by simpa using h1) (by simpa using h2) (by simpa using h3) fun i => by simpa [gS] using h (i + 1)
    have h0 : c ≤ a ∧ c ≤ b ∧ a ≤ e ∧ b ≤ e := by simpa [gS] using h 0
    simp only [apT, List.zip_cons_cons, List.map_cons, List.sum_cons] at ih ⊢
    have : dif a b ≤ e - c := by unfold dif; split <;> omega
    omega
/-- two worlds are never farther apart behind a day than ahead of it -/
theorem go_apart {y : List (Option Int)} {d : List Ask} {s t : List Int} (hd : OkD y.length d) (hs : OkS y s) (ht : OkS y t) : apT (goT y s d).2 (goT y t d).2 ≤ apT s t := by
  have hl : s.length = t.length := by rw [hs.len, ht.len]
  have om := ok_two (f := mn) hs ht fun a b => by unfold mn; split <;> simp
  have oM := ok_two (f := mx) hs ht fun a b => by unfold mx; split <;> simp
  have cmp : ∀ i, gS (two mn s t) i ≤ gS s i ∧ gS (two mn s t) i ≤ gS t i ∧ gS s i ≤ gS (two mx s t) i ∧ gS t i ≤ gS (two mx s t) i ∧ gS (two mn s t) i ≤ gS (two mx s t) i := fun i => by
    by_cases h : i < s.length
    · have h2 : i < t.length := by omega
      rw [gS_two h h2, gS_two h h2]
      unfold mn mx
      split <;> omega
    · rw [gS_out (s := s) (by omega), gS_out (s := t) (by omega), gS_out (by rw [two_len hl]; omega), gS_out (by rw [two_len hl]; omega)]
      omega
  have l1 := go_le hd om hs fun i => (cmp i).1
  have l2 := go_le hd om ht fun i => (cmp i).2.1
  have l3 := go_le hd hs oM fun i => (cmp i).2.2.1
  have l4 := go_le hd ht oM fun i => (cmp i).2.2.2.1
  have l5 := go_le hd om oM fun i => (cmp i).2.2.2.2
  have gm := om.go hd
  have gM := oM.go hd
  have g1 := hs.go hd
  have g2 := ht.go hd
  have := apT_le (s := (goT y s d).2) (t := (goT y t d).2) (m := (goT y (two mn s t) d).2) (M := (goT y (two mx s t) d).2) (by rw [g1.len, g2.len]) (by rw [gm.len, g1.len]) (by rw [gM.len, g1.len]) fun i => ⟨l1.1 i, l2.1 i, l3.1 i, l4.1 i⟩
  rw [apT_two hl]
  omega
/-! ### who goes without -/
def fwT (y : List (Option Int)) (s : List Int) (d : List Ask) (few : List Nat) : Option Nat := few.find? fun k => !decide (k ∈ servT y s d)
def fwR (y : List (Option Int)) (s : List Int) (d : List Ask) (few : List Nat) : List (Nat × Option Nat) := ((List.range s.length).filter fun p => decide (0 < gS s p)).map fun p => (p, fwT y (chT s p (-1)) d few)
def ePO (z : Nat × Option Nat) : D := .tuple [eN z.1, eNO z.2]
@[simp] theorem noL_ePO {z : Nat × Option Nat} : noL (ePO z) = true := by obtain ⟨a, o⟩ := z; cases o <;> rfl
theorem enumS {s : List Int} : enumA [eS s] = some ((List.range s.length).map fun p => .tuple [eN p, .int (gS s p)]) := by
  show some (enumD (s.map PyData.int)) = _
  unfold enumD
  rw [List.zipIdx_map, List.map_map]
  congr 1
  refine List.ext_getElem (by simp) fun i h1 h2 => ?_
  simp at h1 h2
  simp [gS_of (List.getElem?_eq_getElem h1), eN]
theorem serv_len' {y : List (Option Int)} {s : List Int} {d : List Ask} : (servT y s d).length ≤ d.length := by
  unfold servT
  rw [List.length_map]
  have h1 := List.length_filter_le (fun z : Row × Nat => z.1.isSome) (goT y s d).1.zipIdx
  have h2 : (goT y s d).1.zipIdx.length = d.length := by rw [List.length_zipIdx, go_len]
  omega
theorem p_first_without {y : List (Option Int)} {s : List Int} {d : List Ask} {few : List Nat} (h : OkY y) (hs : OkS y s) (hd : OkD y.length d) (hl : d.length ≤ 1000) : m_first_without [eY y, eS s, eD d, .list (few.map eN)] = .ok (eNO (fwT y s d few)) := by
  have S := p_served_by h hs hd (by omega : d.length ≤ 1000000)
  have sl := @serv_len' y s d
  obtain ⟨T, hT⟩ : ∃ T, T = servT y s d := ⟨_, rfl⟩
  rw [← hT] at S sl
  obtain ⟨DC, hDC⟩ : ∃ c : List (Int × D), c = T.foldl (fun (c : List (Int × D)) (a : Nat) => putD c (a : Int) (.bool true)) [] := ⟨_, rfl⟩
  have hc : compD .bp .vp [5] (nmG 5) (nmE 5) (csE (.bool true)) (T.map eN) [] [.bo (eY y), .bo (eS s), .bo (eD d), .bo (.list (few.map eN)), .no, .no] = .ok (DC, [.bo (eY y), .bo (eS s), .bo (eD d), .bo (.list (few.map eN)), .no, .no]) := by
    rw [hDC]
    exact compD_put (fun a : Nat => (a : Int)) (fun _ => PyData.bool true) T [] (fun a _ => ⟨[.bo (eY y), .bo (eS s), .bo (eD d), .bo (.list (few.map eN)), .no, .va (eN a)], by simp [itS], by simp [wiS], by simp [ev_nmE, eN], by simp, rfl⟩) (by simp; omega)
  have hin : ∀ k : Nat, (getD' DC (k : Int)).isSome = decide (k ∈ T) := fun k => by
    rw [hDC, getD_fold]
    have e0 : (getD' ([] : List (Int × D)) (k : Int)).isSome = false := rfl
    rw [e0, Bool.or_false, Bool.eq_iff_iff, List.any_eq_true, decide_eq_true_eq]
    constructor
    · rintro ⟨a, ha, e⟩
      have e := of_decide_eq_true e
      rw [show k = a by omega]; exact ha
    · intro hk; exact ⟨k, hk, by simp⟩
  have loop : ∀ (l : List Nat) (x5 : Sl), ∃ y5, forF .bo (nmG 5) lp_first_without_0 (l.map eN) [.bo (eY y), .bo (eS s), .bo (eD d), .bo (.list (few.map eN)), .dc DC, x5] = (match l.find? (fun k => !decide (k ∈ T)) with
      | none => .nx [.bo (eY y), .bo (eS s), .bo (eD d), .bo (.list (few.map eN)), .dc DC, y5]
      | some k => .rt (eN k) [.bo (eY y), .bo (eS s), .bo (eD d), .bo (.list (few.map eN)), .dc DC, y5]) := by
    intro l
    induction l with
    | nil => intro x5; exact ⟨x5, rfl⟩
    | cons k r ih =>
      intro x5
      rw [List.map_cons, ev_forF_cons, List.find?_cons]
      have hk := hin k
      cases hm : decide (k ∈ T) with
      | true =>
        rw [hm] at hk
        obtain ⟨y5, e⟩ := ih (.va (eN k))
        refine ⟨y5, ?_⟩
        have hk2 : getD' DC (k : Int) ≠ none := fun z => by rw [z] at hk; cases hk
        obtain ⟨w, hw⟩ := Option.ne_none_iff_exists'.mp hk2
        simp [itS, ev_nmE, eN, hw]
        exact e
      | false =>
        rw [hm] at hk
        refine ⟨.va (eN k), ?_⟩
        have hw : getD' DC (k : Int) = none := by
          cases z : getD' DC (k : Int) with
          | none => rfl
          | some w => rw [z] at hk; cases hk
        simp [itS, ev_nmE, eN, hw]
  obtain ⟨y5, e⟩ := loop few .no
  have iT : itD (.list (T.map eN)) = some (T.map eN) := rfl
  have iF : itD (.list (few.map eN)) = some (few.map eN) := rfl
  have hf : fwT y s d few = few.find? fun k => !decide (k ∈ T) := by rw [hT]; rfl
  rw [hf]
  simp [m_first_without, pf_eq, f_first_without, ev_nmE, S, iT, okO, wiS, reS, hc, iF, e]
  cases few.find? (fun k => !decide (k ∈ T)) <;> simp [eNO]
structure OkF (n : Nat) (w : List Nat) : Prop where
  lt : ∀ k ∈ w, k < n
  up : w.Pairwise (· < ·)
theorem zip_up {w : List Nat} (h : w.Pairwise (· < ·)) : ∀ z ∈ w.zip (w.drop 1), z.1 < z.2 := by
  induction w with
  | nil => intro z hz; simp at hz
  | cons a r ih =>
    intro z hz
    rw [List.pairwise_cons] at h
    cases r with
    | nil => simp at hz
    | cons b t =>
      simp only [List.drop_succ_cons, List.drop_zero, List.zip_cons_cons, List.mem_cons] at hz ih
      rcases hz with rfl | hz
      · exact h.1 b (by simp)
      · exact ih h.2 z hz
theorem p_need_some {d : List Ask} {w : List Nat} (hw : OkF d.length w) (hl : d.length ≤ 1000) (wl : w.length ≤ 1000) : m_need_some [eD d, .list (w.map eN)] = .ok .none := by
  have ld : lenG [eD d] = some (.int d.length) := by simp [eD]
  have iW : itD (.list (w.map eN)) = some (w.map eN) := rfl
  have c1 : compF .bp .an [2] (nmG 2) yesT (anE (clE .an 1 m_is_amount (consA (nmE 2) nilA)) (opE ltD (nmE 2) (cbE lenG (consA (nmE 0) nilA)))) (w.map eN) [.bo (eD d), .bo (.list (w.map eN)), .no, .no] = .ok (w.map fun _ => .bool true, [.bo (eD d), .bo (.list (w.map eN)), .no, .no]) :=
    compF_map _ _ fun k hk => by
      have := hw.lt k hk
      have am : m_is_amount [eN k] = .ok (.bool true) := by
        have := @p_amount (k : Int)
        simpa [eN] using this
      have lt : ltD (eN k) (.int (d.length : Int)) = some (.bool true) := by
        show some (PyData.bool (decide ((k : Int) < (d.length : Int)))) = _
        simp; omega
      exact ⟨[.bo (eD d), .bo (.list (w.map eN)), .va (eN k), .no], by simp [itS], by simp [wiS], by simp [ev_nmE, am, ld, lt], .inr rfl⟩
  have sl : slD2 (.list (w.map eN)) (some 1) none = some (.list ((w.drop 1).map eN)) := by
    show some (PyData.list (Dm.cutD _ _ _)) = _
    have := cut_from (xs := w.map eN) (i := 1)
    rw [show (some (1 : Int)) = some ((1 : Nat) : Int) from rfl, this, List.map_drop]
  have hz : zipG [.list (w.map eN), .list ((w.drop 1).map eN)] = some ((w.zip (w.drop 1)).map fun z => .tuple [eN z.1, eN z.2]) := by
    show some (zipD _ _) = _
    unfold zipD
    rw [List.zip_map, List.map_map]; rfl
  have c2 : compF .bp .an [2, 3] (tuG 2 (consG (nmG 2) (consG (nmG 3) nilG))) yesT (opE ltD (nmE 2) (nmE 3)) ((w.zip (w.drop 1)).map fun z => .tuple [eN z.1, eN z.2]) [.bo (eD d), .bo (.list (w.map eN)), .no, .no] = .ok ((w.zip (w.drop 1)).map fun _ => .bool true, [.bo (eD d), .bo (.list (w.map eN)), .no, .no]) :=
    compF_map _ _ fun z hz => by
      have := zip_up hw.up z hz
      have lt : ltD (eN z.1) (eN z.2) = some (.bool true) := by
        show some (PyData.bool (decide ((z.1 : Int) < (z.2 : Int)))) = _
        simp; omega
      exact ⟨[.bo (eD d), .bo (.list (w.map eN)), .va (eN z.1), .va (eN z.2)], by simp [itS], by simp [wiS], by simp [ev_nmE, lt], .inr rfl⟩
  have a1 : allG [.list (w.map fun _ => PyData.bool true)] = some (.bool true) := by rw [all_map (f := fun _ => true)]; simp
  have a2 : allG [.list ((w.zip (w.drop 1)).map fun _ => PyData.bool true)] = some (.bool true) := by rw [all_map (f := fun _ => true)]; simp
  have zl : (w.zip (w.drop 1)).length ≤ 1000 := by rw [List.length_zip]; omega
  have isl : isiB "list" (.list (w.map eN)) = true := rfl
  simp [-List.drop_one, -List.map_drop, -List.length_zip, m_need_some, pf_eq, f_need_some, ev_nmE, isl, iW, okO, wiS, reS, c1, a1, (by omega : w.length ≤ 16777216), sl, hz, c2, a2, (by omega : (w.zip (w.drop 1)).length ≤ 16777216)]
theorem p_lacks {y : List (Option Int)} {s : List Int} {d : List Ask} {few : List Nat} (h : OkY y) (hs : OkS y s) (hd : OkD y.length d) (hl : d.length ≤ 1000) (hf : OkF d.length few) (fl : few.length ≤ 1000) : m_lacks [eY y, eS s, eD d, .list (few.map eN)] = .ok (eNO (fwT y s d few)) := by
  have n1 : m_need_standing [eY y, eS s] = .ok .none := by simp [m_need_standing, pf_eq, f_need_standing, ev_nmE, p_is_standing h hs]
  have n2 : m_need_day [eY y, eD d] = .ok .none := by simp [m_need_day, pf_eq, f_need_day, ev_nmE, p_is_day h hd (by omega : d.length ≤ 1000000)]
  simp [m_lacks, pf_eq, f_lacks, ev_nmE, p_need_yard h, n1, n2, p_need_some hf hl fl, p_first_without h hs hd hl]
theorem p_one_fewer {y : List (Option Int)} {s : List Int} {d : List Ask} {few : List Nat} (h : OkY y) (hs : OkS y s) (hd : OkD y.length d) (hl : d.length ≤ 1000) (hf : OkF d.length few) (fl : few.length ≤ 1000) : m_one_fewer [eY y, eS s, eD d, .list (few.map eN)] = .ok (.list ((fwR y s d few).map ePO)) := by
  have h9 := h.hi
  have hsl := hs.len
  have key := forF_run (L := .bo) (g := tuG 2 (consG (nmG 5) (consG (nmG 6) nilG))) (e := fun p : Nat => PyData.tuple [eN p, .int (gS s p)]) (f := lp_one_fewer_0)
    (fun (l : List Nat) ρ => ∃ (ls : List (Nat × Option Nat)) (x5 x6 x7 : Sl), ρ = [.bo (eY y), .bo (eS s), .bo (eD d), .bo (.list (few.map eN)), .ow (ls.map ePO), x5, x6, x7] ∧ (∀ k ∈ l, k < s.length) ∧ ls ++ (l.filter fun p => decide (0 < gS s p)).map (fun p => (p, fwT y (chT s p (-1)) d few)) = fwR y s d few)
    (fun p r ρ ⟨ls, x5, x6, x7, hρ, hk, hls⟩ => by
      subst hρ
      have hp := hk p (List.mem_cons_self ..)
      have hr : ∀ j ∈ r, j < s.length := fun j hj => hk j (List.mem_cons_of_mem _ hj)
      have hll : ls.length < 16777216 := by
        have := congrArg List.length hls
        rw [List.length_append] at this
        have h2 := List.length_filter_le (fun p => decide (0 < gS s p)) (List.range s.length)
        rw [List.length_range] at h2
        unfold fwR at this
        rw [List.length_map, List.length_map] at this
        omega
      have h1 : (s.take p).length < 16777216 := by rw [List.length_take]; omega
      have h2 : (s.take p ++ [gS s p + -1]).length + (s.drop (p + 1)).length ≤ 16777216 := by simp; omega
      rw [List.filter_cons] at hls
      by_cases hg : 0 < gS s p
      · simp only [hg, decide_true, if_true, List.map_cons] at hls
        have e2 := p_first_without (few := few) h (hs.down hp hg) hd hl
        have e4 : addD (eS (s.take p)) (.tuple [.int (gS s p - 1)]) = some (eS (s.take p ++ [gS s p + -1])) := addS1 h1
        have e5 : addD (eS (s.take p ++ [gS s p + -1])) (eS (s.drop (p + 1))) = some (eS (chT s p (-1))) := by
          rw [addS h2, ← chT_take hp]
        have nf : noL (eNO (fwT y (chT s p (-1)) d few)) = true := by cases fwT y (chT s p (-1)) d few <;> rfl
        refine ⟨[.bo (eY y), .bo (eS s), .bo (eD d), .bo (.list (few.map eN)), .ow (ls.map ePO), .va (eN p), .va (.int (gS s p)), x7], _, by simp [itS], .inl ?_, ls ++ [(p, fwT y (chT s p (-1)) d few)], .va (eN p), .va (.int (gS s p)), .va (eS (chT s p (-1))), rfl, hr, by simpa using hls⟩
        simp [ev_nmE, hg, e4, e5, e2, hll, ePO]
      · simp only [hg, decide_false, Bool.false_eq_true, if_false] at hls
        refine ⟨[.bo (eY y), .bo (eS s), .bo (eD d), .bo (.list (few.map eN)), .ow (ls.map ePO), .va (eN p), .va (.int (gS s p)), x7], _, by simp [itS], .inl ?_, ls, .va (eN p), .va (.int (gS s p)), x7, rfl, hr, hls⟩
        simp [ev_nmE, hg])
    (List.range s.length) [.bo (eY y), .bo (eS s), .bo (eD d), .bo (.list (few.map eN)), .ow [], .no, .no, .no] ⟨[], .no, .no, .no, rfl, fun k hk => List.mem_range.mp hk, rfl⟩
  obtain ⟨ρ', e, ls, x5, x6, x7, rfl, _, hls⟩ := key
  rw [List.filter_nil, List.map_nil, List.append_nil] at hls
  subst hls
  simp [m_one_fewer, pf_eq, f_one_fewer, ev_nmE, p_lacks h hs hd hl hf fl, enumS, e]
/-! ### the law's own -/
theorem gS_ow {s : List Int} {p : Nat} (h : p < s.length) : ixD (.list (s.map PyData.int)) (eN p) = some (.int (gS s p)) := by
  unfold eN gS
  rw [ixd_lst, List.getElem?_map, List.getElem?_eq_getElem h]; simp [h]
theorem eq_nilU {l : List Nat} (h : ∀ x ∈ l, x < 1000000) : eqD (.list (l.map eN)) (.list []) = some (.bool l.isEmpty) ∧ neD (.list (l.map eN)) (.list []) = some (.bool (!l.isEmpty)) := by
  have h1 : Fm 1 (l.length * 1) (.list (l.map eN)) := Fm.list (a := 0) (b := 0) (fun d hd => by
    obtain ⟨x, hx, rfl⟩ := List.mem_map.mp hd
    exact fm_eN (h x hx)) (by simp)
  have h2 : Fm 1 0 (.list []) := Fm.list (n := 0) (b := 0) (a := 0) (by simp) (by simp)
  rw [(h1.mono (by omega : 1 ≤ 64) (Nat.le_refl _)).eq (h2.mono (by omega : 1 ≤ 64) (Nat.le_refl _)), (h1.mono (by omega : 1 ≤ 64) (Nat.le_refl _)).ne (h2.mono (by omega : 1 ≤ 64) (Nat.le_refl _))]
  cases l <;> simp [PyData.eqv, PyData.eqvAll]
/-! the least ones, taken one by one: plain -/
section
variable {α : Type}
def greedy (ab : α → α → Bool) (P : α → Bool) : List α → List α → List α
  | f, [] => f
  | f, s :: r => greedy ab P (if f.any (fun l => ab s l) then f else if P s then f ++ [s] else f) r
theorem greedy_spec {ab : α → α → Bool} {P : α → Bool} {w : α → Int} (h1 : ∀ s t u, ab s t = true → ab t u = true → ab s u = true) (hr : ∀ s, ab s s = true) (h2 : ∀ s t, ab s t = true → s ≠ t → w t < w s) (h3 : ∀ s, 0 ≤ w s) {L : List α} (hn : L.Nodup) (hs : L.Pairwise fun a b => w a ≤ w b) :
    ∀ (rest pre f : List α), L = pre ++ rest → (∀ x, x ∈ f ↔ x ∈ pre ∧ P x = true ∧ ∀ t ∈ L, P t = true → ab x t = true → t = x) →
      ∀ x, x ∈ greedy ab P f rest ↔ x ∈ L ∧ P x = true ∧ ∀ t ∈ L, P t = true → ab x t = true → t = x := by
  have desc : ∀ (n : Nat) (t : α), t ∈ L → P t = true → (w t).toNat ≤ n → ∃ m, m ∈ L ∧ P m = true ∧ ab t m = true ∧ ∀ u ∈ L, P u = true → ab m u = true → u = m := by
    intro n
    induction n with
    | zero =>
      intro t ht hp hw
      refine ⟨t, ht, hp, hr t, fun u hu hpu hau => ?_⟩
      apply Classical.byContradiction
      intro ne
      have h4 := h2 t u hau (Ne.symm ne)
      have h5 := h3 t
      have h6 := h3 u
      omega
    | succ n ih =>
      intro t ht hp hw
      by_cases hm : ∀ u ∈ L, P u = true → ab t u = true → u = t
      · exact ⟨t, ht, hp, hr t, hm⟩
      · have ⟨u, hu⟩ := Classical.not_forall.mp hm
        have ⟨hu1, hu'⟩ := Classical.not_imp.mp hu
        have ⟨hu2, hu''⟩ := Classical.not_imp.mp hu'
        have ⟨hu3, hu4⟩ := Classical.not_imp.mp hu''
        have h4 := h2 t u hu3 (Ne.symm hu4)
        have h5 := h3 u
        obtain ⟨m, hm1, hm2, hm3, hm4⟩ := ih u hu1 hu2 (by omega)
        exact ⟨m, hm1, hm2, h1 _ _ _ hu3 hm3, hm4⟩
  intro rest
  induction rest with
  | nil =>
    intro pre f e hf x
    rw [List.append_nil] at e
    show x ∈ f ↔ _
    rw [hf, e]
  | cons s r ih =>
    intro pre f e hf x
    show x ∈ greedy ab P (if f.any (fun l => ab s l) then f else if P s then f ++ [s] else f) r ↔ _
    have hsL : s ∈ L := by rw [e]; simp
    have hspre : s ∉ pre := by
      intro hp
      rw [e] at hn
      exact (List.nodup_append.mp hn).2.2 s hp s (by simp) rfl
    have low : ∀ t ∈ L, w t < w s → t ∈ pre := by
      intro t ht hw
      rw [e] at ht
      rcases List.mem_append.mp ht with q | q
      · exact q
      · rcases List.mem_cons.mp q with q | q
        · rw [q] at hw; omega
        · rw [e] at hs
          have := (List.pairwise_cons.mp (List.pairwise_append.mp hs).2.1).1 t q
          omega
    refine ih (pre ++ [s]) _ (by rw [e]; simp) (fun y => ?_) x
    have key : (f.any (fun l => ab s l) = false ∧ P s = true) ↔ (P s = true ∧ ∀ t ∈ L, P t = true → ab s t = true → t = s) := by
      constructor
      · rintro ⟨ha, hp⟩
        refine ⟨hp, fun t ht hpt hat => ?_⟩
        apply Classical.byContradiction
        intro ne
        obtain ⟨m, hm1, hm2, hm3, hm4⟩ := desc (w t).toNat t ht hpt (Nat.le_refl _)
        have hwt := h2 s t hat (Ne.symm ne)
        have hwm : w m ≤ w t := by
          by_cases q : t = m
          · rw [q]; exact Int.le_refl _
          · exact Int.le_of_lt (h2 t m hm3 q)
        have hmp := low m hm1 (by omega)
        have hmf := (hf m).mpr ⟨hmp, hm2, hm4⟩
        have : f.any (fun l => ab s l) = true := List.any_eq_true.mpr ⟨m, hmf, h1 _ _ _ hat hm3⟩
        rw [ha] at this
        cases this
      · rintro ⟨hp, hm⟩
        refine ⟨?_, hp⟩
        cases q : f.any (fun l => ab s l) with
        | false => rfl
        | true =>
          obtain ⟨l, hl, hal⟩ := List.any_eq_true.mp q
          obtain ⟨l1, l2, _⟩ := (hf l).mp hl
          have := hm l (by rw [e]; exact List.mem_append_left _ l1) l2 hal
          rw [this] at l1
          exact absurd l1 hspre
    by_cases hc : f.any (fun l => ab s l) = false ∧ P s = true
    · have hm := key.mp hc
      rw [if_neg (by rw [hc.1]; exact Bool.false_ne_true), if_pos hc.2, List.mem_append, hf y, List.mem_append, List.mem_singleton]
      constructor
      · rintro (⟨a, b⟩ | rfl)
        · exact ⟨.inl a, b⟩
        · exact ⟨.inr rfl, hm⟩
      · rintro ⟨a | rfl, b⟩
        · exact .inl ⟨a, b⟩
        · exact .inr rfl
    · have hm : ¬ (P s = true ∧ ∀ t ∈ L, P t = true → ab s t = true → t = s) := fun z => hc (key.mpr z)
      have ef : (if f.any (fun l => ab s l) = true then f else if P s = true then f ++ [s] else f) = f := by
        cases q : f.any (fun l => ab s l) with
        | true => rw [if_pos rfl]
        | false =>
          rw [if_neg Bool.false_ne_true]
          cases q2 : P s with
          | false => rw [if_neg Bool.false_ne_true]
          | true => exact absurd ⟨q, q2⟩ hc
      rw [ef, hf y, List.mem_append, List.mem_singleton]
      constructor
      · rintro ⟨a, b⟩
        exact ⟨.inl a, b⟩
      · rintro ⟨a | rfl, b⟩
        · exact ⟨a, b⟩
        · exact absurd b hm
theorem greedy_nodup {ab : α → α → Bool} {P : α → Bool} : ∀ (rest f : List α), (f ++ rest).Nodup → (greedy ab P f rest).Nodup
  | [], f, h => by rw [List.append_nil] at h; exact h
  | s :: r, f, h => by
    show (greedy ab P (if f.any (fun l => ab s l) then f else if P s then f ++ [s] else f) r).Nodup
    have h1 : (f ++ [s] ++ r).Nodup := by simpa using h
    have h2 : (f ++ r).Nodup := by
      refine h.sublist ?_
      exact List.Sublist.append (List.Sublist.refl _) (List.sublist_cons_self _ _)
    apply greedy_nodup r
    split
    · exact h2
    · split
      · exact h1
      · exact h2
/-- what is strictly rising is known by its members -/
theorem rise_ext {lt : α → α → Prop} (irr : ∀ a, ¬ lt a a) (tr : ∀ a b c, lt a b → lt b c → lt a c) : ∀ {l m : List α}, l.Pairwise lt → m.Pairwise lt → (∀ x, x ∈ l ↔ x ∈ m) → l = m
  | [], [], _, _, _ => rfl
  | [], b :: m, _, _, h => absurd ((h b).mpr (List.mem_cons_self ..)) (by simp)
  | a :: l, [], _, _, h => absurd ((h a).mp (List.mem_cons_self ..)) (by simp)
  | a :: l, b :: m, h1, h2, h => by
    obtain ⟨ha, hl⟩ := List.pairwise_cons.mp h1
    obtain ⟨hb, hm⟩ := List.pairwise_cons.mp h2
    have e : a = b := by
      rcases List.mem_cons.mp ((h a).mp (List.mem_cons_self ..)) with q | q
      · exact q
      · rcases List.mem_cons.mp ((h b).mpr (List.mem_cons_self ..)) with r | r
        · exact r.symm
        · exact absurd (tr _ _ _ (hb a q) (ha b r)) (irr b)
    subst e
    congr 1
    refine rise_ext irr tr hl hm fun x => ⟨fun hx => ?_, fun hx => ?_⟩
    · rcases List.mem_cons.mp ((h x).mp (List.mem_cons_of_mem _ hx)) with q | q
      · rw [q] at hx
        exact absurd (ha a hx) (irr a)
      · exact q
    · rcases List.mem_cons.mp ((h x).mpr (List.mem_cons_of_mem _ hx)) with q | q
      · rw [q] at hx
        exact absurd (hb a hx) (irr a)
      · exact q
end
/-! all standings up to bounds -/
def allT (bs : List Nat) : List (List Int) := bs.foldl (fun f m => f.flatMap fun s => (List.range (m + 1)).map fun l : Nat => s ++ [(l : Int)]) [[]]
theorem allT_snoc {bs : List Nat} {m : Nat} : allT (bs ++ [m]) = (allT bs).flatMap fun s => (List.range (m + 1)).map fun l : Nat => s ++ [(l : Int)] := by
  unfold allT
  rw [List.foldl_append]
  rfl
theorem rev_ind {α : Type} {P : List α → Prop} (h0 : P []) (h1 : ∀ l a, P l → P (l ++ [a])) : ∀ l, P l := fun l => by
  rw [← List.reverse_reverse l]
  induction l.reverse with
  | nil => exact h0
  | cons a r ih => rw [List.reverse_cons]; exact h1 _ _ ih
theorem mem_allT : ∀ (bs : List Nat) (s : List Int), s ∈ allT bs ↔ s.length = bs.length ∧ ∀ i, i < bs.length → 0 ≤ gS s i ∧ gS s i ≤ ((bs[i]?).getD 0 : Nat) := by
  refine rev_ind (fun s => ?_) fun bs m ih s => ?_
  · constructor
    · intro h
      have : s = [] := by simpa [allT] using h
      subst this
      exact ⟨rfl, fun i hi => absurd hi (by simp)⟩
    · rintro ⟨h, _⟩
      have : s = [] := List.length_eq_zero_iff.mp (by simpa using h)
      subst this
      exact List.mem_singleton.mpr rfl
  · rw [allT_snoc, List.mem_flatMap]
    constructor
    · rintro ⟨t, ht, hs⟩
      obtain ⟨l, hl, rfl⟩ := List.mem_map.mp hs
      obtain ⟨h1, h2⟩ := (ih t).mp ht
      refine ⟨by simp [h1], fun i hi => ?_⟩
      by_cases hc : i < bs.length
      · have := h2 i hc
        have e1 : gS (t ++ [(l : Int)]) i = gS t i := by unfold gS; rw [List.getElem?_append_left (by omega)]
        have e2 : (bs ++ [m])[i]? = bs[i]? := List.getElem?_append_left hc
        rw [e1, e2]
        exact this
      · have hi' : i = bs.length := by simp at hi; omega
        have e1 : gS (t ++ [(l : Int)]) i = l := by unfold gS; rw [List.getElem?_append_right (by omega)]; simp [hi', h1]
        have e2 : (bs ++ [m])[i]? = some m := by rw [hi', List.getElem?_append_right (Nat.le_refl _)]; simp
        rw [e1, e2]
        have := List.mem_range.mp hl
        simp
        omega
    · rintro ⟨h1, h2⟩
      have hlen : s.length = bs.length + 1 := by simpa using h1
      refine ⟨s.take bs.length, (ih _).mpr ⟨by simp [hlen], fun i hi => ?_⟩, ?_⟩
      · have := h2 i (by simp; omega)
        have e1 : gS (s.take bs.length) i = gS s i := by unfold gS; rw [List.getElem?_take_of_lt hi]
        have e2 : (bs ++ [m])[i]? = bs[i]? := List.getElem?_append_left hi
        rw [e1]
        rw [e2] at this
        exact this
      · have := h2 bs.length (by simp)
        have e2 : (bs ++ [m])[bs.length]? = some m := by rw [List.getElem?_append_right (Nat.le_refl _)]; simp
        rw [e2] at this
        refine List.mem_map.mpr ⟨(gS s bs.length).toNat, List.mem_range.mpr (by simp at this; omega), ?_⟩
        have e3 : ((gS s bs.length).toNat : Int) = gS s bs.length := by omega
        rw [e3]
        have hl : bs.length < s.length := by omega
        have e4 : gS s bs.length = s[bs.length] := by unfold gS; rw [List.getElem?_eq_getElem hl]; rfl
        rw [e4, List.take_append_getElem hl]
        exact List.take_of_length_le (by omega)
theorem allT_nodup : ∀ bs : List Nat, (allT bs).Nodup := by
  refine rev_ind ?_ fun bs m ih => ?_
  · simp [allT]
  · rw [allT_snoc]
    unfold List.Nodup
    rw [List.pairwise_flatMap]
    refine ⟨fun s _ => ?_, ?_⟩
    · rw [List.pairwise_map]
      refine List.Pairwise.imp ?_ (List.nodup_range (n := m + 1))
      intro a b hab e
      have := List.append_cancel_left e
      simp at this
      exact hab (Int.ofNat.inj this)
    · refine List.Pairwise.imp ?_ ih
      intro s t hst x hx y hy e
      obtain ⟨a, _, rfl⟩ := List.mem_map.mp hx
      obtain ⟨b, _, rfl⟩ := List.mem_map.mp hy
      have e2 := congrArg List.dropLast e
      rw [List.dropLast_concat, List.dropLast_concat] at e2
      exact hst e2
theorem allT_len (bs : List Nat) : (allT bs).length = bs.foldl (fun a m => a * (m + 1)) 1 := by
  revert bs
  refine rev_ind rfl fun bs m ih => ?_
  rw [allT_snoc, List.foldl_append, List.length_flatMap]
  simp only [List.length_map, List.length_range, List.foldl_cons, List.foldl_nil]
  rw [← ih]
  induction allT bs with
  | nil => simp
  | cons a r ih2 => simp only [List.map_cons, List.sum_cons, List.length_cons, ih2]; rw [Nat.add_mul]; omega
/-- nowhere fewer -/
def aboveT (s t : List Int) : Bool := (s.zip t).all fun z => decide (z.2 ≤ z.1)
theorem above_iff : ∀ {s t : List Int}, s.length = t.length → (aboveT s t = true ↔ ∀ i, gS t i ≤ gS s i)
  | [], [], _ => by simp [aboveT, gS]
  | a :: s, b :: t, h => by
    have ih := above_iff (s := s) (t := t) (by simpa using h)
    unfold aboveT at ih ⊢
    rw [List.zip_cons_cons, List.all_cons, Bool.and_eq_true, ih, decide_eq_true_eq]
    constructor
    · rintro ⟨h1, h2⟩ i
      cases i with
      | zero => simpa [gS] using h1
      | succ i => simpa [gS] using h2 i
    · intro h
      exact ⟨by simpa [gS] using h 0, fun i => by simpa [gS] using h (i + 1)⟩
  | [], _ :: _, h => by simp at h
  | _ :: _, [], h => by simp at h
/-! ### the least standings -/
theorem inTL {p : Nat} {w : List Nat} : inTD (eN p) (eP w) = some (.bool (decide (p ∈ w))) := by
  have h1 : inTD (eN p) (eP w) = some (.bool (decide ((p : Int) ∈ w.map fun n : Nat => (n : Int)))) := by
    unfold eP eN inTD inTF
    simp only [show (fun n : Nat => PyData.int (n : Int)) = eN from rfl, ints_eN]
    rfl
  rw [h1]
  congr 2
  rw [decide_eq_decide, List.mem_map]
  exact ⟨fun ⟨a, h, e⟩ => by rwa [show p = a by omega], fun h => ⟨p, h, rfl⟩⟩
def wantT (n : Nat) (d : List Ask) : List Nat := (List.range n).map fun p => (d.filter fun a => decide (p ∈ a.1)).length
def leK : List Int → List Int → Bool := PySem.W.dataLe false totK
def leastT (P : List Int → Bool) (bs : List Nat) : List (List Int) := (greedy aboveT P [] ((allT bs).mergeSort leK)).mergeSort leT
def opY (n : Nat) : List (Option Int) := List.replicate n none
theorem opY_len {n : Nat} : (opY n).length = n := List.length_replicate
theorem ok_opY {n : Nat} (h : 1 ≤ n) (h9 : n ≤ 9) : OkY (opY n) := ⟨by rw [opY_len]; exact h, by rw [opY_len]; exact h9, fun r hr => by
  have := (List.mem_replicate.mp hr).2
  cases this⟩
theorem p_is_above {s t : List Int} (hl : s.length ≤ 9) : m_is_above [eS s, eS t] = .ok (.bool (aboveT s t)) := by
  have hz : zipG [eS s, eS t] = some ((s.zip t).map fun z => .tuple [.int z.1, .int z.2]) := by
    show some ((List.zip (s.map PyData.int) (t.map PyData.int)).map fun p => PyData.tuple [p.1, p.2]) = _
    rw [List.zip_map, List.map_map]; rfl
  have hc : compF .bp .an [2, 3] (tuG 2 (consG (nmG 2) (consG (nmG 3) nilG))) yesT (opE geD (nmE 2) (nmE 3)) ((s.zip t).map fun z => .tuple [.int z.1, .int z.2]) [.bo (eS s), .bo (eS t), .no, .no] = .ok ((s.zip t).map fun z => .bool (decide (z.2 ≤ z.1)), [.bo (eS s), .bo (eS t), .no, .no]) :=
    compF_map _ _ fun z hz => ⟨[.bo (eS s), .bo (eS t), .va (.int z.1), .va (.int z.2)], by simp [itS], by simp [wiS], by simp [ev_nmE], .inr rfl⟩
  have zl : (s.zip t).length ≤ 16777216 := by rw [List.length_zip]; omega
  have al : allG [.list ((s.zip t).map fun z => PyData.bool (decide (z.2 ≤ z.1)))] = some (.bool (aboveT s t)) := all_map (f := fun z : Int × Int => decide (z.2 ≤ z.1))
  simp [-List.length_zip, m_is_above, pf_eq, f_is_above, ev_nmE, hz, okO, wiS, reS, hc, al, zl]
theorem p_need_open {n : Nat} (h9 : n ≤ 9) : m_need_open [eY (opY n)] = .ok .none := by
  have hc : compF .bp .an [1] (nmG 1) (asT (opE notND (nmE 1) (csE .none))) (nmE 1) ((opY n).map eO) [.bo (eY (opY n)), .no] = .ok (((opY n).filter fun o => o.isSome).map eO, [.bo (eY (opY n)), .no]) :=
    compF_pure _ _ _ fun o ho => ⟨[.bo (eY (opY n)), .va (eO o)], by simp [itS], by cases o <;> simp [ev_nmE, eO], by simp [wiS], fun hh => by
      have := (List.mem_replicate.mp ho).2
      subst this
      cases hh⟩
  have e0 : (opY n).filter (fun o => o.isSome) = [] := List.filter_eq_nil_iff.mpr fun o ho => by
    have := (List.mem_replicate.mp ho).2
    subst this
    simp
  rw [e0] at hc
  have iY : itD (eY (opY n)) = some ((opY n).map eO) := rfl
  have hq : neD (.list []) (.list []) = some (.bool false) := (eq_nilU (l := []) (by simp)).2
  simp [m_need_open, pf_eq, f_need_open, ev_nmE, iY, okO, wiS, reS, hc, hq]
theorem p_wanted {y : List (Option Int)} {d : List Ask} (h9 : y.length ≤ 9) (hl : d.length ≤ 1000) : m_wanted [eY y, eD d] = .ok (.list ((wantT y.length d).map eN)) := by
  have rg : rg1D [.int (y.length : Int)] = some ((List.range y.length).map fun i : Nat => PyData.int (i : Int)) := rg1_nat (by omega)
  have ly : lenG [eY y] = some (.int (y.length : Int)) := by simp [eY]
  have iD : itD (eD d) = some (d.map eA) := rfl
  have hc1 : ∀ p : Nat, compF .bp .an [3, 4] (tuG 2 (consG (nmG 3) (consG (nmG 4) nilG))) (asT (opE inTD (nmE 2) (nmE 3))) (csE (.int 1)) (d.map eA) [.bo (eY y), .bo (eD d), .va (eN p), .no, .no] = .ok ((d.filter fun a => decide (p ∈ a.1)).map fun _ => .int 1, [.bo (eY y), .bo (eD d), .va (eN p), .no, .no]) := fun p =>
    compF_pure _ _ _ fun a ha => ⟨[.bo (eY y), .bo (eD d), .va (eN p), .va (eP a.1), .va (eP a.2)], by simp [itS, eA], by simp [ev_nmE, inTL], by simp [wiS], fun _ => ⟨by simp, .inr rfl⟩⟩
  have hc : compF .bp (.rt 2) [2] (nmG 2) yesT (atE .an (cbE lenG (consA (lsE (lcA .bp [3, 4] (itA (nmE 1)) (tuG 2 (consG (nmG 3) (consG (nmG 4) nilG))) (asT (opE inTD (nmE 2) (nmE 3))) (csE (.int 1)))) nilA))) ((List.range y.length).map fun i : Nat => PyData.int (i : Int)) [.bo (eY y), .bo (eD d), .no, .no, .no] = .ok ((List.range y.length).map fun p => .int ((d.filter fun a => decide (p ∈ a.1)).length : Nat), [.bo (eY y), .bo (eD d), .no, .no, .no]) :=
    compF_map _ _ fun p hp => by
      have fl := List.length_filter_le (fun a : Ask => decide (p ∈ a.1)) d
      have hc1 := hc1 p
      unfold eN at hc1
      refine ⟨[.bo (eY y), .bo (eD d), .va (.int (p : Int)), .no, .no], by simp [itS], by simp [wiS], ?_, .inr rfl⟩
      simp [ev_nmE, iD, okO, wiS, reS, hc1, (by omega : (d.filter fun a : Ask => decide (p ∈ a.1)).length ≤ 16777216)]
  have ew : ((List.range y.length).map fun p => PyData.int ((d.filter fun a => decide (p ∈ a.1)).length : Nat)) = (wantT y.length d).map eN := by
    unfold wantT
    rw [List.map_map]
    rfl
  rw [ew] at hc
  have wl : (wantT y.length d).length ≤ 16777216 := by unfold wantT; simp; omega
  simp [m_wanted, pf_eq, f_wanted, ev_nmE, ly, rg, okO, wiS, reS, hc, wl]
theorem any_map' {α : Type} {f : α → Bool} {l : List α} : anyG [.list (l.map fun a => PyData.bool (f a))] = some (.bool (l.any f)) := by
  have e : (l.map fun a => PyData.bool (f a)) = (l.map f).map PyData.bool := by rw [List.map_map]; rfl
  rw [e, any_bools, List.any_map]
  rfl
theorem p_all_up_to {bs : List Nat} (hb : bs.length ≤ 9) (hm : ∀ m ∈ bs, m ≤ 1000000) (hp : ∀ k, (allT (bs.take k)).length ≤ 1000000) (h1 : 1 ≤ bs.length) : m_all_up_to [.list (bs.map eN)] = .ok (.list (((allT bs).mergeSort leK).map eS)) := by
  have loop : ∀ (r p : List Nat) (x2 : Sl), bs = p ++ r → ∃ y2, forF .bo (nmG 2) lp_all_up_to_0 (r.map eN) [.bo (.list (bs.map eN)), .va (.list ((allT p).map eS)), x2, .no, .no] = .nx [.bo (.list (bs.map eN)), .va (.list ((allT bs).map eS)), y2, .no, .no] := by
    intro r
    induction r with
    | nil =>
      intro p x2 e
      rw [List.append_nil] at e
      subst e
      exact ⟨x2, rfl⟩
    | cons m r ih =>
      intro p x2 e
      obtain ⟨y2, h⟩ := ih (p ++ [m]) (.va (eN m)) (by rw [e]; simp)
      refine ⟨y2, ?_⟩
      have hmm : m ≤ 1000000 := hm m (by rw [e]; simp)
      have hlen : (allT (p ++ [m])).length ≤ 1000000 := by
        have h2 := hp (p ++ [m]).length
        rw [e, show p ++ m :: r = (p ++ [m]) ++ r by simp, List.take_left] at h2
        exact h2
      have hpl : p.length < 9 := by
        rw [e] at hb
        simp at hb
        omega
      have hsl : ∀ s ∈ allT p, s.length < 9 := fun s hs => by rw [((mem_allT p s).mp hs).1]; exact hpl
      have hc : compR .bp .vp [3, 4] (nmG 3) (atE .an (opE addD (nmE 2) (csE (.int 1)))) 4 (opE addD (nmE 3) (tuE (consA (nmE 4) nilA))) ((allT p).map eS) [.bo (.list (bs.map eN)), .va (.list ((allT p).map eS)), .va (eN m), .no, .no] =
          .ok ((allT p).flatMap fun s => (List.range (m + 1)).map fun l : Nat => eS (s ++ [(l : Int)]), [.bo (.list (bs.map eN)), .va (.list ((allT p).map eS)), .va (eN m), .no, .no]) :=
        compR_flat (kf := fun _ => m + 1) (m := fun s l => eS (s ++ [(l : Int)])) (allT p) fun s hs => ⟨by omega, [.bo (.list (bs.map eN)), .va (.list ((allT p).map eS)), .va (eN m), .va (eS s), .no], by simp [itS], by simp [ev_nmE, eN], by simp [wiS], fun l hl => by
          have e1 := addS1 (s := s) (i := (l : Int)) (by have := hsl s hs; omega)
          refine ⟨by simp [wiS], ?_, .inr (by simp)⟩
          simp [wiS, ev_nmE, e1]⟩
      have e2 : ((allT p).flatMap fun s => (List.range (m + 1)).map fun l : Nat => eS (s ++ [(l : Int)])) = (allT (p ++ [m])).map eS := by
        rw [allT_snoc, List.map_flatMap]
        simp only [List.map_map]
        rfl
      rw [e2] at hc
      have iA : itD (.list ((allT p).map eS)) = some ((allT p).map eS) := rfl
      rw [List.map_cons, ev_forF_cons]
      simp [itS, ev_nmE, iA, okO, wiS, reS, hc, (by omega : (allT (p ++ [m])).length ≤ 16777216)]
      exact h
  obtain ⟨y2, e⟩ := loop bs [] .no rfl
  have e0 : (allT []).map eS = [.tuple []] := rfl
  rw [e0] at e
  have iB : itD (.list (bs.map eN)) = some (bs.map eN) := rfl
  have hne : ∀ s ∈ allT bs, s ≠ [] := fun s hs z => by
    have := ((mem_allT bs s).mp hs).1
    rw [z] at this
    simp at this
    omega
  have ht : tupsD (.list ((allT bs).map eS)) = some (allT bs) := tups?_map hne
  have ee : encT = eS := rfl
  simp [m_all_up_to, pf_eq, f_all_up_to, ev_nmE, iB, e, ht, ofO, ee]
  rfl
theorem prod_ge {bs : List Nat} {k : Nat} : (allT (bs.take k)).length ≤ (allT bs).length := by
  have h : ∀ (r p : List Nat), (allT p).length ≤ (allT (p ++ r)).length := by
    intro r
    induction r with
    | nil => intro p; rw [List.append_nil]; exact Nat.le_refl _
    | cons m r ih =>
      intro p
      have h1 := ih (p ++ [m])
      rw [show p ++ m :: r = (p ++ [m]) ++ r by simp]
      refine Nat.le_trans ?_ h1
      rw [allT_len, allT_len, List.foldl_append]
      show _ ≤ _ * (m + 1)
      exact Nat.le_mul_of_pos_right _ (Nat.succ_pos _)
  have := h (bs.drop k) (bs.take k)
  rwa [List.take_append_drop] at this
theorem want_le {n p : Nat} {d : List Ask} {m : Nat} (h : m ∈ wantT n d) : m ≤ d.length := by
  obtain ⟨p, _, rfl⟩ := List.mem_map.mp h
  exact List.length_filter_le _ _
theorem fm_eS {s : List Int} {n : Nat} {B : Int} (hl : s.length = n) (h : ∀ i, i < n → 0 ≤ gS s i) : ∀ x ∈ s, 0 ≤ x := fun x hx => by
  obtain ⟨i, hi, e⟩ := List.mem_iff_getElem.mp hx
  have := h i (by omega)
  rw [gS_of (x := x) (by rw [List.getElem?_eq_getElem hi, e])] at this
  exact this
theorem ok_open {n : Nat} {s : List Int} (hl : s.length = n) (h : ∀ i, i < n → 0 ≤ gS s i) : OkS (opY n) s where
  len := by rw [opY_len]; exact hl
  pos := fm_eS (B := 0) hl h
  fit := fun p r x h1 h2 => by
    unfold opY at h1
    rw [List.getElem?_replicate] at h1
    split at h1 <;> cases h1
theorem p_least_for {n : Nat} {d : List Ask} {few : List Nat} {most : Nat} (h1 : 1 ≤ n) (h9 : n ≤ 9) (hd : OkD n d) (hl : d.length ≤ 1000) (hf : OkF d.length few) (fl : few.length ≤ 1000) (hm : (allT (wantT n d)).length ≤ most) (hmb : most ≤ 1000000) :
    m_least_for [eY (opY n), eD d, .list (few.map eN), .int (most : Int)] = .ok (.list ((leastT (fun s => (fwT (opY n) s d few).isNone) (wantT n d)).map eS)) := by
  have oy := ok_opY h1 h9
  have hyl := @opY_len n
  have hd' : OkD (opY n).length d := by rw [hyl]; exact hd
  obtain ⟨bs, hbs⟩ : ∃ bs, bs = wantT n d := ⟨_, rfl⟩
  have bl : bs.length = n := by rw [hbs]; unfold wantT; simp
  have W := p_wanted (y := opY n) (d := d) (by rw [hyl]; exact h9) hl
  rw [hyl, ← hbs] at W
  rw [← hbs] at hm
  have n2 : m_need_day [eY (opY n), eD d] = .ok .none := by simp [m_need_day, pf_eq, f_need_day, ev_nmE, p_is_day oy hd' (by omega : d.length ≤ 1000000)]
  have n4 := p_need_some hf hl fl
  have mpos : 1 ≤ most := by
    have e0 : 1 ≤ (allT bs).length := by
      have : (allT []).length ≤ (allT bs).length := prod_ge (bs := bs) (k := 0)
      exact this
    omega
  have n5 : m_need_most [.int (most : Int)] = .ok .none := by
    have q1 : decide ((0 : Int) ≤ (most : Int)) = true := decide_eq_true (by omega)
    have q2 : ltD (.int (most : Int)) (.int 1) = some (.bool false) := by
      show some (PyData.bool (decide ((most : Int) < 1))) = _
      rw [decide_eq_false (by omega)]
    have q3 := @p_amount (most : Int)
    rw [q1] at q3
    simp [m_need_most, pf_eq, f_need_most, ev_nmE, q3, q2]
  have U := p_all_up_to (bs := bs) (by omega) (fun m hm' => by rw [hbs] at hm'; have := want_le (p := 0) hm'; omega) (fun k => by have := prod_ge (bs := bs) (k := k); omega) (by omega)
  obtain ⟨L, hL⟩ : ∃ L, L = (allT bs).mergeSort leK := ⟨_, rfl⟩
  have LL : L.length ≤ 1000000 := by rw [hL, List.length_mergeSort]; omega
  have Ls : ∀ s ∈ L, s.length = n ∧ OkS (opY n) s := fun s hs => by
    rw [hL] at hs
    have := (mem_allT bs s).mp ((List.mergeSort_perm _ _).mem_iff.mp hs)
    exact ⟨by omega, ok_open (by omega) fun i hi => (this.2 i (by omega)).1⟩
  rw [← hL] at U
  have iB : itD (.list (bs.map eN)) = some (bs.map eN) := rfl
  have iL : itD (.list (L.map eS)) = some (L.map eS) := rfl
  have loop1 : ∀ (r p : List Nat) (x6 : Sl), bs = p ++ r → ∃ y6, forF .bo (nmG 6) lp_least_for_1 (r.map eN) [.bo (eY (opY n)), .bo (eD d), .bo (.list (few.map eN)), .bo (.int (most : Int)), .va (.list (bs.map eN)), .va (.int ((allT p).length : Nat)), x6, .no, .no, .no] =
      .nx [.bo (eY (opY n)), .bo (eD d), .bo (.list (few.map eN)), .bo (.int (most : Int)), .va (.list (bs.map eN)), .va (.int ((allT bs).length : Nat)), y6, .no, .no, .no] := by
    intro r
    induction r with
    | nil => intro p x6 e; rw [List.append_nil] at e; subst e; exact ⟨x6, rfl⟩
    | cons m r ih =>
      intro p x6 e
      obtain ⟨y6, h⟩ := ih (p ++ [m]) (.va (eN m)) (by rw [e]; simp)
      refine ⟨y6, ?_⟩
      have hmm : m ≤ d.length := by
        have : m ∈ wantT n d := by rw [← hbs, e]; simp
        exact want_le (p := 0) this
      have hpl : (allT p).length ≤ 1000000 := by
        have := prod_ge (bs := bs) (k := p.length)
        rw [e, List.take_left, ← e] at this
        omega
      have l1 := log_lt (i := ((allT p).length : Nat)) (n := 1000) (by omega) (by omega) (by decide)
      have l2 := log_lt (i := ((m : Nat) : Int) + 1) (n := 1000) (by omega) (by omega) (by decide)
      have hlt : ((allT p).length : Int).natAbs.log2 + ((m : Int) + 1).natAbs.log2 < 1000000 := by omega
      have ee : ((allT p).length : Int) * ((m : Int) + 1) = ((allT (p ++ [m])).length : Nat) := by
        rw [allT_len (p ++ [m]), List.foldl_append, ← allT_len]
        show _ = (((allT p).length * (m + 1) : Nat) : Int)
        push_cast
        rfl
      rw [List.map_cons, ev_forF_cons]
      simp [itS, ev_nmE, eN, hlt, isI, -Int.natAbs_natCast]
      rw [ee]
      simpa [eN] using h
  obtain ⟨y6, e1⟩ := loop1 bs [] .no rfl
  have e00 : ((allT []).length : Nat) = 1 := rfl
  rw [e00, show ((1 : Nat) : Int) = 1 from rfl] at e1
  have loop2 : ∀ (l f : List (List Int)) (x8 : Sl), f.length + l.length ≤ 1000000 → (∀ s ∈ l, s.length = n ∧ OkS (opY n) s) → ∃ y8, forF .bo (nmG 8) lp_least_for_0 (l.map eS) [.bo (eY (opY n)), .bo (eD d), .bo (.list (few.map eN)), .bo (.int (most : Int)), .va (.list (bs.map eN)), .va (.int ((allT bs).length : Nat)), y6, .ow (f.map eS), x8, .no] =
      .nx [.bo (eY (opY n)), .bo (eD d), .bo (.list (few.map eN)), .bo (.int (most : Int)), .va (.list (bs.map eN)), .va (.int ((allT bs).length : Nat)), y6, .ow ((greedy aboveT (fun s => (fwT (opY n) s d few).isNone) f l).map eS), y8, .no] := by
    intro l
    induction l with
    | nil => intro f x8 _ _; exact ⟨x8, rfl⟩
    | cons s r ih =>
      intro f x8 hfl hls
      obtain ⟨sl, os⟩ := hls s (List.mem_cons_self ..)
      have hr : ∀ t ∈ r, t.length = n ∧ OkS (opY n) t := fun t ht => hls t (List.mem_cons_of_mem _ ht)
      rw [List.length_cons] at hfl
      have FW := p_first_without (few := few) oy os hd' hl
      have hc : compF .an .an [9] (nmG 9) yesT (clE .an 2 m_is_above (consA (nmE 8) (consA (nmE 9) nilA))) (f.map eS) [.bo (eY (opY n)), .bo (eD d), .bo (.list (few.map eN)), .bo (.int (most : Int)), .va (.list (bs.map eN)), .va (.int ((allT bs).length : Nat)), y6, .ow (f.map eS), .va (eS s), .no] =
          .ok (f.map fun t => .bool (aboveT s t), [.bo (eY (opY n)), .bo (eD d), .bo (.list (few.map eN)), .bo (.int (most : Int)), .va (.list (bs.map eN)), .va (.int ((allT bs).length : Nat)), y6, .ow (f.map eS), .va (eS s), .no]) :=
        compF_map _ _ fun t ht => ⟨[.bo (eY (opY n)), .bo (eD d), .bo (.list (few.map eN)), .bo (.int (most : Int)), .va (.list (bs.map eN)), .va (.int ((allT bs).length : Nat)), y6, .ow (f.map eS), .va (eS s), .va (eS t)], by simp [itS], by simp [wiS], by simp [ev_nmE, p_is_above (s := s) (t := t) (by omega)], .inr rfl⟩
      have an := any_map' (f := fun t => aboveT s t) (l := f)
      rw [List.map_cons, ev_forF_cons]
      cases ha : f.any (fun t => aboveT s t) with
      | true =>
        obtain ⟨y8, h⟩ := ih f (.va (eS s)) (by omega) hr
        refine ⟨y8, ?_⟩
        rw [ha] at an
        have eg : greedy aboveT (fun s => (fwT (opY n) s d few).isNone) f (s :: r) = greedy aboveT (fun s => (fwT (opY n) s d few).isNone) f r := by
          show greedy _ _ (if f.any (fun l => aboveT s l) = true then f else _) r = _
          rw [ha, if_pos rfl]
        rw [eg]
        simp [itS, ev_nmE, okO, wiS, reS, hc, an, (by omega : f.length ≤ 16777216)]
        exact h
      | false =>
        rw [ha] at an
        cases hw : fwT (opY n) s d few with
        | none =>
          obtain ⟨y8, h⟩ := ih (f ++ [s]) (.va (eS s)) (by simp; omega) hr
          refine ⟨y8, ?_⟩
          have eg : greedy aboveT (fun s => (fwT (opY n) s d few).isNone) f (s :: r) = greedy aboveT (fun s => (fwT (opY n) s d few).isNone) (f ++ [s]) r := by
            show greedy _ _ (if f.any (fun l => aboveT s l) = true then f else if (fwT (opY n) s d few).isNone = true then f ++ [s] else f) r = _
            rw [ha, if_neg Bool.false_ne_true, hw]; rfl
          rw [eg]
          rw [hw] at FW
          simp [itS, ev_nmE, okO, wiS, reS, hc, an, FW, eNO, (by omega : f.length ≤ 16777216), (by omega : f.length < 16777216)]
          simpa using h
        | some z =>
          obtain ⟨y8, h⟩ := ih f (.va (eS s)) (by omega) hr
          refine ⟨y8, ?_⟩
          have eg : greedy aboveT (fun s => (fwT (opY n) s d few).isNone) f (s :: r) = greedy aboveT (fun s => (fwT (opY n) s d few).isNone) f r := by
            show greedy _ _ (if f.any (fun l => aboveT s l) = true then f else if (fwT (opY n) s d few).isNone = true then f ++ [s] else f) r = _
            rw [ha, if_neg Bool.false_ne_true, hw]; rfl
          rw [eg]
          rw [hw] at FW
          simp [itS, ev_nmE, okO, wiS, reS, hc, an, FW, eNO, eN, (by omega : f.length ≤ 16777216)]
          simpa [eN] using h
  obtain ⟨y8, e2⟩ := loop2 L [] .no (by simpa using LL) Ls
  have gl : ∀ s ∈ greedy aboveT (fun s => (fwT (opY n) s d few).isNone) [] L, s ≠ [] := by
    have sub : ∀ (l f : List (List Int)) s, s ∈ greedy aboveT (fun s => (fwT (opY n) s d few).isNone) f l → s ∈ f ∨ s ∈ l := by
      intro l
      induction l with
      | nil => intro f s h; exact .inl h
      | cons a r ih =>
        intro f s h
        rcases ih _ s h with h | h
        · split at h
          · exact .inl h
          · split at h
            · rcases List.mem_append.mp h with h | h
              · exact .inl h
              · exact .inr (by rw [List.mem_singleton.mp h]; simp)
            · exact .inl h
        · exact .inr (List.mem_cons_of_mem _ h)
    intro s hs z
    rcases sub L [] s hs with h | h
    · cases h
    · have := (Ls s h).1
      rw [z] at this
      simp at this
      omega
  have ht : tupsD (.list ((greedy aboveT (fun s => (fwT (opY n) s d few).isNone) [] L).map eS)) = some (greedy aboveT (fun s => (fwT (opY n) s d few).isNone) [] L) := tups?_map gl
  have ee : encT = eS := rfl
  have en : ([] : List (List Int)).map eS = [] := rfl
  rw [en] at e2
  have hgt : ¬ ((most : Int) < ((allT bs).length : Nat)) := by omega
  unfold leastT
  rw [← hbs, ← hL]
  simp [m_least_for, pf_eq, f_least_for, ev_nmE, p_need_yard oy, n2, p_need_open h9, n4, n5, W, iB, e1, hgt, U, iL, e2, ht, ofO, ee]
/-! ### who is among the least -/
theorem sum_lt_above {s t : List Int} (hl : s.length = t.length) (h : aboveT s t = true) (hne : s ≠ t) : t.sum < s.sum := by
  obtain ⟨h1, h2, _⟩ := le_sum hl.symm ((above_iff hl).mp h)
  rcases Int.lt_or_eq_of_le h1 with h3 | h3
  · exact h3
  · exact absurd (h2 h3).symm hne
theorem leT_tr (a b c : List Int) (h1 : leT a b = true) (h2 : leT b c = true) : leT a c = true := by
  rw [leT_eq] at *
  have h1 := of_decide_eq_true h1
  have h2 := of_decide_eq_true h2
  exact decide_eq_true (List.le_trans h1 h2)
theorem leT_to (a b : List Int) : (leT a b || leT b a) = true := by
  rw [leT_eq]
  rcases List.le_total a b with h | h <;> simp [h]
theorem leK_tr (a b c : List Int) (h1 : leK a b = true) (h2 : leK b c = true) : leK a c = true := by
  unfold leK at *
  rw [leK_eq] at *
  have h1 := of_decide_eq_true h1
  have h2 := of_decide_eq_true h2
  refine decide_eq_true ?_
  rcases h1 with h1 | ⟨h1, h3⟩ <;> rcases h2 with h2 | ⟨h2, h4⟩
  · left; omega
  · left; omega
  · left; omega
  · right; exact ⟨by omega, List.le_trans h3 h4⟩
theorem leK_to (a b : List Int) : (leK a b || leK b a) = true := by
  unfold leK
  rw [leK_eq]
  by_cases h : a.sum < b.sum
  · simp [h]
  · by_cases h2 : b.sum < a.sum
    · simp [h2]
    · have h3 : a.sum = b.sum := by omega
      rcases List.le_total a b with h4 | h4 <;> simp [h3, h4]
theorem leastT_mem {P : List Int → Bool} {bs : List Nat} {s : List Int} : s ∈ leastT P bs ↔ s ∈ allT bs ∧ P s = true ∧ ∀ t ∈ allT bs, P t = true → aboveT s t = true → t = s := by
  have hm := fun x => (List.mergeSort_perm (allT bs) leK).mem_iff (a := x)
  have len : ∀ x ∈ allT bs, x.length = bs.length := fun x hx => ((mem_allT bs x).mp hx).1
  unfold leastT
  rw [(List.mergeSort_perm _ _).mem_iff]
  -- among lists of the bounds' length alone
  let ab : List Int → List Int → Bool := fun s t => decide (s.length = t.length) && (s.all (fun x => decide (0 ≤ x)) && t.all fun x => decide (0 ≤ x)) && aboveT s t || decide (s = t)
  let w : List Int → Int := fun s => if 0 ≤ s.sum then s.sum else 0
  have nn : ∀ x ∈ allT bs, x.all (fun x => decide (0 ≤ x)) = true := fun x hx => by
    rw [List.all_eq_true]
    intro z hz
    have := (mem_allT bs x).mp hx
    exact decide_eq_true (fm_eS (n := bs.length) (B := 0) this.1 (fun i hi => (this.2 i hi).1) z hz)
  have pos : ∀ x : List Int, x.all (fun x => decide (0 ≤ x)) = true → 0 ≤ x.sum := by
    intro x
    induction x with
    | nil => intro _; exact Int.le_refl _
    | cons a r ih =>
      intro h
      rw [List.all_cons, Bool.and_eq_true, decide_eq_true_eq] at h
      rw [List.sum_cons]
      have := ih h.2
      omega
  have abr : ∀ s, aboveT s s = true := fun s => (above_iff rfl).mpr fun _ => Int.le_refl _
  have abe : ∀ x ∈ allT bs, ∀ z ∈ allT bs, ab x z = aboveT x z := fun x hx z hz => by
    show (decide (x.length = z.length) && (x.all (fun x => decide (0 ≤ x)) && z.all fun x => decide (0 ≤ x)) && aboveT x z || decide (x = z)) = _
    rw [nn x hx, nn z hz, len x hx, len z hz]
    by_cases e : x = z
    · subst e; simp [abr]
    · simp [e]
  have ge : ∀ (l f : List (List Int)), (∀ x ∈ l, x ∈ allT bs) → (∀ x ∈ f, x ∈ allT bs) → greedy aboveT P f l = greedy ab P f l := by
    intro l
    induction l with
    | nil => intro f _ _; rfl
    | cons a r ih =>
      intro f h1 h2
      have ha := h1 a (List.mem_cons_self ..)
      show greedy aboveT P (if f.any (fun l => aboveT a l) then f else if P a then f ++ [a] else f) r = greedy ab P (if f.any (fun l => ab a l) then f else if P a then f ++ [a] else f) r
      have e : f.any (fun l => ab a l) = f.any (fun l => aboveT a l) := by
        rw [Bool.eq_iff_iff, List.any_eq_true, List.any_eq_true]
        constructor
        · rintro ⟨x, hx, h⟩; exact ⟨x, hx, by rw [← abe a ha x (h2 x hx)]; exact h⟩
        · rintro ⟨x, hx, h⟩; exact ⟨x, hx, by rw [abe a ha x (h2 x hx)]; exact h⟩
      rw [e]
      refine ih _ (fun x hx => h1 x (List.mem_cons_of_mem _ hx)) fun x hx => ?_
      split at hx
      · exact h2 x hx
      · split at hx
        · rcases List.mem_append.mp hx with hx | hx
          · exact h2 x hx
          · rw [List.mem_singleton.mp hx]; exact ha
        · exact h2 x hx
  rw [ge _ [] (fun x hx => (hm x).mp hx) (by simp)]
  have key := greedy_spec (ab := ab) (P := P) (w := w) (L := (allT bs).mergeSort leK) (fun s t u h1 h2 => by
      rcases Bool.or_eq_true_iff.mp h1 with h1 | h1
      · rcases Bool.or_eq_true_iff.mp h2 with h2 | h2
        · simp only [Bool.and_eq_true, decide_eq_true_eq] at h1 h2
          refine Bool.or_eq_true_iff.mpr (.inl ?_)
          simp only [Bool.and_eq_true, decide_eq_true_eq]
          refine ⟨⟨h1.1.1.trans h2.1.1, h1.1.2.1, h2.1.2.2⟩, (above_iff (h1.1.1.trans h2.1.1)).mpr fun i => ?_⟩
          exact Int.le_trans ((above_iff h2.1.1).mp h2.2 i) ((above_iff h1.1.1).mp h1.2 i)
        · rw [← of_decide_eq_true h2]; exact Bool.or_eq_true_iff.mpr (.inl h1)
      · rw [of_decide_eq_true h1]; exact h2) (fun s => by simp [ab]) (fun s t h hne => by
      rcases Bool.or_eq_true_iff.mp h with h | h
      · simp only [Bool.and_eq_true, decide_eq_true_eq] at h
        have h1 := sum_lt_above h.1.1 h.2 hne
        have h2 := pos s h.1.2.1
        have h3 := pos t h.1.2.2
        show (if 0 ≤ t.sum then t.sum else 0) < (if 0 ≤ s.sum then s.sum else 0)
        rw [if_pos h2, if_pos h3]
        exact h1
      · exact absurd (of_decide_eq_true h) hne) (fun s => by show 0 ≤ if 0 ≤ s.sum then s.sum else 0; split <;> omega)
    ((List.mergeSort_perm _ _).nodup_iff.mpr (allT_nodup bs)) (by
      refine (List.pairwise_mergeSort leK_tr leK_to (allT bs)).imp_of_mem ?_
      intro a b ha hb h
      unfold leK at h
      rw [leK_eq] at h
      have h := of_decide_eq_true h
      have h2 := pos a (nn a ((hm a).mp ha))
      have h3 := pos b (nn b ((hm b).mp hb))
      show (if 0 ≤ a.sum then a.sum else 0) ≤ (if 0 ≤ b.sum then b.sum else 0)
      rw [if_pos h2, if_pos h3]
      omega) ((allT bs).mergeSort leK) [] [] rfl (fun x => by simp) s
  rw [key, hm]
  constructor
  · rintro ⟨h1, h2, h3⟩
    exact ⟨h1, h2, fun t ht hp ha => h3 t ((hm t).mpr ht) hp (by rw [abe s h1 t ht]; exact ha)⟩
  · rintro ⟨h1, h2, h3⟩
    exact ⟨h1, h2, fun t ht hp ha => h3 t ((hm t).mp ht) hp (by rw [← abe s h1 t ((hm t).mp ht)]; exact ha)⟩
theorem leastT_rise {P : List Int → Bool} {bs : List Nat} : (leastT P bs).Pairwise (· < ·) := by
  unfold leastT
  have hn : ((greedy aboveT P [] ((allT bs).mergeSort leK)).mergeSort leT).Nodup :=
    (List.mergeSort_perm _ _).nodup_iff.mpr (greedy_nodup _ _ (by rw [List.nil_append]; exact (List.mergeSort_perm _ _).nodup_iff.mpr (allT_nodup bs)))
  have hs := List.pairwise_mergeSort leT_tr leT_to (greedy aboveT P [] ((allT bs).mergeSort leK))
  refine (hs.and hn).imp ?_
  rintro a b ⟨h1, h2⟩
  rw [leT_eq] at h1
  have h1 := of_decide_eq_true h1
  by_cases h : a < b
  · exact h
  · exact absurd (List.le_antisymm h1 (List.not_lt.mp h)) h2
theorem rise_eq {l m : List (List Int)} (h1 : l.Pairwise (· < ·)) (h2 : m.Pairwise (· < ·)) (h : ∀ x, x ∈ l ↔ x ∈ m) : l = m :=
  rise_ext (fun a => List.lt_irrefl a) (fun _ _ _ => List.lt_trans) h1 h2 h
/-! ### asks of one want -/
def PlA (a : Ask) : Prop := (∃ w, a.1 = [w]) ∧ (a.2 = [] ∨ ∃ q, a.2 = [q])
def wnt (a : Ask) (p : Nat) : Int := if a.1 = [p] then 1 else 0
def lft (a : Ask) (p : Nat) : Int := if a.2 = [p] then 1 else 0
def needT (p : Nat) : List Ask → Int
  | [] => 0
  | a :: r => if needT p r + wnt a p - lft a p < wnt a p then wnt a p else needT p r + wnt a p - lft a p
def fstT (p : Nat) : Int → Nat → List Ask → Option Nat
  | _, _, [] => none
  | c, i, a :: r => if a.1 = [p] ∧ c ≤ 0 then some i else fstT p (c - wnt a p + lft a p) (i + 1) r
def mostT (p : Nat) : Int → Int → Option Nat → Nat → List Ask → Int × Option Nat
  | _, high, first, _, [] => (high, first)
  | lie, high, first, i, a :: r => mostT p (lie - wnt a p + lft a p) (if a.1 = [p] ∧ high < 1 - lie then 1 - lie else high) (if a.1 = [p] ∧ high < 1 - lie then some i else first) (i + 1) r
theorem wnt_01 {a : Ask} {p : Nat} : (a.1 = [p] ∧ wnt a p = 1) ∨ (a.1 ≠ [p] ∧ wnt a p = 0) := by
  unfold wnt
  by_cases h : a.1 = [p] <;> simp [h]
theorem lft_01 {a : Ask} {p : Nat} : lft a p = 1 ∨ lft a p = 0 := by
  unfold lft
  by_cases h : a.2 = [p] <;> simp [h]
theorem need_pos {p : Nat} : ∀ {d : List Ask}, 0 ≤ needT p d
  | [] => Int.le_refl _
  | a :: r => by
    unfold needT
    rcases wnt_01 (a := a) (p := p) with ⟨_, h⟩ | ⟨_, h⟩ <;> rw [h] <;> split <;> omega
theorem need_cons {p : Nat} {a : Ask} {r : List Ask} : wnt a p ≤ needT p (a :: r) ∧ needT p r + wnt a p - lft a p ≤ needT p (a :: r) ∧ (needT p (a :: r) = wnt a p ∨ needT p (a :: r) = needT p r + wnt a p - lft a p) := by
  have e : needT p (a :: r) = if needT p r + wnt a p - lft a p < wnt a p then wnt a p else needT p r + wnt a p - lft a p := rfl
  rw [e]
  split <;> omega
theorem most_eq {p : Nat} : ∀ {d : List Ask} {lie high : Int} {first : Option Nat} {i : Nat}, -lie ≤ high →
    mostT p lie high first i d = if high < needT p d - lie then (needT p d - lie, fstT p (needT p d - 1) i d) else (high, first)
  | [], lie, high, first, i, h => by
    show (high, first) = _
    rw [if_neg (by show ¬ high < 0 - lie; omega)]
  | a :: r, lie, high, first, i, h => by
    obtain ⟨c1, c2, c3⟩ := need_cons (p := p) (a := a) (r := r)
    have n0 := need_pos (p := p) (d := r)
    show mostT p (lie - wnt a p + lft a p) (if a.1 = [p] ∧ high < 1 - lie then 1 - lie else high) (if a.1 = [p] ∧ high < 1 - lie then some i else first) (i + 1) r = _
    have ef : ∀ c, fstT p c i (a :: r) = if a.1 = [p] ∧ c ≤ 0 then some i else fstT p (c - wnt a p + lft a p) (i + 1) r := fun _ => rfl
    rw [ef]
    have l01 := lft_01 (a := a) (p := p)
    generalize lft a p = l at c1 c2 c3 l01
    generalize needT p (a :: r) = M at c1 c2 c3
    rcases wnt_01 (a := a) (p := p) with ⟨hw, w1⟩ | ⟨hw, w1⟩
    · rw [w1] at c1 c2 c3
      by_cases hq : high < 1 - lie
      · rw [if_pos ⟨hw, hq⟩, if_pos ⟨hw, hq⟩, most_eq (by omega), if_pos (show high < M - lie by omega)]
        by_cases hn : 1 - lie < needT p r - (lie - wnt a p + l)
        · rw [if_pos hn, if_neg (by omega)]
          rw [w1] at hn ⊢
          rw [show needT p r - (lie - 1 + l) = M - lie by omega, show M - 1 - 1 + l = needT p r - 1 by omega]
        · rw [if_neg hn]
          rw [w1] at hn
          rw [if_pos ⟨hw, by omega⟩, show (1 : Int) - lie = M - lie by omega]
      · rw [if_neg (fun z => hq z.2), if_neg (fun z => hq z.2), most_eq (by omega)]
        rw [w1]
        by_cases hn : high < needT p r - (lie - 1 + l)
        · rw [if_pos hn, if_pos (by omega), if_neg (by omega), show needT p r - (lie - 1 + l) = M - lie by omega, show M - 1 - 1 + l = needT p r - 1 by omega]
        · rw [if_neg hn, if_neg (by omega)]
    · rw [w1] at c1 c2 c3
      simp only [hw, false_and, if_false]
      rw [most_eq (by rw [w1]; omega)]
      rw [w1]
      by_cases hn : high < needT p r - (lie - 0 + l)
      · rw [if_pos hn, if_pos (by omega), show needT p r - (lie - 0 + l) = M - lie by omega, show M - 1 - 0 + l = needT p r - 1 by omega]
      · rw [if_neg hn, if_neg (by omega)]
theorem ask_pl {n : Nat} {s : List Int} {a : Ask} (hl : s.length = n) (hp : PlA a) (ha : OkA n a) : ∃ w, a.1 = [w] ∧ w < n ∧ ((gS s w ≤ 0 ∧ askT (opY n) s a = (none, s)) ∨
    (0 < gS s w ∧ (askT (opY n) s a).1 ≠ none ∧ (askT (opY n) s a).2.length = n ∧ ∀ p, p < n → gS (askT (opY n) s a).2 p = gS s p - wnt a p + lft a p)) := by
  obtain ⟨⟨w, hw⟩, hq⟩ := hp
  have hwn : w < n := ha.1.lt w (by rw [hw]; simp)
  have op : ∀ q, gO (opY n) q = none := fun q => by
    unfold gO opY
    rw [List.getElem?_replicate]
    split <;> rfl
  have ew : ∀ p, wnt a p = if p = w then 1 else 0 := fun p => by
    unfold wnt
    rw [hw]
    by_cases h : p = w
    · subst h; simp
    · rw [if_neg h, if_neg (by simpa using Ne.symm h)]
  refine ⟨w, hw, hwn, ?_⟩
  by_cases h : 0 < gS s w
  · right
    have ht : takeT s a.1 = some w := by rw [hw]; simp [takeT, h]
    refine ⟨h, ?_⟩
    unfold askT
    rw [ht]
    rcases hq with hq | ⟨q, hq⟩
    · have hlT : leftT (opY n) (chT s w (-1)) a.2 = none := by rw [hq]; rfl
      simp only [hlT]
      refine ⟨by simp, by rw [len_ch, hl], fun p hpn => ?_⟩
      rw [gS_ch (by omega), ew]
      unfold lft
      rw [hq]
      by_cases hpw : p = w
      · subst hpw; simp; omega
      · simp [hpw]
    · have hqn : q < n := ha.2.lt q (by rw [hq]; simp)
      have hlT : leftT (opY n) (chT s w (-1)) a.2 = some q := by rw [hq]; simp [leftT, op]
      simp only [hlT]
      refine ⟨by simp, by rw [len_ch, len_ch, hl], fun p hpn => ?_⟩
      have e2 : ∀ x, gS (chT s w (-1)) x = if x = w then gS s w + -1 else gS s x := fun x => gS_ch (by omega)
      rw [gS_ch (by rw [len_ch]; omega), e2, e2, ew]
      have el : lft a p = if p = q then 1 else 0 := by
        unfold lft
        rw [hq]
        by_cases h : p = q
        · subst h; simp
        · rw [if_neg h, if_neg (by simpa using Ne.symm h)]
      rw [el]
      by_cases h1 : p = q
      · subst h1
        by_cases h2 : p = w
        · subst h2; simp; omega
        · simp [h2]
      · by_cases h2 : p = w
        · subst h2; simp [h1]; omega
        · simp [h1, h2]
  · left
    refine ⟨by omega, ?_⟩
    have ht : takeT s a.1 = none := by rw [hw]; simp [takeT, h]
    unfold askT
    rw [ht]
theorem go_fst {n p : Nat} (hp : p < n) : ∀ {d : List Ask} {s : List Int} {i : Nat}, s.length = n → (∀ a ∈ d, PlA a ∧ OkA n a) → (∀ q, q < n → q ≠ p → needT q d ≤ gS s q) →
    (fstT p (gS s p) i d = none → ∀ r ∈ (goT (opY n) s d).1, r ≠ none) ∧ (∀ k, fstT p (gS s p) i d = some k → i ≤ k ∧ (goT (opY n) s d).1[k - i]? = some none ∧ ∀ j, j < k - i → ∃ z, (goT (opY n) s d).1[j]? = some (some z))
  | [], s, i, _, _, _ => ⟨fun _ r hr => (List.not_mem_nil hr).elim, fun k h => absurd (show (none : Option Nat) = some k from h) (by simp)⟩
  | a :: r, s, i, hl, hd, hn => by
    obtain ⟨hpl, hok⟩ := hd a (List.mem_cons_self ..)
    have hd' : ∀ b ∈ r, PlA b ∧ OkA n b := fun b hb => hd b (List.mem_cons_of_mem _ hb)
    obtain ⟨w, hw, hwn, hc⟩ := ask_pl hl hpl hok
    have eg : goT (opY n) s (a :: r) = ((askT (opY n) s a).1 :: (goT (opY n) (askT (opY n) s a).2 r).1, (goT (opY n) (askT (opY n) s a).2 r).2) := rfl
    have ef : fstT p (gS s p) i (a :: r) = if a.1 = [p] ∧ gS s p ≤ 0 then some i else fstT p (gS s p - wnt a p + lft a p) (i + 1) r := rfl
    rw [eg, ef]
    rcases hc with ⟨h0, he⟩ | ⟨h0, hr, hlen, hg⟩
    · have hwp : w = p := by
        apply Classical.byContradiction
        intro ne
        have h1 := hn w hwn ne
        have h2 := (need_cons (p := w) (a := a) (r := r)).1
        have h3 : wnt a w = 1 := by unfold wnt; rw [hw]; simp
        omega
      subst hwp
      rw [if_pos ⟨hw, h0⟩, he]
      refine ⟨fun z => (by cases z), fun k hk => ?_⟩
      cases hk
      exact ⟨Nat.le_refl _, by simp, fun j hj => by omega⟩
    · have hne : ¬ (a.1 = [p] ∧ gS s p ≤ 0) := by
        rintro ⟨h1, h2⟩
        rw [hw] at h1
        have : w = p := by simpa using h1
        subst this
        omega
      rw [if_neg hne, ← hg p hp]
      have ih := go_fst hp (d := r) (s := (askT (opY n) s a).2) (i := i + 1) hlen hd' (fun q hq hqp => by
        have h1 := hn q hq hqp
        have h2 := (need_cons (p := q) (a := a) (r := r)).2.1
        rw [hg q hq]
        omega)
      refine ⟨fun z x hx => ?_, fun k hk => ?_⟩
      · rcases List.mem_cons.mp hx with rfl | hx
        · exact hr
        · exact ih.1 z x hx
      · obtain ⟨h1, h2, h3⟩ := ih.2 k hk
        obtain ⟨z, hz⟩ := Option.ne_none_iff_exists'.mp hr
        refine ⟨by omega, ?_, fun j hj => ?_⟩
        · rw [show k - i = (k - (i + 1)) + 1 by omega, List.getElem?_cons_succ]
          exact h2
        · cases j with
          | zero => exact ⟨z, by simp [hz]⟩
          | succ j => rw [List.getElem?_cons_succ]; exact h3 j (by omega)
theorem fst_none {p : Nat} : ∀ {d : List Ask} {c : Int} {i : Nat}, needT p d ≤ c → fstT p c i d = none
  | [], _, _, _ => rfl
  | a :: r, c, i, h => by
    obtain ⟨c1, c2, _⟩ := need_cons (p := p) (a := a) (r := r)
    show (if _ then _ else _) = _
    rw [if_neg, fst_none (by omega)]
    rintro ⟨h1, h2⟩
    have : wnt a p = 1 := by unfold wnt; rw [if_pos h1]
    omega
theorem fst_some {p : Nat} : ∀ {d : List Ask} {c : Int} {i : Nat}, c < needT p d → 0 ≤ c → fstT p c i d ≠ none
  | [], c, _, h, h0 => by
    have : c < 0 := h
    omega
  | a :: r, c, i, h, h0 => by
    obtain ⟨_, _, c3⟩ := need_cons (p := p) (a := a) (r := r)
    show (if _ then _ else _) ≠ _
    split
    · simp
    · rename_i hn
      have l01 := lft_01 (a := a) (p := p)
      rcases wnt_01 (a := a) (p := p) with ⟨hw, w1⟩ | ⟨hw, w1⟩
      · have : 0 < c := by
          apply Classical.byContradiction
          intro z
          exact hn ⟨hw, by omega⟩
        exact fst_some (by omega) (by omega)
      · exact fst_some (by omega) (by omega)
/-- all are served: the standing has what is needed -/
theorem need_of {n : Nat} : ∀ {d : List Ask} {s : List Int}, s.length = n → (∀ a ∈ d, PlA a ∧ OkA n a) → (∀ q, q < n → 0 ≤ gS s q) → (∀ r ∈ (goT (opY n) s d).1, r ≠ none) → ∀ p, p < n → needT p d ≤ gS s p
  | [], s, _, _, h0, _, p, hp => h0 p hp
  | a :: r, s, hl, hd, h0, hr, p, hp => by
    obtain ⟨hpl, hok⟩ := hd a (List.mem_cons_self ..)
    obtain ⟨w, hw, hwn, hc⟩ := ask_pl hl hpl hok
    have eg : (goT (opY n) s (a :: r)).1 = (askT (opY n) s a).1 :: (goT (opY n) (askT (opY n) s a).2 r).1 := rfl
    rw [eg] at hr
    obtain ⟨_, _, c3⟩ := need_cons (p := p) (a := a) (r := r)
    have l01 := lft_01 (a := a) (p := p)
    rcases hc with ⟨_, he⟩ | ⟨hg0, _, hlen, hg⟩
    · exact absurd (by rw [he]) (hr _ (List.mem_cons_self ..))
    · have wl : ∀ q, q < n → 0 ≤ gS s q - wnt a q := fun q hq => by
        rcases wnt_01 (a := a) (p := q) with ⟨h1, w1⟩ | ⟨h1, w1⟩
        · rw [hw] at h1
          have : w = q := by simpa using h1
          subst this
          omega
        · have := h0 q hq
          omega
      have ih := need_of (d := r) (s := (askT (opY n) s a).2) hlen (fun b hb => hd b (List.mem_cons_of_mem _ hb)) (fun q hq => by
        rw [hg q hq]
        have := wl q hq
        have := lft_01 (a := a) (p := q)
        omega) (fun x hx => hr x (List.mem_cons_of_mem _ hx)) p hp
      rw [hg p hp] at ih
      have := wl p hp
      omega
theorem need_want {p : Nat} : ∀ {d : List Ask}, (∀ a ∈ d, PlA a) → needT p d ≤ ((d.filter fun a => decide (p ∈ a.1)).length : Nat)
  | [], _ => by simp [needT]
  | a :: r, h => by
    have ih := need_want (p := p) (d := r) fun b hb => h b (List.mem_cons_of_mem _ hb)
    obtain ⟨⟨w, hw⟩, _⟩ := h a (List.mem_cons_self ..)
    obtain ⟨_, _, c3⟩ := need_cons (p := p) (a := a) (r := r)
    have l01 := lft_01 (a := a) (p := p)
    have n0 := need_pos (p := p) (d := r)
    rw [List.filter_cons]
    rcases wnt_01 (a := a) (p := p) with ⟨h1, w1⟩ | ⟨h1, w1⟩
    · rw [if_pos (by rw [h1]; simp), List.length_cons]
      push_cast
      omega
    · have : ¬ decide (p ∈ a.1) = true := by
        rw [hw] at h1 ⊢
        simpa using fun z => h1 (by rw [z])
      rw [if_neg this]
      omega
/-- the first that goes without, of all -/
theorem fw_all {y : List (Option Int)} {s : List Int} {d : List Ask} : (fwT y s d (List.range d.length) = none ↔ ∀ r ∈ (goT y s d).1, r ≠ none) ∧
    ∀ k, (goT y s d).1[k]? = some none → (∀ j, j < k → ∃ z, (goT y s d).1[j]? = some (some z)) → fwT y s d (List.range d.length) = some k := by
  have hl := go_len (y := y) (d := d) (s := s)
  have hs : ∀ k, k < d.length → (k ∈ servT y s d ↔ ∃ z, (goT y s d).1[k]? = some (some z)) := fun k hk => by
    rw [serv_range, List.mem_filter, List.mem_range, hl]
    obtain ⟨x, hx⟩ : ∃ x, (goT y s d).1[k]? = some x := ⟨_, List.getElem?_eq_getElem (by omega)⟩
    rw [hx]
    cases x <;> simp [hk]
  refine ⟨?_, fun k hk hj => ?_⟩
  · unfold fwT
    rw [List.find?_eq_none]
    constructor
    · intro h r hr
      obtain ⟨i, hi, e⟩ := List.mem_iff_getElem.mp hr
      have h1 := h i (List.mem_range.mpr (by omega))
      have h2 : i ∈ servT y s d := by simpa using h1
      obtain ⟨z, hz⟩ := (hs i (by omega)).mp h2
      rw [List.getElem?_eq_getElem hi, e] at hz
      cases hz
      simp
    · intro h k hk
      have hk := List.mem_range.mp hk
      have : k ∈ servT y s d := (hs k hk).mpr (by
        have hk2 : k < (goT y s d).1.length := by omega
        obtain ⟨z, hz⟩ := Option.ne_none_iff_exists'.mp (h _ (List.getElem_mem hk2))
        exact ⟨z, by rw [List.getElem?_eq_getElem hk2, hz]⟩)
      simpa using this
  · unfold fwT
    have hkl : k < d.length := by
      have := (List.getElem?_eq_some_iff.mp hk).1
      omega
    rw [List.find?_range_eq_some]
    refine ⟨?_, List.mem_range.mpr hkl, fun j hjk => ?_⟩
    · have : ¬ k ∈ servT y s d := fun z => by
        obtain ⟨x, hx⟩ := (hs k hkl).mp z
        rw [hk] at hx
        cases hx
      simpa using this
    · have := (hs j (by omega)).mpr (hj j hjk)
      simpa using this
theorem fm_N {n a b : Nat} (h : n < 1000000) : Fm a b (eN n) := fm_eN h
theorem eq_P1 {n p : Nat} {w : List Nat} (h : OkP n w) (hn : n ≤ 9) (hp : p < 9) (hw : w = [] ∨ ∃ q, w = [q]) : eqD (eP w) (.tuple [eN p]) = some (.bool (decide (w = [p]))) := by
  have h1 : Fm 64 9 (eP w) := (fm_P h hn).mono (by omega) (by omega)
  have h2 : Fm 64 1 (.tuple [eN p]) := (Fm.tuple (a := 0) (b := 0) (n := 1) (fun d hd => by
    rw [List.mem_singleton.mp hd]; exact fm_eN (by omega)) (by simp)).mono (by omega) (by omega)
  rw [h1.eq h2]
  rcases hw with rfl | ⟨q, rfl⟩
  · rfl
  · congr 2
    show PyData.eqv (.tuple [eN q]) (.tuple [eN p]) = _
    rw [Bool.eq_iff_iff]
    simp [PyData.eqv, PyData.eqvAll, eN]
    omega
theorem u_most {n p : Nat} {d : List Ask} (h9 : n ≤ 9) (hp : p < n) (hd : ∀ a ∈ d, PlA a ∧ OkA n a) (hl : d.length ≤ 1000) : m__law_most [eD d, eN p] = .ok (.tuple [.int (mostT p 0 0 none 0 d).1, eNO (mostT p 0 0 none 0 d).2]) := by
  obtain ⟨A, hA⟩ : ∃ A, A = eD d := ⟨_, rfl⟩
  have loop : ∀ (l : List Ask) (i : Nat) (lie high : Int) (first : Option Nat) (x5 x6 x7 : Sl), (∀ a ∈ l, PlA a ∧ OkA n a) → ∃ y2 y5 y6 y7, forF .bo (tuG 2 (consG (nmG 5) (consG (tuG 2 (consG (nmG 6) (consG (nmG 7) nilG))) nilG))) lp__law_most_0 ((l.zipIdx i).map fun z => .tuple [eN z.2, eA z.1]) [.bo A, .bo (eN p), .va (.int lie), .va (.int high), .va (eNO first), x5, x6, x7] =
      .nx [.bo A, .bo (eN p), y2, .va (.int (mostT p lie high first i l).1), .va (eNO (mostT p lie high first i l).2), y5, y6, y7] := by
    intro l
    induction l with
    | nil => intro i lie high first x5 x6 x7 _; exact ⟨_, x5, x6, x7, rfl⟩
    | cons a r ih =>
      intro i lie high first x5 x6 x7 hl
      obtain ⟨⟨⟨w, hw⟩, h2⟩, ho⟩ := hl a (List.mem_cons_self ..)
      obtain ⟨y2, y5, y6, y7, h⟩ := ih (i + 1) (lie - wnt a p + lft a p) (if a.1 = [p] ∧ high < 1 - lie then 1 - lie else high) (if a.1 = [p] ∧ high < 1 - lie then some i else first) (.va (eN i)) (.va (eP a.1)) (.va (eP a.2)) (fun b hb => hl b (List.mem_cons_of_mem _ hb))
      refine ⟨y2, y5, y6, y7, ?_⟩
      have e2 := eq_P1 (p := p) ho.2 h9 (by omega) h2
      have e1 : eqD (eN w) (eN p) = some (.bool (decide (w = p))) := by
        simp [eN]
        rw [Bool.eq_iff_iff]
        simp
        omega
      have i0 : ixD (eP a.1) (.int 0) = some (eN w) := by rw [hw]; rfl
      have em : mostT p lie high first i (a :: r) = mostT p (lie - wnt a p + lft a p) (if a.1 = [p] ∧ high < 1 - lie then 1 - lie else high) (if a.1 = [p] ∧ high < 1 - lie then some i else first) (i + 1) r := rfl
      have ea : (a.1 = [p]) = (w = p) := by rw [hw]; simp
      rw [em, List.zipIdx_cons, List.map_cons, ev_forF_cons]
      have l1 : lft a p = if decide (a.2 = [p]) then 1 else 0 := by unfold lft; by_cases q : a.2 = [p] <;> simp [q]
      generalize hD : decide (a.2 = [p]) = D3 at e2 l1
      rw [l1] at h ⊢
      have w1 : wnt a p = if w = p then 1 else 0 := by unfold wnt; rw [hw]; by_cases q : w = p <;> simp [q]
      rw [w1] at h ⊢
      simp only [ea] at h ⊢
      by_cases c1 : w = p
      · rw [decide_eq_true c1] at e1
        subst c1
        by_cases c2 : high < 1 - lie
        · have g1 : high < 0 - (lie - 1) := by omega
          have g2 : (0 : Int) - (lie - 1) = 1 - lie := by omega
          cases D3 <;> simp [c2] at h <;> simp [itS, ev_nmE, eA, i0, e1, e2, g1, g2, c2] <;> exact h
        · have g2 : (0 : Int) - (lie - 1) = 1 - lie := by omega
          cases D3 <;> simp [c2] at h <;> simp [itS, ev_nmE, eA, i0, e1, e2, g2, c2] <;> exact h
      · rw [decide_eq_false c1] at e1
        cases D3 <;> simp [c1] at h <;> simp [itS, ev_nmE, eA, i0, e1, e2, c1] <;> exact h
  obtain ⟨y2, y5, y6, y7, e⟩ := loop d 0 0 0 none .no .no .no hd
  have en : enumG [A] = some ((d.zipIdx 0).map fun z => .tuple [eN z.2, eA z.1]) := by
    rw [hA]
    show some (enumD (d.map eA)) = _
    unfold enumD
    rw [List.zipIdx_map, List.map_map]
    rfl
  rw [← hA]
  have e0 : eNO none = PyData.none := rfl
  rw [e0] at e
  simp [m__law_most, pf_eq, f__law_most, ev_nmE, itS, en, e]
theorem getL_A {d : List Ask} {a : Ask} (h : d.getLast? = some a) : (d.map eA).getLast? = some (eA a) := by rw [List.getLast?_map, h]; rfl
theorem u_plain {k n m : Nat} {cs : List D} (h : Ct (k + 300 * m) cs) (h1 : 1 ≤ n) (hn : n ≤ 9) (hm : m ≤ 100) : ∃ d cs', o__law_plain cs [.int (n : Int), .int (m : Int)] = .ok (eD d, cs') ∧ (∀ a ∈ d, PlA a ∧ OkA n a) ∧ d.length = m ∧ Ct k cs' := by
  have key := forF_run (L := .bo) (g := nmG 4) (e := eN) (f := lp__law_plain_0)
    (fun (l : List Nat) ρ => ∃ cs x4 x5, ∃ d : List Ask, ρ = [.ow cs, .bo (.int (n : Int)), .bo (.int (m : Int)), .ow (d.map eA), x4, x5] ∧ Ct (k + 300 * l.length) cs ∧ l = List.range' d.length (m - d.length) ∧ d.length ≤ m ∧ ∀ a ∈ d, PlA a ∧ OkA n a)
    (fun a r ρ ⟨cs, x4, x5, d, hρ, hc, hlr, hdm, hd⟩ => by
      subst hρ
      rw [List.length_cons] at hc
      have hlen := congrArg List.length hlr
      rw [List.length_cons, List.length_range'] at hlen
      have hnm : m - d.length = (m - (d.length + 1)) + 1 := by omega
      rw [hnm, List.range'_succ] at hlr
      have ha : a = d.length := (List.cons.inj hlr).1
      have hl2 : r = List.range' (d.length + 1) (m - (d.length + 1)) := (List.cons.inj hlr).2
      subst ha
      obtain ⟨w1, d2, f2, o1, u2, b1, b2⟩ := b_unlike (k := k + 300 * r.length + 200) (n := n) (a := 1) (m := 1) (hc.mono (by omega)) hn (by omega) (by omega)
      have f2 : o__law_unlike cs [.int (n : Int), .int 1, .int 1] = .ok (eP w1, d2) := f2
      have hw1 : ∃ w, w1 = [w] := by
        have : w1.length = 1 := by omega
        exact List.length_eq_one_iff.mp this
      obtain ⟨z3, d3, f3, g1, g2, u3⟩ := b_take (w := 3) (k := k + 300 * r.length + 190) (u2.mono (k' := k + 300 * r.length + 191) (by omega)) (by decide) (by decide)
      have hll : d.length < 16777216 := by omega
      have i1 : ∀ a : Ask, ixD (eA a) (.int 1) = some (eP a.2) := fun _ => rfl
      have gt : gtD (eN d.length) (.int 0) = some (.bool (decide (0 < d.length))) := by
        show some (PyData.bool (decide ((0 : Int) < (d.length : Int)))) = _
        simp
      have it1 : intG [.bool true] = some (.int 1) := rfl
      have it0 : intG [.bool false] = some (.int 0) := rfl
      -- behind the want
      have rest : ∀ (v : List Nat) (c : List D), (∃ w, v = [w]) → OkP n v → Ct (k + 300 * r.length + 190) c → ∃ cs' l, Ct (k + 300 * r.length) cs' ∧ (PlA (v, l) ∧ OkA n (v, l)) ∧
          apS 3 (tuE (consA (nmE 5) (consA (clO 0 3 o__law_unlike (consA (nmE 1) (consA (cbE intG (consA (opE gtD (clO 0 1 o__law_take (consA (csE (.int 5)) nilA)) (csE (.int 0))) nilA)) (consA (csE (.int 1)) nilA)))) nilA))) [.ow c, .bo (.int (n : Int)), .bo (.int (m : Int)), .ow (d.map eA), .va (eN d.length), .va (eP v)] = .nx [.ow cs', .bo (.int (n : Int)), .bo (.int (m : Int)), .ow ((d ++ [(v, l)]).map eA), .va (eN d.length), .va (eP v)] := by
        intro v c hv ov hc'
        obtain ⟨z5, d5, f5, g3, g4, u5⟩ := b_take (w := 5) (k := k + 300 * r.length + 180) (hc'.mono (k' := k + 300 * r.length + 181) (by omega)) (by decide) (by decide)
        by_cases hz : 0 < z5
        · obtain ⟨l, d6, f6, o6, u6, b3, b4⟩ := b_unlike (k := k + 300 * r.length) (n := n) (a := 1) (m := 1) (u5.mono (by omega)) hn (by omega) (by omega)
          have f6 : o__law_unlike d5 [.int (n : Int), .int 1, .int 1] = .ok (eP l, d6) := f6
          have hl1 : ∃ w, l = [w] := by
            have : l.length = 1 := by omega
            exact List.length_eq_one_iff.mp this
          refine ⟨d6, l, u6, ⟨⟨hv, .inr hl1⟩, ov, o6⟩, ?_⟩
          have eA' : PyData.tuple [eP v, eP l] = eA (v, l) := rfl
          simp [ev_nmE, hc'.noL, u5.noL, u6.noL, f5, hz, f6, eA', hll, it1, it0]
        · obtain ⟨l, d6, f6, o6, u6, b3, b4⟩ := b_unlike (k := k + 300 * r.length) (n := n) (a := 0) (m := 1) (u5.mono (by omega)) hn (by omega) (by omega)
          have f6 : o__law_unlike d5 [.int (n : Int), .int 0, .int 1] = .ok (eP l, d6) := f6
          have hl1 : l = [] ∨ ∃ w, l = [w] := by
            have : l.length = 0 ∨ l.length = 1 := by omega
            rcases this with q | q
            · exact .inl (List.length_eq_zero_iff.mp q)
            · exact .inr (List.length_eq_one_iff.mp q)
          refine ⟨d6, l, u6, ⟨⟨hv, hl1⟩, ov, o6⟩, ?_⟩
          have eA' : PyData.tuple [eP v, eP l] = eA (v, l) := rfl
          simp [ev_nmE, hc'.noL, u5.noL, u6.noL, f5, hz, f6, eA', hll, it1, it0]
      have fin : ∀ (v : List Nat) (c : List D), (∃ w, v = [w]) → OkP n v → Ct (k + 300 * r.length + 190) c → ∃ ρ3, apS 3 (tuE (consA (nmE 5) (consA (clO 0 3 o__law_unlike (consA (nmE 1) (consA (cbE intG (consA (opE gtD (clO 0 1 o__law_take (consA (csE (.int 5)) nilA)) (csE (.int 0))) nilA)) (consA (csE (.int 1)) nilA)))) nilA))) [.ow c, .bo (.int (n : Int)), .bo (.int (m : Int)), .ow (d.map eA), .va (eN d.length), .va (eP v)] = .nx ρ3 ∧ ∃ cs x4 x5, ∃ d2 : List Ask, ρ3 = [.ow cs, .bo (.int (n : Int)), .bo (.int (m : Int)), .ow (d2.map eA), x4, x5] ∧ Ct (k + 300 * r.length) cs ∧ r = List.range' d2.length (m - d2.length) ∧ d2.length ≤ m ∧ ∀ a ∈ d2, PlA a ∧ OkA n a := fun v c hv ov hc' => by
        obtain ⟨c', l, h1, h2, h3⟩ := rest v c hv ov hc'
        refine ⟨_, h3, c', _, _, d ++ [(v, l)], rfl, h1, by simpa using hl2, by simp; omega, fun x hx => ?_⟩
        rcases List.mem_append.mp hx with hx | hx
        · exact hd x hx
        · rw [List.mem_singleton.mp hx]; exact h2
      by_cases hp : 0 < d.length
      · obtain ⟨b, hb⟩ : ∃ b, d.getLast? = some b := ⟨_, List.getLast?_eq_getLast (by intro z; rw [z] at hp; simp at hp)⟩
        have hbA := getL_A hb
        obtain ⟨⟨hb1, hb2⟩, hbo⟩ := hd b (List.mem_of_getLast? hb)
        rcases hb2 with hb2 | ⟨q, hb2⟩
        · have ne : neD (eP b.2) (.tuple []) = some (.bool false) := by rw [hb2]; exact Fm.ne_self (b := 0) ((Fm.tuple (a := 0) (b := 0) (n := 0) (by simp) (by simp)).mono (by omega) (by omega))
          obtain ⟨ρ3, h3, h4⟩ := fin w1 d2 hw1 o1 (u2.mono (by omega))
          refine ⟨_, _, rfl, .inl ?_, h4⟩
          simp [itS, ev_nmE, hc.noL, u2.noL, f2, gt, hp, hbA, i1, ne, -ev_apS]
          exact h3
        · have ne : neD (eP b.2) (.tuple []) = some (.bool true) := by
            rw [((fm_P hbo.2 hn).mono (by omega : 1 ≤ 64) (Nat.le_refl _)).ne ((Fm.tuple (a := 0) (b := 0) (n := 0) (l := []) (by simp) (by simp)).mono (by omega : 1 ≤ 64) (Nat.le_refl _)), hb2]
            rfl
          by_cases hz : z3 = 0
          · subst hz
            obtain ⟨ρ3, h3, h4⟩ := fin b.2 d3 ⟨q, hb2⟩ hbo.2 u3
            refine ⟨_, _, rfl, .inl ?_, h4⟩
            simp [itS, ev_nmE, hc.noL, u2.noL, u3.noL, f2, f3, gt, hp, hbA, i1, ne, -ev_apS]
            exact h3
          · obtain ⟨ρ3, h3, h4⟩ := fin w1 d3 hw1 o1 u3
            refine ⟨_, _, rfl, .inl ?_, h4⟩
            simp [itS, ev_nmE, hc.noL, u2.noL, u3.noL, f2, f3, gt, hp, hbA, i1, ne, hz, -ev_apS]
            exact h3
      · obtain ⟨ρ3, h3, h4⟩ := fin w1 d2 hw1 o1 (u2.mono (by omega))
        refine ⟨_, _, rfl, .inl ?_, h4⟩
        simp [itS, ev_nmE, hc.noL, u2.noL, f2, gt, hp, -ev_apS]
        exact h3)
    (List.range m) [.ow cs, .bo (.int (n : Int)), .bo (.int (m : Int)), .ow [], .no, .no]
    ⟨cs, .no, .no, [], rfl, by simpa using h, by rw [List.range_eq_range']; simp, by simp, fun b hb => by simp at hb⟩
  obtain ⟨ρ', e, cs', x4, x5, d, rfl, hc, hlr, hdm, hd⟩ := key
  have hlen := congrArg List.length hlr
  rw [List.length_nil, List.length_range'] at hlen
  refine ⟨d, cs', ?_, hd, by omega, by simpa using hc⟩
  have rg : rg1D [.int (m : Int)] = some ((List.range m).map eN) := rg1_nat (by omega)
  have hD : PyData.list (d.map eA) = eD d := rfl
  simp [o__law_plain, of_eq, f__law_plain, ev_nmE, rg, e, hD]
theorem prod_le {B : Nat} : ∀ bs : List Nat, (∀ m ∈ bs, m ≤ B) → (allT bs).length ≤ (B + 1) ^ bs.length := by
  refine rev_ind (fun _ => by simp [allT]) fun bs m ih h => ?_
  have h1 := ih fun x hx => h x (by simp [hx])
  have h2 := h m (by simp)
  rw [allT_len, List.foldl_append, ← allT_len, List.length_append]
  show _ * (m + 1) ≤ (B + 1) ^ (bs.length + 1)
  rw [Nat.pow_succ]
  exact Nat.mul_le_mul h1 (by omega)
theorem inFm {b : Nat} {l : List D} {x : D} {f : Bool → Bool} (h : Fm 64 b (.list l)) (hx : Fm 64 b x) : inF f x (.list l) = some (.bool (f (l.any fun z => PyData.eqv z x))) := by
  unfold inF SeqAt.shaped
  simp only [h.lay, hx.lay, decide_eq_true h.dep, decide_eq_true hx.dep, Bool.and_self, if_true]
theorem mul_yard {n : Nat} (h1 : 1 ≤ n) (h9 : n ≤ 9) : mulT (.tuple [.none]) (.int (n : Int)) = some (eY (List.replicate n none)) := by
  show (if (n : Int) = 1 then some (PyData.tuple [PyData.none]) else if [PyData.none] ≠ [] ∧ inB 2 1001 (n : Int) = true ∧ [PyData.none].length ≤ 1000 then some (PyData.tuple (List.replicate ((n : Int)).toNat [PyData.none]).flatten) else none) = _
  by_cases e : n = 1
  · subst e; rfl
  · have : ¬ (n : Int) = 1 := by omega
    rw [if_neg this, if_pos ⟨by simp, inB_t (by omega) (by omega), by simp⟩]
    have e2 : ∀ m : Nat, (List.replicate m [PyData.none]).flatten = (List.replicate m (none : Option Int)).map eO := fun m => by
      induction m with
      | zero => rfl
      | succ m ih => rw [List.replicate_succ, List.flatten_cons, ih]; rfl
    rw [show ((n : Int)).toNat = n by omega, e2]; rfl
def dueT (n : Nat) (d : List Ask) : List Int := (List.range n).map fun p => needT p d
theorem due_len {n : Nat} {d : List Ask} : (dueT n d).length = n := by simp [dueT]
theorem due_get {n p : Nat} {d : List Ask} (h : p < n) : gS (dueT n d) p = needT p d := by simp [gS, dueT, h]
theorem due_ok {n : Nat} {d : List Ask} : OkS (opY n) (dueT n d) := ok_open due_len fun i hi => by rw [due_get hi]; exact need_pos
theorem most_1 {p : Nat} {d : List Ask} : (mostT p 0 0 none 0 d).1 = needT p d := by
  rw [most_eq (by omega)]
  have := need_pos (p := p) (d := d)
  split
  · show needT p d - 0 = _; omega
  · show (0 : Int) = _; omega
theorem most_2 {p : Nat} {d : List Ask} (h : 0 < needT p d) : (mostT p 0 0 none 0 d).2 = fstT p (needT p d - 1) 0 d := by
  rw [most_eq (by omega), if_pos (by omega)]
theorem due_all {n : Nat} {d : List Ask} (h1 : 1 ≤ n) (hd : ∀ a ∈ d, PlA a ∧ OkA n a) : ∀ r ∈ (goT (opY n) (dueT n d) d).1, r ≠ none :=
  (go_fst (p := 0) (i := 0) (by omega) due_len hd fun q hq _ => by rw [due_get hq]; exact Int.le_refl _).1 (fst_none (by rw [due_get (by omega)]; exact Int.le_refl _))
theorem due_lacks {n : Nat} {d : List Ask} (h1 : 1 ≤ n) (hd : ∀ a ∈ d, PlA a ∧ OkA n a) : fwT (opY n) (dueT n d) d (List.range d.length) = none := fw_all.1.mpr (due_all h1 hd)
theorem due_fewer {n p : Nat} {d : List Ask} (hp : p < n) (hd : ∀ a ∈ d, PlA a ∧ OkA n a) (hg : 0 < needT p d) : fwT (opY n) (chT (dueT n d) p (-1)) d (List.range d.length) = (mostT p 0 0 none 0 d).2 := by
  rw [most_2 hg]
  have hl : (chT (dueT n d) p (-1)).length = n := by rw [len_ch, due_len]
  have hc : ∀ q, q < n → gS (chT (dueT n d) p (-1)) q = if q = p then needT p d + -1 else needT q d := fun q hq => by
    rw [gS_ch (by rw [due_len]; exact hp), due_get hp, due_get hq]
  have key := (go_fst (p := p) (i := 0) hp hl hd fun q hq hqp => by rw [hc q hq, if_neg hqp]; exact Int.le_refl _).2
  rw [hc p hp, if_pos rfl, show needT p d + -1 = needT p d - 1 by omega] at key
  obtain ⟨k, hk⟩ := Option.ne_none_iff_exists'.mp (fst_some (p := p) (i := 0) (show needT p d - 1 < needT p d by omega) (by omega))
  obtain ⟨_, h2, h3⟩ := key k hk
  rw [hk]
  exact fw_all.2 k (by simpa using h2) (by simpa using h3)
theorem due_least {n : Nat} {d : List Ask} (h1 : 1 ≤ n) (hd : ∀ a ∈ d, PlA a ∧ OkA n a) : leastT (fun s => (fwT (opY n) s d (List.range d.length)).isNone) (wantT n d) = [dueT n d] := by
  have wl : (wantT n d).length = n := by unfold wantT; simp
  have iall : dueT n d ∈ allT (wantT n d) := (mem_allT _ _).mpr ⟨by rw [due_len, wl], fun i hi => by
    rw [wl] at hi
    rw [due_get hi]
    refine ⟨need_pos, ?_⟩
    have := need_want (p := i) (d := d) fun a ha => (hd a ha).1
    unfold wantT
    rw [List.getElem?_map, List.getElem?_range hi]
    exact this⟩
  have iP : (fwT (opY n) (dueT n d) d (List.range d.length)).isNone = true := by rw [due_lacks h1 hd]; rfl
  have nd : ∀ t ∈ allT (wantT n d), (fwT (opY n) t d (List.range d.length)).isNone = true → t.length = n ∧ ∀ p, p < n → needT p d ≤ gS t p := fun t ht hp => by
    obtain ⟨t1, t2⟩ := (mem_allT _ _).mp ht
    rw [wl] at t1 t2
    exact ⟨t1, need_of t1 hd (fun q hq => (t2 q hq).1) (fw_all.1.mp (Option.isNone_iff_eq_none.mp hp))⟩
  refine rise_eq leastT_rise (List.pairwise_singleton _ _) fun s => ?_
  rw [leastT_mem, List.mem_singleton]
  constructor
  · rintro ⟨s1, s2, s3⟩
    obtain ⟨e1, e2⟩ := nd s s1 s2
    exact (s3 _ iall iP ((above_iff (by rw [e1, due_len])).mpr fun i => by
      by_cases hi : i < n
      · rw [due_get hi]; exact e2 i hi
      · rw [gS_out (by rw [due_len]; omega), gS_out (by omega)]; exact Int.le_refl _)).symm
  · rintro rfl
    refine ⟨iall, iP, fun t ht hp ha => ?_⟩
    obtain ⟨e1, e2⟩ := nd t ht hp
    refine gS_ext (by rw [e1, due_len]) fun i hi => ?_
    have h1 := e2 i (by omega)
    have h2 := (above_iff (by rw [e1, due_len])).mp ha i
    rw [due_get (by omega)] at h2 ⊢
    omega
theorem u_right {k : Nat} {cs : List D} (h : Ct (k + 100000) cs) : ∃ cs', o__law_right cs [] = .ok (.bool true, cs') ∧ Ct k cs' := by
  obtain ⟨r0, d0, f0, g01, g02, u0⟩ := b_take (w := 2) (k := k + 95000) h (by decide) (by decide)
  have q0 : ∃ fb : Bool, (r0 == 0) = fb := ⟨_, rfl⟩
  obtain ⟨fb, hfb⟩ := q0
  obtain ⟨v1, iv1, hv1⟩ : ∃ v, ixD (.list [.int 9, .int 4]) (.int (if fb then 1 else 0)) = some (.int v) ∧ v = if fb then 4 else 9 := by cases fb <;> exact ⟨_, rfl, rfl⟩
  obtain ⟨v2, iv2, hv2⟩ : ∃ v, ixD (.list [.int 61, .int 9]) (.int (if fb then 1 else 0)) = some (.int v) ∧ v = if fb then 9 else 61 := by cases fb <;> exact ⟨_, rfl, rfl⟩
  have itg : intG [.bool fb] = some (.int (if fb then 1 else 0)) := rfl
  obtain ⟨r1, d1, f1, g1, g2, u1⟩ := b_take (w := v1) (k := k + 90000) (u0.mono (k' := k + 90001) (by omega)) (by rw [hv1]; split <;> omega) (by rw [hv1]; split <;> omega)
  obtain ⟨r1, rfl⟩ := Int.eq_ofNat_of_zero_le g1
  obtain ⟨n, hnn⟩ : ∃ n : Nat, n = r1 + 1 := ⟨_, rfl⟩
  have hn : (1 + (r1 : Int)) = (n : Int) := by omega
  have n1 : 1 ≤ n := by omega
  have n9 : n ≤ 9 := by rw [hv1] at g2; split at g2 <;> omega
  obtain ⟨m, d2, f2, g3, g4, u2⟩ := b_take (w := v2) (k := k + 80000) (u1.mono (k' := k + 80001) (by omega)) (by rw [hv2]; split <;> omega) (by rw [hv2]; split <;> omega)
  obtain ⟨m, rfl⟩ := Int.eq_ofNat_of_zero_le g3
  have m60 : m ≤ 60 := by rw [hv2] at g4; split at g4 <;> omega
  obtain ⟨d, d3, f3, hd, dl, u3⟩ := u_plain (k := k + 50000) (n := n) (m := m) (u2.mono (by omega)) n1 n9 (by omega)
  have oy := ok_opY n1 n9
  have od : OkD (opY n).length d := fun a ha => by rw [opY_len]; exact (hd a ha).2
  have od0 : OkD n d := fun a ha => (hd a ha).2
  have os := due_ok (n := n) (d := d)
  have mu := mul_yard n1 n9
  have mu : mulT (.tuple [.none]) (.int (n : Int)) = some (eY (opY n)) := mu
  have hdl : d.length ≤ 1000 := by omega
  have nb : ∀ p, needT p d ≤ 60 := fun p => by
    have := need_want (p := p) (d := d) fun a ha => (hd a ha).1
    have h2 := List.length_filter_le (fun a : Ask => decide (p ∈ a.1)) d
    omega
  have rg : rg1D [.int (n : Int)] = some ((List.range n).map eN) := rg1_nat (by omega)
  have LK := p_lacks oy os od hdl (few := List.range d.length) ⟨fun k hk => List.mem_range.mp hk, List.pairwise_lt_range⟩ (by simpa using hdl)
  rw [due_lacks n1 hd] at LK
  have OF := p_one_fewer oy os od hdl (few := List.range d.length) ⟨fun k hk => List.mem_range.mp hk, List.pairwise_lt_range⟩ (by simpa using hdl)
  obtain ⟨K, hK⟩ : ∃ K : List D, K = (List.range n).map fun p => .tuple [.int (mostT p 0 0 none 0 d).1, eNO (mostT p 0 0 none 0 d).2] := ⟨_, rfl⟩
  obtain ⟨RW, hRW⟩ : ∃ R : List (Nat × Option Nat), R = ((List.range n).filter fun p => decide (0 < needT p d)).map fun p => (p, (mostT p 0 0 none 0 d).2) := ⟨_, rfl⟩
  have eRW : fwR (opY n) (dueT n d) d (List.range d.length) = RW := by
    rw [hRW]
    unfold fwR
    rw [due_len]
    have e1 : (List.range n).filter (fun p => decide (0 < gS (dueT n d) p)) = (List.range n).filter fun p => decide (0 < needT p d) := List.filter_congr fun p hp => by rw [due_get (List.mem_range.mp hp)]
    rw [e1]
    refine List.map_congr_left fun p hp => ?_
    obtain ⟨h1, h2⟩ := List.mem_filter.mp hp
    rw [due_fewer (List.mem_range.mp h1) hd (by simpa using h2)]
  rw [eRW] at OF
  have kget : ∀ p, p < n → ixD (.list K) (eN p) = some (.tuple [.int (mostT p 0 0 none 0 d).1, eNO (mostT p 0 0 none 0 d).2]) := fun p hp => by
    unfold eN
    rw [ixd_lst, hK, List.getElem?_map, List.getElem?_range hp]
    rfl
  have nK : noLs K = true := by
    rw [hK]
    exact noLs_map (f := fun p => PyData.tuple [.int (mostT p 0 0 none 0 d).1, eNO (mostT p 0 0 none 0 d).2]) fun p => by cases (mostT p 0 0 none 0 d).2 <;> rfl
  have c5 : compF .bp .vp [12] (nmG 12) yesT (clE .an 2 m__law_most (consA (nmE 3) (consA (nmE 12) nilA))) ((List.range n).map eN) [.ow d3, .va (.bool fb), .va (.int (n : Int)), .va (eD d), .va (eY (opY n)), .no, .no, .no, .no, .no, .no, .no, .no, .no, .no, .no] = .ok (K, [.ow d3, .va (.bool fb), .va (.int (n : Int)), .va (eD d), .va (eY (opY n)), .no, .no, .no, .no, .no, .no, .no, .no, .no, .no, .no]) := by
    rw [hK]
    exact compF_map _ _ fun p hp => ⟨[.ow d3, .va (.bool fb), .va (.int (n : Int)), .va (eD d), .va (eY (opY n)), .no, .no, .no, .no, .no, .no, .no, .va (eN p), .no, .no, .no], by simp [itS], by simp [wiS], by simp [ev_nmE, u_most n9 (List.mem_range.mp hp) hd hdl], .inl rfl⟩
  have c6 : compF .bp .vp [13, 14] (tuG 2 (consG (nmG 13) (consG (nmG 14) nilG))) yesT (nmE 13) K [.ow d3, .va (.bool fb), .va (.int (n : Int)), .va (eD d), .va (eY (opY n)), .va (.list K), .no, .no, .no, .no, .no, .no, .no, .no, .no, .no] = .ok ((dueT n d).map PyData.int, [.ow d3, .va (.bool fb), .va (.int (n : Int)), .va (eD d), .va (eY (opY n)), .va (.list K), .no, .no, .no, .no, .no, .no, .no, .no, .no, .no]) := by
    have e : (dueT n d).map PyData.int = (List.range n).map fun p => .int (mostT p 0 0 none 0 d).1 := by
      unfold dueT
      rw [List.map_map]
      exact List.map_congr_left fun p _ => by rw [most_1]; rfl
    have hK' := hK
    generalize hG : PyData.list K = G
    rw [e, hK']
    exact compF_map _ _ fun p hp => ⟨[.ow d3, .va (.bool fb), .va (.int (n : Int)), .va (eD d), .va (eY (opY n)), .va G, .no, .no, .no, .no, .no, .no, .no, .va (.int (mostT p 0 0 none 0 d).1), .va (eNO (mostT p 0 0 none 0 d).2), .no], by simp [itS], by simp [wiS], by simp [ev_nmE], .inl rfl⟩
  obtain ⟨EV, hEV⟩ : ∃ E : D, E = .list ((List.range d.length).map eN) := ⟨_, rfl⟩
  have c8 : compF .bp .vp [12] (nmG 12) (atT .an (asT (opE gtD (opE ixD (nmE 6) (nmE 12)) (csE (.int 0))))) (tuE (consA (nmE 12) (consA (opE ixD (opE ixD (nmE 5) (nmE 12)) (csE (.int 1))) nilA))) ((List.range n).map eN) [.ow d3, .va (.bool fb), .va (.int (n : Int)), .va (eD d), .va (eY (opY n)), .va (.list K), .va (eS (dueT n d)), .va EV, .no, .no, .no, .no, .no, .no, .no, .no] = .ok (RW.map ePO, [.ow d3, .va (.bool fb), .va (.int (n : Int)), .va (eD d), .va (eY (opY n)), .va (.list K), .va (eS (dueT n d)), .va EV, .no, .no, .no, .no, .no, .no, .no, .no]) := by
    rw [hRW, List.map_map]
    exact compF_pure _ _ _ fun p hp => by
      have hp := List.mem_range.mp hp
      have e1 : ixD (eS (dueT n d)) (eN p) = some (.int (needT p d)) := by rw [ixS (by rw [due_len]; exact hp), due_get hp]
      have e2 : ixD (.tuple [.int (mostT p 0 0 none 0 d).1, eNO (mostT p 0 0 none 0 d).2]) (.int 1) = some (eNO (mostT p 0 0 none 0 d).2) := rfl
      exact ⟨[.ow d3, .va (.bool fb), .va (.int (n : Int)), .va (eD d), .va (eY (opY n)), .va (.list K), .va (eS (dueT n d)), .va EV, .no, .no, .no, .no, .va (eN p), .no, .no, .no], by simp [itS], by simp [ev_nmE, e1], by simp [wiS], fun _ => ⟨by simp [ev_nmE, kget p hp, e2, ePO], .inl rfl⟩⟩
  obtain ⟨rows, hrows⟩ : ∃ R, R = (goT (opY n) (dueT n d) d).1 := ⟨_, rfl⟩
  obtain ⟨last, hlast⟩ : ∃ R, R = (goT (opY n) (dueT n d) d).2 := ⟨_, rfl⟩
  have GO := p_go oy os od (by omega : d.length ≤ 1000000)
  have rall : ∀ r ∈ rows, r ≠ none := by rw [hrows]; exact due_all n1 hd
  have rl : rows.length = d.length := by rw [hrows, go_len]
  have rowsM : Fm 64 3000 (.list (rows.map eRow)) := by rw [hrows]; exact (fm_rows (by rw [opY_len]; exact n9) od hdl).mono (by omega) (by omega)
  have kept := go_kept (d := d) os od
  rw [← hrows, ← hlast] at GO kept
  have ni : notInD .none (.list (rows.map eRow)) = some (.bool true) := by
    show inF (fun b => !b) .none (.list (rows.map eRow)) = _
    rw [inFm rowsM Fm.none]
    have : (rows.map eRow).any (fun z => PyData.eqv z .none) = false := by
      rw [List.any_eq_false]
      intro z hz
      obtain ⟨r, hr, rfl⟩ := List.mem_map.mp hz
      cases r with
      | none => exact absurd rfl (rall _ hr)
      | some x =>
        obtain ⟨a, o⟩ := x
        cases o <;> exact Bool.false_ne_true
    rw [this]; rfl
  have c11 : compF .bp .an [15] (nmG 15) (orT (asT (opE isND (nmE 15) (csE .none))) (asT (opE isND (opE ixD (nmE 15) (csE (.int 1))) (csE .none)))) (csE (.int 1)) (rows.map eRow) [.ow d3, .va (.bool fb), .va (.int (n : Int)), .va (eD d), .va (eY (opY n)), .va (.list K), .va (eS (dueT n d)), .va EV, .va (.list (RW.map ePO)), .va (.list (rows.map eRow)), .va (eS last), .no, .no, .no, .no, .no] = .ok ((rows.filter offB).map fun _ => .int 1, [.ow d3, .va (.bool fb), .va (.int (n : Int)), .va (eD d), .va (eY (opY n)), .va (.list K), .va (eS (dueT n d)), .va EV, .va (.list (RW.map ePO)), .va (.list (rows.map eRow)), .va (eS last), .no, .no, .no, .no, .no]) :=
    compF_pure _ _ _ fun r hr => by
      obtain ⟨z, hz⟩ := Option.ne_none_iff_exists'.mp (rall r hr)
      subst hz
      obtain ⟨a, o⟩ := z
      refine ⟨[.ow d3, .va (.bool fb), .va (.int (n : Int)), .va (eD d), .va (eY (opY n)), .va (.list K), .va (eS (dueT n d)), .va EV, .va (.list (RW.map ePO)), .va (.list (rows.map eRow)), .va (eS last), .no, .no, .no, .no, .va (eRow (some (a, o)))], by simp [itS], ?_, by simp [wiS], fun _ => ⟨by simp, .inr rfl⟩⟩
      have e1 : ixD (eRow (some (a, o))) (.int 1) = some (eNO o) := rfl
      have e2 : isNd (eRow (some (a, o))) = false := rfl
      cases o <;> simp [ev_nmE, e1, isNd_eRow, isNd_eNO, offB]
  have fl : (rows.filter offB).length ≤ 1000 := by
    have := List.length_filter_le offB rows
    omega
  have RWn : neD (.list (RW.map ePO)) (.list (RW.map ePO)) = some (.bool false) := Fm.ne_self (b := 9 * 3) ((Fm.list (a := 1) (b := 2) (n := 9) (fun x hx => by
    obtain ⟨z, hz, rfl⟩ := List.mem_map.mp hx
    rw [← eRW] at hz
    obtain ⟨p, hp, rfl⟩ := List.mem_map.mp hz
    have hpn := List.mem_range.mp (List.mem_filter.mp hp).1
    rw [due_len] at hpn
    refine Fm.tuple (a := 0) (b := 0) (n := 2) (fun e he => ?_) (by simp)
    simp only [List.mem_cons, List.not_mem_nil, or_false] at he
    rcases he with rfl | rfl
    · exact fm_eN (by show p < _; omega)
    · show Fm 0 0 (eNO (fwT (opY n) (chT (dueT n d) p (-1)) d (List.range d.length)))
      cases hw : fwT (opY n) (chT (dueT n d) p (-1)) d (List.range d.length) with
      | none => exact Fm.none
      | some k =>
        have := List.mem_range.mp (List.mem_of_find?_eq_some hw)
        exact fm_eN (by omega)) (by
      rw [List.length_map, hRW, List.length_map]
      have := List.length_filter_le (fun p => decide (0 < needT p d)) (List.range n)
      rw [List.length_range] at this
      omega)).mono (by omega) (by omega))
  have Ln : neD (.list [eS (dueT n d)]) (.list [eS (dueT n d)]) = some (.bool false) := Fm.ne_self (b := 10) ((Fm.list (a := 1) (b := 9) (n := 1) (fun x hx => by
    rw [List.mem_singleton.mp hx]
    exact fm_S oy os fun i hi => by
      obtain ⟨p, _, rfl⟩ := List.mem_map.mp hi
      have := nb p
      omega) (by simp)).mono (by omega) (by omega))
  have LS : fb = true → m_least_for [eY (opY n), eD d, EV, .int 1000000] = .ok (.list [eS (dueT n d)]) := fun hb => by
    subst hb
    have hn4 : n ≤ 4 := by rw [hv1] at g2; simp at g2; omega
    have hm8 : m ≤ 8 := by rw [hv2] at g4; simp at g4; omega
    have pl := prod_le (B := 8) (wantT n d) fun x hx => by have := want_le (p := 0) hx; omega
    have wl : (wantT n d).length = n := by unfold wantT; simp
    rw [wl] at pl
    have pw : (8 + 1) ^ n ≤ 9 ^ 4 := Nat.pow_le_pow_right (by omega) hn4
    have L := p_least_for (n := n) (d := d) (few := List.range d.length) (most := 1000000) n1 n9 od0 hdl ⟨fun k hk => List.mem_range.mp hk, List.pairwise_lt_range⟩ (by simpa using hdl) (by omega) (by omega)
    rw [due_least n1 hd] at L
    rw [hEV]
    exact L
  have ld : lenG [eD d] = some (.int d.length) := by simp [eD]
  have RL : (dueT n d).length ≤ 16777216 := by rw [due_len]; omega
  have KL : K.length ≤ 16777216 := by rw [hK]; simp; omega
  have RWl : RW.length ≤ 16777216 := by
    rw [hRW, List.length_map]
    have := List.length_filter_le (fun p => decide (0 < needT p d)) (List.range n)
    rw [List.length_range] at this
    omega
  have iK : itD (.list K) = some K := rfl
  have iR : itD (.list (rows.map eRow)) = some (rows.map eRow) := rfl
  have dl63 : inB 0 16777217 (d.length : Int) = true := inB_t (by omega) (by omega)
  have sumE : eqD (.int (last.sum + ((rows.filter offB).length : Int))) (.int (dueT n d).sum) = some (.bool true) := by
    rw [kept]
    simp
  rw [← hEV] at LK OF
  have eDU : PyData.tuple (List.map PyData.int (dueT n d)) = eS (dueT n d) := rfl
  have eEV : PyData.list (List.map (fun i : Nat => PyData.int (i : Int)) (List.range d.length)) = EV := hEV.symm
  have int_eN : ((List.range n).map fun i : Nat => PyData.int (i : Int)) = (List.range n).map eN := rfl
  have s1 : sumA [eS last] = some (.int last.sum) := sum_tup
  have s2 : sumA [eS (dueT n d)] = some (.int (dueT n d).sum) := sum_tup
  have nEV : noL EV = false := by rw [hEV]; rfl
  refine ⟨d3, ?_, u3.mono (by omega)⟩
  cases fb with
  | true =>
    have LS := LS rfl
    have hv1 : v1 = 4 := hv1
    have hv2 : v2 = 9 := hv2
    subst hv1
    subst hv2
    simp [o__law_right, of_eq, f__law_right, ev_nmE, h.noL, u0.noL, u1.noL, u2.noL, u3.noL, f0, hfb, itg, iv1, f1, hn, iv2, f2, f3, itS, mu, rg, okO, wiS, reS, c5, KL, iK, c6, RL, ld, dl63, LK, c8, RWl, OF, RWn, LS, Ln, GO, iR, c11, (by omega : (rows.filter offB).length ≤ 16777216), sumE, ni, eDU, eEV, isNd_eNO, int_eN, s1, s2, kept]
  | false =>
    have hv1 : v1 = 9 := hv1
    have hv2 : v2 = 61 := hv2
    subst hv1
    subst hv2
    simp [o__law_right, of_eq, f__law_right, ev_nmE, h.noL, u0.noL, u1.noL, u2.noL, u3.noL, f0, hfb, itg, iv1, f1, hn, iv2, f2, f3, itS, mu, rg, okO, wiS, reS, c5, KL, iK, c6, RL, ld, dl63, LK, c8, RWl, OF, RWn, GO, iR, c11, (by omega : (rows.filter offB).length ≤ 16777216), sumE, ni, eDU, eEV, isNd_eNO, int_eN, s1, s2, kept]
theorem law_math (ns : List Int) (h1 : ns.length ≤ 63) (h2 : ∀ z ∈ ns, Builtin.Int.intBits z ≤ 1048576) : ∃ ρ, bodyF 1 f_law [.sc ns] = .ok (.bool true, ρ) := by
  have hc : compF .bp .an [1] (nmG 1) yesT (clF o__law_right (clE .an 2 m__law_bag (consA (clSc 0 1 c__law_cell_at (consA (nmE 1) nilA)) (consA (nmE 1) nilA)))) ((List.range 3).map fun i : Nat => PyData.int (i : Int)) [.sc ns, .no] = .ok ((List.range 3).map fun _ => .bool true, [.sc ns, .no]) :=
    compF_map _ _ fun k hk => by
      have hk := List.mem_range.mp hk
      obtain ⟨z, ez⟩ := b_cell (ns := ns) (k := k)
      obtain ⟨cs, eb, hcs⟩ := b_bag (cell := z) (k := k) (by omega)
      obtain ⟨cs', er, hcs'⟩ := u_right (k := 0) (hcs.mono (by omega))
      exact ⟨[.sc ns, .va (.int (k : Int))], by simp [itS], by simp [wiS], by simp [ev_nmE, boAll, ez, eb, hcs.noL, er, hcs'.noL], .inr rfl⟩
  have rg : rg1D [.int 3] = some ((List.range 3).map fun i : Nat => PyData.int (i : Int)) := rg1_nat (n := 3) (by decide)
  refine ⟨[selF (.sc ns) (.sc ns)], ?_⟩
  have al3 : allG [.list ((List.range 3).map fun _ => PyData.bool true)] = some (.bool true) := rfl
  simp [body_eq, f_law, ev_nmE, rg, okO, wiS, reS, hc, al3]
def topS (i : Nat) : Stmt := PySem.Challenge.pw_onemore_k23_whole_asks_of_one_want.main.body.getD i (.Pass ⟨0, 0, 0, 0⟩)
abbrev st_is_amount : Stmt := topS 11
abbrev sc_N_is_amount : List Str := ["thing"]
theorem sc_is_amount : FnScope sc_N_is_amount ["thing"] (defScope st_is_amount) := ⟨rfl, rfl, rfl, by decide +kernel, rfl, by decide +kernel, by decide +kernel⟩
abbrev st_changed : Stmt := topS 21
abbrev sc_N_changed : List Str := ["standing", "place", "by"]
theorem sc_changed : FnScope sc_N_changed ["standing", "place", "by"] (defScope st_changed) := ⟨rfl, rfl, rfl, by decide +kernel, rfl, by decide +kernel, by decide +kernel⟩
abbrev st_taken_from : Stmt := topS 22
abbrev sc_N_taken_from : List Str := ["standing", "wants", "place"]
theorem sc_taken_from : FnScope sc_N_taken_from ["standing", "wants"] (defScope st_taken_from) := ⟨rfl, rfl, rfl, by decide +kernel, rfl, by decide +kernel, by decide +kernel⟩
abbrev st_left_at : Stmt := topS 23
abbrev sc_N_left_at : List Str := ["yard", "standing", "leaves", "place"]
theorem sc_left_at : FnScope sc_N_left_at ["yard", "standing", "leaves"] (defScope st_left_at) := ⟨rfl, rfl, rfl, by decide +kernel, rfl, by decide +kernel, by decide +kernel⟩
abbrev st_need_open : Stmt := topS 31
abbrev sc_N_need_open : List Str := ["yard", "room"]
theorem sc_need_open : FnScope sc_N_need_open ["yard"] (defScope st_need_open) := ⟨rfl, rfl, rfl, by decide +kernel, rfl, by decide +kernel, by decide +kernel⟩
abbrev st_is_above : Stmt := topS 34
abbrev sc_N_is_above : List Str := ["standing", "less", "lie", "other"]
theorem sc_is_above : FnScope sc_N_is_above ["standing", "less"] (defScope st_is_above) := ⟨rfl, rfl, rfl, by decide +kernel, rfl, by decide +kernel, by decide +kernel⟩
abbrev st_wanted : Stmt := topS 36
abbrev sc_N_wanted : List Str := ["yard", "day", "place", "wants", "leaves"]
theorem sc_wanted : FnScope sc_N_wanted ["yard", "day"] (defScope st_wanted) := ⟨rfl, rfl, rfl, by decide +kernel, rfl, by decide +kernel, by decide +kernel⟩
abbrev st_by_total : Stmt := topS 37
abbrev sc_N_by_total : List Str := ["standing"]
theorem sc_by_total : FnScope sc_N_by_total ["standing"] (defScope st_by_total) := ⟨rfl, rfl, rfl, by decide +kernel, rfl, by decide +kernel, by decide +kernel⟩
abbrev st__law_cell_at : Stmt := topS 43
abbrev sc_N__law_cell_at : List Str := ["script", "k"]
theorem sc__law_cell_at : FnScope sc_N__law_cell_at ["script", "k"] (defScope st__law_cell_at) := ⟨rfl, rfl, rfl, by decide +kernel, rfl, by decide +kernel, by decide +kernel⟩
abbrev st__law_bag : Stmt := topS 44
abbrev sc_N__law_bag : List Str := ["cell", "k"]
theorem sc__law_bag : FnScope sc_N__law_bag ["cell", "k"] (defScope st__law_bag) := ⟨rfl, rfl, rfl, by decide +kernel, rfl, by decide +kernel, by decide +kernel⟩
abbrev st__law_take : Stmt := topS 45
abbrev sc_N__law_take : List Str := ["bag", "size", "found", "mixed"]
theorem sc__law_take : FnScope sc_N__law_take ["bag", "size"] (defScope st__law_take) := ⟨rfl, rfl, rfl, by decide +kernel, rfl, by decide +kernel, by decide +kernel⟩
abbrev st__law_most : Stmt := topS 48
abbrev sc_N__law_most : List Str := ["asks", "place", "lie", "high", "first", "k", "wants", "leaves"]
theorem sc__law_most : FnScope sc_N__law_most ["asks", "place"] (defScope st__law_most) := ⟨rfl, rfl, rfl, by decide +kernel, rfl, by decide +kernel, by decide +kernel⟩
abbrev st_is_yard : Stmt := topS 12
abbrev sc_N_is_yard : List Str := ["thing", "room"]
theorem sc_is_yard : FnScope sc_N_is_yard ["thing"] (defScope st_is_yard) := ⟨rfl, rfl, rfl, by decide +kernel, rfl, by decide +kernel, by decide +kernel⟩
abbrev st_is_place : Stmt := topS 14
abbrev sc_N_is_place : List Str := ["yard", "thing"]
theorem sc_is_place : FnScope sc_N_is_place ["yard", "thing"] (defScope st_is_place) := ⟨rfl, rfl, rfl, by decide +kernel, rfl, by decide +kernel, by decide +kernel⟩
abbrev st_asked : Stmt := topS 24
abbrev sc_N_asked : List Str := ["yard", "standing", "ask", "wants", "leaves", "place", "other"]
theorem sc_asked : FnScope sc_N_asked ["yard", "standing", "ask"] (defScope st_asked) := ⟨rfl, rfl, rfl, by decide +kernel, rfl, by decide +kernel, by decide +kernel⟩
abbrev st_need_some : Stmt := topS 32
abbrev sc_N_need_some : List Str := ["day", "some", "one", "other"]
theorem sc_need_some : FnScope sc_N_need_some ["day", "some"] (defScope st_need_some) := ⟨rfl, rfl, rfl, by decide +kernel, rfl, by decide +kernel, by decide +kernel⟩
abbrev st_need_most : Stmt := topS 33
abbrev sc_N_need_most : List Str := ["most"]
theorem sc_need_most : FnScope sc_N_need_most ["most"] (defScope st_need_most) := ⟨rfl, rfl, rfl, by decide +kernel, rfl, by decide +kernel, by decide +kernel⟩
abbrev st__law_unlike : Stmt := topS 46
abbrev sc_N__law_unlike : List Str := ["bag", "size", "least", "high", "left", "found", "k"]
theorem sc__law_unlike : FnScope sc_N__law_unlike ["bag", "size", "least", "high"] (defScope st__law_unlike) := ⟨rfl, rfl, rfl, by decide +kernel, rfl, by decide +kernel, by decide +kernel⟩
abbrev st_are_places : Stmt := topS 15
abbrev sc_N_are_places : List Str := ["yard", "thing", "one"]
theorem sc_are_places : FnScope sc_N_are_places ["yard", "thing"] (defScope st_are_places) := ⟨rfl, rfl, rfl, by decide +kernel, rfl, by decide +kernel, by decide +kernel⟩
abbrev st_need_yard : Stmt := topS 18
abbrev sc_N_need_yard : List Str := ["yard"]
theorem sc_need_yard : FnScope sc_N_need_yard ["yard"] (defScope st_need_yard) := ⟨rfl, rfl, rfl, by decide +kernel, rfl, by decide +kernel, by decide +kernel⟩
abbrev st_gone : Stmt := topS 25
abbrev sc_N_gone : List Str := ["yard", "standing", "day", "log", "ask", "row"]
theorem sc_gone : FnScope sc_N_gone ["yard", "standing", "day"] (defScope st_gone) := ⟨rfl, rfl, rfl, by decide +kernel, rfl, by decide +kernel, by decide +kernel⟩
abbrev st__law_plain : Stmt := topS 47
abbrev sc_N__law_plain : List Str := ["bag", "size", "long", "found", "k", "wants"]
theorem sc__law_plain : FnScope sc_N__law_plain ["bag", "size", "long"] (defScope st__law_plain) := ⟨rfl, rfl, rfl, by decide +kernel, rfl, by decide +kernel, by decide +kernel⟩
abbrev st_is_standing : Stmt := topS 13
abbrev sc_N_is_standing : List Str := ["yard", "thing", "one", "room"]
theorem sc_is_standing : FnScope sc_N_is_standing ["yard", "thing"] (defScope st_is_standing) := ⟨rfl, rfl, rfl, by decide +kernel, rfl, by decide +kernel, by decide +kernel⟩
abbrev st_is_ask : Stmt := topS 16
abbrev sc_N_is_ask : List Str := ["yard", "thing", "some"]
theorem sc_is_ask : FnScope sc_N_is_ask ["yard", "thing"] (defScope st_is_ask) := ⟨rfl, rfl, rfl, by decide +kernel, rfl, by decide +kernel, by decide +kernel⟩
abbrev st_served_by : Stmt := topS 26
abbrev sc_N_served_by : List Str := ["yard", "standing", "day", "number", "row"]
theorem sc_served_by : FnScope sc_N_served_by ["yard", "standing", "day"] (defScope st_served_by) := ⟨rfl, rfl, rfl, by decide +kernel, rfl, by decide +kernel, by decide +kernel⟩
abbrev st_all_up_to : Stmt := topS 38
abbrev sc_N_all_up_to : List Str := ["bounds", "found", "most", "some", "lie"]
theorem sc_all_up_to : FnScope sc_N_all_up_to ["bounds"] (defScope st_all_up_to) := ⟨rfl, rfl, rfl, by decide +kernel, rfl, by decide +kernel, by decide +kernel⟩
abbrev st_is_day : Stmt := topS 17
abbrev sc_N_is_day : List Str := ["yard", "thing", "one"]
theorem sc_is_day : FnScope sc_N_is_day ["yard", "thing"] (defScope st_is_day) := ⟨rfl, rfl, rfl, by decide +kernel, rfl, by decide +kernel, by decide +kernel⟩
abbrev st_need_standing : Stmt := topS 19
abbrev sc_N_need_standing : List Str := ["yard", "standing"]
theorem sc_need_standing : FnScope sc_N_need_standing ["yard", "standing"] (defScope st_need_standing) := ⟨rfl, rfl, rfl, by decide +kernel, rfl, by decide +kernel, by decide +kernel⟩
abbrev st_first_without : Stmt := topS 35
abbrev sc_N_first_without : List Str := ["yard", "standing", "day", "some", "there", "number"]
theorem sc_first_without : FnScope sc_N_first_without ["yard", "standing", "day", "some"] (defScope st_first_without) := ⟨rfl, rfl, rfl, by decide +kernel, rfl, by decide +kernel, by decide +kernel⟩
abbrev st_need_day : Stmt := topS 20
abbrev sc_N_need_day : List Str := ["yard", "day"]
theorem sc_need_day : FnScope sc_N_need_day ["yard", "day"] (defScope st_need_day) := ⟨rfl, rfl, rfl, by decide +kernel, rfl, by decide +kernel, by decide +kernel⟩
abbrev st_need_all : Stmt := topS 27
abbrev sc_N_need_all : List Str := ["yard", "standing", "day"]
theorem sc_need_all : FnScope sc_N_need_all ["yard", "standing", "day"] (defScope st_need_all) := ⟨rfl, rfl, rfl, by decide +kernel, rfl, by decide +kernel, by decide +kernel⟩
abbrev st_least_for : Stmt := topS 39
abbrev sc_N_least_for : List Str := ["yard", "day", "some", "most", "bounds", "many", "one", "found", "standing", "less"]
theorem sc_least_for : FnScope sc_N_least_for ["yard", "day", "some", "most"] (defScope st_least_for) := ⟨rfl, rfl, rfl, by decide +kernel, rfl, by decide +kernel, by decide +kernel⟩
abbrev st_lacks : Stmt := topS 40
abbrev sc_N_lacks : List Str := ["yard", "standing", "day", "some"]
theorem sc_lacks : FnScope sc_N_lacks ["yard", "standing", "day", "some"] (defScope st_lacks) := ⟨rfl, rfl, rfl, by decide +kernel, rfl, by decide +kernel, by decide +kernel⟩
abbrev st_go : Stmt := topS 28
abbrev sc_N_go : List Str := ["yard", "standing", "day"]
theorem sc_go : FnScope sc_N_go ["yard", "standing", "day"] (defScope st_go) := ⟨rfl, rfl, rfl, by decide +kernel, rfl, by decide +kernel, by decide +kernel⟩
abbrev st_one_fewer : Stmt := topS 41
abbrev sc_N_one_fewer : List Str := ["yard", "standing", "day", "some", "found", "place", "lie", "less"]
theorem sc_one_fewer : FnScope sc_N_one_fewer ["yard", "standing", "day", "some"] (defScope st_one_fewer) := ⟨rfl, rfl, rfl, by decide +kernel, rfl, by decide +kernel, by decide +kernel⟩
abbrev st__law_right : Stmt := topS 49
abbrev sc_N__law_right : List Str := ["bag", "few", "size", "asks", "rooms", "known", "due", "every", "rows", "log", "last", "carried", "place", "high", "first", "row"]
theorem sc__law_right : FnScope sc_N__law_right ["bag"] (defScope st__law_right) := ⟨rfl, rfl, rfl, by decide +kernel, rfl, by decide +kernel, by decide +kernel⟩
abbrev st_law : Stmt := topS 50
abbrev sc_N_law : List Str := ["script", "k"]
theorem sc_law : FnScope sc_N_law ["script"] (defScope st_law) := ⟨rfl, rfl, rfl, by decide +kernel, rfl, by decide +kernel, by decide +kernel⟩
structure Txt (K : PySem.W.Frag) (mg : Str → Option Value) where
  a_is_amount : Addr
  d_is_amount : FuncData
  F_is_amount : Fun K "is_amount" "is_amount" st_is_amount a_is_amount d_is_amount
  g_is_amount : mg "is_amount" = some (.ref a_is_amount)
  a_changed : Addr
  d_changed : FuncData
  F_changed : Fun K "changed" "changed" st_changed a_changed d_changed
  g_changed : mg "changed" = some (.ref a_changed)
  a_taken_from : Addr
  d_taken_from : FuncData
  F_taken_from : Fun K "taken_from" "taken_from" st_taken_from a_taken_from d_taken_from
  g_taken_from : mg "taken_from" = some (.ref a_taken_from)
  a_left_at : Addr
  d_left_at : FuncData
  F_left_at : Fun K "left_at" "left_at" st_left_at a_left_at d_left_at
  g_left_at : mg "left_at" = some (.ref a_left_at)
  a_need_open : Addr
  d_need_open : FuncData
  F_need_open : Fun K "need_open" "need_open" st_need_open a_need_open d_need_open
  g_need_open : mg "need_open" = some (.ref a_need_open)
  a_is_above : Addr
  d_is_above : FuncData
  F_is_above : Fun K "is_above" "is_above" st_is_above a_is_above d_is_above
  g_is_above : mg "is_above" = some (.ref a_is_above)
  a_wanted : Addr
  d_wanted : FuncData
  F_wanted : Fun K "wanted" "wanted" st_wanted a_wanted d_wanted
  g_wanted : mg "wanted" = some (.ref a_wanted)
  a_by_total : Addr
  d_by_total : FuncData
  F_by_total : Fun K "by_total" "by_total" st_by_total a_by_total d_by_total
  g_by_total : mg "by_total" = some (.ref a_by_total)
  a__law_cell_at : Addr
  d__law_cell_at : FuncData
  F__law_cell_at : Fun K "_law_cell_at" "_law_cell_at" st__law_cell_at a__law_cell_at d__law_cell_at
  g__law_cell_at : mg "_law_cell_at" = some (.ref a__law_cell_at)
  a__law_bag : Addr
  d__law_bag : FuncData
  F__law_bag : Fun K "_law_bag" "_law_bag" st__law_bag a__law_bag d__law_bag
  g__law_bag : mg "_law_bag" = some (.ref a__law_bag)
  a__law_take : Addr
  d__law_take : FuncData
  F__law_take : Fun K "_law_take" "_law_take" st__law_take a__law_take d__law_take
  g__law_take : mg "_law_take" = some (.ref a__law_take)
  a__law_most : Addr
  d__law_most : FuncData
  F__law_most : Fun K "_law_most" "_law_most" st__law_most a__law_most d__law_most
  g__law_most : mg "_law_most" = some (.ref a__law_most)
  a_is_yard : Addr
  d_is_yard : FuncData
  F_is_yard : Fun K "is_yard" "is_yard" st_is_yard a_is_yard d_is_yard
  g_is_yard : mg "is_yard" = some (.ref a_is_yard)
  a_is_place : Addr
  d_is_place : FuncData
  F_is_place : Fun K "is_place" "is_place" st_is_place a_is_place d_is_place
  g_is_place : mg "is_place" = some (.ref a_is_place)
  a_asked : Addr
  d_asked : FuncData
  F_asked : Fun K "asked" "asked" st_asked a_asked d_asked
  g_asked : mg "asked" = some (.ref a_asked)
  a_need_some : Addr
  d_need_some : FuncData
  F_need_some : Fun K "need_some" "need_some" st_need_some a_need_some d_need_some
  g_need_some : mg "need_some" = some (.ref a_need_some)
  a_need_most : Addr
  d_need_most : FuncData
  F_need_most : Fun K "need_most" "need_most" st_need_most a_need_most d_need_most
  g_need_most : mg "need_most" = some (.ref a_need_most)
  a__law_unlike : Addr
  d__law_unlike : FuncData
  F__law_unlike : Fun K "_law_unlike" "_law_unlike" st__law_unlike a__law_unlike d__law_unlike
  g__law_unlike : mg "_law_unlike" = some (.ref a__law_unlike)
  a_are_places : Addr
  d_are_places : FuncData
  F_are_places : Fun K "are_places" "are_places" st_are_places a_are_places d_are_places
  g_are_places : mg "are_places" = some (.ref a_are_places)
  a_need_yard : Addr
  d_need_yard : FuncData
  F_need_yard : Fun K "need_yard" "need_yard" st_need_yard a_need_yard d_need_yard
  g_need_yard : mg "need_yard" = some (.ref a_need_yard)
  a_gone : Addr
  d_gone : FuncData
  F_gone : Fun K "gone" "gone" st_gone a_gone d_gone
  g_gone : mg "gone" = some (.ref a_gone)
  a__law_plain : Addr
  d__law_plain : FuncData
  F__law_plain : Fun K "_law_plain" "_law_plain" st__law_plain a__law_plain d__law_plain
  g__law_plain : mg "_law_plain" = some (.ref a__law_plain)
  a_is_standing : Addr
  d_is_standing : FuncData
  F_is_standing : Fun K "is_standing" "is_standing" st_is_standing a_is_standing d_is_standing
  g_is_standing : mg "is_standing" = some (.ref a_is_standing)
  a_is_ask : Addr
  d_is_ask : FuncData
  F_is_ask : Fun K "is_ask" "is_ask" st_is_ask a_is_ask d_is_ask
  g_is_ask : mg "is_ask" = some (.ref a_is_ask)
  a_served_by : Addr
  d_served_by : FuncData
  F_served_by : Fun K "served_by" "served_by" st_served_by a_served_by d_served_by
  g_served_by : mg "served_by" = some (.ref a_served_by)
  a_all_up_to : Addr
  d_all_up_to : FuncData
  F_all_up_to : Fun K "all_up_to" "all_up_to" st_all_up_to a_all_up_to d_all_up_to
  g_all_up_to : mg "all_up_to" = some (.ref a_all_up_to)
  a_is_day : Addr
  d_is_day : FuncData
  F_is_day : Fun K "is_day" "is_day" st_is_day a_is_day d_is_day
  g_is_day : mg "is_day" = some (.ref a_is_day)
  a_need_standing : Addr
  d_need_standing : FuncData
  F_need_standing : Fun K "need_standing" "need_standing" st_need_standing a_need_standing d_need_standing
  g_need_standing : mg "need_standing" = some (.ref a_need_standing)
  a_first_without : Addr
  d_first_without : FuncData
  F_first_without : Fun K "first_without" "first_without" st_first_without a_first_without d_first_without
  g_first_without : mg "first_without" = some (.ref a_first_without)
  a_need_day : Addr
  d_need_day : FuncData
  F_need_day : Fun K "need_day" "need_day" st_need_day a_need_day d_need_day
  g_need_day : mg "need_day" = some (.ref a_need_day)
  a_need_all : Addr
  d_need_all : FuncData
  F_need_all : Fun K "need_all" "need_all" st_need_all a_need_all d_need_all
  g_need_all : mg "need_all" = some (.ref a_need_all)
  a_least_for : Addr
  d_least_for : FuncData
  F_least_for : Fun K "least_for" "least_for" st_least_for a_least_for d_least_for
  g_least_for : mg "least_for" = some (.ref a_least_for)
  D_least_for : FunD K "least_for" "least_for" (defArgs st_least_for) (defBody st_least_for) (defScope st_least_for) [] [("most", V.int 5000)] a_least_for d_least_for
  a_lacks : Addr
  d_lacks : FuncData
  F_lacks : Fun K "lacks" "lacks" st_lacks a_lacks d_lacks
  g_lacks : mg "lacks" = some (.ref a_lacks)
  a_go : Addr
  d_go : FuncData
  F_go : Fun K "go" "go" st_go a_go d_go
  g_go : mg "go" = some (.ref a_go)
  a_one_fewer : Addr
  d_one_fewer : FuncData
  F_one_fewer : Fun K "one_fewer" "one_fewer" st_one_fewer a_one_fewer d_one_fewer
  g_one_fewer : mg "one_fewer" = some (.ref a_one_fewer)
  a__law_right : Addr
  d__law_right : FuncData
  F__law_right : Fun K "_law_right" "_law_right" st__law_right a__law_right d__law_right
  g__law_right : mg "_law_right" = some (.ref a__law_right)
  a_law : Addr
  d_law : FuncData
  F_law : Fun K "law" "law" st_law a_law d_law
  g_law : mg "law" = some (.ref a_law)
  k_MOST_PLACES : (t : Tok) ×' mg "MOST_PLACES" = some (.int 9 t)
  z_all : mg "all" = none
  z_any : mg "any" = none
  z_bool : mg "bool" = none
  z_enumerate : mg "enumerate" = none
  z_int : mg "int" = none
  z_isinstance : mg "isinstance" = none
  z_len : mg "len" = none
  z_list : mg "list" = none
  z_max : mg "max" = none
  z_min : mg "min" = none
  z_range : mg "range" = none
  z_set : mg "set" = none
  z_sorted : mg "sorted" = none
  z_sum : mg "sum" = none
  z_tuple : mg "tuple" = none
  z_zip : mg "zip" = none
section
variable {P : Program} {w : World} {K : PySem.W.Frag} {mg : Str → Option Value} {base : Heap}
theorem b_is_amount (T : Txt K mg) : Binds K T.d_is_amount ["thing"] [] := T.F_is_amount.binds fun _ _ _ _ _ _ us hl => match us, hl with | [_], _ => rfl
set_option maxHeartbeats 4000000 in
theorem G_is_amount (T : Txt K mg) : GFn P w K mg base CX0 1 T.a_is_amount T.d_is_amount ["thing"] (spG K (fun _ _ _ => False) 1 (ofP m_is_amount)) :=
  g_pure (m := 0) (F := f_is_amount) T.F_is_amount sc_is_amount rfl fun np cdv A outer s H E hnp hr hgd => by
    have hgd : (cxOf CX0 P w K mg base sc_N_is_amount "is_amount" (defScope st_is_amount) T.a_is_amount cdv A outer s H E).nox.A.guards = some [] := hgd
    obtain ⟨nn, pa⟩ := np
    have hnp : nn = 1 := hnp
    subst hnp
    exact (dss_one (ds_ret (de_at .an (de_and (de_isi ok_int (by rfl) T.z_isinstance (by rfl) T.z_int (by decide +kernel) (de_nm 0)) (de_and (de_not (de_isi ok_bool (by rfl) T.z_isinstance (by rfl) T.z_bool (by decide +kernel) (de_nm 0))) (de_one (de_ge (de_nm 0) de_int)))))))
theorem b_changed (T : Txt K mg) : Binds K T.d_changed ["standing", "place", "by"] [] := T.F_changed.binds fun _ _ _ _ _ _ us hl => match us, hl with | [_, _, _], _ => rfl
set_option maxHeartbeats 4000000 in
theorem G_changed (T : Txt K mg) : GFn P w K mg base CX0 1 T.a_changed T.d_changed ["standing", "place", "by"] (spG K (fun _ _ _ => False) 3 (ofP m_changed)) :=
  g_pure (m := 0) (F := f_changed) T.F_changed sc_changed rfl fun np cdv A outer s H E hnp hr hgd => by
    have hgd : (cxOf CX0 P w K mg base sc_N_changed "changed" (defScope st_changed) T.a_changed cdv A outer s H E).nox.A.guards = some [] := hgd
    obtain ⟨nn, pa⟩ := np
    have hnp : nn = 3 := hnp
    subst hnp
    exact (dss_one (ds_ret (de_add (de_add (de_sl (de_nm 0) do_none (do_some (de_nm 1))) (de_tup (da_cons (de_add (de_ix (de_nm 0) (de_nm 1)) (de_nm 2)) da_nil))) (de_sl (de_nm 0) (do_some (de_at .an (de_add (de_nm 1) de_int))) do_none))))
theorem b_taken_from (T : Txt K mg) : Binds K T.d_taken_from ["standing", "wants"] [] := T.F_taken_from.binds fun _ _ _ _ _ _ us hl => match us, hl with | [_, _], _ => rfl
set_option maxHeartbeats 4000000 in
theorem G_taken_from (T : Txt K mg) : GFn P w K mg base CX0 1 T.a_taken_from T.d_taken_from ["standing", "wants"] (spG K (fun _ _ _ => False) 2 (ofP m_taken_from)) :=
  g_pure (m := 1) (F := f_taken_from) T.F_taken_from sc_taken_from rfl fun np cdv A outer s H E hnp hr hgd => by
    have hgd : (cxOf CX0 P w K mg base sc_N_taken_from "taken_from" (defScope st_taken_from) T.a_taken_from cdv A outer s H E).nox.A.guards = some [] := hgd
    obtain ⟨nn, pa⟩ := np
    have hnp : nn = 2 := hnp
    subst hnp
    exact (dss_cons (ds_for .bo PassesOwn.never rfl (di_seq (de_nm 1)) (dg_name sc_taken_from.nd rfl (by first | exact Or.inl rfl | exact Or.inr rfl)) (dss_one (ds_if .an (dt_gt (de_ix (de_nm 0) (de_nm 2)) de_int) (dss_one (ds_ret (de_nm 2))) dss_nil)))
    (dss_one (ds_ret de_non)))
theorem b_left_at (T : Txt K mg) : Binds K T.d_left_at ["yard", "standing", "leaves"] [] := T.F_left_at.binds fun _ _ _ _ _ _ us hl => match us, hl with | [_, _, _], _ => rfl
set_option maxHeartbeats 4000000 in
theorem G_left_at (T : Txt K mg) : GFn P w K mg base CX0 1 T.a_left_at T.d_left_at ["yard", "standing", "leaves"] (spG K (fun _ _ _ => False) 3 (ofP m_left_at)) :=
  g_pure (m := 1) (F := f_left_at) T.F_left_at sc_left_at rfl fun np cdv A outer s H E hnp hr hgd => by
    have hgd : (cxOf CX0 P w K mg base sc_N_left_at "left_at" (defScope st_left_at) T.a_left_at cdv A outer s H E).nox.A.guards = some [] := hgd
    obtain ⟨nn, pa⟩ := np
    have hnp : nn = 3 := hnp
    subst hnp
    exact (dss_cons (ds_for .bo PassesOwn.never rfl (di_seq (de_nm 2)) (dg_name sc_left_at.nd rfl (by first | exact Or.inl rfl | exact Or.inr rfl)) (dss_one (ds_if .an (DW.t (dw_or (dt_is (de_ix (de_nm 0) (de_nm 3)) de_non) (dw_or1 (dt_lt (de_ix (de_nm 1) (de_nm 3)) (de_ix (de_nm 0) (de_nm 3)))))) (dss_one (ds_ret (de_nm 3))) dss_nil)))
    (dss_one (ds_ret de_non)))
theorem b_need_open (T : Txt K mg) : Binds K T.d_need_open ["yard"] [] := T.F_need_open.binds fun _ _ _ _ _ _ us hl => match us, hl with | [_], _ => rfl
set_option maxHeartbeats 4000000 in
theorem G_need_open (T : Txt K mg) : GFn P w K mg base CX0 1 T.a_need_open T.d_need_open ["yard"] (spG K (fun _ _ _ => False) 1 (ofP m_need_open)) :=
  g_pure (m := 1) (F := f_need_open) T.F_need_open sc_need_open rfl fun np cdv A outer s H E hnp hr hgd => by
    have hgd : (cxOf CX0 P w K mg base sc_N_need_open "need_open" (defScope st_need_open) T.a_need_open cdv A outer s H E).nox.A.guards = some [] := hgd
    obtain ⟨nn, pa⟩ := np
    have hnp : nn = 1 := hnp
    subst hnp
    exact (dss_one (ds_if .an (dt_ne hr (DN.de (dn_lc (own := [("room", 1)]) .bp rfl sc_need_open.nd (di_seq (de_nm 0)) (blkOk_by (own := [("room", 1)]) (N := sc_N_need_open) (sc := defScope st_need_open) (by decide +kernel)) (by decide) (off_nm 1) (fun _ _ _ _ _ => (dg_name sc_need_open.nd rfl (by first | exact Or.inl rfl | exact Or.inr rfl))) (fun _ _ _ _ _ => (dts_one (dt_isnot (de_nm 1) de_non))) (fun _ _ _ _ _ => (de_nm 1)))) (de_lst da_nil)) (dss_one ds_never) dss_nil))
theorem b_is_above (T : Txt K mg) : Binds K T.d_is_above ["standing", "less"] [] := T.F_is_above.binds fun _ _ _ _ _ _ us hl => match us, hl with | [_, _], _ => rfl
set_option maxHeartbeats 4000000 in
theorem G_is_above (T : Txt K mg) : GFn P w K mg base CX0 1 T.a_is_above T.d_is_above ["standing", "less"] (spG K (fun _ _ _ => False) 2 (ofP m_is_above)) :=
  g_pure (m := 2) (F := f_is_above) T.F_is_above sc_is_above rfl fun np cdv A outer s H E hnp hr hgd => by
    have hgd : (cxOf CX0 P w K mg base sc_N_is_above "is_above" (defScope st_is_above) T.a_is_above cdv A outer s H E).nox.A.guards = some [] := hgd
    obtain ⟨nn, pa⟩ := np
    have hnp : nn = 2 := hnp
    subst hnp
    exact (dss_one (ds_ret (de_at .an (de_callB (cr_all rfl) cs_all (by rfl) T.z_all (by decide +kernel) (da_cons (DN.de (dn_lc (own := [("lie", 2), ("other", 3)]) .bp rfl sc_is_above.nd (di_zip (by rfl) T.z_zip (da_cons (de_nm 0) (da_cons (de_nm 1) da_nil))) (blkOk_by (own := [("lie", 2), ("other", 3)]) (N := sc_N_is_above) (sc := defScope st_is_above) (by decide +kernel)) (by decide) (off_tup (off_cons (off_nm 2) (off_cons (off_nm 3) off_nil))) (fun _ _ _ _ _ => (dg_tup rfl (dgs_cons (dg_name sc_is_above.nd rfl (by first | exact Or.inl rfl | exact Or.inr rfl)) (dgs_cons (dg_name sc_is_above.nd rfl (by first | exact Or.inl rfl | exact Or.inr rfl)) dgs_nil)))) (fun _ _ _ _ _ => dts_nil) (fun _ _ _ _ _ => (de_ge (de_nm 2) (de_nm 3))))) da_nil)))))
theorem b_wanted (T : Txt K mg) : Binds K T.d_wanted ["yard", "day"] [] := T.F_wanted.binds fun _ _ _ _ _ _ us hl => match us, hl with | [_, _], _ => rfl
set_option maxHeartbeats 4000000 in
theorem G_wanted (T : Txt K mg) : GFn P w K mg base CX0 1 T.a_wanted T.d_wanted ["yard", "day"] (spG K (fun _ _ _ => False) 2 (ofP m_wanted)) :=
  g_pure (m := 3) (F := f_wanted) T.F_wanted sc_wanted rfl fun np cdv A outer s H E hnp hr hgd => by
    have hgd : (cxOf CX0 P w K mg base sc_N_wanted "wanted" (defScope st_wanted) T.a_wanted cdv A outer s H E).nox.A.guards = some [] := hgd
    obtain ⟨nn, pa⟩ := np
    have hnp : nn = 2 := hnp
    subst hnp
    exact (dss_one (ds_ret (DN.de (dn_lc (own := [("place", 2)]) .bp rfl sc_wanted.nd (di_range1 (by rfl) T.z_range (da_cons (de_at .an (de_callB call_len cs_len (by rfl) T.z_len (by decide +kernel) (da_cons (de_nm 0) da_nil))) da_nil)) (blkOk_by (own := [("place", 2)]) (N := sc_N_wanted) (sc := defScope st_wanted) (by decide +kernel)) (by decide) (off_nm 2) (fun _ _ _ _ _ => (dg_name sc_wanted.nd rfl (by first | exact Or.inl rfl | exact Or.inr rfl))) (fun _ _ _ _ _ => dts_nil) (fun _ _ _ _ _ => (de_at .an (de_callB call_len cs_len (by rfl) T.z_len (by decide +kernel) (da_cons (DN.de (dn_lc (own := [("wants", 3), ("leaves", 4)]) .bp rfl sc_wanted.nd (di_seq (de_nm 1)) (blkOk_by (own := [("wants", 3), ("leaves", 4)]) (by first | decide +kernel | rfl)) (by decide) (off_tup (off_cons (off_nm 3) (off_cons (off_nm 4) off_nil))) (fun _ _ _ _ _ => (dg_tup rfl (dgs_cons (dg_name sc_wanted.nd rfl (by first | exact Or.inl rfl | exact Or.inr rfl)) (dgs_cons (dg_name sc_wanted.nd rfl (by first | exact Or.inl rfl | exact Or.inr rfl)) dgs_nil)))) (fun _ _ _ _ _ => (dts_one (dt_inT (de_nm 2) (de_nm 3)))) (fun _ _ _ _ _ => de_int))) da_nil))))))))
theorem b_by_total (T : Txt K mg) : Binds K T.d_by_total ["standing"] [] := T.F_by_total.binds fun _ _ _ _ _ _ us hl => match us, hl with | [_], _ => rfl
set_option maxHeartbeats 4000000 in
theorem G_by_total (T : Txt K mg) : GFn P w K mg base CX0 1 T.a_by_total T.d_by_total ["standing"] (spG K (fun _ _ _ => False) 1 (ofP m_by_total)) :=
  g_pure (m := 0) (F := f_by_total) T.F_by_total sc_by_total rfl fun np cdv A outer s H E hnp hr hgd => by
    have hgd : (cxOf CX0 P w K mg base sc_N_by_total "by_total" (defScope st_by_total) T.a_by_total cdv A outer s H E).nox.A.guards = some [] := hgd
    obtain ⟨nn, pa⟩ := np
    have hnp : nn = 1 := hnp
    subst hnp
    exact (dss_one (ds_ret (de_tup (da_cons (de_at .an (de_callB (cr_sumA rfl) cs_sumA (by rfl) T.z_sum (by decide +kernel) (da_cons (de_nm 0) da_nil))) (da_cons (de_nm 0) da_nil)))))
theorem b__law_cell_at (T : Txt K mg) : Binds K T.d__law_cell_at ["script", "k"] [] := T.F__law_cell_at.binds fun _ _ _ _ _ _ us hl => match us, hl with | [_, _], _ => rfl
set_option maxHeartbeats 4000000 in
theorem G__law_cell_at (T : Txt K mg) : GFn P w K mg base CX0 1 T.a__law_cell_at T.d__law_cell_at ["script", "k"] (spG K (fun _ _ _ => False) 2 (ofSc c__law_cell_at)) :=
  g_sc (m := 0) (F := f__law_cell_at) T.F__law_cell_at sc__law_cell_at rfl fun np cdv A outer s H E hnp hr hgd => by
    have hgd : (cxOf CX0 P w K mg base sc_N__law_cell_at "_law_cell_at" (defScope st__law_cell_at) T.a__law_cell_at cdv A outer s H E).nox.A.guards = some [] := hgd
    obtain ⟨nn, pa⟩ := np
    have hnp : nn = 2 := hnp
    subst hnp
    exact (dss_cons (ds_if .an (dt_lt (de_nm 1) (de_slen 0 (by rfl) T.z_len (pv 0))) (dss_one (ds_ret (de_six 0 (pv 0) (de_nm 1)))) dss_nil)
    (dss_one (ds_ret de_int)))
theorem b__law_bag (T : Txt K mg) : Binds K T.d__law_bag ["cell", "k"] [] := T.F__law_bag.binds fun _ _ _ _ _ _ us hl => match us, hl with | [_, _], _ => rfl
set_option maxHeartbeats 4000000 in
theorem G__law_bag (T : Txt K mg) : GFn P w K mg base CX0 1 T.a__law_bag T.d__law_bag ["cell", "k"] (spG K (fun _ _ _ => False) 2 (ofP m__law_bag)) :=
  g_pure (m := 0) (F := f__law_bag) T.F__law_bag sc__law_bag rfl fun np cdv A outer s H E hnp hr hgd => by
    have hgd : (cxOf CX0 P w K mg base sc_N__law_bag "_law_bag" (defScope st__law_bag) T.a__law_bag cdv A outer s H E).nox.A.guards = some [] := hgd
    obtain ⟨nn, pa⟩ := np
    have hnp : nn = 2 := hnp
    subst hnp
    exact (dss_one (ds_ret (de_lst (da_cons (de_at .an (de_callB (call_maxA rfl) cs_max (by rfl) T.z_max (by decide +kernel) (da_cons de_int (da_cons (de_sub (de_nm 0) (de_pow de_int de_int)) da_nil)))) (da_cons (de_at .an (de_add (de_mod (de_nm 0) de_int) (de_mul de_int (de_add (de_nm 1) de_int)))) (da_cons de_int da_nil))))))
theorem b__law_take (T : Txt K mg) : Binds K T.d__law_take ["bag", "size"] [] := T.F__law_take.binds fun _ _ _ _ _ _ us hl => match us, hl with | [_, _], _ => rfl
set_option maxHeartbeats 4000000 in
theorem G__law_take (T : Txt K mg) : GFn P w K mg base CX0 1 T.a__law_take T.d__law_take ["bag", "size"] (spG K (fun _ _ _ => False) 2 (ofO1 o__law_take)) :=
  g_own (m := 2) (F := f__law_take) T.F__law_take sc__law_take rfl fun np cdv A outer s H E hnp hr hgd => by
    have hgd : (cxOf CX0 P w K mg base sc_N__law_take "_law_take" (defScope st__law_take) T.a__law_take cdv A outer s H E).nox.A.guards = some [] := hgd
    obtain ⟨nn, pa⟩ := np
    have hnp : nn = 2 := hnp
    subst hnp
    exact (dss_cons (ds_if .an (dt_gt (de_ix (de_nm 0) de_int) de_int) (dss_cons (ds_va sc__law_take.nd rfl (by first | exact Or.inl rfl | exact Or.inr rfl) (de_at .an (de_mod (de_ix (de_nm 0) de_int) (de_nm 1))))
    (dss_cons (ds_sub 0 (pv 0) (de_at .an (de_div (de_ix (de_nm 0) de_int) (de_nm 1))) de_int)
    (dss_one (ds_ret (de_nm 2))))) dss_nil)
    (dss_cons (ds_sub 0 (pv 0) (de_at .an (de_add (de_ix (de_nm 0) de_int) de_int)) de_int)
    (dss_cons (ds_va sc__law_take.nd rfl (by first | exact Or.inl rfl | exact Or.inr rfl) (de_at .an (de_mod (de_pow (de_add (de_ix (de_nm 0) de_int) (de_mul de_int (de_ix (de_nm 0) de_int))) de_int) de_int)))
    (dss_cons (ds_va sc__law_take.nd rfl (by first | exact Or.inl rfl | exact Or.inr rfl) (de_at .an (de_mod (de_pow (de_add (de_nm 3) (de_mul de_int (de_ix (de_nm 0) de_int))) de_int) de_int)))
    (dss_one (ds_ret (de_at .an (de_mod (de_div (de_nm 3) de_int) (de_nm 1)))))))))
theorem b__law_most (T : Txt K mg) : Binds K T.d__law_most ["asks", "place"] [] := T.F__law_most.binds fun _ _ _ _ _ _ us hl => match us, hl with | [_, _], _ => rfl
set_option maxHeartbeats 4000000 in
theorem G__law_most (T : Txt K mg) : GFn P w K mg base CX0 1 T.a__law_most T.d__law_most ["asks", "place"] (spG K (fun _ _ _ => False) 2 (ofP m__law_most)) :=
  g_pure (m := 6) (F := f__law_most) T.F__law_most sc__law_most rfl fun np cdv A outer s H E hnp hr hgd => by
    have hgd : (cxOf CX0 P w K mg base sc_N__law_most "_law_most" (defScope st__law_most) T.a__law_most cdv A outer s H E).nox.A.guards = some [] := hgd
    obtain ⟨nn, pa⟩ := np
    have hnp : nn = 2 := hnp
    subst hnp
    exact (dss_cons (ds_tg .va (de_tup (da_cons de_int (da_cons de_int (da_cons de_non da_nil)))) (dg_tup rfl (dgs_cons (dg_name sc__law_most.nd rfl (by first | exact Or.inl rfl | exact Or.inr rfl)) (dgs_cons (dg_name sc__law_most.nd rfl (by first | exact Or.inl rfl | exact Or.inr rfl)) (dgs_cons (dg_name sc__law_most.nd rfl (by first | exact Or.inl rfl | exact Or.inr rfl)) dgs_nil)))))
    (dss_cons (ds_for .bo PassesOwn.never rfl (di_enum (by rfl) T.z_enumerate (da_cons (de_nm 0) da_nil)) (dg_tup rfl (dgs_cons (dg_name sc__law_most.nd rfl (by first | exact Or.inl rfl | exact Or.inr rfl)) (dgs_cons (dg_tup rfl (dgs_cons (dg_name sc__law_most.nd rfl (by first | exact Or.inl rfl | exact Or.inr rfl)) (dgs_cons (dg_name sc__law_most.nd rfl (by first | exact Or.inl rfl | exact Or.inr rfl)) dgs_nil))) dgs_nil))) (dss_cons (ds_if .an (dt_eq hr (de_ix (de_nm 6) de_int) (de_nm 1)) (dss_cons (ds_va sc__law_most.nd rfl (by first | exact Or.inl rfl | exact Or.inr rfl) (de_at .an (de_sub (de_nm 2) de_int)))
    (dss_one (ds_if .an (dt_gt (de_sub de_int (de_nm 2)) (de_nm 3)) (dss_one (ds_par .va rfl sc__law_most.nd rfl rfl (by decide) (by rfl) (by rfl) (da_cons (de_at .an (de_sub de_int (de_nm 2))) (da_cons (de_nm 5) da_nil)) (by rfl))) dss_nil))) dss_nil)
    (dss_one (ds_if .an (dt_eq hr (de_nm 7) (de_tup (da_cons (de_nm 1) da_nil))) (dss_one (ds_va sc__law_most.nd rfl (by first | exact Or.inl rfl | exact Or.inr rfl) (de_at .an (de_add (de_nm 2) de_int)))) dss_nil))))
    (dss_one (ds_ret (de_tup (da_cons (de_nm 3) (da_cons (de_nm 4) da_nil)))))))
theorem b_is_yard (T : Txt K mg) : Binds K T.d_is_yard ["thing"] [] := T.F_is_yard.binds fun _ _ _ _ _ _ us hl => match us, hl with | [_], _ => rfl
set_option maxHeartbeats 4000000 in
theorem G_is_yard (T : Txt K mg) : GFn P w K mg base CX0 2 T.a_is_yard T.d_is_yard ["thing"] (spG K (fun _ _ _ => False) 1 (ofP m_is_yard)) :=
  g_pure (m := 1) (F := f_is_yard) T.F_is_yard sc_is_yard rfl fun np cdv A outer s H E hnp hr hgd => by
    have hgd : (cxOf CX0 P w K mg base sc_N_is_yard "is_yard" (defScope st_is_yard) T.a_is_yard cdv A outer s H E).nox.A.guards = some [] := hgd
    obtain ⟨nn, pa⟩ := np
    have hnp : nn = 1 := hnp
    subst hnp
    exact (dss_cons (ds_if .an (DW.t (dw_or (dt_not (dt_val (de_isi ok_tuple (by rfl) T.z_isinstance (by rfl) T.z_tuple (by decide +kernel) (de_nm 0)))) (dw_or1 (dt_not (dt_chain op_le os_B2 op_le os_B2 de_int (de_callB call_len cs_len (by rfl) T.z_len (by decide +kernel) (da_cons (de_nm 0) da_nil)) (de_glob (v := .int 9) (by rfl) T.k_MOST_PLACES.2 ⟨_, rfl⟩ fun _ _ => .int _)))))) (dss_one (ds_ret de_bl)) dss_nil)
    (dss_one (ds_ret (de_at .an (de_callB (cr_all rfl) cs_all (by rfl) T.z_all (by decide +kernel) (da_cons (DN.de (dn_lc (own := [("room", 1)]) .bp rfl sc_is_yard.nd (di_seq (de_nm 0)) (blkOk_by (own := [("room", 1)]) (N := sc_N_is_yard) (sc := defScope st_is_yard) (by decide +kernel)) (by decide) (off_nm 1) (fun _ _ _ _ _ => (dg_name sc_is_yard.nd rfl (by first | exact Or.inl rfl | exact Or.inr rfl))) (fun _ _ _ _ _ => dts_nil) (fun _ _ _ _ _ => (de_or (de_is (de_nm 1) de_non) (de_one (de_call .an (G_is_amount T) (hr.mono (by decide)) hgd (by rfl) T.g_is_amount T.F_is_amount.kp (b_is_amount T) pass0 (fun _ _ z => z) (da_cons (de_nm 1) da_nil))))))) da_nil))))))
theorem b_is_place (T : Txt K mg) : Binds K T.d_is_place ["yard", "thing"] [] := T.F_is_place.binds fun _ _ _ _ _ _ us hl => match us, hl with | [_, _], _ => rfl
set_option maxHeartbeats 4000000 in
theorem G_is_place (T : Txt K mg) : GFn P w K mg base CX0 2 T.a_is_place T.d_is_place ["yard", "thing"] (spG K (fun _ _ _ => False) 2 (ofP m_is_place)) :=
  g_pure (m := 0) (F := f_is_place) T.F_is_place sc_is_place rfl fun np cdv A outer s H E hnp hr hgd => by
    have hgd : (cxOf CX0 P w K mg base sc_N_is_place "is_place" (defScope st_is_place) T.a_is_place cdv A outer s H E).nox.A.guards = some [] := hgd
    obtain ⟨nn, pa⟩ := np
    have hnp : nn = 2 := hnp
    subst hnp
    exact (dss_one (ds_ret (de_at .an (de_and (de_call .an (G_is_amount T) (hr.mono (by decide)) hgd (by rfl) T.g_is_amount T.F_is_amount.kp (b_is_amount T) pass0 (fun _ _ z => z) (da_cons (de_nm 1) da_nil)) (de_one (de_lt (de_nm 1) (de_callB call_len cs_len (by rfl) T.z_len (by decide +kernel) (da_cons (de_nm 0) da_nil))))))))
theorem b_asked (T : Txt K mg) : Binds K T.d_asked ["yard", "standing", "ask"] [] := T.F_asked.binds fun _ _ _ _ _ _ us hl => match us, hl with | [_, _, _], _ => rfl
set_option maxHeartbeats 4000000 in
theorem G_asked (T : Txt K mg) : GFn P w K mg base CX0 2 T.a_asked T.d_asked ["yard", "standing", "ask"] (spG K (fun _ _ _ => False) 3 (ofP m_asked)) :=
  g_pure (m := 4) (F := f_asked) T.F_asked sc_asked rfl fun np cdv A outer s H E hnp hr hgd => by
    have hgd : (cxOf CX0 P w K mg base sc_N_asked "asked" (defScope st_asked) T.a_asked cdv A outer s H E).nox.A.guards = some [] := hgd
    obtain ⟨nn, pa⟩ := np
    have hnp : nn = 3 := hnp
    subst hnp
    exact (dss_cons (ds_tg .va (de_nm 2) (dg_tup rfl (dgs_cons (dg_name sc_asked.nd rfl (by first | exact Or.inl rfl | exact Or.inr rfl)) (dgs_cons (dg_name sc_asked.nd rfl (by first | exact Or.inl rfl | exact Or.inr rfl)) dgs_nil))))
    (dss_cons (ds_va sc_asked.nd rfl (by first | exact Or.inl rfl | exact Or.inr rfl) (de_call .an (G_taken_from T) (hr.mono (by decide)) hgd (by rfl) T.g_taken_from T.F_taken_from.kp (b_taken_from T) pass0 (fun _ _ z => z) (da_cons (de_nm 1) (da_cons (de_nm 3) da_nil))))
    (dss_cons (ds_if .an (dt_is (de_nm 5) de_non) (dss_one (ds_ret (de_tup (da_cons de_non (da_cons (de_nm 1) da_nil))))) dss_nil)
    (dss_cons (ds_va sc_asked.nd rfl (by first | exact Or.inl rfl | exact Or.inr rfl) (de_call .an (G_changed T) (hr.mono (by decide)) hgd (by rfl) T.g_changed T.F_changed.kp (b_changed T) pass0 (fun _ _ z => z) (da_cons (de_nm 1) (da_cons (de_nm 5) (da_cons (de_neg de_int) da_nil)))))
    (dss_cons (ds_va sc_asked.nd rfl (by first | exact Or.inl rfl | exact Or.inr rfl) (de_call .an (G_left_at T) (hr.mono (by decide)) hgd (by rfl) T.g_left_at T.F_left_at.kp (b_left_at T) pass0 (fun _ _ z => z) (da_cons (de_nm 0) (da_cons (de_nm 1) (da_cons (de_nm 4) da_nil)))))
    (dss_one (ds_ret (de_tup (da_cons (de_tup (da_cons (de_nm 5) (da_cons (de_nm 6) da_nil))) (da_cons (de_if (dt_at .an (dt_is (de_nm 6) de_non)) (de_nm 1) (de_call .an (G_changed T) (hr.mono (by decide)) hgd (by rfl) T.g_changed T.F_changed.kp (b_changed T) pass0 (fun _ _ z => z) (da_cons (de_nm 1) (da_cons (de_nm 6) (da_cons de_int da_nil))))) da_nil))))))))))
theorem b_need_some (T : Txt K mg) : Binds K T.d_need_some ["day", "some"] [] := T.F_need_some.binds fun _ _ _ _ _ _ us hl => match us, hl with | [_, _], _ => rfl
set_option maxHeartbeats 4000000 in
theorem G_need_some (T : Txt K mg) : GFn P w K mg base CX0 2 T.a_need_some T.d_need_some ["day", "some"] (spG K (fun _ _ _ => False) 2 (ofP m_need_some)) :=
  g_pure (m := 2) (F := f_need_some) T.F_need_some sc_need_some rfl fun np cdv A outer s H E hnp hr hgd => by
    have hgd : (cxOf CX0 P w K mg base sc_N_need_some "need_some" (defScope st_need_some) T.a_need_some cdv A outer s H E).nox.A.guards = some [] := hgd
    obtain ⟨nn, pa⟩ := np
    have hnp : nn = 2 := hnp
    subst hnp
    exact (dss_cons (ds_if .an (DW.t (dw_or (dt_not (dt_val (de_isi ok_list (by rfl) T.z_isinstance (by rfl) T.z_list (by decide +kernel) (de_nm 1)))) (dw_or1 (dt_not (dt_val (de_callB (cr_all rfl) cs_all (by rfl) T.z_all (by decide +kernel) (da_cons (DN.de (dn_lc (own := [("one", 2)]) .bp rfl sc_need_some.nd (di_seq (de_nm 1)) (blkOk_by (own := [("one", 2)]) (N := sc_N_need_some) (sc := defScope st_need_some) (by decide +kernel)) (by decide) (off_nm 2) (fun _ _ _ _ _ => (dg_name sc_need_some.nd rfl (by first | exact Or.inl rfl | exact Or.inr rfl))) (fun _ _ _ _ _ => dts_nil) (fun _ _ _ _ _ => (de_and (de_call .an (G_is_amount T) (hr.mono (by decide)) hgd (by rfl) T.g_is_amount T.F_is_amount.kp (b_is_amount T) pass0 (fun _ _ z => z) (da_cons (de_nm 2) da_nil)) (de_one (de_lt (de_nm 2) (de_callB call_len cs_len (by rfl) T.z_len (by decide +kernel) (da_cons (de_nm 0) da_nil)))))))) da_nil))))))) (dss_one ds_never) dss_nil)
    (dss_one (ds_if .an (dt_not (dt_val (de_callB (cr_all rfl) cs_all (by rfl) T.z_all (by decide +kernel) (da_cons (DN.de (dn_lc (own := [("one", 2), ("other", 3)]) .bp rfl sc_need_some.nd (di_zip (by rfl) T.z_zip (da_cons (de_nm 1) (da_cons (de_sl (de_nm 1) (do_some de_int) do_none) da_nil))) (blkOk_by (own := [("one", 2), ("other", 3)]) (N := sc_N_need_some) (sc := defScope st_need_some) (by decide +kernel)) (by decide) (off_tup (off_cons (off_nm 2) (off_cons (off_nm 3) off_nil))) (fun _ _ _ _ _ => (dg_tup rfl (dgs_cons (dg_name sc_need_some.nd rfl (by first | exact Or.inl rfl | exact Or.inr rfl)) (dgs_cons (dg_name sc_need_some.nd rfl (by first | exact Or.inl rfl | exact Or.inr rfl)) dgs_nil)))) (fun _ _ _ _ _ => dts_nil) (fun _ _ _ _ _ => (de_lt (de_nm 2) (de_nm 3))))) da_nil)))) (dss_one ds_never) dss_nil)))
theorem b_need_most (T : Txt K mg) : Binds K T.d_need_most ["most"] [] := T.F_need_most.binds fun _ _ _ _ _ _ us hl => match us, hl with | [_], _ => rfl
set_option maxHeartbeats 4000000 in
theorem G_need_most (T : Txt K mg) : GFn P w K mg base CX0 2 T.a_need_most T.d_need_most ["most"] (spG K (fun _ _ _ => False) 1 (ofP m_need_most)) :=
  g_pure (m := 0) (F := f_need_most) T.F_need_most sc_need_most rfl fun np cdv A outer s H E hnp hr hgd => by
    have hgd : (cxOf CX0 P w K mg base sc_N_need_most "need_most" (defScope st_need_most) T.a_need_most cdv A outer s H E).nox.A.guards = some [] := hgd
    obtain ⟨nn, pa⟩ := np
    have hnp : nn = 1 := hnp
    subst hnp
    exact (dss_one (ds_if .an (DW.t (dw_or (dt_not (dt_val (de_call .an (G_is_amount T) (hr.mono (by decide)) hgd (by rfl) T.g_is_amount T.F_is_amount.kp (b_is_amount T) pass0 (fun _ _ z => z) (da_cons (de_nm 0) da_nil)))) (dw_or1 (dt_lt (de_nm 0) de_int)))) (dss_one ds_never) dss_nil))
theorem b__law_unlike (T : Txt K mg) : Binds K T.d__law_unlike ["bag", "size", "least", "high"] [] := T.F__law_unlike.binds fun _ _ _ _ _ _ us hl => match us, hl with | [_, _, _, _], _ => rfl
set_option maxHeartbeats 4000000 in
theorem G__law_unlike (T : Txt K mg) : GFn P w K mg base CX0 2 T.a__law_unlike T.d__law_unlike ["bag", "size", "least", "high"] (spG K (fun _ _ _ => False) 4 (ofO1 o__law_unlike)) :=
  g_own (m := 3) (F := f__law_unlike) T.F__law_unlike sc__law_unlike rfl fun np cdv A outer s H E hnp hr hgd => by
    have hgd : (cxOf CX0 P w K mg base sc_N__law_unlike "_law_unlike" (defScope st__law_unlike) T.a__law_unlike cdv A outer s H E).nox.A.guards = some [] := hgd
    obtain ⟨nn, pa⟩ := np
    have hnp : nn = 4 := hnp
    subst hnp
    exact (dss_cons (ds_ow sc__law_unlike.nd rfl (by first | exact Or.inl rfl | exact Or.inr rfl) (dn_lrng rfl (by rfl) T.z_list (by rfl) T.z_range (de_nm 1)))
    (dss_cons (ds_ow sc__law_unlike.nd rfl (by first | exact Or.inl rfl | exact Or.inr rfl) (dn_lst da_nil))
    (dss_cons (ds_for .bo PassesOwn.never rfl (di_range1 (by rfl) T.z_range (da_cons (de_callB (call_minA rfl) cs_min (by rfl) T.z_min (by decide +kernel) (da_cons (de_nm 1) (da_cons (de_add (de_nm 2) (de_callO (G__law_take T) (hr.mono (by decide)) hgd (by rfl) T.g__law_take T.F__law_take.kp (b__law_take T) pass0 (fun _ _ z => z) (pv 0) (da_cons (de_at .an (de_add (de_sub (de_nm 3) (de_nm 2)) de_int)) da_nil))) da_nil))) da_nil)) (dg_name sc__law_unlike.nd rfl (by first | exact Or.inl rfl | exact Or.inr rfl)) (dss_one (ds_append 5 (pv 5) (by exact de_pop 4 (pv 4) (de_callO (G__law_take T) (hr.mono (by decide)) hgd (by rfl) T.g__law_take T.F__law_take.kp (b__law_take T) pass0 (fun _ _ z => z) (pv 0) (da_cons (de_at .an (de_callB call_len cs_len (by rfl) T.z_len (by decide +kernel) (da_cons (de_nm 4) da_nil))) da_nil)) fun h => pe_bm PySem.F.plainAttrs_list PySem.F.slot_list_pop PySem.F.type_list_pop mt_popAt (pv 4) (pa_cons h pa_nil)) (hpe := fun h => pe_bm PySem.F.plainAttrs_list PySem.F.slot_list_append PySem.F.type_list_append mt_append (pv 5) (pa_cons h pa_nil)))))
    (dss_one (ds_ret (de_callTy call_tupX cs_tuple (by rfl) T.z_tuple (by decide +kernel) (da_cons (de_nm 5) da_nil)))))))
theorem b_are_places (T : Txt K mg) : Binds K T.d_are_places ["yard", "thing"] [] := T.F_are_places.binds fun _ _ _ _ _ _ us hl => match us, hl with | [_, _], _ => rfl
set_option maxHeartbeats 4000000 in
theorem G_are_places (T : Txt K mg) : GFn P w K mg base CX0 3 T.a_are_places T.d_are_places ["yard", "thing"] (spG K (fun _ _ _ => False) 2 (ofP m_are_places)) :=
  g_pure (m := 1) (F := f_are_places) T.F_are_places sc_are_places rfl fun np cdv A outer s H E hnp hr hgd => by
    have hgd : (cxOf CX0 P w K mg base sc_N_are_places "are_places" (defScope st_are_places) T.a_are_places cdv A outer s H E).nox.A.guards = some [] := hgd
    obtain ⟨nn, pa⟩ := np
    have hnp : nn = 2 := hnp
    subst hnp
    exact (dss_cons (ds_if .an (DW.t (dw_or (dt_not (dt_val (de_isi ok_tuple (by rfl) T.z_isinstance (by rfl) T.z_tuple (by decide +kernel) (de_nm 1)))) (dw_or1 (dt_not (dt_val (de_callB (cr_all rfl) cs_all (by rfl) T.z_all (by decide +kernel) (da_cons (DN.de (dn_lc (own := [("one", 2)]) .bp rfl sc_are_places.nd (di_seq (de_nm 1)) (blkOk_by (own := [("one", 2)]) (N := sc_N_are_places) (sc := defScope st_are_places) (by decide +kernel)) (by decide) (off_nm 2) (fun _ _ _ _ _ => (dg_name sc_are_places.nd rfl (by first | exact Or.inl rfl | exact Or.inr rfl))) (fun _ _ _ _ _ => dts_nil) (fun _ _ _ _ _ => (de_call .an (G_is_place T) (hr.mono (by decide)) hgd (by rfl) T.g_is_place T.F_is_place.kp (b_is_place T) pass0 (fun _ _ z => z) (da_cons (de_nm 0) (da_cons (de_nm 2) da_nil)))))) da_nil))))))) (dss_one (ds_ret de_bl)) dss_nil)
    (dss_one (ds_ret (de_at .an (de_eq hr (de_lset (by rfl) T.z_len (by rfl) T.z_set (de_nm 1)) (de_callB call_len cs_len (by rfl) T.z_len (by decide +kernel) (da_cons (de_nm 1) da_nil)))))))
theorem b_need_yard (T : Txt K mg) : Binds K T.d_need_yard ["yard"] [] := T.F_need_yard.binds fun _ _ _ _ _ _ us hl => match us, hl with | [_], _ => rfl
set_option maxHeartbeats 4000000 in
theorem G_need_yard (T : Txt K mg) : GFn P w K mg base CX0 3 T.a_need_yard T.d_need_yard ["yard"] (spG K (fun _ _ _ => False) 1 (ofP m_need_yard)) :=
  g_pure (m := 0) (F := f_need_yard) T.F_need_yard sc_need_yard rfl fun np cdv A outer s H E hnp hr hgd => by
    have hgd : (cxOf CX0 P w K mg base sc_N_need_yard "need_yard" (defScope st_need_yard) T.a_need_yard cdv A outer s H E).nox.A.guards = some [] := hgd
    obtain ⟨nn, pa⟩ := np
    have hnp : nn = 1 := hnp
    subst hnp
    exact (dss_one (ds_if .an (dt_not (dt_val (de_call .an (G_is_yard T) (hr.mono (by decide)) hgd (by rfl) T.g_is_yard T.F_is_yard.kp (b_is_yard T) pass0 (fun _ _ z => z) (da_cons (de_nm 0) da_nil)))) (dss_one ds_never) dss_nil))
theorem b_gone (T : Txt K mg) : Binds K T.d_gone ["yard", "standing", "day"] [] := T.F_gone.binds fun _ _ _ _ _ _ us hl => match us, hl with | [_, _, _], _ => rfl
set_option maxHeartbeats 4000000 in
theorem G_gone (T : Txt K mg) : GFn P w K mg base CX0 3 T.a_gone T.d_gone ["yard", "standing", "day"] (spG K (fun _ _ _ => False) 3 (ofP m_gone)) :=
  g_pure (m := 3) (F := f_gone) T.F_gone sc_gone rfl fun np cdv A outer s H E hnp hr hgd => by
    have hgd : (cxOf CX0 P w K mg base sc_N_gone "gone" (defScope st_gone) T.a_gone cdv A outer s H E).nox.A.guards = some [] := hgd
    obtain ⟨nn, pa⟩ := np
    have hnp : nn = 3 := hnp
    subst hnp
    exact (dss_cons (ds_ow sc_gone.nd rfl (by first | exact Or.inl rfl | exact Or.inr rfl) (dn_lst da_nil))
    (dss_cons (ds_for .bo PassesOwn.never rfl (di_seq (de_nm 2)) (dg_name sc_gone.nd rfl (by first | exact Or.inl rfl | exact Or.inr rfl)) (dss_cons (ds_tg .va (de_call .an (G_asked T) (hr.mono (by decide)) hgd (by rfl) T.g_asked T.F_asked.kp (b_asked T) pass0 (fun _ _ z => z) (da_cons (de_nm 0) (da_cons (de_nm 1) (da_cons (de_nm 4) da_nil)))) (dg_tup rfl (dgs_cons (dg_name sc_gone.nd rfl (by first | exact Or.inl rfl | exact Or.inr rfl)) (dgs_cons (dg_name sc_gone.nd rfl (by first | exact Or.inl rfl | exact Or.inr rfl)) dgs_nil))))
    (dss_one (ds_append 3 (pv 3) (de_nm 5) (hpe := fun h => pe_bm PySem.F.plainAttrs_list PySem.F.slot_list_append PySem.F.type_list_append mt_append (pv 3) (pa_cons h pa_nil))))))
    (dss_one (ds_ret (de_tup (da_cons (de_nm 3) (da_cons (de_nm 1) da_nil)))))))
theorem b__law_plain (T : Txt K mg) : Binds K T.d__law_plain ["bag", "size", "long"] [] := T.F__law_plain.binds fun _ _ _ _ _ _ us hl => match us, hl with | [_, _, _], _ => rfl
set_option maxHeartbeats 4000000 in
theorem G__law_plain (T : Txt K mg) : GFn P w K mg base CX0 3 T.a__law_plain T.d__law_plain ["bag", "size", "long"] (spG K (fun _ _ _ => False) 3 (ofO1 o__law_plain)) :=
  g_own (m := 3) (F := f__law_plain) T.F__law_plain sc__law_plain rfl fun np cdv A outer s H E hnp hr hgd => by
    have hgd : (cxOf CX0 P w K mg base sc_N__law_plain "_law_plain" (defScope st__law_plain) T.a__law_plain cdv A outer s H E).nox.A.guards = some [] := hgd
    obtain ⟨nn, pa⟩ := np
    have hnp : nn = 3 := hnp
    subst hnp
    exact (dss_cons (ds_ow sc__law_plain.nd rfl (by first | exact Or.inl rfl | exact Or.inr rfl) (dn_lst da_nil))
    (dss_cons (ds_for .bo PassesOwn.never rfl (di_range1 (by rfl) T.z_range (da_cons (de_nm 2) da_nil)) (dg_name sc__law_plain.nd rfl (by first | exact Or.inl rfl | exact Or.inr rfl)) (dss_cons (ds_va sc__law_plain.nd rfl (by first | exact Or.inl rfl | exact Or.inr rfl) (de_callO (G__law_unlike T) (hr.mono (by decide)) hgd (by rfl) T.g__law_unlike T.F__law_unlike.kp (b__law_unlike T) pass0 (fun _ _ z => z) (pv 0) (da_cons (de_nm 1) (da_cons de_int (da_cons de_int da_nil)))))
    (dss_cons (ds_if .bo (DW.t (dw_and (dt_gt (de_nm 4) de_int) (dw_and (dt_ne hr (de_at .an (de_ix (de_ix (de_nm 3) (de_neg de_int)) de_int)) (de_tup da_nil)) (dw_and1 (dt_eq hr (de_callO (G__law_take T) (hr.mono (by decide)) hgd (by rfl) T.g__law_take T.F__law_take.kp (b__law_take T) pass0 (fun _ _ z => z) (pv 0) (da_cons de_int da_nil)) de_int))))) (dss_one (ds_va sc__law_plain.nd rfl (by first | exact Or.inl rfl | exact Or.inr rfl) (de_at .an (de_ix (de_ix (de_nm 3) (de_neg de_int)) de_int)))) dss_nil)
    (dss_one (ds_append 3 (pv 3) (de_tup (da_cons (de_nm 5) (da_cons (de_callO (G__law_unlike T) (hr.mono (by decide)) hgd (by rfl) T.g__law_unlike T.F__law_unlike.kp (b__law_unlike T) pass0 (fun _ _ z => z) (pv 0) (da_cons (de_nm 1) (da_cons (de_callTy call_int1 cs_int (by rfl) T.z_int (by decide +kernel) (da_cons (de_gt (de_callO (G__law_take T) (hr.mono (by decide)) hgd (by rfl) T.g__law_take T.F__law_take.kp (b__law_take T) pass0 (fun _ _ z => z) (pv 0) (da_cons de_int da_nil)) de_int) da_nil)) (da_cons de_int da_nil)))) da_nil))) (hpe := fun h => pe_bm PySem.F.plainAttrs_list PySem.F.slot_list_append PySem.F.type_list_append mt_append (pv 3) (pa_cons h pa_nil)))))))
    (dss_one (ds_ret (de_nm 3)))))
theorem b_is_standing (T : Txt K mg) : Binds K T.d_is_standing ["yard", "thing"] [] := T.F_is_standing.binds fun _ _ _ _ _ _ us hl => match us, hl with | [_, _], _ => rfl
set_option maxHeartbeats 4000000 in
theorem G_is_standing (T : Txt K mg) : GFn P w K mg base CX0 4 T.a_is_standing T.d_is_standing ["yard", "thing"] (spG K (fun _ _ _ => False) 2 (ofP m_is_standing)) :=
  g_pure (m := 2) (F := f_is_standing) T.F_is_standing sc_is_standing rfl fun np cdv A outer s H E hnp hr hgd => by
    have hgd : (cxOf CX0 P w K mg base sc_N_is_standing "is_standing" (defScope st_is_standing) T.a_is_standing cdv A outer s H E).nox.A.guards = some [] := hgd
    obtain ⟨nn, pa⟩ := np
    have hnp : nn = 2 := hnp
    subst hnp
    exact (dss_cons (ds_expr .an (de_call .an (G_need_yard T) (hr.mono (by decide)) hgd (by rfl) T.g_need_yard T.F_need_yard.kp (b_need_yard T) pass0 (fun _ _ z => z) (da_cons (de_nm 0) da_nil)))
    (dss_cons (ds_if .an (DW.t (dw_or (dt_not (dt_val (de_isi ok_tuple (by rfl) T.z_isinstance (by rfl) T.z_tuple (by decide +kernel) (de_nm 1)))) (dw_or (dt_ne hr (de_callB call_len cs_len (by rfl) T.z_len (by decide +kernel) (da_cons (de_nm 1) da_nil)) (de_callB call_len cs_len (by rfl) T.z_len (by decide +kernel) (da_cons (de_nm 0) da_nil))) (dw_or1 (dt_not (dt_val (de_callB (cr_all rfl) cs_all (by rfl) T.z_all (by decide +kernel) (da_cons (DN.de (dn_lc (own := [("one", 2)]) .bp rfl sc_is_standing.nd (di_seq (de_nm 1)) (blkOk_by (own := [("one", 2)]) (N := sc_N_is_standing) (sc := defScope st_is_standing) (by decide +kernel)) (by decide) (off_nm 2) (fun _ _ _ _ _ => (dg_name sc_is_standing.nd rfl (by first | exact Or.inl rfl | exact Or.inr rfl))) (fun _ _ _ _ _ => dts_nil) (fun _ _ _ _ _ => (de_call .an (G_is_amount T) (hr.mono (by decide)) hgd (by rfl) T.g_is_amount T.F_is_amount.kp (b_is_amount T) pass0 (fun _ _ z => z) (da_cons (de_nm 2) da_nil))))) da_nil)))))))) (dss_one (ds_ret de_bl)) dss_nil)
    (dss_one (ds_ret (de_at .an (de_callB (cr_all rfl) cs_all (by rfl) T.z_all (by decide +kernel) (da_cons (DN.de (dn_lc (own := [("one", 2), ("room", 3)]) .bp rfl sc_is_standing.nd (di_zip (by rfl) T.z_zip (da_cons (de_nm 1) (da_cons (de_nm 0) da_nil))) (blkOk_by (own := [("one", 2), ("room", 3)]) (N := sc_N_is_standing) (sc := defScope st_is_standing) (by decide +kernel)) (by decide) (off_tup (off_cons (off_nm 2) (off_cons (off_nm 3) off_nil))) (fun _ _ _ _ _ => (dg_tup rfl (dgs_cons (dg_name sc_is_standing.nd rfl (by first | exact Or.inl rfl | exact Or.inr rfl)) (dgs_cons (dg_name sc_is_standing.nd rfl (by first | exact Or.inl rfl | exact Or.inr rfl)) dgs_nil)))) (fun _ _ _ _ _ => dts_nil) (fun _ _ _ _ _ => (de_or (de_is (de_nm 3) de_non) (de_one (de_le (de_nm 2) (de_nm 3))))))) da_nil)))))))
theorem b_is_ask (T : Txt K mg) : Binds K T.d_is_ask ["yard", "thing"] [] := T.F_is_ask.binds fun _ _ _ _ _ _ us hl => match us, hl with | [_, _], _ => rfl
set_option maxHeartbeats 4000000 in
theorem G_is_ask (T : Txt K mg) : GFn P w K mg base CX0 4 T.a_is_ask T.d_is_ask ["yard", "thing"] (spG K (fun _ _ _ => False) 2 (ofP m_is_ask)) :=
  g_pure (m := 1) (F := f_is_ask) T.F_is_ask sc_is_ask rfl fun np cdv A outer s H E hnp hr hgd => by
    have hgd : (cxOf CX0 P w K mg base sc_N_is_ask "is_ask" (defScope st_is_ask) T.a_is_ask cdv A outer s H E).nox.A.guards = some [] := hgd
    obtain ⟨nn, pa⟩ := np
    have hnp : nn = 2 := hnp
    subst hnp
    exact (dss_one (ds_ret (de_at .an (de_and (de_isi ok_tuple (by rfl) T.z_isinstance (by rfl) T.z_tuple (by decide +kernel) (de_nm 1)) (de_and (de_eq hr (de_callB call_len cs_len (by rfl) T.z_len (by decide +kernel) (da_cons (de_nm 1) da_nil)) de_int) (de_one (de_callB (cr_all rfl) cs_all (by rfl) T.z_all (by decide +kernel) (da_cons (DN.de (dn_lc (own := [("some", 2)]) .bp rfl sc_is_ask.nd (di_seq (de_nm 1)) (blkOk_by (own := [("some", 2)]) (N := sc_N_is_ask) (sc := defScope st_is_ask) (by decide +kernel)) (by decide) (off_nm 2) (fun _ _ _ _ _ => (dg_name sc_is_ask.nd rfl (by first | exact Or.inl rfl | exact Or.inr rfl))) (fun _ _ _ _ _ => dts_nil) (fun _ _ _ _ _ => (de_call .an (G_are_places T) (hr.mono (by decide)) hgd (by rfl) T.g_are_places T.F_are_places.kp (b_are_places T) pass0 (fun _ _ z => z) (da_cons (de_nm 0) (da_cons (de_nm 2) da_nil)))))) da_nil))))))))
theorem b_served_by (T : Txt K mg) : Binds K T.d_served_by ["yard", "standing", "day"] [] := T.F_served_by.binds fun _ _ _ _ _ _ us hl => match us, hl with | [_, _, _], _ => rfl
set_option maxHeartbeats 4000000 in
theorem G_served_by (T : Txt K mg) : GFn P w K mg base CX0 4 T.a_served_by T.d_served_by ["yard", "standing", "day"] (spG K (fun _ _ _ => False) 3 (ofP m_served_by)) :=
  g_pure (m := 2) (F := f_served_by) T.F_served_by sc_served_by rfl fun np cdv A outer s H E hnp hr hgd => by
    have hgd : (cxOf CX0 P w K mg base sc_N_served_by "served_by" (defScope st_served_by) T.a_served_by cdv A outer s H E).nox.A.guards = some [] := hgd
    obtain ⟨nn, pa⟩ := np
    have hnp : nn = 3 := hnp
    subst hnp
    exact (dss_one (ds_ret (DN.de (dn_lc (own := [("number", 3), ("row", 4)]) .bp rfl sc_served_by.nd (di_enum (by rfl) T.z_enumerate (da_cons (de_ix (de_call .an (G_gone T) (hr.mono (by decide)) hgd (by rfl) T.g_gone T.F_gone.kp (b_gone T) pass0 (fun _ _ z => z) (da_cons (de_nm 0) (da_cons (de_nm 1) (da_cons (de_nm 2) da_nil)))) de_int) da_nil)) (blkOk_by (own := [("number", 3), ("row", 4)]) (N := sc_N_served_by) (sc := defScope st_served_by) (by decide +kernel)) (by decide) (off_tup (off_cons (off_nm 3) (off_cons (off_nm 4) off_nil))) (fun _ _ _ _ _ => (dg_tup rfl (dgs_cons (dg_name sc_served_by.nd rfl (by first | exact Or.inl rfl | exact Or.inr rfl)) (dgs_cons (dg_name sc_served_by.nd rfl (by first | exact Or.inl rfl | exact Or.inr rfl)) dgs_nil)))) (fun _ _ _ _ _ => (dts_one (dt_at .an (dt_isnot (de_nm 4) de_non)))) (fun _ _ _ _ _ => (de_nm 3))))))
theorem b_all_up_to (T : Txt K mg) : Binds K T.d_all_up_to ["bounds"] [] := T.F_all_up_to.binds fun _ _ _ _ _ _ us hl => match us, hl with | [_], _ => rfl
set_option maxHeartbeats 4000000 in
theorem G_all_up_to (T : Txt K mg) : GFn P w K mg base CX0 4 T.a_all_up_to T.d_all_up_to ["bounds"] (spG K (fun _ _ _ => False) 1 (ofP m_all_up_to)) :=
  g_pure (m := 4) (F := f_all_up_to) T.F_all_up_to sc_all_up_to rfl fun np cdv A outer s H E hnp hr hgd => by
    have hgd : (cxOf CX0 P w K mg base sc_N_all_up_to "all_up_to" (defScope st_all_up_to) T.a_all_up_to cdv A outer s H E).nox.A.guards = some [] := hgd
    obtain ⟨nn, pa⟩ := np
    have hnp : nn = 1 := hnp
    subst hnp
    exact (dss_cons (ds_va sc_all_up_to.nd rfl (by first | exact Or.inl rfl | exact Or.inr rfl) (de_lst (da_cons (de_tup da_nil) da_nil)))
    (dss_cons (ds_for .bo PassesOwn.never rfl (di_seq (de_nm 0)) (dg_name sc_all_up_to.nd rfl (by first | exact Or.inl rfl | exact Or.inr rfl)) (dss_one (ds_asg_of (ps_setLc2 (i := 1) (own := [("some", 3), ("lie", 4)]) (vs1 := [4]) rfl sc_all_up_to.nd rfl rfl (sw_true rfl rfl rfl (by decide +kernel)) (di_seq (de_nm 1)) (blkOk_by (own := [("some", 3), ("lie", 4)]) (N := sc_N_all_up_to) (sc := defScope st_all_up_to) (by decide +kernel)) (by decide) (fun _ _ _ _ _ => (dg_name sc_all_up_to.nd rfl (by first | exact Or.inl rfl | exact Or.inr rfl))) (fun _ _ _ _ _ => dts_nil) (fun _ _ _ _ _ => by exact pi_range1 (by rfl) T.z_range (pa_cons (de_at .an (de_add (de_nm 2) de_int)) pa_nil)) (fun _ _ _ _ _ => pg_name sc_all_up_to.nd rfl (by first | exact Or.inl rfl | exact Or.inr rfl)) (fun _ _ _ _ _ => dts_nil) (fun _ _ _ _ _ => by exact (de_add (de_nm 3) (de_tup (da_cons (de_nm 4) da_nil))))) (fun σ H Q h => (lrc_main (by decide) (by decide) (off_nm 3) (tN_lv h))))))
    (dss_one (ds_ret (DN.de (dn_sortedKT hr totK_ok (keyT_total (k := 0) T.F_by_total sc_by_total (by rfl) (b_by_total T) (hr.mono (by decide)) T.z_sum (fun _ _ _ => rfl) (Or.inl rfl)) (by rfl) T.z_sorted (by decide +kernel) (by rfl) T.g_by_total (de_nm 1)))))))
theorem b_is_day (T : Txt K mg) : Binds K T.d_is_day ["yard", "thing"] [] := T.F_is_day.binds fun _ _ _ _ _ _ us hl => match us, hl with | [_, _], _ => rfl
set_option maxHeartbeats 4000000 in
theorem G_is_day (T : Txt K mg) : GFn P w K mg base CX0 5 T.a_is_day T.d_is_day ["yard", "thing"] (spG K (fun _ _ _ => False) 2 (ofP m_is_day)) :=
  g_pure (m := 1) (F := f_is_day) T.F_is_day sc_is_day rfl fun np cdv A outer s H E hnp hr hgd => by
    have hgd : (cxOf CX0 P w K mg base sc_N_is_day "is_day" (defScope st_is_day) T.a_is_day cdv A outer s H E).nox.A.guards = some [] := hgd
    obtain ⟨nn, pa⟩ := np
    have hnp : nn = 2 := hnp
    subst hnp
    exact (dss_cons (ds_expr .an (de_call .an (G_need_yard T) (hr.mono (by decide)) hgd (by rfl) T.g_need_yard T.F_need_yard.kp (b_need_yard T) pass0 (fun _ _ z => z) (da_cons (de_nm 0) da_nil)))
    (dss_one (ds_ret (de_at .an (de_and (de_isi ok_list (by rfl) T.z_isinstance (by rfl) T.z_list (by decide +kernel) (de_nm 1)) (de_one (de_callB (cr_all rfl) cs_all (by rfl) T.z_all (by decide +kernel) (da_cons (DN.de (dn_lc (own := [("one", 2)]) .bp rfl sc_is_day.nd (di_seq (de_nm 1)) (blkOk_by (own := [("one", 2)]) (N := sc_N_is_day) (sc := defScope st_is_day) (by decide +kernel)) (by decide) (off_nm 2) (fun _ _ _ _ _ => (dg_name sc_is_day.nd rfl (by first | exact Or.inl rfl | exact Or.inr rfl))) (fun _ _ _ _ _ => dts_nil) (fun _ _ _ _ _ => (de_call .an (G_is_ask T) (hr.mono (by decide)) hgd (by rfl) T.g_is_ask T.F_is_ask.kp (b_is_ask T) pass0 (fun _ _ z => z) (da_cons (de_nm 0) (da_cons (de_nm 2) da_nil)))))) da_nil))))))))
theorem b_need_standing (T : Txt K mg) : Binds K T.d_need_standing ["yard", "standing"] [] := T.F_need_standing.binds fun _ _ _ _ _ _ us hl => match us, hl with | [_, _], _ => rfl
set_option maxHeartbeats 4000000 in
theorem G_need_standing (T : Txt K mg) : GFn P w K mg base CX0 5 T.a_need_standing T.d_need_standing ["yard", "standing"] (spG K (fun _ _ _ => False) 2 (ofP m_need_standing)) :=
  g_pure (m := 0) (F := f_need_standing) T.F_need_standing sc_need_standing rfl fun np cdv A outer s H E hnp hr hgd => by
    have hgd : (cxOf CX0 P w K mg base sc_N_need_standing "need_standing" (defScope st_need_standing) T.a_need_standing cdv A outer s H E).nox.A.guards = some [] := hgd
    obtain ⟨nn, pa⟩ := np
    have hnp : nn = 2 := hnp
    subst hnp
    exact (dss_one (ds_if .an (dt_not (dt_val (de_call .an (G_is_standing T) (hr.mono (by decide)) hgd (by rfl) T.g_is_standing T.F_is_standing.kp (b_is_standing T) pass0 (fun _ _ z => z) (da_cons (de_nm 0) (da_cons (de_nm 1) da_nil))))) (dss_one ds_never) dss_nil))
theorem b_first_without (T : Txt K mg) : Binds K T.d_first_without ["yard", "standing", "day", "some"] [] := T.F_first_without.binds fun _ _ _ _ _ _ us hl => match us, hl with | [_, _, _, _], _ => rfl
set_option maxHeartbeats 4000000 in
theorem G_first_without (T : Txt K mg) : GFn P w K mg base CX0 5 T.a_first_without T.d_first_without ["yard", "standing", "day", "some"] (spG K (fun _ _ _ => False) 4 (ofP m_first_without)) :=
  g_pure (m := 2) (F := f_first_without) T.F_first_without sc_first_without rfl fun np cdv A outer s H E hnp hr hgd => by
    have hgd : (cxOf CX0 P w K mg base sc_N_first_without "first_without" (defScope st_first_without) T.a_first_without cdv A outer s H E).nox.A.guards = some [] := hgd
    obtain ⟨nn, pa⟩ := np
    have hnp : nn = 4 := hnp
    subst hnp
    exact (dss_cons (ds_asg_dc (ps_setDc (i := 4) (own := [("number", 5)]) rfl sc_first_without.nd rfl rfl (sw_trueD rfl rfl rfl (by decide +kernel)) (di_seq (de_call .an (G_served_by T) (hr.mono (by decide)) hgd (by rfl) T.g_served_by T.F_served_by.kp (b_served_by T) pass0 (fun _ _ z => z) (da_cons (de_nm 0) (da_cons (de_nm 1) (da_cons (de_nm 2) da_nil))))) (blkOk_by (own := [("number", 5)]) (N := sc_N_first_without) (sc := defScope st_first_without) (by decide +kernel)) (fun _ _ _ _ _ => (dg_name sc_first_without.nd rfl (by first | exact Or.inl rfl | exact Or.inr rfl))) (fun _ _ _ _ _ => dts_nil) (fun _ _ _ _ _ => by exact (de_nm 5)) (fun _ _ _ _ _ => by exact de_bl)) (fun σ H Q h => (dc_main (by decide) (off_nm 5) (tDN_lv h))))
    (dss_cons (ds_for .bo PassesOwn.never rfl (di_seq (de_nm 3)) (dg_name sc_first_without.nd rfl (by first | exact Or.inl rfl | exact Or.inr rfl)) (dss_one (ds_if .an (dt_notinDc hr (de_nm 5) (pv 4)) (dss_one (ds_ret (de_nm 5))) dss_nil)))
    (dss_one (ds_ret de_non))))
theorem b_need_day (T : Txt K mg) : Binds K T.d_need_day ["yard", "day"] [] := T.F_need_day.binds fun _ _ _ _ _ _ us hl => match us, hl with | [_, _], _ => rfl
set_option maxHeartbeats 4000000 in
theorem G_need_day (T : Txt K mg) : GFn P w K mg base CX0 6 T.a_need_day T.d_need_day ["yard", "day"] (spG K (fun _ _ _ => False) 2 (ofP m_need_day)) :=
  g_pure (m := 0) (F := f_need_day) T.F_need_day sc_need_day rfl fun np cdv A outer s H E hnp hr hgd => by
    have hgd : (cxOf CX0 P w K mg base sc_N_need_day "need_day" (defScope st_need_day) T.a_need_day cdv A outer s H E).nox.A.guards = some [] := hgd
    obtain ⟨nn, pa⟩ := np
    have hnp : nn = 2 := hnp
    subst hnp
    exact (dss_one (ds_if .an (dt_not (dt_val (de_call .an (G_is_day T) (hr.mono (by decide)) hgd (by rfl) T.g_is_day T.F_is_day.kp (b_is_day T) pass0 (fun _ _ z => z) (da_cons (de_nm 0) (da_cons (de_nm 1) da_nil))))) (dss_one ds_never) dss_nil))
theorem b_need_all (T : Txt K mg) : Binds K T.d_need_all ["yard", "standing", "day"] [] := T.F_need_all.binds fun _ _ _ _ _ _ us hl => match us, hl with | [_, _, _], _ => rfl
set_option maxHeartbeats 4000000 in
theorem G_need_all (T : Txt K mg) : GFn P w K mg base CX0 7 T.a_need_all T.d_need_all ["yard", "standing", "day"] (spG K (fun _ _ _ => False) 3 (ofP m_need_all)) :=
  g_pure (m := 0) (F := f_need_all) T.F_need_all sc_need_all rfl fun np cdv A outer s H E hnp hr hgd => by
    have hgd : (cxOf CX0 P w K mg base sc_N_need_all "need_all" (defScope st_need_all) T.a_need_all cdv A outer s H E).nox.A.guards = some [] := hgd
    obtain ⟨nn, pa⟩ := np
    have hnp : nn = 3 := hnp
    subst hnp
    exact (dss_cons (ds_expr .an (de_call .an (G_need_yard T) (hr.mono (by decide)) hgd (by rfl) T.g_need_yard T.F_need_yard.kp (b_need_yard T) pass0 (fun _ _ z => z) (da_cons (de_nm 0) da_nil)))
    (dss_cons (ds_expr .an (de_call .an (G_need_standing T) (hr.mono (by decide)) hgd (by rfl) T.g_need_standing T.F_need_standing.kp (b_need_standing T) pass0 (fun _ _ z => z) (da_cons (de_nm 0) (da_cons (de_nm 1) da_nil))))
    (dss_one (ds_expr .an (de_call .an (G_need_day T) (hr.mono (by decide)) hgd (by rfl) T.g_need_day T.F_need_day.kp (b_need_day T) pass0 (fun _ _ z => z) (da_cons (de_nm 0) (da_cons (de_nm 2) da_nil)))))))
theorem bd_least_for (T : Txt K mg) : ∃ ds, Vals [V.int 5000] ds ∧ Binds K T.d_least_for ["yard", "day", "some", "most"] ds := T.D_least_for.binds0 3 (by simp) rfl fun _ _ _ _ _ _ us ks h1 h2 => match us, ks, h1, h2 with | [_, _, _], [_], _, _ => ⟨_, _, _, _, _, _, rfl, rfl, rfl⟩
set_option maxHeartbeats 4000000 in
theorem G_least_for (T : Txt K mg) : GFn P w K mg base CX0 7 T.a_least_for T.d_least_for ["yard", "day", "some", "most"] (spG K (fun _ _ _ => False) 4 (ofP m_least_for)) :=
  g_pure (m := 6) (F := f_least_for) T.F_least_for sc_least_for rfl fun np cdv A outer s H E hnp hr hgd => by
    have hgd : (cxOf CX0 P w K mg base sc_N_least_for "least_for" (defScope st_least_for) T.a_least_for cdv A outer s H E).nox.A.guards = some [] := hgd
    obtain ⟨nn, pa⟩ := np
    have hnp : nn = 4 := hnp
    subst hnp
    exact (dss_cons (ds_expr .an (de_call .an (G_need_yard T) (hr.mono (by decide)) hgd (by rfl) T.g_need_yard T.F_need_yard.kp (b_need_yard T) pass0 (fun _ _ z => z) (da_cons (de_nm 0) da_nil)))
    (dss_cons (ds_expr .an (de_call .an (G_need_day T) (hr.mono (by decide)) hgd (by rfl) T.g_need_day T.F_need_day.kp (b_need_day T) pass0 (fun _ _ z => z) (da_cons (de_nm 0) (da_cons (de_nm 1) da_nil))))
    (dss_cons (ds_expr .an (de_call .an (G_need_open T) (hr.mono (by decide)) hgd (by rfl) T.g_need_open T.F_need_open.kp (b_need_open T) pass0 (fun _ _ z => z) (da_cons (de_nm 0) da_nil)))
    (dss_cons (ds_expr .an (de_call .an (G_need_some T) (hr.mono (by decide)) hgd (by rfl) T.g_need_some T.F_need_some.kp (b_need_some T) pass0 (fun _ _ z => z) (da_cons (de_nm 1) (da_cons (de_nm 2) da_nil))))
    (dss_cons (ds_expr .an (de_call .an (G_need_most T) (hr.mono (by decide)) hgd (by rfl) T.g_need_most T.F_need_most.kp (b_need_most T) pass0 (fun _ _ z => z) (da_cons (de_nm 3) da_nil)))
    (dss_cons (ds_va sc_least_for.nd rfl (by first | exact Or.inl rfl | exact Or.inr rfl) (de_call .an (G_wanted T) (hr.mono (by decide)) hgd (by rfl) T.g_wanted T.F_wanted.kp (b_wanted T) pass0 (fun _ _ z => z) (da_cons (de_nm 0) (da_cons (de_nm 1) da_nil))))
    (dss_cons (ds_va sc_least_for.nd rfl (by first | exact Or.inl rfl | exact Or.inr rfl) de_int)
    (dss_cons (ds_for .bo PassesOwn.never rfl (di_seq (de_nm 4)) (dg_name sc_least_for.nd rfl (by first | exact Or.inl rfl | exact Or.inr rfl)) (dss_one (ds_amn sc_least_for.nd rfl (by first | exact Or.inl rfl | exact Or.inr rfl) (de_add (de_nm 6) de_int))))
    (dss_cons (ds_if .an (dt_gt (de_nm 5) (de_nm 3)) (dss_one ds_never) dss_nil)
    (dss_cons (ds_ow sc_least_for.nd rfl (by first | exact Or.inl rfl | exact Or.inr rfl) (dn_lst da_nil))
    (dss_cons (ds_for .bo PassesOwn.never rfl (di_seq (de_call .an (G_all_up_to T) (hr.mono (by decide)) hgd (by rfl) T.g_all_up_to T.F_all_up_to.kp (b_all_up_to T) pass0 (fun _ _ z => z) (da_cons (de_nm 4) da_nil))) (dg_name sc_least_for.nd rfl (by first | exact Or.inl rfl | exact Or.inr rfl)) (dss_one (ds_if .an (dt_not (dt_val (de_callB (cr_any rfl) cs_any (by rfl) T.z_any (by decide +kernel) (da_cons (DN.de (dn_lc (own := [("less", 9)]) .an rfl sc_least_for.nd (di_seq (de_nm 7)) (blkOk_by (own := [("less", 9)]) (N := sc_N_least_for) (sc := defScope st_least_for) (by decide +kernel)) (by decide) (off_nm 9) (fun _ _ _ _ _ => (dg_name sc_least_for.nd rfl (by first | exact Or.inl rfl | exact Or.inr rfl))) (fun _ _ _ _ _ => dts_nil) (fun _ _ _ _ _ => (de_call .an (G_is_above T) (hr.mono (by decide)) hgd (by rfl) T.g_is_above T.F_is_above.kp (b_is_above T) pass0 (fun _ _ z => z) (da_cons (de_nm 8) (da_cons (de_nm 9) da_nil)))))) da_nil)))) (dss_one (ds_if .an (dt_is (de_call .an (G_first_without T) (hr.mono (by decide)) hgd (by rfl) T.g_first_without T.F_first_without.kp (b_first_without T) pass0 (fun _ _ z => z) (da_cons (de_nm 0) (da_cons (de_nm 8) (da_cons (de_nm 1) (da_cons (de_nm 2) da_nil))))) de_non) (dss_one (ds_append 7 (pv 7) (de_nm 8) (hpe := fun h => pe_bm PySem.F.plainAttrs_list PySem.F.slot_list_append PySem.F.type_list_append mt_append (pv 7) (pa_cons h pa_nil)))) dss_nil)) dss_nil)))
    (dss_one (ds_ret (DN.de (dn_sortedP hr (by rfl) T.z_sorted (by decide +kernel) (de_nm 7))))))))))))))))
theorem b_lacks (T : Txt K mg) : Binds K T.d_lacks ["yard", "standing", "day", "some"] [] := T.F_lacks.binds fun _ _ _ _ _ _ us hl => match us, hl with | [_, _, _, _], _ => rfl
set_option maxHeartbeats 4000000 in
theorem G_lacks (T : Txt K mg) : GFn P w K mg base CX0 7 T.a_lacks T.d_lacks ["yard", "standing", "day", "some"] (spG K (fun _ _ _ => False) 4 (ofP m_lacks)) :=
  g_pure (m := 0) (F := f_lacks) T.F_lacks sc_lacks rfl fun np cdv A outer s H E hnp hr hgd => by
    have hgd : (cxOf CX0 P w K mg base sc_N_lacks "lacks" (defScope st_lacks) T.a_lacks cdv A outer s H E).nox.A.guards = some [] := hgd
    obtain ⟨nn, pa⟩ := np
    have hnp : nn = 4 := hnp
    subst hnp
    exact (dss_cons (ds_expr .an (de_call .an (G_need_yard T) (hr.mono (by decide)) hgd (by rfl) T.g_need_yard T.F_need_yard.kp (b_need_yard T) pass0 (fun _ _ z => z) (da_cons (de_nm 0) da_nil)))
    (dss_cons (ds_expr .an (de_call .an (G_need_standing T) (hr.mono (by decide)) hgd (by rfl) T.g_need_standing T.F_need_standing.kp (b_need_standing T) pass0 (fun _ _ z => z) (da_cons (de_nm 0) (da_cons (de_nm 1) da_nil))))
    (dss_cons (ds_expr .an (de_call .an (G_need_day T) (hr.mono (by decide)) hgd (by rfl) T.g_need_day T.F_need_day.kp (b_need_day T) pass0 (fun _ _ z => z) (da_cons (de_nm 0) (da_cons (de_nm 2) da_nil))))
    (dss_cons (ds_expr .an (de_call .an (G_need_some T) (hr.mono (by decide)) hgd (by rfl) T.g_need_some T.F_need_some.kp (b_need_some T) pass0 (fun _ _ z => z) (da_cons (de_nm 2) (da_cons (de_nm 3) da_nil))))
    (dss_one (ds_ret (de_call .an (G_first_without T) (hr.mono (by decide)) hgd (by rfl) T.g_first_without T.F_first_without.kp (b_first_without T) pass0 (fun _ _ z => z) (da_cons (de_nm 0) (da_cons (de_nm 1) (da_cons (de_nm 2) (da_cons (de_nm 3) da_nil)))))))))))
theorem b_go (T : Txt K mg) : Binds K T.d_go ["yard", "standing", "day"] [] := T.F_go.binds fun _ _ _ _ _ _ us hl => match us, hl with | [_, _, _], _ => rfl
set_option maxHeartbeats 4000000 in
theorem G_go (T : Txt K mg) : GFn P w K mg base CX0 8 T.a_go T.d_go ["yard", "standing", "day"] (spG K (fun _ _ _ => False) 3 (ofP m_go)) :=
  g_pure (m := 0) (F := f_go) T.F_go sc_go rfl fun np cdv A outer s H E hnp hr hgd => by
    have hgd : (cxOf CX0 P w K mg base sc_N_go "go" (defScope st_go) T.a_go cdv A outer s H E).nox.A.guards = some [] := hgd
    obtain ⟨nn, pa⟩ := np
    have hnp : nn = 3 := hnp
    subst hnp
    exact (dss_cons (ds_expr .an (de_call .an (G_need_all T) (hr.mono (by decide)) hgd (by rfl) T.g_need_all T.F_need_all.kp (b_need_all T) pass0 (fun _ _ z => z) (da_cons (de_nm 0) (da_cons (de_nm 1) (da_cons (de_nm 2) da_nil)))))
    (dss_one (ds_ret (de_call .an (G_gone T) (hr.mono (by decide)) hgd (by rfl) T.g_gone T.F_gone.kp (b_gone T) pass0 (fun _ _ z => z) (da_cons (de_nm 0) (da_cons (de_nm 1) (da_cons (de_nm 2) da_nil)))))))
theorem b_one_fewer (T : Txt K mg) : Binds K T.d_one_fewer ["yard", "standing", "day", "some"] [] := T.F_one_fewer.binds fun _ _ _ _ _ _ us hl => match us, hl with | [_, _, _, _], _ => rfl
set_option maxHeartbeats 4000000 in
theorem G_one_fewer (T : Txt K mg) : GFn P w K mg base CX0 8 T.a_one_fewer T.d_one_fewer ["yard", "standing", "day", "some"] (spG K (fun _ _ _ => False) 4 (ofP m_one_fewer)) :=
  g_pure (m := 4) (F := f_one_fewer) T.F_one_fewer sc_one_fewer rfl fun np cdv A outer s H E hnp hr hgd => by
    have hgd : (cxOf CX0 P w K mg base sc_N_one_fewer "one_fewer" (defScope st_one_fewer) T.a_one_fewer cdv A outer s H E).nox.A.guards = some [] := hgd
    obtain ⟨nn, pa⟩ := np
    have hnp : nn = 4 := hnp
    subst hnp
    exact (dss_cons (ds_expr .an (de_call .an (G_lacks T) (hr.mono (by decide)) hgd (by rfl) T.g_lacks T.F_lacks.kp (b_lacks T) pass0 (fun _ _ z => z) (da_cons (de_nm 0) (da_cons (de_nm 1) (da_cons (de_nm 2) (da_cons (de_nm 3) da_nil))))))
    (dss_cons (ds_ow sc_one_fewer.nd rfl (by first | exact Or.inl rfl | exact Or.inr rfl) (dn_lst da_nil))
    (dss_cons (ds_for .bo PassesOwn.never rfl (di_enumA (by rfl) T.z_enumerate (da_cons (de_nm 1) da_nil)) (dg_tup rfl (dgs_cons (dg_name sc_one_fewer.nd rfl (by first | exact Or.inl rfl | exact Or.inr rfl)) (dgs_cons (dg_name sc_one_fewer.nd rfl (by first | exact Or.inl rfl | exact Or.inr rfl)) dgs_nil))) (dss_one (ds_if .an (dt_gt (de_nm 6) de_int) (dss_cons (ds_va sc_one_fewer.nd rfl (by first | exact Or.inl rfl | exact Or.inr rfl) (de_add (de_add (de_sl (de_nm 1) do_none (do_some (de_nm 5))) (de_tup (da_cons (de_at .an (de_sub (de_nm 6) de_int)) da_nil))) (de_sl (de_nm 1) (do_some (de_at .an (de_add (de_nm 5) de_int))) do_none)))
    (dss_one (ds_append 4 (pv 4) (de_tup (da_cons (de_nm 5) (da_cons (de_call .an (G_first_without T) (hr.mono (by decide)) hgd (by rfl) T.g_first_without T.F_first_without.kp (b_first_without T) pass0 (fun _ _ z => z) (da_cons (de_nm 0) (da_cons (de_nm 7) (da_cons (de_nm 2) (da_cons (de_nm 3) da_nil))))) da_nil))) (hpe := fun h => pe_bm PySem.F.plainAttrs_list PySem.F.slot_list_append PySem.F.type_list_append mt_append (pv 4) (pa_cons h pa_nil))))) dss_nil)))
    (dss_one (ds_ret (de_nm 4))))))
theorem b__law_right (T : Txt K mg) : Binds K T.d__law_right ["bag"] [] := T.F__law_right.binds fun _ _ _ _ _ _ us hl => match us, hl with | [_], _ => rfl
set_option maxHeartbeats 4000000 in
theorem G__law_right (T : Txt K mg) : GFn P w K mg base CX0 9 T.a__law_right T.d__law_right ["bag"] (spG K (fun _ _ _ => False) 1 (ofO1 o__law_right)) :=
  g_own (m := 15) (F := f__law_right) T.F__law_right sc__law_right rfl fun np cdv A outer s H E hnp hr hgd => by
    have hgd : (cxOf CX0 P w K mg base sc_N__law_right "_law_right" (defScope st__law_right) T.a__law_right cdv A outer s H E).nox.A.guards = some [] := hgd
    obtain ⟨nn, pa⟩ := np
    have hnp : nn = 1 := hnp
    subst hnp
    exact (dss_cons (ds_va sc__law_right.nd rfl (by first | exact Or.inl rfl | exact Or.inr rfl) (de_eq hr (de_callO (G__law_take T) (hr.mono (by decide)) hgd (by rfl) T.g__law_take T.F__law_take.kp (b__law_take T) pass0 (fun _ _ z => z) (pv 0) (da_cons de_int da_nil)) de_int))
    (dss_cons (ds_va sc__law_right.nd rfl (by first | exact Or.inl rfl | exact Or.inr rfl) (de_add de_int (de_callO (G__law_take T) (hr.mono (by decide)) hgd (by rfl) T.g__law_take T.F__law_take.kp (b__law_take T) pass0 (fun _ _ z => z) (pv 0) (da_cons (de_ix (de_lst (da_cons de_int (da_cons de_int da_nil))) (de_at .an (de_callTy call_int1 cs_int (by rfl) T.z_int (by decide +kernel) (da_cons (de_nm 1) da_nil)))) da_nil))))
    (dss_cons (ds_va sc__law_right.nd rfl (by first | exact Or.inl rfl | exact Or.inr rfl) (de_callO (G__law_plain T) (hr.mono (by decide)) hgd (by rfl) T.g__law_plain T.F__law_plain.kp (b__law_plain T) pass0 (fun _ _ z => z) (pv 0) (da_cons (de_nm 2) (da_cons (de_callO (G__law_take T) (hr.mono (by decide)) hgd (by rfl) T.g__law_take T.F__law_take.kp (b__law_take T) pass0 (fun _ _ z => z) (pv 0) (da_cons (de_ix (de_lst (da_cons de_int (da_cons de_int da_nil))) (de_at .an (de_callTy call_int1 cs_int (by rfl) T.z_int (by decide +kernel) (da_cons (de_nm 1) da_nil)))) da_nil)) da_nil))))
    (dss_cons (ds_va sc__law_right.nd rfl (by first | exact Or.inl rfl | exact Or.inr rfl) (de_mulT (de_tup (da_cons de_non da_nil)) (de_nm 2)))
    (dss_cons (ds_va sc__law_right.nd rfl (by first | exact Or.inl rfl | exact Or.inr rfl) (DN.de (dn_lv (dn_lc (own := [("place", 12)]) .bp rfl sc__law_right.nd (di_range1 (by rfl) T.z_range (da_cons (de_nm 2) da_nil)) (blkOk_by (own := [("place", 12)]) (N := sc_N__law_right) (sc := defScope st__law_right) (by decide +kernel)) (by decide) (off_nm 12) (fun _ _ _ _ _ => (dg_name sc__law_right.nd rfl (by first | exact Or.inl rfl | exact Or.inr rfl))) (fun _ _ _ _ _ => dts_nil) (fun _ _ _ _ _ => (de_call .an (G__law_most T) (hr.mono (by decide)) hgd (by rfl) T.g__law_most T.F__law_most.kp (b__law_most T) pass0 (fun _ _ z => z) (da_cons (de_nm 3) (da_cons (de_nm 12) da_nil))))))))
    (dss_cons (ds_va sc__law_right.nd rfl (by first | exact Or.inl rfl | exact Or.inr rfl) (de_callTy call_tupX cs_tuple (by rfl) T.z_tuple (by decide +kernel) (da_cons (DN.de (dn_lv (dn_lc (own := [("high", 13), ("first", 14)]) .bp rfl sc__law_right.nd (di_seq (de_nm 5)) (blkOk_by (own := [("high", 13), ("first", 14)]) (N := sc_N__law_right) (sc := defScope st__law_right) (by decide +kernel)) (by decide) (off_tup (off_cons (off_nm 13) (off_cons (off_nm 14) off_nil))) (fun _ _ _ _ _ => (dg_tup rfl (dgs_cons (dg_name sc__law_right.nd rfl (by first | exact Or.inl rfl | exact Or.inr rfl)) (dgs_cons (dg_name sc__law_right.nd rfl (by first | exact Or.inl rfl | exact Or.inr rfl)) dgs_nil)))) (fun _ _ _ _ _ => dts_nil) (fun _ _ _ _ _ => (de_nm 13))))) da_nil)))
    (dss_cons (ds_va sc__law_right.nd rfl (by first | exact Or.inl rfl | exact Or.inr rfl) (DN.de (dn_lrng rfl (by rfl) T.z_list (by rfl) T.z_range (de_at .an (de_callB call_len cs_len (by rfl) T.z_len (by decide +kernel) (da_cons (de_nm 3) da_nil))))))
    (dss_cons (ds_if .an (dt_isnot (de_call .an (G_lacks T) (hr.mono (by decide)) hgd (by rfl) T.g_lacks T.F_lacks.kp (b_lacks T) pass0 (fun _ _ z => z) (da_cons (de_nm 4) (da_cons (de_nm 6) (da_cons (de_nm 3) (da_cons (de_nm 7) da_nil))))) de_non) (dss_one (ds_ret de_bl)) dss_nil)
    (dss_cons (ds_asg_of (ps_setLc (i := 8) (own := [("place", 12)]) rfl sc__law_right.nd rfl rfl (sw_true rfl rfl rfl (by decide +kernel)) (di_range1 (by rfl) T.z_range (da_cons (de_nm 2) da_nil)) (blkOk_by (own := [("place", 12)]) (N := sc_N__law_right) (sc := defScope st__law_right) (by decide +kernel)) (fun _ _ _ _ _ => (dg_name sc__law_right.nd rfl (by first | exact Or.inl rfl | exact Or.inr rfl))) (fun _ _ _ _ _ => by exact (dts_one (dt_at .an (dt_gt (de_ix (de_nm 6) (de_nm 12)) de_int)))) (fun _ _ _ _ _ => by exact (de_tup (da_cons (de_nm 12) (da_cons (de_ix (de_ix (de_nm 5) (de_nm 12)) de_int) da_nil))))) (fun σ H Q h => (lc_main (by decide) (off_nm 12) (tN_lv h))))
    (dss_cons (ds_if .an (dt_ne hr (de_call .an (G_one_fewer T) (hr.mono (by decide)) hgd (by rfl) T.g_one_fewer T.F_one_fewer.kp (b_one_fewer T) pass0 (fun _ _ z => z) (da_cons (de_nm 4) (da_cons (de_nm 6) (da_cons (de_nm 3) (da_cons (de_nm 7) da_nil))))) (de_nm 8)) (dss_one (ds_ret de_bl)) dss_nil)
    (dss_cons (ds_if .an (DW.t (dw_and (dt_val (de_nm 1)) (dw_and1 (dt_ne hr (de_callK (G_least_for T) rfl (hr.mono (by decide)) hgd (by rfl) T.g_least_for T.F_least_for.kp (kb_of (ks := ["most"]) (is := [0, 1, 2, 3]) (by simp) (fun_kbinds T.F_least_for fun _ _ _ _ _ _ us ws h1 h2 => match us, ws, h1, h2 with | [_, _, _], [_], _, _ => rfl)) pass0 (fun _ _ z => z) (da_cons (de_nm 4) (da_cons (de_nm 3) (da_cons (de_nm 7) da_nil))) (dk_cons (de_pow de_int de_int) dk_nil)) (de_lst (da_cons (de_nm 6) da_nil)))))) (dss_one (ds_ret de_bl)) dss_nil)
    (dss_cons (ds_tg .va (de_call .an (G_go T) (hr.mono (by decide)) hgd (by rfl) T.g_go T.F_go.kp (b_go T) pass0 (fun _ _ z => z) (da_cons (de_nm 4) (da_cons (de_nm 6) (da_cons (de_nm 3) da_nil)))) (dg_tup rfl (dgs_cons (dg_name sc__law_right.nd rfl (by first | exact Or.inl rfl | exact Or.inr rfl)) (dgs_cons (dg_name sc__law_right.nd rfl (by first | exact Or.inl rfl | exact Or.inr rfl)) dgs_nil))))
    (dss_cons (ds_va sc__law_right.nd rfl (by first | exact Or.inl rfl | exact Or.inr rfl) (de_at .an (de_callB call_len cs_len (by rfl) T.z_len (by decide +kernel) (da_cons (DN.de (dn_lc (own := [("row", 15)]) .bp rfl sc__law_right.nd (di_seq (de_nm 9)) (blkOk_by (own := [("row", 15)]) (N := sc_N__law_right) (sc := defScope st__law_right) (by decide +kernel)) (by decide) (off_nm 15) (fun _ _ _ _ _ => (dg_name sc__law_right.nd rfl (by first | exact Or.inl rfl | exact Or.inr rfl))) (fun _ _ _ _ _ => (dts_one (DW.t (dw_or (dt_is (de_nm 15) de_non) (dw_or1 (dt_is (de_ix (de_nm 15) de_int) de_non)))))) (fun _ _ _ _ _ => de_int))) da_nil))))
    (dss_one (ds_ret (de_at .an (de_and (de_eq hr (de_add (de_callB (cr_sumA rfl) cs_sumA (by rfl) T.z_sum (by decide +kernel) (da_cons (de_nm 10) da_nil)) (de_nm 11)) (de_callB (cr_sumA rfl) cs_sumA (by rfl) T.z_sum (by decide +kernel) (da_cons (de_nm 6) da_nil))) (de_one (de_notin hr de_non (de_nm 9))))))))))))))))))))
theorem b_law (T : Txt K mg) : Binds K T.d_law ["script"] [] := T.F_law.binds fun _ _ _ _ _ _ us hl => match us, hl with | [_], _ => rfl
set_option maxHeartbeats 4000000 in
theorem G_law (T : Txt K mg) : GFn P w K mg base CX0 10 T.a_law T.d_law ["script"] (spG K (fun _ _ _ => False) 1 (bodyF 1 f_law)) :=
  g_fn (m := 1) (F := f_law) T.F_law sc_law rfl fun np cdv A outer s H E hnp hr hgd => by
    have hgd : (cxOf CX0 P w K mg base sc_N_law "law" (defScope st_law) T.a_law cdv A outer s H E).nox.A.guards = some [] := hgd
    obtain ⟨nn, pa⟩ := np
    have hnp : nn = 1 := hnp
    subst hnp
    exact (dss_one (ds_ret (de_at .an (de_callB (cr_all rfl) cs_all (by rfl) T.z_all (by decide +kernel) (da_cons (DN.de (dn_lc (own := [("k", 1)]) .bp rfl sc_law.nd (di_range1 (by rfl) T.z_range (da_cons de_int da_nil)) (blkOk_by (own := [("k", 1)]) (N := sc_N_law) (sc := defScope st_law) (by decide +kernel)) (by decide) (off_nm 1) (fun _ _ _ _ _ => (dg_name sc_law.nd rfl (by first | exact Or.inl rfl | exact Or.inr rfl))) (fun _ _ _ _ _ => dts_nil) (fun _ _ _ _ _ => (de_callF (G__law_right T) (hr.mono (by decide)) hgd (by rfl) T.g__law_right T.F__law_right.kp (b__law_right T) pass0 (fun _ _ z => z) (de_call .an (G__law_bag T) (hr.mono (by decide)) hgd (by rfl) T.g__law_bag T.F__law_bag.kp (b__law_bag T) pass0 (fun _ _ z => z) (da_cons (de_callSc (G__law_cell_at T) (hr.mono (by decide)) hgd (by rfl) T.g__law_cell_at T.F__law_cell_at.kp (b__law_cell_at T) pass0 (fun _ _ z => z) (pv 0) (da_cons (de_nm 1) da_nil)) (da_cons (de_nm 1) da_nil))))))) da_nil)))))
end
theorem all_mk {w : World} {K : PySem.W.Frag} {h : Heap} {mg : Str → Option Value} {fa : Addr} (X : K.In h) (G : h.Ns mainGlobals mg) (hfa : mg "law" = some (.ref fa))
    {kD31 : Addr} {f0 f1 f2 f3 f4 f5 f6 f7 f8 f9 f10 f11 f12 f13 f14 f15 f16 f17 f18 f19 f20 f21 f22 f23 f24 f25 f26 f27 f28 f29 f30 f31 f32 f33 f34 f35 f36 : Addr} {od0 an0 od1 an1 od2 an2 od3 an3 od4 an4 od5 an5 od6 an6 od7 an7 od8 an8 od9 an9 od10 an10 od11 an11 od12 an12 od13 an13 od14 an14 od15 an15 od16 an16 od17 an17 od18 an18 od19 an19 od20 an20 od21 an21 od22 an22 od23 an23 od24 an24 od25 an25 od26 an26 od27 an27 od28 an28 od29 an29 od30 an30 od31 an31 od32 an32 od33 an33 od34 an34 od35 an35 od36 an36 : Option Addr} {sl0 sl1 sl2 sl3 sl4 sl5 sl6 sl7 sl8 sl9 sl10 sl11 sl12 sl13 sl14 sl15 sl16 sl17 sl18 sl19 sl20 sl21 sl22 sl23 sl24 sl25 sl26 sl27 sl28 sl29 sl30 sl31 sl32 sl33 sl34 sl35 sl36 : Array (Option Value)} {oc0 kV0 dc0 pm0 cd0 ct0 oc1 kV1 dc1 pm1 cd1 ct1 oc2 kV2 dc2 pm2 cd2 ct2 oc3 kV3 dc3 pm3 cd3 ct3 oc4 kV4 dc4 pm4 cd4 ct4 oc5 kV5 dc5 pm5 cd5 ct5 oc6 kV6 dc6 pm6 cd6 ct6 oc7 kV7 dc7 pm7 cd7 ct7 oc8 kV8 dc8 pm8 cd8 ct8 oc9 kV9 dc9 pm9 cd9 ct9 oc10 kV10 dc10 pm10 cd10 ct10 oc11 kV11 dc11 pm11 cd11 ct11 oc12 kV12 dc12 pm12 cd12 ct12 oc13 kV13 dc13 pm13 cd13 ct13 oc14 kV14 dc14 pm14 cd14 ct14 oc15 kV15 dc15 pm15 cd15 ct15 oc16 kV16 dc16 pm16 cd16 ct16 oc17 kV17 dc17 pm17 cd17 ct17 oc18 kV18 dc18 pm18 cd18 ct18 oc19 kV19 dc19 pm19 cd19 ct19 oc20 kV20 dc20 pm20 cd20 ct20 oc21 kV21 dc21 pm21 cd21 ct21 oc22 kV22 dc22 pm22 cd22 ct22 oc23 kV23 dc23 pm23 cd23 ct23 oc24 kV24 dc24 pm24 cd24 ct24 oc25 kV25 dc25 pm25 cd25 ct25 oc26 kV26 dc26 pm26 cd26 ct26 oc27 kV27 dc27 pm27 cd27 ct27 oc28 kV28 dc28 pm28 cd28 ct28 oc29 kV29 dc29 pm29 cd29 ct29 oc30 kV30 dc30 pm30 cd30 ct30 oc31 dc31 pm31 cd31 ct31 oc32 kV32 dc32 pm32 cd32 ct32 oc33 kV33 dc33 pm33 cd33 ct33 oc34 kV34 dc34 pm34 cd34 ct34 oc35 kV35 dc35 pm35 cd35 ct35 oc36 kV36 dc36 pm36 cd36 ct36 : Value}
    (a0 : PySem.W.nsIn K mainGlobals "is_amount" = some (some (.ref f0))) (l0 : K.lookup f0 = some ⟨oc0, od0, .func (PySem.W.fnOf "is_amount" "is_amount" (defArgs st_is_amount) (defBody st_is_amount) (defScope st_is_amount) .none kV0 dc0 pm0 an0 cd0 ct0), sl0⟩) (c0 : PySem.W.codeIn K cd0 "is_amount" = true) (k0 : PySem.W.keepIn K (.ref f0) = true)
    (a1 : PySem.W.nsIn K mainGlobals "changed" = some (some (.ref f1))) (l1 : K.lookup f1 = some ⟨oc1, od1, .func (PySem.W.fnOf "changed" "changed" (defArgs st_changed) (defBody st_changed) (defScope st_changed) .none kV1 dc1 pm1 an1 cd1 ct1), sl1⟩) (c1 : PySem.W.codeIn K cd1 "changed" = true) (k1 : PySem.W.keepIn K (.ref f1) = true)
    (a2 : PySem.W.nsIn K mainGlobals "taken_from" = some (some (.ref f2))) (l2 : K.lookup f2 = some ⟨oc2, od2, .func (PySem.W.fnOf "taken_from" "taken_from" (defArgs st_taken_from) (defBody st_taken_from) (defScope st_taken_from) .none kV2 dc2 pm2 an2 cd2 ct2), sl2⟩) (c2 : PySem.W.codeIn K cd2 "taken_from" = true) (k2 : PySem.W.keepIn K (.ref f2) = true)
    (a3 : PySem.W.nsIn K mainGlobals "left_at" = some (some (.ref f3))) (l3 : K.lookup f3 = some ⟨oc3, od3, .func (PySem.W.fnOf "left_at" "left_at" (defArgs st_left_at) (defBody st_left_at) (defScope st_left_at) .none kV3 dc3 pm3 an3 cd3 ct3), sl3⟩) (c3 : PySem.W.codeIn K cd3 "left_at" = true) (k3 : PySem.W.keepIn K (.ref f3) = true)
    (a4 : PySem.W.nsIn K mainGlobals "need_open" = some (some (.ref f4))) (l4 : K.lookup f4 = some ⟨oc4, od4, .func (PySem.W.fnOf "need_open" "need_open" (defArgs st_need_open) (defBody st_need_open) (defScope st_need_open) .none kV4 dc4 pm4 an4 cd4 ct4), sl4⟩) (c4 : PySem.W.codeIn K cd4 "need_open" = true) (k4 : PySem.W.keepIn K (.ref f4) = true)
    (a5 : PySem.W.nsIn K mainGlobals "is_above" = some (some (.ref f5))) (l5 : K.lookup f5 = some ⟨oc5, od5, .func (PySem.W.fnOf "is_above" "is_above" (defArgs st_is_above) (defBody st_is_above) (defScope st_is_above) .none kV5 dc5 pm5 an5 cd5 ct5), sl5⟩) (c5 : PySem.W.codeIn K cd5 "is_above" = true) (k5 : PySem.W.keepIn K (.ref f5) = true)
    (a6 : PySem.W.nsIn K mainGlobals "wanted" = some (some (.ref f6))) (l6 : K.lookup f6 = some ⟨oc6, od6, .func (PySem.W.fnOf "wanted" "wanted" (defArgs st_wanted) (defBody st_wanted) (defScope st_wanted) .none kV6 dc6 pm6 an6 cd6 ct6), sl6⟩) (c6 : PySem.W.codeIn K cd6 "wanted" = true) (k6 : PySem.W.keepIn K (.ref f6) = true)
    (a7 : PySem.W.nsIn K mainGlobals "by_total" = some (some (.ref f7))) (l7 : K.lookup f7 = some ⟨oc7, od7, .func (PySem.W.fnOf "by_total" "by_total" (defArgs st_by_total) (defBody st_by_total) (defScope st_by_total) .none kV7 dc7 pm7 an7 cd7 ct7), sl7⟩) (c7 : PySem.W.codeIn K cd7 "by_total" = true) (k7 : PySem.W.keepIn K (.ref f7) = true)
    (a8 : PySem.W.nsIn K mainGlobals "_law_cell_at" = some (some (.ref f8))) (l8 : K.lookup f8 = some ⟨oc8, od8, .func (PySem.W.fnOf "_law_cell_at" "_law_cell_at" (defArgs st__law_cell_at) (defBody st__law_cell_at) (defScope st__law_cell_at) .none kV8 dc8 pm8 an8 cd8 ct8), sl8⟩) (c8 : PySem.W.codeIn K cd8 "_law_cell_at" = true) (k8 : PySem.W.keepIn K (.ref f8) = true)
    (a9 : PySem.W.nsIn K mainGlobals "_law_bag" = some (some (.ref f9))) (l9 : K.lookup f9 = some ⟨oc9, od9, .func (PySem.W.fnOf "_law_bag" "_law_bag" (defArgs st__law_bag) (defBody st__law_bag) (defScope st__law_bag) .none kV9 dc9 pm9 an9 cd9 ct9), sl9⟩) (c9 : PySem.W.codeIn K cd9 "_law_bag" = true) (k9 : PySem.W.keepIn K (.ref f9) = true)
    (a10 : PySem.W.nsIn K mainGlobals "_law_take" = some (some (.ref f10))) (l10 : K.lookup f10 = some ⟨oc10, od10, .func (PySem.W.fnOf "_law_take" "_law_take" (defArgs st__law_take) (defBody st__law_take) (defScope st__law_take) .none kV10 dc10 pm10 an10 cd10 ct10), sl10⟩) (c10 : PySem.W.codeIn K cd10 "_law_take" = true) (k10 : PySem.W.keepIn K (.ref f10) = true)
    (a11 : PySem.W.nsIn K mainGlobals "_law_most" = some (some (.ref f11))) (l11 : K.lookup f11 = some ⟨oc11, od11, .func (PySem.W.fnOf "_law_most" "_law_most" (defArgs st__law_most) (defBody st__law_most) (defScope st__law_most) .none kV11 dc11 pm11 an11 cd11 ct11), sl11⟩) (c11 : PySem.W.codeIn K cd11 "_law_most" = true) (k11 : PySem.W.keepIn K (.ref f11) = true)
    (a12 : PySem.W.nsIn K mainGlobals "is_yard" = some (some (.ref f12))) (l12 : K.lookup f12 = some ⟨oc12, od12, .func (PySem.W.fnOf "is_yard" "is_yard" (defArgs st_is_yard) (defBody st_is_yard) (defScope st_is_yard) .none kV12 dc12 pm12 an12 cd12 ct12), sl12⟩) (c12 : PySem.W.codeIn K cd12 "is_yard" = true) (k12 : PySem.W.keepIn K (.ref f12) = true)
    (a13 : PySem.W.nsIn K mainGlobals "is_place" = some (some (.ref f13))) (l13 : K.lookup f13 = some ⟨oc13, od13, .func (PySem.W.fnOf "is_place" "is_place" (defArgs st_is_place) (defBody st_is_place) (defScope st_is_place) .none kV13 dc13 pm13 an13 cd13 ct13), sl13⟩) (c13 : PySem.W.codeIn K cd13 "is_place" = true) (k13 : PySem.W.keepIn K (.ref f13) = true)
    (a14 : PySem.W.nsIn K mainGlobals "asked" = some (some (.ref f14))) (l14 : K.lookup f14 = some ⟨oc14, od14, .func (PySem.W.fnOf "asked" "asked" (defArgs st_asked) (defBody st_asked) (defScope st_asked) .none kV14 dc14 pm14 an14 cd14 ct14), sl14⟩) (c14 : PySem.W.codeIn K cd14 "asked" = true) (k14 : PySem.W.keepIn K (.ref f14) = true)
    (a15 : PySem.W.nsIn K mainGlobals "need_some" = some (some (.ref f15))) (l15 : K.lookup f15 = some ⟨oc15, od15, .func (PySem.W.fnOf "need_some" "need_some" (defArgs st_need_some) (defBody st_need_some) (defScope st_need_some) .none kV15 dc15 pm15 an15 cd15 ct15), sl15⟩) (c15 : PySem.W.codeIn K cd15 "need_some" = true) (k15 : PySem.W.keepIn K (.ref f15) = true)
    (a16 : PySem.W.nsIn K mainGlobals "need_most" = some (some (.ref f16))) (l16 : K.lookup f16 = some ⟨oc16, od16, .func (PySem.W.fnOf "need_most" "need_most" (defArgs st_need_most) (defBody st_need_most) (defScope st_need_most) .none kV16 dc16 pm16 an16 cd16 ct16), sl16⟩) (c16 : PySem.W.codeIn K cd16 "need_most" = true) (k16 : PySem.W.keepIn K (.ref f16) = true)
    (a17 : PySem.W.nsIn K mainGlobals "_law_unlike" = some (some (.ref f17))) (l17 : K.lookup f17 = some ⟨oc17, od17, .func (PySem.W.fnOf "_law_unlike" "_law_unlike" (defArgs st__law_unlike) (defBody st__law_unlike) (defScope st__law_unlike) .none kV17 dc17 pm17 an17 cd17 ct17), sl17⟩) (c17 : PySem.W.codeIn K cd17 "_law_unlike" = true) (k17 : PySem.W.keepIn K (.ref f17) = true)
    (a18 : PySem.W.nsIn K mainGlobals "are_places" = some (some (.ref f18))) (l18 : K.lookup f18 = some ⟨oc18, od18, .func (PySem.W.fnOf "are_places" "are_places" (defArgs st_are_places) (defBody st_are_places) (defScope st_are_places) .none kV18 dc18 pm18 an18 cd18 ct18), sl18⟩) (c18 : PySem.W.codeIn K cd18 "are_places" = true) (k18 : PySem.W.keepIn K (.ref f18) = true)
    (a19 : PySem.W.nsIn K mainGlobals "need_yard" = some (some (.ref f19))) (l19 : K.lookup f19 = some ⟨oc19, od19, .func (PySem.W.fnOf "need_yard" "need_yard" (defArgs st_need_yard) (defBody st_need_yard) (defScope st_need_yard) .none kV19 dc19 pm19 an19 cd19 ct19), sl19⟩) (c19 : PySem.W.codeIn K cd19 "need_yard" = true) (k19 : PySem.W.keepIn K (.ref f19) = true)
    (a20 : PySem.W.nsIn K mainGlobals "gone" = some (some (.ref f20))) (l20 : K.lookup f20 = some ⟨oc20, od20, .func (PySem.W.fnOf "gone" "gone" (defArgs st_gone) (defBody st_gone) (defScope st_gone) .none kV20 dc20 pm20 an20 cd20 ct20), sl20⟩) (c20 : PySem.W.codeIn K cd20 "gone" = true) (k20 : PySem.W.keepIn K (.ref f20) = true)
    (a21 : PySem.W.nsIn K mainGlobals "_law_plain" = some (some (.ref f21))) (l21 : K.lookup f21 = some ⟨oc21, od21, .func (PySem.W.fnOf "_law_plain" "_law_plain" (defArgs st__law_plain) (defBody st__law_plain) (defScope st__law_plain) .none kV21 dc21 pm21 an21 cd21 ct21), sl21⟩) (c21 : PySem.W.codeIn K cd21 "_law_plain" = true) (k21 : PySem.W.keepIn K (.ref f21) = true)
    (a22 : PySem.W.nsIn K mainGlobals "is_standing" = some (some (.ref f22))) (l22 : K.lookup f22 = some ⟨oc22, od22, .func (PySem.W.fnOf "is_standing" "is_standing" (defArgs st_is_standing) (defBody st_is_standing) (defScope st_is_standing) .none kV22 dc22 pm22 an22 cd22 ct22), sl22⟩) (c22 : PySem.W.codeIn K cd22 "is_standing" = true) (k22 : PySem.W.keepIn K (.ref f22) = true)
    (a23 : PySem.W.nsIn K mainGlobals "is_ask" = some (some (.ref f23))) (l23 : K.lookup f23 = some ⟨oc23, od23, .func (PySem.W.fnOf "is_ask" "is_ask" (defArgs st_is_ask) (defBody st_is_ask) (defScope st_is_ask) .none kV23 dc23 pm23 an23 cd23 ct23), sl23⟩) (c23 : PySem.W.codeIn K cd23 "is_ask" = true) (k23 : PySem.W.keepIn K (.ref f23) = true)
    (a24 : PySem.W.nsIn K mainGlobals "served_by" = some (some (.ref f24))) (l24 : K.lookup f24 = some ⟨oc24, od24, .func (PySem.W.fnOf "served_by" "served_by" (defArgs st_served_by) (defBody st_served_by) (defScope st_served_by) .none kV24 dc24 pm24 an24 cd24 ct24), sl24⟩) (c24 : PySem.W.codeIn K cd24 "served_by" = true) (k24 : PySem.W.keepIn K (.ref f24) = true)
    (a25 : PySem.W.nsIn K mainGlobals "all_up_to" = some (some (.ref f25))) (l25 : K.lookup f25 = some ⟨oc25, od25, .func (PySem.W.fnOf "all_up_to" "all_up_to" (defArgs st_all_up_to) (defBody st_all_up_to) (defScope st_all_up_to) .none kV25 dc25 pm25 an25 cd25 ct25), sl25⟩) (c25 : PySem.W.codeIn K cd25 "all_up_to" = true) (k25 : PySem.W.keepIn K (.ref f25) = true)
    (a26 : PySem.W.nsIn K mainGlobals "is_day" = some (some (.ref f26))) (l26 : K.lookup f26 = some ⟨oc26, od26, .func (PySem.W.fnOf "is_day" "is_day" (defArgs st_is_day) (defBody st_is_day) (defScope st_is_day) .none kV26 dc26 pm26 an26 cd26 ct26), sl26⟩) (c26 : PySem.W.codeIn K cd26 "is_day" = true) (k26 : PySem.W.keepIn K (.ref f26) = true)
    (a27 : PySem.W.nsIn K mainGlobals "need_standing" = some (some (.ref f27))) (l27 : K.lookup f27 = some ⟨oc27, od27, .func (PySem.W.fnOf "need_standing" "need_standing" (defArgs st_need_standing) (defBody st_need_standing) (defScope st_need_standing) .none kV27 dc27 pm27 an27 cd27 ct27), sl27⟩) (c27 : PySem.W.codeIn K cd27 "need_standing" = true) (k27 : PySem.W.keepIn K (.ref f27) = true)
    (a28 : PySem.W.nsIn K mainGlobals "first_without" = some (some (.ref f28))) (l28 : K.lookup f28 = some ⟨oc28, od28, .func (PySem.W.fnOf "first_without" "first_without" (defArgs st_first_without) (defBody st_first_without) (defScope st_first_without) .none kV28 dc28 pm28 an28 cd28 ct28), sl28⟩) (c28 : PySem.W.codeIn K cd28 "first_without" = true) (k28 : PySem.W.keepIn K (.ref f28) = true)
    (a29 : PySem.W.nsIn K mainGlobals "need_day" = some (some (.ref f29))) (l29 : K.lookup f29 = some ⟨oc29, od29, .func (PySem.W.fnOf "need_day" "need_day" (defArgs st_need_day) (defBody st_need_day) (defScope st_need_day) .none kV29 dc29 pm29 an29 cd29 ct29), sl29⟩) (c29 : PySem.W.codeIn K cd29 "need_day" = true) (k29 : PySem.W.keepIn K (.ref f29) = true)
    (a30 : PySem.W.nsIn K mainGlobals "need_all" = some (some (.ref f30))) (l30 : K.lookup f30 = some ⟨oc30, od30, .func (PySem.W.fnOf "need_all" "need_all" (defArgs st_need_all) (defBody st_need_all) (defScope st_need_all) .none kV30 dc30 pm30 an30 cd30 ct30), sl30⟩) (c30 : PySem.W.codeIn K cd30 "need_all" = true) (k30 : PySem.W.keepIn K (.ref f30) = true)
    (a31 : PySem.W.nsIn K mainGlobals "least_for" = some (some (.ref f31))) (l31 : K.lookup f31 = some ⟨oc31, od31, .func (PySem.W.fnOf "least_for" "least_for" (defArgs st_least_for) (defBody st_least_for) (defScope st_least_for) .none (.ref kD31) dc31 pm31 an31 cd31 ct31), sl31⟩) (c31 : PySem.W.codeIn K cd31 "least_for" = true) (k31 : PySem.W.keepIn K (.ref f31) = true)
    {tw31_0 : Tok} (w31_0 : PySem.W.nsIn K kD31 "most" = some (some (.int 5000 tw31_0)))
    (a32 : PySem.W.nsIn K mainGlobals "lacks" = some (some (.ref f32))) (l32 : K.lookup f32 = some ⟨oc32, od32, .func (PySem.W.fnOf "lacks" "lacks" (defArgs st_lacks) (defBody st_lacks) (defScope st_lacks) .none kV32 dc32 pm32 an32 cd32 ct32), sl32⟩) (c32 : PySem.W.codeIn K cd32 "lacks" = true) (k32 : PySem.W.keepIn K (.ref f32) = true)
    (a33 : PySem.W.nsIn K mainGlobals "go" = some (some (.ref f33))) (l33 : K.lookup f33 = some ⟨oc33, od33, .func (PySem.W.fnOf "go" "go" (defArgs st_go) (defBody st_go) (defScope st_go) .none kV33 dc33 pm33 an33 cd33 ct33), sl33⟩) (c33 : PySem.W.codeIn K cd33 "go" = true) (k33 : PySem.W.keepIn K (.ref f33) = true)
    (a34 : PySem.W.nsIn K mainGlobals "one_fewer" = some (some (.ref f34))) (l34 : K.lookup f34 = some ⟨oc34, od34, .func (PySem.W.fnOf "one_fewer" "one_fewer" (defArgs st_one_fewer) (defBody st_one_fewer) (defScope st_one_fewer) .none kV34 dc34 pm34 an34 cd34 ct34), sl34⟩) (c34 : PySem.W.codeIn K cd34 "one_fewer" = true) (k34 : PySem.W.keepIn K (.ref f34) = true)
    (a35 : PySem.W.nsIn K mainGlobals "_law_right" = some (some (.ref f35))) (l35 : K.lookup f35 = some ⟨oc35, od35, .func (PySem.W.fnOf "_law_right" "_law_right" (defArgs st__law_right) (defBody st__law_right) (defScope st__law_right) .none kV35 dc35 pm35 an35 cd35 ct35), sl35⟩) (c35 : PySem.W.codeIn K cd35 "_law_right" = true) (k35 : PySem.W.keepIn K (.ref f35) = true)
    (a36 : PySem.W.nsIn K mainGlobals "law" = some (some (.ref f36))) (l36 : K.lookup f36 = some ⟨oc36, od36, .func (PySem.W.fnOf "law" "law" (defArgs st_law) (defBody st_law) (defScope st_law) .none kV36 dc36 pm36 an36 cd36 ct36), sl36⟩) (c36 : PySem.W.codeIn K cd36 "law" = true) (k36 : PySem.W.keepIn K (.ref f36) = true)
    {tk0 : Tok} (q0 : PySem.W.nsIn K mainGlobals "MOST_PLACES" = some (some (.int 9 tk0)))
    (z0 : PySem.W.nsIn K mainGlobals "all" = some none)
    (z1 : PySem.W.nsIn K mainGlobals "any" = some none)
    (z2 : PySem.W.nsIn K mainGlobals "bool" = some none)
    (z3 : PySem.W.nsIn K mainGlobals "enumerate" = some none)
    (z4 : PySem.W.nsIn K mainGlobals "int" = some none)
    (z5 : PySem.W.nsIn K mainGlobals "isinstance" = some none)
    (z6 : PySem.W.nsIn K mainGlobals "len" = some none)
    (z7 : PySem.W.nsIn K mainGlobals "list" = some none)
    (z8 : PySem.W.nsIn K mainGlobals "max" = some none)
    (z9 : PySem.W.nsIn K mainGlobals "min" = some none)
    (z10 : PySem.W.nsIn K mainGlobals "range" = some none)
    (z11 : PySem.W.nsIn K mainGlobals "set" = some none)
    (z12 : PySem.W.nsIn K mainGlobals "sorted" = some none)
    (z13 : PySem.W.nsIn K mainGlobals "sum" = some none)
    (z14 : PySem.W.nsIn K mainGlobals "tuple" = some none)
    (z15 : PySem.W.nsIn K mainGlobals "zip" = some none) :
    ∃ fd : FuncData, (∀ (s : Shared) (u : Value), BindsTo s fd ⟨[u], []⟩ [("script", u)]) ∧ ∀ base : Heap, K.In base → base.Ns mainGlobals mg → GFn PySem.Challenge.rw_onemore_k23_whole_asks_of_one_want.prog w K mg base CX0 10 fa fd ["script"] (spG K (fun _ _ _ => False) 1 (bodyF 1 f_law)) := by
  let T : Txt K mg := {
    a_is_amount := f0, d_is_amount := _, F_is_amount := fun_mk (st := st_is_amount) l0 c0 k0, g_is_amount := PySem.W.mg_of X G a0,
    a_changed := f1, d_changed := _, F_changed := fun_mk (st := st_changed) l1 c1 k1, g_changed := PySem.W.mg_of X G a1,
    a_taken_from := f2, d_taken_from := _, F_taken_from := fun_mk (st := st_taken_from) l2 c2 k2, g_taken_from := PySem.W.mg_of X G a2,
    a_left_at := f3, d_left_at := _, F_left_at := fun_mk (st := st_left_at) l3 c3 k3, g_left_at := PySem.W.mg_of X G a3,
    a_need_open := f4, d_need_open := _, F_need_open := fun_mk (st := st_need_open) l4 c4 k4, g_need_open := PySem.W.mg_of X G a4,
    a_is_above := f5, d_is_above := _, F_is_above := fun_mk (st := st_is_above) l5 c5 k5, g_is_above := PySem.W.mg_of X G a5,
    a_wanted := f6, d_wanted := _, F_wanted := fun_mk (st := st_wanted) l6 c6 k6, g_wanted := PySem.W.mg_of X G a6,
    a_by_total := f7, d_by_total := _, F_by_total := fun_mk (st := st_by_total) l7 c7 k7, g_by_total := PySem.W.mg_of X G a7,
    a__law_cell_at := f8, d__law_cell_at := _, F__law_cell_at := fun_mk (st := st__law_cell_at) l8 c8 k8, g__law_cell_at := PySem.W.mg_of X G a8,
    a__law_bag := f9, d__law_bag := _, F__law_bag := fun_mk (st := st__law_bag) l9 c9 k9, g__law_bag := PySem.W.mg_of X G a9,
    a__law_take := f10, d__law_take := _, F__law_take := fun_mk (st := st__law_take) l10 c10 k10, g__law_take := PySem.W.mg_of X G a10,
    a__law_most := f11, d__law_most := _, F__law_most := fun_mk (st := st__law_most) l11 c11 k11, g__law_most := PySem.W.mg_of X G a11,
    a_is_yard := f12, d_is_yard := _, F_is_yard := fun_mk (st := st_is_yard) l12 c12 k12, g_is_yard := PySem.W.mg_of X G a12,
    a_is_place := f13, d_is_place := _, F_is_place := fun_mk (st := st_is_place) l13 c13 k13, g_is_place := PySem.W.mg_of X G a13,
    a_asked := f14, d_asked := _, F_asked := fun_mk (st := st_asked) l14 c14 k14, g_asked := PySem.W.mg_of X G a14,
    a_need_some := f15, d_need_some := _, F_need_some := fun_mk (st := st_need_some) l15 c15 k15, g_need_some := PySem.W.mg_of X G a15,
    a_need_most := f16, d_need_most := _, F_need_most := fun_mk (st := st_need_most) l16 c16 k16, g_need_most := PySem.W.mg_of X G a16,
    a__law_unlike := f17, d__law_unlike := _, F__law_unlike := fun_mk (st := st__law_unlike) l17 c17 k17, g__law_unlike := PySem.W.mg_of X G a17,
    a_are_places := f18, d_are_places := _, F_are_places := fun_mk (st := st_are_places) l18 c18 k18, g_are_places := PySem.W.mg_of X G a18,
    a_need_yard := f19, d_need_yard := _, F_need_yard := fun_mk (st := st_need_yard) l19 c19 k19, g_need_yard := PySem.W.mg_of X G a19,
    a_gone := f20, d_gone := _, F_gone := fun_mk (st := st_gone) l20 c20 k20, g_gone := PySem.W.mg_of X G a20,
    a__law_plain := f21, d__law_plain := _, F__law_plain := fun_mk (st := st__law_plain) l21 c21 k21, g__law_plain := PySem.W.mg_of X G a21,
    a_is_standing := f22, d_is_standing := _, F_is_standing := fun_mk (st := st_is_standing) l22 c22 k22, g_is_standing := PySem.W.mg_of X G a22,
    a_is_ask := f23, d_is_ask := _, F_is_ask := fun_mk (st := st_is_ask) l23 c23 k23, g_is_ask := PySem.W.mg_of X G a23,
    a_served_by := f24, d_served_by := _, F_served_by := fun_mk (st := st_served_by) l24 c24 k24, g_served_by := PySem.W.mg_of X G a24,
    a_all_up_to := f25, d_all_up_to := _, F_all_up_to := fun_mk (st := st_all_up_to) l25 c25 k25, g_all_up_to := PySem.W.mg_of X G a25,
    a_is_day := f26, d_is_day := _, F_is_day := fun_mk (st := st_is_day) l26 c26 k26, g_is_day := PySem.W.mg_of X G a26,
    a_need_standing := f27, d_need_standing := _, F_need_standing := fun_mk (st := st_need_standing) l27 c27 k27, g_need_standing := PySem.W.mg_of X G a27,
    a_first_without := f28, d_first_without := _, F_first_without := fun_mk (st := st_first_without) l28 c28 k28, g_first_without := PySem.W.mg_of X G a28,
    a_need_day := f29, d_need_day := _, F_need_day := fun_mk (st := st_need_day) l29 c29 k29, g_need_day := PySem.W.mg_of X G a29,
    a_need_all := f30, d_need_all := _, F_need_all := fun_mk (st := st_need_all) l30 c30 k30, g_need_all := PySem.W.mg_of X G a30,
    a_least_for := f31, d_least_for := _, F_least_for := fun_mk (st := st_least_for) l31 c31 k31, g_least_for := PySem.W.mg_of X G a31,
    D_least_for := ⟨⟨_, _, _, _, _, _, _, _, _, _, rfl, l31, c31, .inl ⟨rfl, rfl⟩, .inr ⟨kD31, rfl, fun p hp => by
      rw [List.mem_singleton] at hp
      subst hp
      exact ⟨_, w31_0, ⟨_, rfl⟩⟩⟩⟩, k31⟩,
    a_lacks := f32, d_lacks := _, F_lacks := fun_mk (st := st_lacks) l32 c32 k32, g_lacks := PySem.W.mg_of X G a32,
    a_go := f33, d_go := _, F_go := fun_mk (st := st_go) l33 c33 k33, g_go := PySem.W.mg_of X G a33,
    a_one_fewer := f34, d_one_fewer := _, F_one_fewer := fun_mk (st := st_one_fewer) l34 c34 k34, g_one_fewer := PySem.W.mg_of X G a34,
    a__law_right := f35, d__law_right := _, F__law_right := fun_mk (st := st__law_right) l35 c35 k35, g__law_right := PySem.W.mg_of X G a35,
    a_law := f36, d_law := _, F_law := fun_mk (st := st_law) l36 c36 k36, g_law := PySem.W.mg_of X G a36,
    k_MOST_PLACES := ⟨tk0, PySem.W.mg_of X G q0⟩,
    z_all := PySem.W.mg_none_of X G z0,
    z_any := PySem.W.mg_none_of X G z1,
    z_bool := PySem.W.mg_none_of X G z2,
    z_enumerate := PySem.W.mg_none_of X G z3,
    z_int := PySem.W.mg_none_of X G z4,
    z_isinstance := PySem.W.mg_none_of X G z5,
    z_len := PySem.W.mg_none_of X G z6,
    z_list := PySem.W.mg_none_of X G z7,
    z_max := PySem.W.mg_none_of X G z8,
    z_min := PySem.W.mg_none_of X G z9,
    z_range := PySem.W.mg_none_of X G z10,
    z_set := PySem.W.mg_none_of X G z11,
    z_sorted := PySem.W.mg_none_of X G z12,
    z_sum := PySem.W.mg_none_of X G z13,
    z_tuple := PySem.W.mg_none_of X G z14,
    z_zip := PySem.W.mg_none_of X G z15 }
  have e : fa = T.a_law := by
    have := hfa.symm.trans T.g_law
    cases this; rfl
  subst e
  exact ⟨T.d_law, fun s u => .of_eq rfl, fun base _ _ => G_law T⟩
end
end W
open PySem PySem.W PyProof.Rows
set_option maxHeartbeats 0 in
theorem PySem.Challenge.cw_onemore_k23_whole_asks_of_one_want_holds : PySem.Challenge.rw_onemore_k23_whole_asks_of_one_want.Holds := by
  w_on; o_law; k_head; (case hw => w_witness2)
  k_fill
  refine Dm.g_walk (l := PySem.Challenge.rw_onemore_k23_whole_asks_of_one_want) (n := 63) (k := 10) (m := 1) (x := "script") (F := W.f_law) rfl (by decide) rfl ⟨rfl, by decide, by decide⟩ (fun w h Y => PySem.W.kIn_of Y) ?F (fun ns h1 h2 => W.law_math ns h1 h2)
  case F =>
    intro w mg fa h KX G hmg
    refine' W.all_mk KX G hmg ?a0 ?l0 ?c0 ?k0 ?a1 ?l1 ?c1 ?k1 ?a2 ?l2 ?c2 ?k2 ?a3 ?l3 ?c3 ?k3 ?a4 ?l4 ?c4 ?k4 ?a5 ?l5 ?c5 ?k5 ?a6 ?l6 ?c6 ?k6 ?a7 ?l7 ?c7 ?k7 ?a8 ?l8 ?c8 ?k8 ?a9 ?l9 ?c9 ?k9 ?a10 ?l10 ?c10 ?k10 ?a11 ?l11 ?c11 ?k11 ?a12 ?l12 ?c12 ?k12 ?a13 ?l13 ?c13 ?k13 ?a14 ?l14 ?c14 ?k14 ?a15 ?l15 ?c15 ?k15 ?a16 ?l16 ?c16 ?k16 ?a17 ?l17 ?c17 ?k17 ?a18 ?l18 ?c18 ?k18 ?a19 ?l19 ?c19 ?k19 ?a20 ?l20 ?c20 ?k20 ?a21 ?l21 ?c21 ?k21 ?a22 ?l22 ?c22 ?k22 ?a23 ?l23 ?c23 ?k23 ?a24 ?l24 ?c24 ?k24 ?a25 ?l25 ?c25 ?k25 ?a26 ?l26 ?c26 ?k26 ?a27 ?l27 ?c27 ?k27 ?a28 ?l28 ?c28 ?k28 ?a29 ?l29 ?c29 ?k29 ?a30 ?l30 ?c30 ?k30 ?a31 ?l31 ?w31_0 ?c31 ?k31 ?a32 ?l32 ?c32 ?k32 ?a33 ?l33 ?c33 ?k33 ?a34 ?l34 ?c34 ?k34 ?a35 ?l35 ?c35 ?k35 ?a36 ?l36 ?c36 ?k36 ?q0 ?z0 ?z1 ?z2 ?z3 ?z4 ?z5 ?z6 ?z7 ?z8 ?z9 ?z10 ?z11 ?z12 ?z13 ?z14 ?z15
    (case a0 => k_is); (case l0 => k_is); (case c0 => k_is); (case k0 => k_is); (case a1 => k_is); (case l1 => k_is); (case c1 => k_is); (case k1 => k_is); (case a2 => k_is); (case l2 => k_is); (case c2 => k_is); (case k2 => k_is); (case a3 => k_is); (case l3 => k_is); (case c3 => k_is); (case k3 => k_is); (case a4 => k_is); (case l4 => k_is); (case c4 => k_is); (case k4 => k_is); (case a5 => k_is); (case l5 => k_is); (case c5 => k_is); (case k5 => k_is); (case a6 => k_is); (case l6 => k_is); (case c6 => k_is); (case k6 => k_is); (case a7 => k_is); (case l7 => k_is); (case c7 => k_is); (case k7 => k_is); (case a8 => k_is); (case l8 => k_is); (case c8 => k_is); (case k8 => k_is); (case a9 => k_is); (case l9 => k_is); (case c9 => k_is); (case k9 => k_is); (case a10 => k_is); (case l10 => k_is); (case c10 => k_is); (case k10 => k_is); (case a11 => k_is); (case l11 => k_is); (case c11 => k_is); (case k11 => k_is); (case a12 => k_is); (case l12 => k_is); (case c12 => k_is); (case k12 => k_is); (case a13 => k_is); (case l13 => k_is); (case c13 => k_is); (case k13 => k_is); (case a14 => k_is); (case l14 => k_is); (case c14 => k_is); (case k14 => k_is); (case a15 => k_is); (case l15 => k_is); (case c15 => k_is); (case k15 => k_is); (case a16 => k_is); (case l16 => k_is); (case c16 => k_is); (case k16 => k_is); (case a17 => k_is); (case l17 => k_is); (case c17 => k_is); (case k17 => k_is); (case a18 => k_is); (case l18 => k_is); (case c18 => k_is); (case k18 => k_is); (case a19 => k_is); (case l19 => k_is); (case c19 => k_is); (case k19 => k_is); (case a20 => k_is); (case l20 => k_is); (case c20 => k_is); (case k20 => k_is); (case a21 => k_is); (case l21 => k_is); (case c21 => k_is); (case k21 => k_is); (case a22 => k_is); (case l22 => k_is); (case c22 => k_is); (case k22 => k_is); (case a23 => k_is); (case l23 => k_is); (case c23 => k_is); (case k23 => k_is); (case a24 => k_is); (case l24 => k_is); (case c24 => k_is); (case k24 => k_is); (case a25 => k_is); (case l25 => k_is); (case c25 => k_is); (case k25 => k_is); (case a26 => k_is); (case l26 => k_is); (case c26 => k_is); (case k26 => k_is); (case a27 => k_is); (case l27 => k_is); (case c27 => k_is); (case k27 => k_is); (case a28 => k_is); (case l28 => k_is); (case c28 => k_is); (case k28 => k_is); (case a29 => k_is); (case l29 => k_is); (case c29 => k_is); (case k29 => k_is); (case a30 => k_is); (case l30 => k_is); (case c30 => k_is); (case k30 => k_is); (case a31 => k_is); (case l31 => k_is); (case w31_0 => k_is); (case c31 => k_is); (case k31 => k_is); (case a32 => k_is); (case l32 => k_is); (case c32 => k_is); (case k32 => k_is); (case a33 => k_is); (case l33 => k_is); (case c33 => k_is); (case k33 => k_is); (case a34 => k_is); (case l34 => k_is); (case c34 => k_is); (case k34 => k_is); (case a35 => k_is); (case l35 => k_is); (case c35 => k_is); (case k35 => k_is); (case a36 => k_is); (case l36 => k_is); (case c36 => k_is); (case k36 => k_is); (case q0 => k_is); (case z0 => k_is); (case z1 => k_is); (case z2 => k_is); (case z3 => k_is); (case z4 => k_is); (case z5 => k_is); (case z6 => k_is); (case z7 => k_is); (case z8 => k_is); (case z9 => k_is); (case z10 => k_is); (case z11 => k_is); (case z12 => k_is); (case z13 => k_is); (case z14 => k_is); (case z15 => k_is)
