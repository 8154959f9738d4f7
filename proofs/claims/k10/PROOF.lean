import PyProof.Rows.All
import HandS.ForMost
import HandS.Flow
import HandS.Exc
import HandS.ExcOwn
import HandS.TryOnly
import HandS.TryMany
import HandS.WordsExc
import KE.KDictKeyed
import KE.KeyNested
import HandS.Wide
import HandS.RevRange
import KE.GoesEnum
import HandS.OwnIter
import HandS.IterVal
import OpenK.KOps
import HandS.IsInst
import HandS.ClsMeth
import HandS.IterNext
import HandS.Defaults
import KE.KCallOwn
import OpenK.KMeth
import HandS.Star
import HandS.Style
import PyProof.CollectIter
import PyProof.WalksMore
import PyProof.WalksS
import HandS.Text
import KE.KOpsOwn
import HandS.MakeKw
import HandS.TupLe
import HandS.MakeKwOnly
import HandS.HotCalls
import HandS.ExcIs
import HandS.ExcField
import KE.GoesMore
import HandS.ExcInit
import KE.KExcSuper
import KE.KExcIs
import HandS.StrMore
import HandS.ExcInitHot
import PySem.Challenge.RW_fillrace_k10_left_table
import KE.KIntText
import HandS.Codes
set_option Elab.async false
set_option linter.all false
set_option maxRecDepth 100000
/-! data layer, part a: values as trees, what stands for them, the state by slots -/
namespace DL
open PySem PySem.Spec PyProof.Rows L2

/-- a value as a tree -/
inductive D where
  | non | bl (b : Bool) | int (i : Int) | str (x : Str) | ref (a : Addr) | ty (n : String)
  | tup (xs : List D) | lst (xs : List D) | fz (xs : List D) | ins (C : Addr) (ns : List Str) (xs : List D) | dct (ks : List Str) (xs : List D)
  | ml (xs : List D) | mi (C : Addr) (ns : List Str) (xs : List D) | md (ks : List NestedKey) (xs : List D)
  | exc (a dd : Addr) (i : Int)

mutual
/-- v stands for d; a list's or an instance's place is not in E -/
inductive Rep (K : PySem.W.Frag) (E : Addr → Prop) (H : Hp) : V → D → Prop
  | non : Rep K E H .non .non
  | bl (b : Bool) : Rep K E H (.bl b) (.bl b)
  | int (i : Int) : Rep K E H (.int i) (.int i)
  | str (x : Str) : Rep K E H (.str x) (.str x)
  | ref (a : Addr) : Rep K E H (.ref a) (.ref a)
  | ty (n : String) : Rep K E H (.ty n) (.ty n)
  | exc {a dd : Addr} {i : Int} : H dd = some (.xd [("index", .int i)]) → Rep K E H (.ref a) (.exc a dd i)
  | tup {p : Addr} {vs : List V} {ds : List D} : SqT K H p vs → Reps K E H vs ds → Rep K E H (.ref p) (.tup ds)
  | lst {p : Addr} {vs : List V} {ds : List D} : H p = some (.lst vs) → ¬ E p → Reps K E H vs ds → Rep K E H (.ref p) (.lst ds)
  | fz {p : Addr} {vs : List V} {ds : List D} : (∃ o, H p = some (.frz o (.lst vs))) → Reps K E H vs ds → Rep K E H (.ref p) (.fz ds)
  | fl {p : Addr} {vs : List V} {ds : List D} : H p = some (.lst vs) → ¬ E p → Reps K E H vs ds → Rep K E H (.ref p) (.fz ds)
  | fk {p : Addr} {vs : List V} {ds : List D} : (∃ (o : Obj) (its : Array Value) (n : Nat), K.lookup p = some o ∧ o.cls = .type "list" ∧ o.dict = none ∧ o.data = .seq its n ∧ its.size ≤ sizeLine ∧ Vals vs its.toList) → Reps K E H vs ds → Rep K E H (.ref p) (.fz ds)
  | ins {p C dx : Addr} {ns : List Str} {vs : List V} {ds : List D} : H p = some (.ins C dx (ns.zip vs)) → ¬ E p → Reps K E H vs ds → ns.length = vs.length → Rep K E H (.ref p) (.ins C ns ds)
  | dct {p : Addr} {ks : List Str} {vs : List V} {ds : List D} : H p = some (.dK ((ks.zip vs).map fun q => (Sum.inr q.1, q.2))) → ¬ E p → Reps K E H vs ds → Rep K E H (.ref p) (.dct ks ds)
inductive Reps (K : PySem.W.Frag) (E : Addr → Prop) (H : Hp) : List V → List D → Prop
  | nil : Reps K E H [] []
  | cons {v : V} {vs : List V} {d : D} {ds : List D} : Rep K E H v d → Reps K E H vs ds → Reps K E H (v :: vs) (d :: ds)
end

mutual
/-- no list and no instance in it -/
def nolst : D → Bool
  | .tup xs => nolsts xs
  | .lst _ => false
  | .fz _ => false
  | .ins _ _ _ => false
  | .dct _ _ => false
  | .ml _ => false
  | .mi _ _ _ => false
  | .md _ _ => false
  | _ => true
def nolsts : List D → Bool
  | [] => true
  | d :: ds => nolst d && nolsts ds
end
/-- what was known stays, but for what stands at N -/
def Keep (N : Addr → Prop) (H H' : Hp) : Prop := ∀ b o, ¬ N b → H b = some o → H' b = some o
/-- what may change: a list, an instance -/
def mutB : HO → Bool
  | .lst _ => true
  | .ins _ _ _ => true
  | .ext _ => true
  | .dK _ => true
  | _ => false
/-- what N holds is no tuple -/
def Lists (N : Addr → Prop) (H : Hp) : Prop := ∀ b, N b → ∃ o, H b = some o ∧ mutB o = true
section
variable {K : PySem.W.Frag} {E E' N : Addr → Prop} {H H' : Hp} {v : V} {d : D} {vs : List V} {ds : List D}
theorem Keep.rd {p : Addr} {u : HO} (k : Keep N H H') (hn : ¬ N p) (h : Rd H p u) : Rd H' p u := by
  rcases h with h | ⟨o, h⟩
  · exact .inl (k _ _ hn h)
  · exact .inr ⟨o, k _ _ hn h⟩
theorem Lists.tup {p : Addr} {xs : List V} (l : Lists N H) (h : Rd H p (.tup xs)) : ¬ N p := fun n => by
  obtain ⟨q, e, m⟩ := l p n
  rcases h with h | ⟨o, h⟩ <;> rw [h] at e <;> cases e <;> cases m
theorem Keep.sqt {p : Addr} {xs : List V} (k : Keep N H H') (l : Lists N H) (h : SqT K H p xs) : SqT K H' p xs := by
  rcases h with h | h
  · exact .inl (k.rd (l.tup h) h)
  · exact .inr h
theorem Keep.frz {p : Addr} {xs : List V} (k : Keep N H H') (l : Lists N H) (h : ∃ o, H p = some (.frz o (.lst xs))) : ∃ o, H' p = some (.frz o (.lst xs)) := by
  obtain ⟨o, h⟩ := h
  exact ⟨o, k _ _ (fun n => by obtain ⟨q, e, m⟩ := l p n; rw [h] at e; cases e; cases m) h⟩
theorem Keep.exd {p : Addr} {fs : List (Str × V)} (k : Keep N H H') (l : Lists N H) (h : H p = some (.xd fs)) : H' p = some (.xd fs) :=
  k _ _ (fun n => by obtain ⟨q, e, m⟩ := l p n; rw [h] at e; cases e; cases m) h
mutual
theorem Rep.keep (k : Keep N H H') (l : Lists N H) (hN : ∀ b, N b → E b) (hE : ∀ b, E' b → H b ≠ none → E b) : ∀ {v : V} {d : D}, Rep K E H v d → Rep K E' H' v d
  | _, _, .non => .non
  | _, _, .bl b => .bl b
  | _, _, .int i => .int i
  | _, _, .str x => .str x
  | _, _, .ref a => .ref a
  | _, _, .ty n => .ty n
  | _, _, .exc h => .exc (k.exd l h)
  | _, _, .tup h r => .tup (k.sqt l h) (Reps.keep k l hN hE r)
  | _, _, .lst h n r => .lst (k _ _ (fun z => n (hN _ z)) h) (fun z => n (hE _ z (by rw [h] <;> exact Option.some_ne_none _))) (Reps.keep k l hN hE r)
  | _, _, .fz h r => .fz (k.frz l h) (Reps.keep k l hN hE r)
  | _, _, .fl h n r => .fl (k _ _ (fun z => n (hN _ z)) h) (fun z => n (hE _ z (by rw [h] <;> exact Option.some_ne_none _))) (Reps.keep k l hN hE r)
  | _, _, .fk h r => .fk h (Reps.keep k l hN hE r)
  | _, _, .ins h n r e => .ins (k _ _ (fun z => n (hN _ z)) h) (fun z => n (hE _ z (by rw [h] <;> exact Option.some_ne_none _))) (Reps.keep k l hN hE r) e
  | _, _, .dct h n r => .dct (k _ _ (fun z => n (hN _ z)) h) (fun z => n (hE _ z (by rw [h] <;> exact Option.some_ne_none _))) (Reps.keep k l hN hE r)
theorem Reps.keep (k : Keep N H H') (l : Lists N H) (hN : ∀ b, N b → E b) (hE : ∀ b, E' b → H b ≠ none → E b) : ∀ {vs : List V} {ds : List D}, Reps K E H vs ds → Reps K E' H' vs ds
  | _, _, .nil => .nil
  | _, _, .cons r t => .cons (Rep.keep k l hN hE r) (Reps.keep k l hN hE t)
end
mutual
/-- a value without lists: whatever E -/
theorem Rep.free (k : Keep N H H') (l : Lists N H) : ∀ {v : V} {d : D}, Rep K E H v d → nolst d = true → Rep K E' H' v d
  | _, _, .non, _ => .non
  | _, _, .bl b, _ => .bl b
  | _, _, .int i, _ => .int i
  | _, _, .str x, _ => .str x
  | _, _, .ref a, _ => .ref a
  | _, _, .ty n, _ => .ty n
  | _, _, .exc h, _ => .exc (k.exd l h)
  | _, _, .tup h r, e => .tup (k.sqt l h) (Reps.free k l r (by simpa [nolst] using e))
  | _, _, .lst h n r, e => by simp [nolst] at e
  | _, _, .fz h r, e => by simp [nolst] at e
  | _, _, .fl h n r, e => by simp [nolst] at e
  | _, _, .fk h r, e => by simp [nolst] at e
  | _, _, .ins h n r q, e => by simp [nolst] at e
  | _, _, .dct h n r, e => by simp [nolst] at e
theorem Reps.free (k : Keep N H H') (l : Lists N H) : ∀ {vs : List V} {ds : List D}, Reps K E H vs ds → nolsts ds = true → Reps K E' H' vs ds
  | _, _, .nil, _ => .nil
  | _, _, .cons r t, e => by
    rw [nolsts, Bool.and_eq_true] at e
    exact .cons (Rep.free k l r e.1) (Reps.free k l t e.2)
end
theorem Keep.refl : Keep N H H := fun _ _ _ h => h
theorem Keep.trans {H1 : Hp} (a : Keep N H H1) (b : Keep N H1 H') : Keep N H H' := fun c o n h => b c o n (a c o n h)
theorem Keep.weak (a : Keep N H H') (h : ∀ b, N b → E b) : Keep E H H' := fun c o n q => a c o (fun z => n (h _ z)) q
theorem ofSame (a : Same H H') : Keep N H H' := fun c o _ q => a c o q
theorem same_upd {p : Addr} {o : HO} (h : H p = none) : Same H (upd H p o) := fun b x e => by
  rw [upd_ne (ne_of_none e h)]
  exact e
theorem Rep.weak (r : Rep K E H v d) (hE : ∀ b, E' b → H b ≠ none → E b) : Rep K E' H v d := r.keep (N := fun _ => False) Keep.refl (fun _ z => z.elim) (fun _ z => z.elim) hE
theorem Reps.weak (r : Reps K E H vs ds) (hE : ∀ b, E' b → H b ≠ none → E b) : Reps K E' H vs ds := r.keep (N := fun _ => False) Keep.refl (fun _ z => z.elim) (fun _ z => z.elim) hE
theorem Rep.same (r : Rep K E H v d) (s : Same H H') : Rep K E H' v d := r.keep (N := fun _ => False) (ofSame s) (fun _ z => z.elim) (fun _ z => z.elim) (fun _ z _ => z)
theorem Reps.same (r : Reps K E H vs ds) (s : Same H H') : Reps K E H' vs ds := r.keep (N := fun _ => False) (ofSame s) (fun _ z => z.elim) (fun _ z => z.elim) (fun _ z _ => z)
theorem Rep.loose (r : Rep K E H v d) (e : nolst d = true) : Rep K E' H v d := r.free (N := fun _ => False) Keep.refl (fun _ z => z.elim) e
theorem Reps.loose (r : Reps K E H vs ds) (e : nolsts ds = true) : Reps K E' H vs ds := r.free (N := fun _ => False) Keep.refl (fun _ z => z.elim) e
theorem Reps.length : ∀ {vs : List V} {ds : List D}, Reps K E H vs ds → vs.length = ds.length
  | _, _, .nil => rfl
  | _, _, .cons _ t => by rw [List.length_cons, List.length_cons, Reps.length t]
theorem Reps.get : ∀ {vs : List V} {ds : List D} {i : Nat} {d : D}, Reps K E H vs ds → ds[i]? = some d → ∃ v, vs[i]? = some v ∧ Rep K E H v d
  | _, _, _, _, .nil, e => by simp at e
  | _, _, 0, _, .cons r _, e => by simp at e; subst e; exact ⟨_, rfl, r⟩
  | _, _, i + 1, d, .cons _ t, e => by
    obtain ⟨v, h1, h2⟩ := Reps.get (i := i) (d := d) t (by simpa using e)
    exact ⟨v, by simpa using h1, h2⟩
theorem Reps.getV : ∀ {vs : List V} {ds : List D} {i : Nat} {v : V}, Reps K E H vs ds → vs[i]? = some v → ∃ d, ds[i]? = some d ∧ Rep K E H v d
  | _, _, _, _, .nil, e => by simp at e
  | _, _, 0, _, .cons r _, e => by simp at e; subst e; exact ⟨_, rfl, r⟩
  | _, _, i + 1, d, .cons _ t, e => by
    obtain ⟨v, h1, h2⟩ := Reps.getV (i := i) (v := d) t (by simpa using e)
    exact ⟨v, by simpa using h1, h2⟩
theorem Reps.set (r : Rep K E H v d) : ∀ {vs : List V} {ds : List D} (i : Nat), Reps K E H vs ds → Reps K E H (vs.set i v) (ds.set i d)
  | _, _, _, .nil => .nil
  | _, _, 0, .cons _ t => .cons r t
  | _, _, i + 1, .cons q t => .cons q (Reps.set r i t)
theorem Reps.append : ∀ {vs ws : List V} {ds es : List D}, Reps K E H vs ds → Reps K E H ws es → Reps K E H (vs ++ ws) (ds ++ es)
  | _, _, _, _, .nil, s => s
  | _, _, _, _, .cons r t, s => .cons r (Reps.append t s)
theorem Reps.take : ∀ {vs : List V} {ds : List D} (n : Nat), Reps K E H vs ds → Reps K E H (vs.take n) (ds.take n)
  | _, _, 0, _ => .nil
  | _, _, _ + 1, .nil => .nil
  | _, _, n + 1, .cons r t => .cons r (Reps.take n t)
theorem Reps.drop : ∀ {vs : List V} {ds : List D} (n : Nat), Reps K E H vs ds → Reps K E H (vs.drop n) (ds.drop n)
  | _, _, 0, r => r
  | _, _, _ + 1, .nil => .nil
  | _, _, n + 1, .cons _ t => Reps.drop n t
theorem Reps.ints : ∀ (ns : List Int), Reps K E H (ns.map V.int) (ns.map D.int)
  | [] => .nil
  | n :: r => .cons (.int n) (Reps.ints r)
end
theorem nolsts_get : ∀ {ds : List D} {i : Nat} {d : D}, nolsts ds = true → ds[i]? = some d → nolst d = true
  | [], _, _, _, e => by simp at e
  | x :: r, 0, d, h, e => by simp at e; subst e; simp [nolsts] at h; exact h.1
  | x :: r, i + 1, d, h, e => by simp [nolsts] at h; exact nolsts_get h.2 (by simpa using e)
theorem nolsts_set {d : D} (h : nolst d = true) : ∀ {ds : List D} {i : Nat}, nolsts ds = true → nolsts (ds.set i d) = true
  | [], _, _ => rfl
  | x :: r, 0, q => by simp [nolsts] at q ⊢; exact ⟨h, q.2⟩
  | x :: r, i + 1, q => by simp [nolsts] at q ⊢; exact ⟨q.1, nolsts_set h q.2⟩
theorem nolsts_append : ∀ {ds es : List D}, nolsts ds = true → nolsts es = true → nolsts (ds ++ es) = true
  | [], _, _, h => h
  | x :: r, es, q, h => by
    simp [nolsts] at q
    show nolsts (x :: (r ++ es)) = true
    simp [nolsts]; exact ⟨q.1, nolsts_append q.2 h⟩
theorem nolsts_one {d : D} (h : nolst d = true) : nolsts [d] = true := by simp [nolsts, h]

/-! ### what a step gives -/
structure Err where
  name : Str
  idx : Option Int
inductive R (ε α : Type) where
  | ok (a : α) | err (e : ε) | bad
def R.bind {ε α β : Type} (r : R ε α) (f : α → R ε β) : R ε β := match r with | .ok a => f a | .err e => .err e | .bad => .bad
/-- an equation that simp is to hold by its proof, not by reckoning -/
theorem eq_of {α : Sort u} {a b : α} (h : a = b) : a = b := h
@[simp] theorem R.bind_ok {ε α β : Type} (a : α) (f : α → R ε β) : (R.ok a).bind f = f a := eq_of rfl
@[simp] theorem R.bind_err {ε α β : Type} (e : ε) (f : α → R ε β) : (R.err e : R ε α).bind f = .err e := eq_of rfl
@[simp] theorem R.bind_bad {ε α β : Type} (f : α → R ε β) : (R.bad : R ε α).bind f = .bad := eq_of rfl
theorem R.bind_ite {ε α β : Type} {c : Prop} [Decidable c] (a b : R ε α) (f : α → R ε β) : (if c then a else b).bind f = if c then a.bind f else b.bind f := by split <;> rfl

/-- the draws of a law: what is drawn from, how many are taken, the rest of the rule -/
structure Dr where
  pool : List Int
  at_ : Int
  base : Int
inductive Slot where
  | emp | im (d : D) | fr (d : D) | own (ds : List D) | dr (x : Dr) | od (ks : List Str) (ds : List D)
abbrev Nv := List Slot
inductive Fl where
  | nx | rt (d : D) | bk | ct
/-- an expression's, a test's, a statement's value in a state -/
abbrev EF (α : Type) := Nv → R (Err × Nv) (α × Nv)

/-! ### the state -/
structure Ks where
  K : PySem.W.Frag
  cl : Str → Addr
/-- fixed for a call: the heap at its entry; what is not to change -/
structure Ct where
  H0 : Hp
  Hz : Hp
  Hx : Hp := fun _ => none
/-- the places: of the slots' own lists, of the draws and their pool, of lists under work -/
structure Gh where
  ad : Nat → Option Addr
  da : Option (Addr × Addr)
  xt : List Addr
def Gh.Dp (g : Gh) (b : Addr) : Prop := ∃ p, g.da = some (b, p)
def Gh.Ep (g : Gh) (b : Addr) : Prop := g.Dp b ∨ (∃ i, g.ad i = some b) ∨ b ∈ g.xt
inductive Lv where
  | W | S | F
def ex (c : Ct) (g : Gh) : Lv → Addr → Prop
  | .W => g.Dp
  | .S => g.Ep
  | .F => fun b => g.Ep b ∨ c.H0 b ≠ none
def SlotOk (T : Ks) (c : Ct) (g : Gh) (σ : L2.St) (H : Hp) (i : Nat) : Slot → Prop
  | .emp => g.ad i = none
  | .im d => g.ad i = none ∧ ∃ v, σ[i]? = some (some v) ∧ Rep T.K g.Ep H v d
  | .fr d => g.ad i = none ∧ ∃ v, σ[i]? = some (some v) ∧ Rep T.K (fun b => g.Ep b ∨ c.H0 b ≠ none) H v d
  | .own ds => ∃ a vs, g.ad i = some a ∧ σ[i]? = some (some (.ref a)) ∧ H a = some (.lst vs) ∧ c.H0 a = none ∧ nolsts ds = true ∧ Reps T.K g.Ep H vs ds
  | .dr x => g.ad i = none ∧ ∃ a p, g.da = some (a, p) ∧ σ[i]? = some (some (.ref a)) ∧ H a = some (.lst [.ref p, .int x.at_, .int x.base]) ∧ H p = some (.lst (x.pool.map V.int))
  | .od ks ds => ∃ a vs, g.ad i = some a ∧ σ[i]? = some (some (.ref a)) ∧ H a = some (.dK ((ks.zip vs).map fun q => (Sum.inr q.1, q.2))) ∧ c.H0 a = none ∧ nolsts ds = true ∧ Reps T.K g.Ep H vs ds
structure Sim (T : Ks) (c : Ct) (g : Gh) (Γ : Nv) (σ : L2.St) (H : Hp) : Prop where
  len : σ.length = Γ.length
  slot : ∀ (i : Nat) (s : Slot), Γ[i]? = some s → SlotOk T c g σ H i s
  out : ∀ i, Γ.length ≤ i → g.ad i = none
  inj : ∀ i j a, g.ad i = some a → g.ad j = some a → i = j
  one : ∀ (i j : Nat) (x y : Dr), Γ[i]? = some (Slot.dr x) → Γ[j]? = some (Slot.dr y) → i = j
  frame : ∀ b o, c.Hz b = some o → H b = some o
  old : ∀ b, c.H0 b ≠ none → H b ≠ none
  da : ∀ a p, g.da = some (a, p) → a ≠ p ∧ (∀ i, g.ad i ≠ some a ∧ g.ad i ≠ some p) ∧ a ∉ g.xt ∧ p ∉ g.xt ∧ (∃ xs, H a = some (.lst xs)) ∧ H p ≠ none
  xt : ∀ b, b ∈ g.xt → (∀ i, g.ad i ≠ some b) ∧ c.H0 b = none ∧ ∃ o, H b = some o ∧ mutB o = true
  hz : ∀ b, g.Ep b → c.Hz b = none
  pin : ∀ b o, c.Hx b = some o → H b = some o ∧ b ∈ g.xt
section
variable {T : Ks} {c : Ct} {g : Gh} {Γ : Nv} {σ : L2.St} {H H' : Hp} {v : V} {d : D}
theorem Sim.own_at (S : Sim T c g Γ σ H) {i : Nat} {a : Addr} (h : g.ad i = some a) : ∃ o, H a = some o ∧ mutB o = true := by
  by_cases hi : i < Γ.length
  · have e : Γ[i]? = some Γ[i] := List.getElem?_eq_getElem hi
    have q := S.slot i _ e
    generalize Γ[i] = s at e q
    cases s with
    | emp => rw [show g.ad i = none from q] at h; cases h
    | im d => rw [q.1] at h; cases h
    | fr d => rw [q.1] at h; cases h
    | own ds =>
      obtain ⟨a', vs, h1, h2, h3, h4, h5, h6⟩ := q
      rw [h] at h1; cases h1
      exact ⟨_, h3, rfl⟩
    | dr x => rw [q.1] at h; cases h
    | od ks ds =>
      obtain ⟨a', vs, h1, h2, h3, h4, h5, h6⟩ := q
      rw [h] at h1; cases h1
      exact ⟨_, h3, rfl⟩
  · rw [S.out i (by omega)] at h; cases h
theorem Sim.lists (S : Sim T c g Γ σ H) : Lists g.Ep H := fun b hb => by
  rcases hb with ⟨p, hp⟩ | ⟨i, hi⟩ | hx
  · obtain ⟨xs, e⟩ := (S.da b p hp).2.2.2.2.1
    exact ⟨_, e, rfl⟩
  · exact S.own_at hi
  · exact (S.xt b hx).2.2
theorem Gh.dE {b : Addr} (h : g.Dp b) : g.Ep b := .inl h
theorem Sim.listsD (S : Sim T c g Γ σ H) : Lists g.Dp H := fun b hb => S.lists b (.inl hb)
theorem Sim.some_of (S : Sim T c g Γ σ H) {k : Lv} {b : Addr} (h : ex c g k b) : H b ≠ none := by
  have hE : ∀ b, g.Ep b → H b ≠ none := fun b hb => by
    obtain ⟨o, e, _⟩ := S.lists b hb
    rw [e]; exact Option.some_ne_none _
  cases k with
  | W => exact hE b (.inl h)
  | S => exact hE b h
  | F =>
    rcases h with h | h
    · exact hE b h
    · exact S.old b h
theorem ex_W {k : Lv} {b : Addr} (h : g.Dp b) : ex c g k b := by
  cases k with
  | W => exact h
  | S => exact .inl h
  | F => exact .inl (.inl h)
/-- a value stays through what changes the draws alone -/
theorem Rep.stay {k : Lv} (S : Sim T c g Γ σ H) (q : Keep g.Dp H H') (r : Rep T.K (ex c g k) H v d) : Rep T.K (ex c g k) H' v d :=
  r.keep q S.listsD (fun _ z => ex_W z) fun _ z _ => z
theorem Reps.stay {k : Lv} {vs : List V} {ds : List D} (S : Sim T c g Γ σ H) (q : Keep g.Dp H H') (r : Reps T.K (ex c g k) H vs ds) : Reps T.K (ex c g k) H' vs ds :=
  r.keep q S.listsD (fun _ z => ex_W z) fun _ z _ => z
theorem Rep.toW {k : Lv} (r : Rep T.K (ex c g k) H v d) : Rep T.K g.Dp H v d := r.weak fun _ z _ => ex_W z
theorem Reps.toW {k : Lv} {vs : List V} {ds : List D} (r : Reps T.K (ex c g k) H vs ds) : Reps T.K g.Dp H vs ds := r.weak fun _ z _ => ex_W z
theorem Rep.toS (r : Rep T.K (ex c g .F) H v d) : Rep T.K g.Ep H v d := r.weak fun _ z _ => .inl z
/-- what is new for H is new for the call -/
theorem Sim.fresh (S : Sim T c g Γ σ H) (k : Lv) (r : Rep T.K (fun b => H b ≠ none) H' v d) (s : Same H H') : Rep T.K (ex c g k) H' v d := r.weak fun _ z _ => S.some_of z
theorem same_some {b : Addr} (s : Same H H') (q : H b ≠ none) : H' b ≠ none := by
  cases e : H b with
  | none => exact absurd e q
  | some o => rw [s _ _ e]; exact Option.some_ne_none _
/-- more in the heap -/
theorem Sim.grow (S : Sim T c g Γ σ H) (s : Same H H') : Sim T c g Γ σ H' where
  len := S.len
  slot := fun i sl e => by
    have q := S.slot i sl e
    cases sl with
    | emp => exact q
    | im d =>
      obtain ⟨h1, v, h2, h3⟩ := q
      exact ⟨h1, v, h2, h3.same s⟩
    | fr d =>
      obtain ⟨h1, v, h2, h3⟩ := q
      exact ⟨h1, v, h2, h3.same s⟩
    | own ds =>
      obtain ⟨a, vs, h1, h2, h3, h4, h5, h6⟩ := q
      exact ⟨a, vs, h1, h2, s _ _ h3, h4, h5, h6.same s⟩
    | od ks ds =>
      obtain ⟨a, vs, h1, h2, h3, h4, h5, h6⟩ := q
      exact ⟨a, vs, h1, h2, s _ _ h3, h4, h5, h6.same s⟩
    | dr x =>
      obtain ⟨h1, a, p, h2, h3, h4, h5⟩ := q
      exact ⟨h1, a, p, h2, h3, s _ _ h4, s _ _ h5⟩
  out := S.out
  inj := S.inj
  one := S.one
  frame := fun b o e => s _ _ (S.frame b o e)
  old := fun b h => same_some s (S.old b h)
  da := fun a p h => by
    obtain ⟨h1, h2, h3, h4, ⟨xs, h5⟩, h6⟩ := S.da a p h
    exact ⟨h1, h2, h3, h4, ⟨xs, s _ _ h5⟩, same_some s h6⟩
  xt := fun b h => by
    obtain ⟨h1, h2, o, h3, h4⟩ := S.xt b h
    exact ⟨h1, h2, o, s _ _ h3, h4⟩
  hz := S.hz
  pin := fun b o h => ⟨s _ _ (S.pin b o h).1, (S.pin b o h).2⟩
end
end DL

set_option Elab.async false
set_option linter.all false
set_option maxRecDepth 100000
/-! data layer, part b: the judgements and expressions -/
namespace DL
open PySem PySem.Spec PyProof.Rows L2

/-- an error as the heap has it -/
def ErrOk (T : Ks) (e : Err) (cls : Value) (dd : Option Addr) (H : Hp) : Prop :=
  cls = .ref (T.cl e.name) ∧ (∀ i, e.idx = some i → ∃ d, dd = some d ∧ H d = some (.xd [("index", .int i)])) ∧ (e.idx = none → dd = none)
inductive Lq where
  | W | S | F | N
def exq (c : Ct) (g : Gh) (H : Hp) : Lq → Addr → Prop
  | .W => g.Dp
  | .S => g.Ep
  | .F => fun b => g.Ep b ∨ c.H0 b ≠ none
  | .N => fun b => H b ≠ none
def PostE (T : Ks) (c : Ct) (g : Gh) (σ : L2.St) (H : Hp) (k : Lq) (Q : VK) (W : WX) : R (Err × Nv) (D × Nv) → Prop
  | .ok (d, Γ) => ∀ v H', Sim T c g Γ σ H' → Keep g.Dp H H' → Rep T.K (exq c g H k) H' v d → Q v H'
  | .err (e, Γ) => ∀ cls dd H', Sim T c g Γ σ H' → ErrOk T e cls dd H' → W cls dd σ H'
  | .bad => False
def PostT (T : Ks) (c : Ct) (g : Gh) (σ : L2.St) (H : Hp) (Q : Bool → Hp → Prop) (W : WX) : R (Err × Nv) (Bool × Nv) → Prop
  | .ok (b, Γ) => ∀ H', Sim T c g Γ σ H' → Keep g.Dp H H' → Q b H'
  | .err (e, Γ) => ∀ cls dd H', Sim T c g Γ σ H' → ErrOk T e cls dd H' → W cls dd σ H'
  | .bad => False
def PostA (T : Ks) (c : Ct) (g : Gh) (σ : L2.St) (H : Hp) (k : Lq) (Q : List V → Hp → Prop) (W : WX) : R (Err × Nv) (List D × Nv) → Prop
  | .ok (ds, Γ) => ∀ vs H', Sim T c g Γ σ H' → Keep g.Dp H H' → Reps T.K (exq c g H k) H' vs ds → Q vs H'
  | .err (e, Γ) => ∀ cls dd H', Sim T c g Γ σ H' → ErrOk T e cls dd H' → W cls dd σ H'
  | .bad => False
/-- an expression gives f; its value's lists avoid what k says -/
def DE (T : Ks) (W : WX) (k : Lq) (t : TE) (f : EF D) : Prop := ∀ c g Γ σ H Q, Sim T c g Γ σ H → PostE T c g σ H k Q W (f Γ) → t σ H Q
def DT (T : Ks) (W : WX) (t : TT) (f : EF Bool) : Prop := ∀ c g Γ σ H Q, Sim T c g Γ σ H → PostT T c g σ H Q W (f Γ) → t σ H Q
def DA (T : Ks) (W : WX) (k : Lq) (t : TA) (f : EF (List D)) : Prop := ∀ c g Γ σ H Q, Sim T c g Γ σ H → PostA T c g σ H k Q W (f Γ) → t σ H Q

section
variable {T : Ks} {W : WX} {c : Ct} {g : Gh} {Γ Γ' : Nv} {σ : L2.St} {H H' : Hp} {v : V} {d : D} {k : Lq} {t ta tb : TE} {f h : EF D}
theorem Sim.someq (S : Sim T c g Γ σ H) {b : Addr} (q : exq c g H k b) : H b ≠ none := by
  cases k with
  | W => exact S.some_of (k := .W) q
  | S => exact S.some_of (k := .S) q
  | F => exact S.some_of (k := .F) q
  | N => exact q
theorem Sim.exW (S : Sim T c g Γ σ H) {b : Addr} (q : g.Dp b) : exq c g H k b := by
  cases k with
  | W => exact q
  | S => exact .inl q
  | F => exact .inl (.inl q)
  | N => exact S.some_of (k := .W) q
theorem Sim.stay {vs : List V} (S : Sim T c g Γ σ H') {H1 : Hp} (q : Keep g.Dp H' H1) (hx : ∀ b, g.Dp b → exq c g H k b) (r : Rep T.K (exq c g H k) H' v d) : Rep T.K (exq c g H k) H1 v d :=
  r.keep q S.listsD hx fun _ z _ => z
theorem Sim.toW (S : Sim T c g Γ σ H) (r : Rep T.K (exq c g H k) H' v d) : Rep T.K g.Dp H' v d := r.weak fun _ z _ => S.exW z
theorem Sim.newq (S : Sim T c g Γ σ H) {H1 : Hp} (r : Rep T.K (fun b => H1 b ≠ none) H' v d) (hs : ∀ b, H b ≠ none → H1 b ≠ none) : Rep T.K (exq c g H k) H' v d := r.weak fun b z _ => hs b (S.someq z)
theorem keep_some {N : Addr → Prop} {Hx Hy : Hp} (q : Keep N Hx Hy) (hn : ∀ b, N b → Hy b ≠ none) (b : Addr) (z : Hx b ≠ none) : Hy b ≠ none := by
  by_cases n : N b
  · exact hn b n
  · cases e : Hx b with
    | none => exact absurd e z
    | some o => rw [q b o n e]; exact Option.some_ne_none _
theorem Sim.grown (S : Sim T c g Γ σ H) (S' : Sim T c g Γ' σ H') (q : Keep g.Dp H H') : ∀ b, H b ≠ none → H' b ≠ none :=
  keep_some q fun b n => S'.some_of (k := .W) n

/-! ### levels -/
theorem DE.toW (a : DE T W k t f) : DE T W .W t f := fun c g Γ σ H Q S p => a c g Γ σ H Q S (by
  cases e : f Γ with
  | ok x => obtain ⟨d, Γ1⟩ := x; rw [e] at p; exact fun v H' S' q r => p v H' S' q (S.toW r)
  | err x => rw [e] at p; exact p
  | bad => rw [e] at p; exact p)
theorem DE.toF (a : DE T W .N t f) : DE T W .F t f := fun c g Γ σ H Q S p => a c g Γ σ H Q S (by
  cases e : f Γ with
  | ok x => obtain ⟨d, Γ1⟩ := x; rw [e] at p; exact fun v H' S' q r => p v H' S' q (r.weak fun b z _ => S.someq (k := .F) z)
  | err x => rw [e] at p; exact p
  | bad => rw [e] at p; exact p)
/-- a value without lists may stand anywhere -/
def dN (f : EF D) : EF D := fun Γ => (f Γ).bind fun x => if nolst x.1 then .ok x else .bad
theorem DE.n (a : DE T W k t f) : DE T W .N t (dN f) := fun c g Γ σ H Q S p => a c g Γ σ H Q S (by
  unfold dN at p
  cases e : f Γ with
  | ok x =>
    obtain ⟨d, Γ1⟩ := x
    rw [e, R.bind_ok] at p
    intro v H' S' q r
    by_cases hn : nolst d = true
    · rw [if_pos hn] at p
      exact p v H' S' q (r.loose hn)
    · rw [if_neg hn] at p
      exact False.elim p
  | err x => rw [e] at p; exact p
  | bad => rw [e] at p; exact p)

/-! ### names, constants -/
def dC (d : D) : EF D := fun Γ => .ok (d, Γ)
theorem de_c (r : ∀ (E : Addr → Prop) H, Rep T.K E H v d) : DE T W k (tC v) (dC d) := fun c g Γ σ H Q S p => p v H S Keep.refl (r _ _)
theorem de_int {i : Int} : DE T W k (tC (.int i)) (dC (.int i)) := de_c fun _ _ => .int i
theorem de_bl {i : Bool} : DE T W k (tC (.bl i)) (dC (.bl i)) := de_c fun _ _ => .bl i
theorem de_str {i : Str} : DE T W k (tC (.str i)) (dC (.str i)) := de_c fun _ _ => .str i
theorem de_non : DE T W k (tC .non) (dC .non) := de_c fun _ _ => .non
theorem de_ref {a : Addr} : DE T W k (tC (.ref a)) (dC (.ref a)) := de_c fun _ _ => .ref a
theorem de_ty {n : String} : DE T W k (tC (.ty n)) (dC (.ty n)) := de_c fun _ _ => .ty n
/-- the name at place i -/
def dV (i : Nat) : EF D := fun Γ => match Γ[i]? with
  | some (.im d) => .ok (d, Γ)
  | some (.fr d) => .ok (d, Γ)
  | some (.own ds) => .ok (.lst ds, Γ)
  | some (.od ks ds) => .ok (.dct ks ds, Γ)
  | _ => .bad
theorem Sim.nDa (S : Sim T c g Γ σ H) {i : Nat} {a : Addr} (h : g.ad i = some a) : ¬ g.Dp a := fun ⟨p, e⟩ => (S.da a p e).2.1 i |>.1 h
theorem de_v {i : Nat} : DE T W .W (tVar i) (dV i) := fun c g Γ σ H Q S p => by
  unfold dV at p
  cases e : Γ[i]? with
  | none => rw [e] at p; exact False.elim p
  | some s =>
    rw [e] at p
    have q := S.slot i s e
    cases s with
    | emp => exact False.elim p
    | im d =>
      obtain ⟨_, v, h1, h2⟩ := q
      exact ⟨v, h1, p v H S Keep.refl (h2.weak fun b z _ => .inl z)⟩
    | fr d =>
      obtain ⟨_, v, h1, h2⟩ := q
      exact ⟨v, h1, p v H S Keep.refl (h2.weak fun b z _ => .inl (.inl z))⟩
    | own ds =>
      obtain ⟨a, vs, h1, h2, h3, h4, h5, h6⟩ := q
      exact ⟨_, h2, p _ H S Keep.refl (.lst h3 (S.nDa h1) (h6.loose h5))⟩
    | od ks ds =>
      obtain ⟨a, vs, h1, h2, h3, h4, h5, h6⟩ := q
      exact ⟨_, h2, p _ H S Keep.refl (.dct h3 (S.nDa h1) (h6.loose h5))⟩
    | dr x => exact False.elim p
/-- the same where the value is to be stored or given back -/
def dVF (i : Nat) : EF D := fun Γ => match Γ[i]? with
  | some (.fr d) => .ok (d, Γ)
  | _ => .bad
theorem de_vF {i : Nat} : DE T W .F (tVar i) (dVF i) := fun c g Γ σ H Q S p => by
  unfold dVF at p
  cases e : Γ[i]? with
  | none => rw [e] at p; exact False.elim p
  | some s =>
    rw [e] at p
    have q := S.slot i s e
    cases s with
    | fr d =>
      obtain ⟨_, v, h1, h2⟩ := q
      exact ⟨v, h1, p v H S Keep.refl h2⟩
    | _ => exact False.elim p
/-- .. to be walked -/
def dVS (i : Nat) : EF D := fun Γ => match Γ[i]? with
  | some (.im d) => .ok (d, Γ)
  | some (.fr d) => .ok (d, Γ)
  | _ => .bad
theorem de_vS {i : Nat} : DE T W .S (tVar i) (dVS i) := fun c g Γ σ H Q S p => by
  unfold dVS at p
  cases e : Γ[i]? with
  | none => rw [e] at p; exact False.elim p
  | some s =>
    rw [e] at p
    have q := S.slot i s e
    cases s with
    | im d =>
      obtain ⟨_, v, h1, h2⟩ := q
      exact ⟨v, h1, p v H S Keep.refl h2⟩
    | fr d =>
      obtain ⟨_, v, h1, h2⟩ := q
      exact ⟨v, h1, p v H S Keep.refl (h2.weak fun b z _ => .inl z)⟩
    | _ => exact False.elim p

/-! ### two values, one value -/
/-- an operator gives o -/
def OpD (T : Ks) (r : R2) (o : D → D → Option D) : Prop := ∀ (E : Addr → Prop) H x y dx dy z (Q : VK), Rep T.K E H x dx → Rep T.K E H y dy → o dx dy = some z → (∀ v H', Same H H' → Rep T.K (fun b => H b ≠ none) H' v z → Q v H') → r x y H Q
def UnD (T : Ks) (r : V → Hp → VK → Prop) (o : D → Option D) : Prop := ∀ (E : Addr → Prop) H x dx z (Q : VK), Rep T.K E H x dx → o dx = some z → (∀ v H', Same H H' → Rep T.K (fun b => H b ≠ none) H' v z → Q v H') → r x H Q
def CaD (T : Ks) (r : List V → Hp → VK → Prop) (o : List D → Option D) : Prop := ∀ (E : Addr → Prop) H xs ds z (Q : VK), Reps T.K E H xs ds → o ds = some z → (∀ v H', Same H H' → Rep T.K (fun b => H b ≠ none) H' v z → Q v H') → r xs H Q
def liftO (o : Option D) (Γ : Nv) : R (Err × Nv) (D × Nv) := match o with | some z => .ok (z, Γ) | none => .bad
def dOp (o : D → D → Option D) (f h : EF D) : EF D := fun Γ => (f Γ).bind fun x => (h x.2).bind fun y => liftO (o x.1 y.1) y.2
theorem de_op {r : R2} {o : D → D → Option D} {ka kb : Lq} (ho : OpD T r o) (a : DE T W ka ta f) (b : DE T W kb tb h) : DE T W k (tOp r ta tb) (dOp o f h) := fun c g Γ σ H Q S p => by
  refine a c g Γ σ H _ S ?_
  unfold dOp at p
  cases e : f Γ with
  | bad => rw [e] at p; exact p
  | err x => rw [e] at p; exact p
  | ok x =>
    obtain ⟨dx, Γ1⟩ := x
    rw [e, R.bind_ok] at p
    intro v1 H1 S1 k1 r1
    refine b c g Γ1 σ H1 _ S1 ?_
    cases e2 : h Γ1 with
    | bad => rw [e2] at p; exact p
    | err y => rw [e2] at p; exact p
    | ok y =>
      obtain ⟨dy, Γ2⟩ := y
      simp only [e2, R.bind_ok] at p
      intro v2 H2 S2 k2 r2
      cases e3 : o dx dy with
      | none => rw [e3] at p; exact False.elim p
      | some z =>
        rw [e3] at p
        have r1' := S.toW (S1.stay (vs := []) k2 (fun b z => S.exW z) r1)
        have r2' := S1.toW r2
        refine ho g.Dp H2 v1 v2 dx dy z Q r1' r2' e3 fun v H' s r => ?_
        refine p v H' (S2.grow s) (k1.trans (k2.trans (ofSame s))) (S.newq r ?_)
        exact fun b z => S1.grown S2 k2 b (S.grown S1 k1 b z)
def dUn (o : D → Option D) (f : EF D) : EF D := fun Γ => (f Γ).bind fun x => liftO (o x.1) x.2
theorem de_un {r : V → Hp → VK → Prop} {o : D → Option D} {ka : Lq} (ho : UnD T r o) (a : DE T W ka ta f) : DE T W k (tUn r ta) (dUn o f) := fun c g Γ σ H Q S p => by
  refine a c g Γ σ H _ S ?_
  unfold dUn at p
  cases e : f Γ with
  | bad => rw [e] at p; exact p
  | err x => rw [e] at p; exact p
  | ok x =>
    obtain ⟨dx, Γ1⟩ := x
    rw [e, R.bind_ok] at p
    intro v1 H1 S1 k1 r1
    cases e3 : o dx with
    | none => simp only [e3] at p; exact False.elim p
    | some z =>
      simp only [e3] at p
      refine ho g.Dp H1 v1 dx z Q (S.toW r1) e3 fun v H' s r => ?_
      exact p v H' (S1.grow s) (k1.trans (ofSame s)) (S.newq r (S.grown S1 k1))
/-- a built-in called -/
def dCB (o : List D → Option D) (fs : EF (List D)) : EF D := fun Γ => (fs Γ).bind fun x => liftO (o x.1) x.2
theorem de_cb {r : List V → Hp → VK → Prop} {o : List D → Option D} {ka : Lq} {ts : TA} {fs : EF (List D)} (ho : CaD T r o) (a : DA T W ka ts fs) : DE T W k (tCB r ts) (dCB o fs) := fun c g Γ σ H Q S p => by
  refine a c g Γ σ H _ S ?_
  unfold dCB at p
  cases e : fs Γ with
  | bad => rw [e] at p; exact p
  | err x => rw [e] at p; exact p
  | ok x =>
    obtain ⟨dx, Γ1⟩ := x
    rw [e, R.bind_ok] at p
    intro v1 H1 S1 k1 r1
    cases e3 : o dx with
    | none => simp only [e3] at p; exact False.elim p
    | some z =>
      simp only [e3] at p
      refine ho g.Dp H1 v1 dx z Q (r1.weak fun _ z _ => S.exW z) e3 fun v H' s r => ?_
      exact p v H' (S1.grow s) (k1.trans (ofSame s)) (S.newq r (S.grown S1 k1))

/-! ### argument lists, displays -/
def dNil : EF (List D) := fun Γ => .ok ([], Γ)
def dCons (f : EF D) (fs : EF (List D)) : EF (List D) := fun Γ => (f Γ).bind fun x => (fs x.2).bind fun y => .ok (x.1 :: y.1, y.2)
theorem da_nil : DA T W k tNil dNil := fun c g Γ σ H Q S p => p [] H S Keep.refl .nil
theorem da_cons {ts : TA} {fs : EF (List D)} (a : DE T W k ta f) (b : DA T W k ts fs) : DA T W k (tCons ta ts) (dCons f fs) := fun c g Γ σ H Q S p => by
  refine a c g Γ σ H _ S ?_
  unfold dCons at p
  cases e : f Γ with
  | bad => rw [e] at p; exact p
  | err x => rw [e] at p; exact p
  | ok x =>
    obtain ⟨dx, Γ1⟩ := x
    rw [e, R.bind_ok] at p
    intro v1 H1 S1 k1 r1
    refine b c g Γ1 σ H1 _ S1 ?_
    cases e2 : fs Γ1 with
    | bad => rw [e2] at p; exact p
    | err y => rw [e2] at p; exact p
    | ok y =>
      obtain ⟨dy, Γ2⟩ := y
      simp only [e2, R.bind_ok] at p
      intro v2 H2 S2 k2 r2
      refine p _ H2 S2 (k1.trans k2) (.cons (S1.stay (vs := []) k2 (fun b z => S.exW z) r1) (r2.weak fun b' z _ => ?_))
      cases k with
      | W => exact z
      | S => exact z
      | F => exact z
      | N => exact S.grown S1 k1 b' z
def dTup (fs : EF (List D)) : EF D := fun Γ => (fs Γ).bind fun x => if x.1.length ≤ sizeLine then .ok (.tup x.1, x.2) else .bad
def dLst (fs : EF (List D)) : EF D := fun Γ => (fs Γ).bind fun x => if x.1.length ≤ sizeLine then .ok (.lst x.1, x.2) else .bad
theorem de_tup {ts : TA} {fs : EF (List D)} (a : DA T W k ts fs) : DE T W k (tTup ts) (dTup fs) := fun c g Γ σ H Q S p => by
  refine a c g Γ σ H _ S ?_
  unfold dTup at p
  cases e : fs Γ with
  | bad => rw [e] at p; exact p
  | err x => rw [e] at p; exact p
  | ok x =>
    obtain ⟨dx, Γ1⟩ := x
    rw [e, R.bind_ok] at p
    intro v1 H1 S1 k1 r1
    by_cases hl : dx.length ≤ sizeLine
    · rw [if_pos hl] at p
      refine ⟨by rw [r1.length]; exact hl, fun a na => ?_⟩
      have s := same_upd (o := .tup v1) na
      exact p _ _ (S1.grow s) (k1.trans (ofSame s)) (.tup (.inl (.inl upd_same)) (r1.same s))
    · rw [if_neg hl] at p; exact False.elim p
theorem de_lst {ts : TA} {fs : EF (List D)} (a : DA T W k ts fs) : DE T W k (tLst ts) (dLst fs) := fun c g Γ σ H Q S p => by
  refine a c g Γ σ H _ S ?_
  unfold dLst at p
  cases e : fs Γ with
  | bad => rw [e] at p; exact p
  | err x => rw [e] at p; exact p
  | ok x =>
    obtain ⟨dx, Γ1⟩ := x
    rw [e, R.bind_ok] at p
    intro v1 H1 S1 k1 r1
    by_cases hl : dx.length ≤ sizeLine
    · rw [if_pos hl] at p
      refine ⟨by rw [r1.length]; exact hl, fun a na => ?_⟩
      have s := same_upd (o := .lst v1) na
      exact p _ _ (S1.grow s) (k1.trans (ofSame s)) (.lst upd_same (fun z => S.grown S1 k1 a (S.someq z) na) (r1.same s))
    · rw [if_neg hl] at p; exact False.elim p

/-! ### tests, choice -/
def dBool (f : EF D) : EF Bool := fun Γ => (f Γ).bind fun x => match x.1 with | .bl b => .ok (b, x.2) | _ => .bad
theorem dt_val (a : DE T W k ta f) : DT T W (tB ta) (dBool f) := fun c g Γ σ H Q S p => by
  refine a c g Γ σ H _ S ?_
  unfold dBool at p
  cases e : f Γ with
  | bad => rw [e] at p; exact p
  | err x => rw [e] at p; exact p
  | ok x =>
    obtain ⟨dx, Γ1⟩ := x
    rw [e, R.bind_ok] at p
    intro v1 H1 S1 k1 r1
    cases r1 with
    | bl b => exact ⟨b, rfl, p H1 S1 k1⟩
    | _ => exact False.elim p
theorem dt_test (a : DE T W k ta f) : DT T W (tTest ta) (dBool f) := dt_val a
/-- a value's truth -/
def truD : D → Option Bool
  | .non => some false
  | .bl b => some b
  | .int i => some (i != 0)
  | .str y => if y.length ≤ sizeLine then some ((y.length : Int) != 0) else none
  | .lst xs => some (!xs.isEmpty)
  | .tup xs => some (!xs.isEmpty)
  | _ => none
def dTru (f : EF D) : EF Bool := fun Γ => (f Γ).bind fun x => match truD x.1 with | some b => .ok (b, x.2) | none => .bad
theorem Reps.empty {E : Addr → Prop} {K : PySem.W.Frag} {vs : List V} {ds : List D} (r : Reps K E H vs ds) : ds.isEmpty = vs.isEmpty := by cases r <;> rfl
theorem dt_tru (a : DE T W k ta f) : DT T W (fun σ H Q => ta σ H fun x H' => ∃ k, TruV T.K x H' k ∧ Q k H') (dTru f) := fun c g Γ σ H Q S p => by
  refine a c g Γ σ H _ S ?_
  unfold dTru at p
  cases e : f Γ with
  | bad => rw [e] at p; exact p
  | err x => rw [e] at p; exact p
  | ok x =>
    obtain ⟨dx, Γ1⟩ := x
    rw [e, R.bind_ok] at p
    intro v1 H1 S1 k1 r1
    cases r1 with
    | non => exact ⟨false, rfl, p H1 S1 k1⟩
    | bl b => exact ⟨b, rfl, p H1 S1 k1⟩
    | int i => exact ⟨_, rfl, p H1 S1 k1⟩
    | str y =>
      unfold truD at p
      by_cases hl : y.length ≤ sizeLine
      · simp only [if_pos hl] at p
        exact ⟨_, ⟨hl, rfl⟩, p H1 S1 k1⟩
      · simp only [if_neg hl] at p
        exact False.elim p
    | tup h r =>
      refine ⟨_, .inr (.inl ⟨_, h, rfl⟩), ?_⟩
      rw [← r.empty]; exact p H1 S1 k1
    | lst h n r =>
      refine ⟨_, .inl ⟨_, SqL.of h, rfl⟩, ?_⟩
      rw [← r.empty]; exact p H1 S1 k1
    | _ => exact False.elim p
def dAnd (a b : EF Bool) : EF Bool := fun Γ => (a Γ).bind fun x => if x.1 then b x.2 else .ok (false, x.2)
def dOr (a b : EF Bool) : EF Bool := fun Γ => (a Γ).bind fun x => if x.1 then .ok (true, x.2) else b x.2
def dNot (a : EF Bool) : EF Bool := fun Γ => (a Γ).bind fun x => .ok (!x.1, x.2)
section
variable {tA tB' : TT} {fa fb : EF Bool}
theorem PostT.further {Hs : Hp} {Q : Bool → Hp → Prop} {r : R (Err × Nv) (Bool × Nv)} (q : Keep g.Dp Hs H) (p : PostT T c g σ Hs Q W r) : PostT T c g σ H Q W r := by
  cases r with
  | ok x => exact fun H' S' q' => p H' S' (q.trans q')
  | err x => exact p
  | bad => exact p
theorem dt_and (a : DT T W tA fa) (b : DT T W tB' fb) : DT T W (tAnd tA tB') (dAnd fa fb) := fun c g Γ σ H Q S p => by
  refine a c g Γ σ H _ S ?_
  unfold dAnd at p
  cases e : fa Γ with
  | bad => rw [e] at p; exact p
  | err x => rw [e] at p; exact p
  | ok x =>
    obtain ⟨x, Γ1⟩ := x
    rw [e, R.bind_ok] at p
    intro H1 S1 k1
    cases x with
    | true => exact b c g Γ1 σ H1 Q S1 (p.further k1)
    | false => exact p H1 S1 k1
theorem dt_or (a : DT T W tA fa) (b : DT T W tB' fb) : DT T W (tOr tA tB') (dOr fa fb) := fun c g Γ σ H Q S p => by
  refine a c g Γ σ H _ S ?_
  unfold dOr at p
  cases e : fa Γ with
  | bad => rw [e] at p; exact p
  | err x => rw [e] at p; exact p
  | ok x =>
    obtain ⟨x, Γ1⟩ := x
    rw [e, R.bind_ok] at p
    intro H1 S1 k1
    cases x with
    | true => exact p H1 S1 k1
    | false => exact b c g Γ1 σ H1 Q S1 (p.further k1)
theorem dt_not (a : DT T W tA fa) : DT T W (tNot tA) (dNot fa) := fun c g Γ σ H Q S p => by
  refine a c g Γ σ H _ S ?_
  unfold dNot at p
  cases e : fa Γ with
  | bad => rw [e] at p; exact p
  | err x => rw [e] at p; exact p
  | ok x => rw [e, R.bind_ok] at p; exact p
def dIf (a : EF Bool) (f h : EF D) : EF D := fun Γ => (a Γ).bind fun x => if x.1 then f x.2 else h x.2
theorem PostE.further {Hs : Hp} {Q : VK} {r : R (Err × Nv) (D × Nv)} (S : Sim T c g Γ' σ Hs) (S1 : Sim T c g Γ σ H) (q : Keep g.Dp Hs H) (p : PostE T c g σ Hs k Q W r) : PostE T c g σ H k Q W r := by
  cases r with
  | ok x =>
    refine fun v H' S' q' r => p v H' S' (q.trans q') (r.weak fun b z _ => ?_)
    cases k with
    | W => exact z
    | S => exact z
    | F => exact z
    | N => exact S.grown S1 q b z
  | err x => exact p
  | bad => exact p
theorem de_if (a : DT T W tA fa) (b : DE T W k ta f) (b' : DE T W k tb h) : DE T W k (tIf tA ta tb) (dIf fa f h) := fun c g Γ σ H Q S p => by
  refine a c g Γ σ H _ S ?_
  unfold dIf at p
  cases e : fa Γ with
  | bad => rw [e] at p; exact p
  | err x => rw [e] at p; exact p
  | ok x =>
    obtain ⟨x, Γ1⟩ := x
    rw [e, R.bind_ok] at p
    intro H1 S1 k1
    cases x with
    | true => exact b c g Γ1 σ H1 Q S1 (p.further S S1 k1)
    | false => exact b' c g Γ1 σ H1 Q S1 (p.further S S1 k1)
end
/-! and, or, not as values of truth values -/
def dAndV (f h : EF D) : EF D := fun Γ => (f Γ).bind fun x => match x.1 with | .bl b => if b then h x.2 else .ok (.bl false, x.2) | _ => .bad
def dOrV (f h : EF D) : EF D := fun Γ => (f Γ).bind fun x => match x.1 with | .bl b => if b then .ok (.bl true, x.2) else h x.2 | _ => .bad
theorem de_andV {ka : Lq} (a : DE T W ka ta f) (b : DE T W k tb h) : DE T W k (tAndV ta tb) (dAndV f h) := fun c g Γ σ H Q S p => by
  refine a c g Γ σ H _ S ?_
  unfold dAndV at p
  cases e : f Γ with
  | bad => rw [e] at p; exact p
  | err x => rw [e] at p; exact p
  | ok x =>
    obtain ⟨dx, Γ1⟩ := x
    rw [e, R.bind_ok] at p
    intro v1 H1 S1 k1 r1
    cases r1 with
    | bl x =>
      cases x with
      | true => exact ⟨true, rfl, iteT (b c g Γ1 σ H1 Q S1 (PostE.further S S1 k1 p))⟩
      | false => exact ⟨false, rfl, iteF (p _ H1 S1 k1 (.bl false))⟩
    | _ => exact False.elim p
theorem de_orV {ka : Lq} (a : DE T W ka ta f) (b : DE T W k tb h) : DE T W k (tOrV ta tb) (dOrV f h) := fun c g Γ σ H Q S p => by
  refine a c g Γ σ H _ S ?_
  unfold dOrV at p
  cases e : f Γ with
  | bad => rw [e] at p; exact p
  | err x => rw [e] at p; exact p
  | ok x =>
    obtain ⟨dx, Γ1⟩ := x
    rw [e, R.bind_ok] at p
    intro v1 H1 S1 k1 r1
    cases r1 with
    | bl x =>
      cases x with
      | true => exact ⟨true, rfl, iteT (p _ H1 S1 k1 (.bl true))⟩
      | false => exact ⟨false, rfl, iteF (b c g Γ1 σ H1 Q S1 (PostE.further S S1 k1 p))⟩
    | _ => exact False.elim p
def oNot : D → Option D
  | .bl b => some (.bl (!b))
  | _ => none
theorem de_notV {ka : Lq} (a : DE T W ka ta f) : DE T W k (tNotV ta) (dUn oNot f) :=
  de_un (r := fun x H Q => ∃ c, x = .bl c ∧ Q (.bl (!c)) H) (fun E H x dx z Q r e q => by
    cases r with
    | bl b => cases e; exact ⟨b, rfl, q _ _ (Same.refl _) (.bl _)⟩
    | _ => cases e) a
/-- a < b < c -/
def dChain (o o' : D → D → Option D) (f h j : EF D) : EF D := fun Γ => (f Γ).bind fun x => (h x.2).bind fun y => match o x.1 y.1 with
  | some (.bl b) => if b then (j y.2).bind fun z => liftO (o' y.1 z.1) z.2 else .ok (.bl false, y.2)
  | _ => .bad
theorem de_chain {r r' : R2} {o o' : D → D → Option D} {tc : TE} {j : EF D} {ka kb kc : Lq} (ho : OpD T r o) (ho' : OpD T r' o') (a : DE T W ka ta f) (b : DE T W kb tb h) (b' : DE T W kc tc j) : DE T W k (tChain r r' ta tb tc) (dChain o o' f h j) := fun c g Γ σ H Q S p => by
  refine a c g Γ σ H _ S ?_
  unfold dChain at p
  cases e : f Γ with
  | bad => rw [e] at p; exact p
  | err x => rw [e] at p; exact p
  | ok x =>
    obtain ⟨dx, Γ1⟩ := x
    rw [e, R.bind_ok] at p
    intro v1 H1 S1 k1 r1
    refine b c g Γ1 σ H1 _ S1 ?_
    cases e2 : h Γ1 with
    | bad => rw [e2] at p; exact p
    | err y => rw [e2] at p; exact p
    | ok y =>
      obtain ⟨dy, Γ2⟩ := y
      simp only [e2, R.bind_ok] at p
      intro v2 H2 S2 k2 r2
      cases e3 : o dx dy with
      | none => rw [e3] at p; exact False.elim p
      | some z =>
        rw [e3] at p
        have r1' := S.toW (S1.stay (vs := []) k2 (fun b z => S.exW z) r1)
        have r2' := S1.toW r2
        refine ho g.Dp H2 v1 v2 dx dy z _ r1' r2' e3 fun v H3 s r => ?_
        cases r with
        | bl x =>
          refine ⟨x, rfl, ?_⟩
          have S3 := S2.grow s
          cases x with
          | false => exact iteF (p _ H3 S3 (k1.trans (k2.trans (ofSame s))) (.bl false))
          | true =>
            refine iteT (b' c g Γ2 σ H3 _ S3 ?_)
            cases e4 : j Γ2 with
            | bad => simp only [e4] at p; exact p
            | err y => simp only [e4] at p; exact p
            | ok y =>
              obtain ⟨dz, Γ3⟩ := y
              simp only [if_true, e4, R.bind_ok] at p
              intro v4 H4 S4 k4 r4
              cases e5 : o' dy dz with
              | none => rw [e5] at p; exact False.elim p
              | some z =>
                rw [e5] at p
                have q2 : Rep T.K g.Dp H4 v2 dy := (r2'.same s).keep k4 S3.listsD (fun _ z => z) fun _ z _ => z
                refine ho' g.Dp H4 v2 v4 dy dz z Q q2 (S3.toW r4) e5 fun v H5 s5 r => ?_
                exact p v H5 (S4.grow s5) (k1.trans (k2.trans ((ofSame s).trans (k4.trans (ofSame s5))))) (S.newq r fun b z => S3.grown S4 k4 b (keep_some (ofSame s) (fun b n => S3.some_of (k := .W) n) b (S1.grown S2 k2 b (S.grown S1 k1 b z))))
        | _ => exact False.elim p
end
end DL

set_option Elab.async false
set_option linter.all false
set_option maxRecDepth 100000
/-! data layer, part c: statements, loops, calls -/
namespace DL
open PySem PySem.Spec PyProof.Rows L2

abbrev SF := EF Fl
/-- the places may change: the draws once known stay -/
structure Gle (g g' : Gh) : Prop where
  da : g.da ≠ none → g'.da = g.da
  xt : g'.xt = g.xt
theorem Gle.refl {g : Gh} : Gle g g := ⟨fun _ => rfl, rfl⟩
theorem Gle.trans {g h k : Gh} (a : Gle g h) (b : Gle h k) : Gle g k := ⟨fun n => by rw [b.da (by rw [a.da n]; exact n), a.da n], b.xt.trans a.xt⟩
def PostS (T : Ks) (c : Ct) (g : Gh) (D : Ends) (W : WX) : R (Err × Nv) (Fl × Nv) → Prop
  | .ok (.nx, Γ) => ∀ g' σ' H', Gle g g' → Sim T c g' Γ σ' H' → D.nx σ' H'
  | .ok (.bk, Γ) => ∀ g' σ' H', Gle g g' → Sim T c g' Γ σ' H' → D.bk σ' H'
  | .ok (.ct, Γ) => ∀ g' σ' H', Gle g g' → Sim T c g' Γ σ' H' → D.ct σ' H'
  | .ok (.rt d, Γ) => ∀ g' v σ' H', Gle g g' → Sim T c g' Γ σ' H' → Rep T.K (fun b => c.H0 b ≠ none) H' v d → D.rt v H'
  | .err (e, Γ) => ∀ g' cls dd σ' H', Gle g g' → Sim T c g' Γ σ' H' → ErrOk T e cls dd H' → W cls dd σ' H'
  | .bad => False
def DS (T : Ks) (W : WX) (t : TS) (f : SF) : Prop := ∀ c g Γ σ H (D : Ends), Sim T c g Γ σ H → PostS T c g D W (f Γ) → t D σ H
section
variable {T : Ks} {W : WX} {c : Ct} {g g' : Gh} {Γ Γ' : Nv} {σ : L2.St} {H H' : Hp} {v : V} {d : D} {k : Lq} {t u : TS} {te : TE} {f h : SF} {fe : EF D} {De : Ends}
theorem PostS.further (p : PostS T c g De W r) (q : Gle g g') : PostS T c g' De W r := by
  rcases r with ⟨fl, Γ⟩ | ⟨e, Γ⟩ | _
  · cases fl with
    | nx => exact fun g2 σ' H' z => p g2 σ' H' (q.trans z)
    | bk => exact fun g2 σ' H' z => p g2 σ' H' (q.trans z)
    | ct => exact fun g2 σ' H' z => p g2 σ' H' (q.trans z)
    | rt d => exact fun g2 v σ' H' z => p g2 v σ' H' (q.trans z)
  · exact fun g2 cls dd σ' H' z => p g2 cls dd σ' H' (q.trans z)
  · exact p
/-! ### blocks -/
def dNx : SF := fun Γ => .ok (.nx, Γ)
theorem ds_nx : DS T W tNext dNx := fun c g Γ σ H D S p => p g σ H Gle.refl S
def dSeq (f h : SF) : SF := fun Γ => (f Γ).bind fun x => match x.1 with | .nx => h x.2 | _ => .ok x
theorem ds_seq (a : DS T W t f) (b : DS T W u h) : DS T W (tSeq t u) (dSeq f h) := fun c g Γ σ H D S p => by
  refine a c g Γ σ H _ S ?_
  unfold dSeq at p
  cases e : f Γ with
  | bad => rw [e] at p; exact p
  | err x => rw [e] at p; exact p
  | ok x =>
    obtain ⟨fl, Γ1⟩ := x
    rw [e, R.bind_ok] at p
    cases fl with
    | nx => exact fun g' σ' H' q S' => b c g' Γ1 σ' H' D S' (p.further q)
    | bk => exact p
    | ct => exact p
    | rt d => exact p
def dBk : SF := fun Γ => .ok (.bk, Γ)
def dCt : SF := fun Γ => .ok (.ct, Γ)
theorem ds_bk : DS T W tBreak dBk := fun c g Γ σ H D S p => p g σ H Gle.refl S
theorem ds_ct : DS T W tCont dCt := fun c g Γ σ H D S p => p g σ H Gle.refl S
def dBad : SF := fun _ => .bad
theorem ds_never : DS T W tNever dBad := fun c g Γ σ H D S p => False.elim p
def dDrop (fe : EF D) : SF := fun Γ => (fe Γ).bind fun x => .ok (.nx, x.2)
theorem ds_drop (a : DE T W k te fe) : DS T W (tDrop te) (dDrop fe) := fun c g Γ σ H D S p => by
  refine a c g Γ σ H _ S ?_
  unfold dDrop at p
  cases e : fe Γ with
  | bad => rw [e] at p; exact p
  | err x => rw [e] at p; exact fun cls dd H' S' => p g cls dd σ H' Gle.refl S'
  | ok x => rw [e, R.bind_ok] at p; exact fun v H' S' _ _ => p g σ H' Gle.refl S'
def dRet (fe : EF D) : SF := fun Γ => (fe Γ).bind fun x => .ok (.rt x.1, x.2)
theorem ds_ret (a : DE T W .F te fe) : DS T W (tRet te) (dRet fe) := fun c g Γ σ H D S p => by
  refine a c g Γ σ H _ S ?_
  unfold dRet at p
  cases e : fe Γ with
  | bad => rw [e] at p; exact p
  | err x => rw [e] at p; exact fun cls dd H' S' => p g cls dd σ H' Gle.refl S'
  | ok x => rw [e, R.bind_ok] at p; exact fun v H' S' _ r => p g v σ H' Gle.refl S' (r.weak fun b z _ => .inr z)
def dRetN : SF := fun Γ => .ok (.rt .non, Γ)
theorem ds_retN : DS T W tRetN dRetN := fun c g Γ σ H D S p => p g .non σ H Gle.refl S .non
def dIfS (a : EF Bool) (f h : SF) : SF := fun Γ => (a Γ).bind fun x => if x.1 then f x.2 else h x.2
theorem ds_if {tc : TT} {fa : EF Bool} (a : DT T W tc fa) (b : DS T W t f) (b' : DS T W u h) : DS T W (tIfS tc t u) (dIfS fa f h) := fun c g Γ σ H D S p => by
  refine a c g Γ σ H _ S ?_
  unfold dIfS at p
  cases e : fa Γ with
  | bad => rw [e] at p; exact p
  | err x => rw [e] at p; exact fun cls dd H' S' => p g cls dd σ H' Gle.refl S'
  | ok x =>
    obtain ⟨x, Γ1⟩ := x
    rw [e, R.bind_ok] at p
    intro H1 S1 k1
    cases x with
    | true => exact b c g Γ1 σ H1 D S1 p
    | false => exact b' c g Γ1 σ H1 D S1 p

/-! ### the slots set -/
def Gh.cut (g : Gh) (i : Nat) : Gh := { g with ad := fun j => if j = i then none else g.ad j }
theorem Gh.cut_at (g : Gh) (i : Nat) : (g.cut i).ad i = none := if_pos rfl
theorem Gh.cut_ne (g : Gh) {i j : Nat} (h : j ≠ i) : (g.cut i).ad j = g.ad j := if_neg h
theorem Gh.cut_some {g : Gh} {i j : Nat} {a : Addr} (h : (g.cut i).ad j = some a) : j ≠ i ∧ g.ad j = some a := by
  by_cases e : j = i
  · rw [e, Gh.cut_at] at h; cases h
  · rw [Gh.cut_ne g e] at h; exact ⟨e, h⟩
theorem Gh.cut_ep {g : Gh} {i : Nat} {b : Addr} (h : (g.cut i).Ep b) : g.Ep b := by
  rcases h with h | ⟨j, h⟩ | h
  · exact .inl h
  · exact .inr (.inl ⟨j, (Gh.cut_some h).2⟩)
  · exact .inr (.inr h)
theorem Gle.cut {i : Nat} : Gle g (g.cut i) := ⟨fun _ => rfl, rfl⟩
/-- slot i takes a value, or nothing -/
theorem Sim.put {o : Option V} {s : Slot} (S : Sim T c g Γ σ H) (i : Nat) (hs : ∀ x, s ≠ .dr x) (hsl : i < Γ.length → SlotOk T c (g.cut i) (σ.set i o) H i s) : Sim T c (g.cut i) (Γ.set i s) (σ.set i o) H where
  len := by rw [List.length_set, List.length_set]; exact S.len
  slot := fun j sl e => by
    by_cases hj : j = i
    · subst hj
      have hl : j < Γ.length := by
        have := (List.getElem?_eq_some_iff.mp e).1
        rwa [List.length_set] at this
      rw [List.getElem?_set_self hl] at e
      cases e
      exact hsl hl
    · rw [List.getElem?_set_ne (Ne.symm hj)] at e
      have q := S.slot j sl e
      have hσ : (σ.set i o)[j]? = σ[j]? := List.getElem?_set_ne (Ne.symm hj)
      have ha : (g.cut i).ad j = g.ad j := Gh.cut_ne g hj
      cases sl with
      | emp => exact ha.trans q
      | im d =>
        obtain ⟨h1, v, h2, h3⟩ := q
        exact ⟨ha.trans h1, v, hσ.trans h2, h3.weak fun b z _ => Gh.cut_ep z⟩
      | fr d =>
        obtain ⟨h1, v, h2, h3⟩ := q
        exact ⟨ha.trans h1, v, hσ.trans h2, h3.weak fun b z _ => z.imp Gh.cut_ep id⟩
      | own ds =>
        obtain ⟨a, vs, h1, h2, h3, h4, h5, h6⟩ := q
        exact ⟨a, vs, ha.trans h1, hσ.trans h2, h3, h4, h5, h6.weak fun b z _ => Gh.cut_ep z⟩
      | od ks ds =>
        obtain ⟨a, vs, h1, h2, h3, h4, h5, h6⟩ := q
        exact ⟨a, vs, ha.trans h1, hσ.trans h2, h3, h4, h5, h6.weak fun b z _ => Gh.cut_ep z⟩
      | dr x =>
        obtain ⟨h1, a, p, h2, h3, h4, h5⟩ := q
        exact ⟨ha.trans h1, a, p, h2, hσ.trans h3, h4, h5⟩
  out := fun j hj => by
    rw [List.length_set] at hj
    by_cases e : j = i
    · rw [e]; exact Gh.cut_at g i
    · rw [Gh.cut_ne g e]; exact S.out j hj
  inj := fun j l a h1 h2 => S.inj j l a (Gh.cut_some h1).2 (Gh.cut_some h2).2
  one := fun j l x y h1 h2 => by
    have nd : ∀ (m : Nat) (z : Dr), (Γ.set i s)[m]? = some (Slot.dr z) → Γ[m]? = some (Slot.dr z) := fun m z e => by
      by_cases hm : m = i
      · subst hm
        have hl : m < Γ.length := by
          have := (List.getElem?_eq_some_iff.mp e).1
          rwa [List.length_set] at this
        rw [List.getElem?_set_self hl] at e
        exact absurd (Option.some.inj e) (hs z)
      · rwa [List.getElem?_set_ne (Ne.symm hm)] at e
    exact S.one j l x y (nd _ _ h1) (nd _ _ h2)
  frame := S.frame
  old := S.old
  da := fun a p h => by
    obtain ⟨h1, h2, h3, h4, h5, h6⟩ := S.da a p h
    exact ⟨h1, fun j => ⟨fun z => (h2 j).1 (Gh.cut_some z).2, fun z => (h2 j).2 (Gh.cut_some z).2⟩, h3, h4, h5, h6⟩
  hz := fun b h => S.hz b (Gh.cut_ep h)
  pin := S.pin
  xt := fun b h => by
    obtain ⟨h1, h2, h3⟩ := S.xt b h
    exact ⟨fun j z => h1 j (Gh.cut_some z).2, h2, h3⟩
theorem Sim.in_len {i : Nat} {o : Option V} (S : Sim T c g Γ σ H) (h : i < Γ.length) : (σ.set i o)[i]? = some o := List.getElem?_set_self (by rw [S.len]; exact h)
/-- i = a value -/
theorem Sim.setIm (S : Sim T c g Γ σ H) (i : Nat) (r : Rep T.K g.Ep H v d) : Sim T c (g.cut i) (Γ.set i (.im d)) (σ.set i (some v)) H :=
  S.put i (fun _ z => nomatch z) fun h => ⟨Gh.cut_at g i, v, S.in_len h, r.weak fun b z _ => Gh.cut_ep z⟩
theorem Sim.setFr (S : Sim T c g Γ σ H) (i : Nat) (r : Rep T.K (fun b => g.Ep b ∨ c.H0 b ≠ none) H v d) : Sim T c (g.cut i) (Γ.set i (.fr d)) (σ.set i (some v)) H :=
  S.put i (fun _ z => nomatch z) fun h => ⟨Gh.cut_at g i, v, S.in_len h, r.weak fun b z _ => z.imp Gh.cut_ep id⟩
theorem Sim.setEmp (S : Sim T c g Γ σ H) (i : Nat) (o : Option V) : Sim T c (g.cut i) (Γ.set i .emp) (σ.set i o) H :=
  S.put i (fun _ z => nomatch z) fun h => Gh.cut_at g i

/-! ### targets -/
def Gh.cuts (g : Gh) : List Nat → Gh
  | [] => g
  | i :: r => (g.cut i).cuts r
theorem Gle.cuts : ∀ (l : List Nat) {g : Gh}, Gle g (g.cuts l)
  | [], _ => Gle.refl
  | i :: r, g => Gle.cut.trans (Gle.cuts r (g := g.cut i))
theorem Gh.cuts_ep : ∀ {l : List Nat} {g : Gh} {b : Addr}, (g.cuts l).Ep b → g.Ep b
  | [], _, _, h => h
  | i :: r, g, b, h => Gh.cut_ep (Gh.cuts_ep (l := r) (g := g.cut i) h)
theorem Gh.cut_id {g : Gh} {i : Nat} (h : g.ad i = none) : g.cut i = g := by
  obtain ⟨ad, da, xt⟩ := g
  have : (fun j => if j = i then none else ad j) = ad := by
    funext j
    by_cases e : j = i
    · rw [if_pos e, e]; exact h.symm
    · rw [if_neg e]
  show Gh.mk (fun j => if j = i then none else ad j) da xt = _
  rw [this]
theorem Gh.cuts_id : ∀ {l : List Nat} {g : Gh}, (∀ i ∈ l, g.ad i = none) → g.cuts l = g
  | [], _, _ => rfl
  | i :: r, g, h => by
    show (g.cut i).cuts r = g
    rw [Gh.cut_id (h i List.mem_cons_self)]
    exact Gh.cuts_id fun j hj => h j (List.mem_cons_of_mem _ hj)
theorem wipe_set {σ : L2.St} {i : Nat} {o : Option V} : ∀ {l : List Nat}, i ∈ l → wipe (σ.set i o) l = wipe σ l
  | [], h => by simp at h
  | j :: r, h => by
    show (wipe (σ.set i o) r).set j none = (wipe σ r).set j none
    by_cases hr : i ∈ r
    · rw [wipe_set hr]
    · have e : i = j := by
        rcases List.mem_cons.mp h with h | h
        · exact h
        · exact absurd h hr
      subst e
      have key : ∀ (l : List Nat), i ∉ l → wipe (σ.set i o) l = (wipe σ l).set i o := by
        intro l
        induction l with
        | nil => intro _; rfl
        | cons m l ih =>
          intro hm
          have h1 : i ≠ m := fun z => hm (by rw [z]; exact List.mem_cons_self)
          show (wipe (σ.set i o) l).set m none = ((wipe σ l).set m none).set i o
          rw [ih fun z => hm (List.mem_cons_of_mem _ z), List.set_comm _ _ h1]
      rw [key r hr, List.set_set]
/-- a target gives f of the value stored, at the places of l -/
def DG (T : Ks) (l : List Nat) (t : TG) (f : D → Nv → Option Nv) : Prop := ∀ c g Γ σ H v d (Q : L2.St → Hp → Prop), Sim T c g Γ σ H → Rep T.K g.Ep H v d →
  (∀ Γ', f d Γ = some Γ' → ∀ σ', (∀ m, (∀ i ∈ l, i ∈ m) → wipe σ' m = wipe σ m) → Sim T c (g.cuts l) Γ' σ' H → Q σ' H) → (∃ Γ', f d Γ = some Γ') → t v σ H Q
def dgN (i : Nat) (d : D) (Γ : Nv) : Option Nv := some (Γ.set i (.im d))
theorem dg_n {i : Nat} : DG T [i] (gName i) (dgN i) := fun c g Γ σ H v d Q S r h _ => h _ rfl _ (fun m hm => wipe_set (hm i List.mem_cons_self)) (S.setIm i r)
def DGs (T : Ks) (l : List Nat) (t : TGs) (f : List D → Nv → Option Nv) : Prop := ∀ c g Γ σ H vs ds (Q : L2.St → Hp → Prop), Sim T c g Γ σ H → Reps T.K g.Ep H vs ds →
  (∀ Γ', f ds Γ = some Γ' → ∀ σ', (∀ m, (∀ i ∈ l, i ∈ m) → wipe σ' m = wipe σ m) → Sim T c (g.cuts l) Γ' σ' H → Q σ' H) → (∃ Γ', f ds Γ = some Γ') → t vs σ H Q
def dgsNil (ds : List D) (Γ : Nv) : Option Nv := match ds with | [] => some Γ | _ => none
def dgsCons (f : D → Nv → Option Nv) (fs : List D → Nv → Option Nv) (ds : List D) (Γ : Nv) : Option Nv := match ds with | d :: r => (f d Γ).bind fun Γ1 => fs r Γ1 | [] => none
theorem dgs_nil : DGs T [] gNil dgsNil := fun c g Γ σ H vs ds Q S r h ⟨Γ', e⟩ => by
  cases r with
  | nil => exact ⟨rfl, h _ rfl _ (fun _ _ => rfl) S⟩
  | cons _ _ => cases e
theorem Gh.cuts_app : ∀ (l m : List Nat) (g : Gh), g.cuts (l ++ m) = (g.cuts l).cuts m
  | [], _, _ => rfl
  | i :: r, m, g => Gh.cuts_app r m (g.cut i)
theorem dgs_cons {l m : List Nat} {t : TG} {u : TGs} {f : D → Nv → Option Nv} {fs : List D → Nv → Option Nv} (a : DG T l t f) (b : DGs T m u fs) : DGs T (l ++ m) (gCons t u) (dgsCons f fs) := fun c g Γ σ H vs ds Q S r h ⟨Γ', e⟩ => by
  cases r with
  | nil => cases e
  | @cons v vs d ds r1 r2 =>
    have e' : (f d Γ).bind (fun Γ1 => fs ds Γ1) = some Γ' := e
    obtain ⟨Γ1, e1, e2⟩ := Option.bind_eq_some_iff.mp e'
    refine ⟨v, vs, rfl, a c g Γ σ H v d _ S r1 (fun Γ2 q2 σ2 w2 S2 => ?_) ⟨Γ1, e1⟩⟩
    have : Γ2 = Γ1 := Option.some.inj (q2.symm.trans e1)
    subst this
    refine b c _ Γ2 σ2 H vs ds _ S2 (r2.weak fun b z _ => Gh.cuts_ep z) (fun Γ3 q3 σ3 w3 S3 => ?_) ⟨Γ', e2⟩
    refine h Γ3 ?_ σ3 (fun n hn => ?_) (by rw [Gh.cuts_app]; exact S3)
    · show (f d Γ).bind (fun Γ1 => fs ds Γ1) = some Γ3
      rw [e1]
      exact q3
    · rw [w3 n fun i hi => hn i (List.mem_append_right _ hi), w2 n fun i hi => hn i (List.mem_append_left _ hi)]
def dgT (fs : List D → Nv → Option Nv) (d : D) (Γ : Nv) : Option Nv := match d with | .tup ds => fs ds Γ | _ => none
theorem dg_t {n : Nat} {l : List Nat} {t : TGs} {fs : List D → Nv → Option Nv} (hn : ∀ ds Γ Γ', fs ds Γ = some Γ' → ds.length = n) (a : DGs T l t fs) : DG T l (gTup T.K n t) (dgT fs) := fun c g Γ σ H v d Q S r h ⟨Γ', e⟩ => by
  cases r with
  | @tup p vs ds hq rs =>
    exact ⟨p, vs, rfl, hq, by rw [rs.length]; exact hn _ _ _ e, a c g Γ σ H vs ds Q S rs h ⟨Γ', e⟩⟩
  | _ => cases e
theorem dgsNil_len (ds : List D) (Γ Γ' : Nv) (h : dgsNil ds Γ = some Γ') : ds.length = 0 := by
  cases ds with
  | nil => rfl
  | cons _ _ => cases h
theorem dgsCons_len {n : Nat} {f : D → Nv → Option Nv} {fs : List D → Nv → Option Nv} (hn : ∀ ds Γ Γ', fs ds Γ = some Γ' → ds.length = n) (ds : List D) (Γ Γ' : Nv) (h : dgsCons f fs ds Γ = some Γ') : ds.length = n + 1 := by
  cases ds with
  | nil => cases h
  | cons d r =>
    have h' : (f d Γ).bind (fun Γ1 => fs r Γ1) = some Γ' := h
    obtain ⟨Γ1, e1, e2⟩ := Option.bind_eq_some_iff.mp h'
    rw [List.length_cons, hn _ _ _ e2]

/-! ### assignments -/
/-- name = e, the value new or without lists -/
def dAsg (i : Nat) (fe : EF D) : SF := fun Γ => (fe Γ).bind fun x => .ok (.nx, x.2.set i (.fr x.1))
theorem ds_asg {i : Nat} (a : DE T W .F te fe) : DS T W (tAsg te (gName i)) (dAsg i fe) := fun c g Γ σ H D S p => by
  refine a c g Γ σ H _ S ?_
  unfold dAsg at p
  cases e : fe Γ with
  | bad => rw [e] at p; exact p
  | err x => rw [e] at p; exact fun cls dd H' S' => p g cls dd σ H' Gle.refl S'
  | ok x => rw [e, R.bind_ok] at p; exact fun v H' S' _ r => p _ _ H' Gle.cut (S'.setFr i r)
/-- name = e, the value kept as it is (an argument's part) -/
def dAsgS (i : Nat) (fe : EF D) : SF := fun Γ => (fe Γ).bind fun x => .ok (.nx, x.2.set i (.im x.1))
theorem ds_asgS {i : Nat} (a : DE T W .S te fe) : DS T W (tAsg te (gName i)) (dAsgS i fe) := fun c g Γ σ H D S p => by
  refine a c g Γ σ H _ S ?_
  unfold dAsgS at p
  cases e : fe Γ with
  | bad => rw [e] at p; exact p
  | err x => rw [e] at p; exact fun cls dd H' S' => p g cls dd σ H' Gle.refl S'
  | ok x => rw [e, R.bind_ok] at p; exact fun v H' S' _ r => p _ _ H' Gle.cut (S'.setIm i r)
/-- targets of any form -/
def dAsgG (fg : D → Nv → Option Nv) (fe : EF D) : SF := fun Γ => (fe Γ).bind fun x => match fg x.1 x.2 with | some Γ' => .ok (.nx, Γ') | none => .bad
theorem ds_asgG {gt : TG} {fg : D → Nv → Option Nv} {l : List Nat} (a : DE T W .S te fe) (b : DG T l gt fg) : DS T W (tAsg te gt) (dAsgG fg fe) := fun c g Γ σ H D S p => by
  refine a c g Γ σ H _ S ?_
  unfold dAsgG at p
  cases e : fe Γ with
  | bad => rw [e] at p; exact p
  | err x => rw [e] at p; exact fun cls dd H' S' => p g cls dd σ H' Gle.refl S'
  | ok x =>
    obtain ⟨d, Γ1⟩ := x
    rw [e, R.bind_ok] at p
    intro v H' S' _ r
    cases e2 : fg d Γ1 with
    | none => simp only [e2] at p; exact False.elim p
    | some Γ2 =>
      simp only [e2] at p
      refine b c g Γ1 σ H' v d _ S' r (fun Γ3 q3 σ3 w3 S3 => ?_) ⟨Γ2, e2⟩
      have : Γ3 = Γ2 := Option.some.inj (q3.symm.trans e2)
      subst this
      exact p _ σ3 H' (Gle.cuts l) S3
end
end DL

set_option Elab.async false
set_option linter.all false
set_option maxRecDepth 100000
/-! data layer, part d: own lists, the draws, loops -/
namespace DL
open PySem PySem.Spec PyProof.Rows L2

section
variable {T : Ks} {W : WX} {c : Ct} {g g' : Gh} {Γ Γ' : Nv} {σ : L2.St} {H H' : Hp} {v : V} {d : D} {k : Lq} {t u : TS} {te : TE} {f h : SF} {fe : EF D} {De : Ends} {a : Addr} {vs : List V} {ds : List D}
/-! ### a new list under work -/
def Gh.more (g : Gh) (a : Addr) : Gh := { g with xt := a :: g.xt }
theorem Gh.more_ep {b : Addr} (h : (g.more a).Ep b) : b = a ∨ g.Ep b := by
  rcases h with h | h | h
  · exact .inr (.inl h)
  · exact .inr (.inr (.inl h))
  · rcases List.mem_cons.mp h with h | h
    · exact .inl h
    · exact .inr (.inr (.inr h))
theorem Gh.ep_more {b : Addr} (h : g.Ep b) : (g.more a).Ep b := by
  rcases h with h | h | h
  · exact .inl h
  · exact .inr (.inl h)
  · exact .inr (.inr (List.mem_cons_of_mem _ h))
theorem Gh.a_more : (g.more a).Ep a := .inr (.inr List.mem_cons_self)
/-- what stands for a slot, other places, another heap -/
theorem SlotOk.turn {g2 : Gh} {H2 : Hp} {i : Nat} {s : Slot} (q : SlotOk T c g σ H i s) (ha : g2.ad i = g.ad i) (hd : g2.da = g.da)
    (hr : ∀ v d, Rep T.K g.Ep H v d → Rep T.K g2.Ep H2 v d) (hf : ∀ v d, Rep T.K (fun b => g.Ep b ∨ c.H0 b ≠ none) H v d → Rep T.K (fun b => g2.Ep b ∨ c.H0 b ≠ none) H2 v d)
    (hrs : ∀ vs ds, nolsts ds = true → Reps T.K g.Ep H vs ds → Reps T.K g2.Ep H2 vs ds)
    (hl : ∀ a o, g.ad i = some a → H a = some o → H2 a = some o)
    (hx : ∀ a p x, s = .dr x → g.da = some (a, p) → H a = some (.lst [.ref p, .int x.at_, .int x.base]) → H p = some (.lst (x.pool.map V.int)) → H2 a = some (.lst [.ref p, .int x.at_, .int x.base]) ∧ H2 p = some (.lst (x.pool.map V.int))) : SlotOk T c g2 σ H2 i s := by
  cases s with
  | emp => exact ha.trans q
  | im d =>
    obtain ⟨h1, v, h2, h3⟩ := q
    exact ⟨ha.trans h1, v, h2, hr _ _ h3⟩
  | fr d =>
    obtain ⟨h1, v, h2, h3⟩ := q
    exact ⟨ha.trans h1, v, h2, hf _ _ h3⟩
  | own ds =>
    obtain ⟨a, vs, h1, h2, h3, h4, h5, h6⟩ := q
    exact ⟨a, vs, ha.trans h1, h2, hl _ _ h1 h3, h4, h5, hrs _ _ h5 h6⟩
  | od ks ds =>
    obtain ⟨a, vs, h1, h2, h3, h4, h5, h6⟩ := q
    exact ⟨a, vs, ha.trans h1, h2, hl _ _ h1 h3, h4, h5, hrs _ _ h5 h6⟩
  | dr x =>
    obtain ⟨h1, a, p, h2, h3, h4, h5⟩ := q
    obtain ⟨q1, q2⟩ := hx a p x rfl h2 h4 h5
    exact ⟨ha.trans h1, a, p, hd.trans h2, h3, q1, q2⟩
theorem Sim.more (S : Sim T c g Γ σ H) (s : Same H H') (na : H a = none) (e : H' a = some (.lst vs)) : Sim T c (g.more a) Γ σ H' := by
  have S' := S.grow s
  have h0 : c.H0 a = none := by
    cases q : c.H0 a with
    | none => rfl
    | some o => exact absurd na (S.old a (by rw [q]; exact Option.some_ne_none _))
  have w : ∀ b, (g.more a).Ep b → H b ≠ none → g.Ep b := fun b z n => (Gh.more_ep z).resolve_left fun e => n (by rw [e]; exact na)
  refine ⟨S'.len, fun i sl q => (S.slot i sl q).turn rfl rfl (fun v d r => (r.weak w).same s) (fun v d r => (r.weak fun b z n => z.imp (fun z => w b z n) id).same s)
    (fun vs ds _ r => (r.weak w).same s) (fun a xs _ h => s _ _ h) (fun a p x _ _ h1 h2 => ⟨s _ _ h1, s _ _ h2⟩), S'.out, S'.inj, S'.one, S'.frame, S'.old, fun a' p q => ?_, fun b hb => ?_, fun b hb => ?_, fun b o h => ⟨(S'.pin b o h).1, List.mem_cons_of_mem _ (S'.pin b o h).2⟩⟩
  · obtain ⟨h1, h2, h3, h4, h5, h6⟩ := S'.da a' p q
    obtain ⟨_, _, _, _, ⟨xs, h5'⟩, h6'⟩ := S.da a' p q
    refine ⟨h1, h2, fun z => ?_, fun z => ?_, h5, h6⟩
    · rcases List.mem_cons.mp z with z | z
      · rw [z, na] at h5'; cases h5'
      · exact h3 z
    · rcases List.mem_cons.mp z with z | z
      · rw [z] at h6'; exact h6' na
      · exact h4 z
  · rcases List.mem_cons.mp hb with z | z
    · subst z
      refine ⟨fun i q => ?_, h0, _, e, rfl⟩
      obtain ⟨_, q, _⟩ := S.own_at q
      rw [na] at q; cases q
    · exact S'.xt b z
  · rcases Gh.more_ep hb with z | z
    · subst z
      cases q : c.Hz b with
      | none => rfl
      | some o => rw [S.frame b o q] at na; cases na
    · exact S'.hz b z
/-- the list is under work no more -/
theorem Sim.less (S : Sim T c (g.more a) Γ σ H) (hp : c.Hx a = none) : Sim T c g Γ σ H := by
  have w : ∀ b, g.Ep b → H b ≠ none → (g.more a).Ep b := fun b z _ => Gh.ep_more z
  refine ⟨S.len, fun i sl q => (S.slot i sl q).turn rfl rfl (fun v d r => r.weak w) (fun v d r => r.weak fun b z n => z.imp (fun z => w b z n) id)
    (fun vs ds _ r => r.weak w) (fun a xs _ h => h) (fun a p x _ _ h1 h2 => ⟨h1, h2⟩), S.out, S.inj, S.one, S.frame, S.old, fun a' p q => ?_, fun b hb => S.xt b (List.mem_cons_of_mem _ hb), fun b hb => S.hz b (Gh.ep_more hb), fun b o h => ⟨(S.pin b o h).1, (List.mem_cons.mp (S.pin b o h).2).resolve_left fun z => by rw [z, hp] at h; cases h⟩⟩
  obtain ⟨h1, h2, h3, h4, h5, h6⟩ := S.da a' p q
  exact ⟨h1, h2, fun z => h3 (List.mem_cons_of_mem _ z), fun z => h4 (List.mem_cons_of_mem _ z), h5, h6⟩
/-- the place of slot i -/
def Gh.own (g : Gh) (i : Nat) (a : Addr) : Gh := { g with ad := fun j => if j = i then some a else g.ad j }
theorem Gh.own_at (g : Gh) (i : Nat) (a : Addr) : (g.own i a).ad i = some a := if_pos rfl
theorem Gh.own_ne (g : Gh) {i j : Nat} (a : Addr) (h : j ≠ i) : (g.own i a).ad j = g.ad j := if_neg h
theorem Gh.own_some {i j : Nat} {b : Addr} (h : (g.own i a).ad j = some b) : (j = i ∧ b = a) ∨ (j ≠ i ∧ g.ad j = some b) := by
  by_cases e : j = i
  · subst e; rw [Gh.own_at] at h; exact .inl ⟨rfl, (Option.some.inj h).symm⟩
  · rw [Gh.own_ne g a e] at h; exact .inr ⟨e, h⟩
theorem Gh.own_ep {i : Nat} {b : Addr} (h : (g.own i a).Ep b) : (g.more a).Ep b := by
  rcases h with h | ⟨j, h⟩ | h
  · exact .inl h
  · rcases Gh.own_some h with ⟨_, e⟩ | ⟨_, e⟩
    · rw [e]; exact Gh.a_more
    · exact .inr (.inl ⟨j, e⟩)
  · exact .inr (.inr (List.mem_cons_of_mem _ h))
theorem Sim.ownMore {E : Addr → Prop} {i : Nat} (S : Sim T c (g.more a) Γ σ H) (e : H a = some (.lst vs)) (hn : nolsts ds = true) (r : Reps T.K E H vs ds) (hi : i < Γ.length) (hx : a ∉ g.xt) (hp : c.Hx a = none) :
    Sim T c (g.own i a) (Γ.set i (.own ds)) (σ.set i (some (.ref a))) H := by
  have w : ∀ b, (g.own i a).Ep b → H b ≠ none → (g.more a).Ep b := fun b z _ => Gh.own_ep z
  obtain ⟨x1, x2, x3⟩ := S.xt a List.mem_cons_self
  refine ⟨by rw [List.length_set, List.length_set]; exact S.len, fun j sl q => ?_, fun j hj => ?_, fun j l b h1 h2 => ?_, fun j l x y h1 h2 => ?_, S.frame, S.old, fun a' p q => ?_, fun b hb => ?_, fun b hb => S.hz b (Gh.own_ep hb), fun b o h => ⟨(S.pin b o h).1, (List.mem_cons.mp (S.pin b o h).2).resolve_left fun z => by rw [z, hp] at h; cases h⟩⟩
  · by_cases hj : j = i
    · subst hj
      rw [List.getElem?_set_self hi] at q
      cases q
      exact ⟨a, vs, Gh.own_at g j a, S.in_len hi, e, x2, hn, r.loose hn⟩
    · rw [List.getElem?_set_ne (Ne.symm hj)] at q
      have hσ : (σ.set i (some (.ref a)))[j]? = σ[j]? := List.getElem?_set_ne (Ne.symm hj)
      have q1 : SlotOk T c (g.own i a) σ H j sl := (S.slot j sl q).turn (Gh.own_ne g a hj) rfl (fun v d r => r.weak w) (fun v d r => r.weak fun b z n => z.imp (fun z => w b z n) id) (fun vs ds _ r => r.weak w) (fun a xs _ h => h) (fun a p x _ _ h1 h2 => ⟨h1, h2⟩)
      unfold SlotOk at q1 ⊢
      rw [hσ]
      exact q1
  · rw [List.length_set] at hj
    rw [Gh.own_ne g a (by omega)]
    exact S.out j hj
  · rcases Gh.own_some h1 with ⟨e1, e2⟩ | ⟨e1, e2⟩
    · rcases Gh.own_some h2 with ⟨e3, e4⟩ | ⟨e3, e4⟩
      · rw [e1, e3]
      · rw [e2] at e4; exact absurd e4 (x1 l)
    · rcases Gh.own_some h2 with ⟨e3, e4⟩ | ⟨e3, e4⟩
      · rw [e4] at e2; exact absurd e2 (x1 j)
      · exact S.inj j l b e2 e4
  · have nd : ∀ (m : Nat) (z : Dr), (Γ.set i (.own ds))[m]? = some (Slot.dr z) → Γ[m]? = some (Slot.dr z) := fun m z q => by
      by_cases hm : m = i
      · subst hm
        rw [List.getElem?_set_self hi] at q
        cases q
      · rwa [List.getElem?_set_ne (Ne.symm hm)] at q
    exact S.one j l x y (nd _ _ h1) (nd _ _ h2)
  · obtain ⟨h1, h2, h3, h4, h5, h6⟩ := S.da a' p q
    refine ⟨h1, fun j => ⟨fun z => ?_, fun z => ?_⟩, fun z => h3 (List.mem_cons_of_mem _ z), fun z => h4 (List.mem_cons_of_mem _ z), h5, h6⟩
    · rcases Gh.own_some z with ⟨_, e2⟩ | ⟨_, e2⟩
      · rw [e2] at h3; exact h3 List.mem_cons_self
      · exact (h2 j).1 e2
    · rcases Gh.own_some z with ⟨_, e2⟩ | ⟨_, e2⟩
      · rw [e2] at h4; exact h4 List.mem_cons_self
      · exact (h2 j).2 e2
  · obtain ⟨h1, h2, h3⟩ := S.xt b (List.mem_cons_of_mem _ hb)
    refine ⟨fun j z => ?_, h2, h3⟩
    rcases Gh.own_some z with ⟨e1, e2⟩ | ⟨_, e2⟩
    · rw [e2] at hb; exact absurd hb hx
    · exact h1 j e2
theorem Gle.own {i : Nat} : Gle g (g.own i a) := ⟨fun _ => rfl, rfl⟩
theorem Sim.notXt (S : Sim T c g Γ σ H) (na : H a = none) : a ∉ g.xt := fun z => by
  obtain ⟨_, _, xs, e, _⟩ := S.xt a z
  rw [na] at e; cases e
theorem Sim.notPin (S : Sim T c g Γ σ H) (na : H a = none) : c.Hx a = none := by
  cases e : c.Hx a with
  | none => rfl
  | some o => rw [(S.pin a o e).1] at na; cases na
/-! ### an expression that makes a list -/
def PostO (T : Ks) (c : Ct) (g : Gh) (σ : L2.St) (H : Hp) (Q : VK) (W : WX) : R (Err × Nv) (List D × Nv) → Prop
  | .ok (ds, Γ) => ∀ a vs H', Sim T c (g.more a) Γ σ H' → Keep g.Dp H H' → H a = none → H' a = some (.lst vs) → Reps T.K (fun b => H b ≠ none) H' vs ds → Q (.ref a) H'
  | .err (e, Γ) => ∀ cls dd H', Sim T c g Γ σ H' → ErrOk T e cls dd H' → W cls dd σ H'
  | .bad => False
def DO (T : Ks) (W : WX) (t : TE) (f : EF (List D)) : Prop := ∀ c g Γ σ H Q, Sim T c g Γ σ H → PostO T c g σ H Q W (f Γ) → t σ H Q
def dL (f : EF (List D)) : EF D := fun Γ => (f Γ).bind fun x => .ok (.lst x.1, x.2)
theorem DO.de {fo : EF (List D)} (a : DO T W te fo) : DE T W .N te (dL fo) := fun c g Γ σ H Q S p => a c g Γ σ H Q S (by
  unfold dL at p
  cases e : fo Γ with
  | bad => rw [e] at p; exact p
  | err x => rw [e] at p; exact p
  | ok x =>
    obtain ⟨ds, Γ1⟩ := x
    rw [e, R.bind_ok] at p
    intro a vs H' S' q na ea r
    exact p (.ref a) H' (S'.less (S.notPin na)) q (.lst ea (fun z => z na) r))
/-- name = a new list, to be changed -/
def dOwn (i : Nat) (fo : EF (List D)) : SF := fun Γ => (fo Γ).bind fun x => if nolsts x.1 = true ∧ i < x.2.length then .ok (.nx, x.2.set i (.own x.1)) else .bad
theorem ds_own {i : Nat} {fo : EF (List D)} (a : DO T W te fo) : DS T W (tAsg te (gName i)) (dOwn i fo) := fun c g Γ σ H D S p => by
  refine a c g Γ σ H _ S ?_
  unfold dOwn at p
  cases e : fo Γ with
  | bad => rw [e] at p; exact p
  | err x => rw [e] at p; exact fun cls dd H' S' => p g cls dd σ H' Gle.refl S'
  | ok x =>
    obtain ⟨ds, Γ1⟩ := x
    rw [e, R.bind_ok] at p
    intro a vs H' S' q na ea r
    by_cases hc : nolsts ds = true ∧ i < Γ1.length
    · rw [if_pos hc] at p
      exact p _ _ H' Gle.own (S'.ownMore ea hc.1 r hc.2 (S.notXt na) (S.notPin na))
    · rw [if_neg hc] at p
      exact False.elim p
/-- a displayed list -/
def dLstO (fs : EF (List D)) : EF (List D) := fun Γ => (fs Γ).bind fun x => if x.1.length ≤ sizeLine then .ok x else .bad
theorem do_lst {ts : TA} {fs : EF (List D)} (a : DA T W .N ts fs) : DO T W (tLst ts) (dLstO fs) := fun c g Γ σ H Q S p => by
  refine a c g Γ σ H _ S ?_
  unfold dLstO at p
  cases e : fs Γ with
  | bad => rw [e] at p; exact p
  | err x => rw [e] at p; exact p
  | ok x =>
    obtain ⟨dx, Γ1⟩ := x
    rw [e, R.bind_ok] at p
    intro v1 H1 S1 k1 r1
    by_cases hl : dx.length ≤ sizeLine
    · rw [if_pos hl] at p
      refine ⟨by rw [r1.length]; exact hl, fun a na => ?_⟩
      have s := same_upd (o := .lst v1) na
      have na' : H a = none := by
        cases q : H a with
        | none => rfl
        | some o => exact absurd na (S.grown S1 k1 a (by rw [q]; exact Option.some_ne_none _))
      exact p a v1 _ (S1.more s na upd_same) (k1.trans (ofSame s)) na' upd_same (r1.same s)
    · rw [if_neg hl] at p; exact False.elim p
/-- a built-in's new list, by values -/
def CaO (T : Ks) (r : List V → Hp → VK → Prop) (o : List D → Option (List D)) : Prop := ∀ (E : Addr → Prop) H xs ds zs (Q : VK), Reps T.K E H xs ds → o ds = some zs →
  (∀ a vs H', Same H H' → H a = none → H' a = some (.lst vs) → Reps T.K (fun b => H b ≠ none) H' vs zs → Q (.ref a) H') → r xs H Q
def liftL (o : Option (List D)) (Γ : Nv) : R (Err × Nv) (List D × Nv) := match o with | some z => .ok (z, Γ) | none => .bad
def dCBO (o : List D → Option (List D)) (fs : EF (List D)) : EF (List D) := fun Γ => (fs Γ).bind fun x => liftL (o x.1) x.2
theorem none_back {N : Addr → Prop} {Hx Hy : Hp} (gr : ∀ b, Hx b ≠ none → Hy b ≠ none) {a : Addr} (na : Hy a = none) : Hx a = none := by
  cases q : Hx a with
  | none => rfl
  | some o => exact absurd na (gr a (by rw [q]; exact Option.some_ne_none _))
theorem do_cb {r : List V → Hp → VK → Prop} {o : List D → Option (List D)} {ka : Lq} {ts : TA} {fs : EF (List D)} (ho : CaO T r o) (a : DA T W ka ts fs) : DO T W (tCB r ts) (dCBO o fs) := fun c g Γ σ H Q S p => by
  refine a c g Γ σ H _ S ?_
  unfold dCBO at p
  cases e : fs Γ with
  | bad => rw [e] at p; exact p
  | err x => rw [e] at p; exact p
  | ok x =>
    obtain ⟨dx, Γ1⟩ := x
    rw [e, R.bind_ok] at p
    intro v1 H1 S1 k1 r1
    cases e3 : o dx with
    | none => simp only [e3] at p; exact False.elim p
    | some z =>
      simp only [e3] at p
      refine ho g.Dp H1 v1 dx z Q (r1.weak fun _ z _ => S.exW z) e3 fun a vs H' s na ea r => ?_
      have gr := S.grown S1 k1
      exact p a vs H' (S1.more s na ea) (k1.trans (ofSame s)) (none_back (N := fun _ => False) gr na) ea (r.weak fun b z _ => gr b z)
def OpO (T : Ks) (r : R2) (o : D → D → Option (List D)) : Prop := ∀ (E : Addr → Prop) H x y dx dy zs (Q : VK), Rep T.K E H x dx → Rep T.K E H y dy → o dx dy = some zs →
  (∀ a vs H', Same H H' → H a = none → H' a = some (.lst vs) → Reps T.K (fun b => H b ≠ none) H' vs zs → Q (.ref a) H') → r x y H Q
def dOpO (o : D → D → Option (List D)) (f h : EF D) : EF (List D) := fun Γ => (f Γ).bind fun x => (h x.2).bind fun y => liftL (o x.1 y.1) y.2
theorem do_op {r : R2} {o : D → D → Option (List D)} {ta tb : TE} {f h : EF D} {ka kb : Lq} (ho : OpO T r o) (a : DE T W ka ta f) (b : DE T W kb tb h) : DO T W (tOp r ta tb) (dOpO o f h) := fun c g Γ σ H Q S p => by
  refine a c g Γ σ H _ S ?_
  unfold dOpO at p
  cases e : f Γ with
  | bad => rw [e] at p; exact p
  | err x => rw [e] at p; exact p
  | ok x =>
    obtain ⟨dx, Γ1⟩ := x
    rw [e, R.bind_ok] at p
    intro v1 H1 S1 k1 r1
    refine b c g Γ1 σ H1 _ S1 ?_
    cases e2 : h Γ1 with
    | bad => rw [e2] at p; exact p
    | err y => rw [e2] at p; exact p
    | ok y =>
      obtain ⟨dy, Γ2⟩ := y
      simp only [e2, R.bind_ok] at p
      intro v2 H2 S2 k2 r2
      cases e3 : o dx dy with
      | none => rw [e3] at p; exact False.elim p
      | some z =>
        rw [e3] at p
        have r1' := S.toW (S1.stay (vs := []) k2 (fun b z => S.exW z) r1)
        have r2' := S1.toW r2
        refine ho g.Dp H2 v1 v2 dx dy z Q r1' r2' e3 fun a vs H' s na ea r => ?_
        have gr : ∀ b, H b ≠ none → H2 b ≠ none := fun b z => S1.grown S2 k2 b (S.grown S1 k1 b z)
        exact p a vs H' (S2.more s na ea) (k1.trans (k2.trans (ofSame s))) (none_back (N := fun _ => False) gr na) ea (r.weak fun b z _ => gr b z)

/-! ### a list of one's own changed -/
theorem Keep.poke (ha : H a = some (.lst vs)) {o : HO} : Keep (fun b => b = a) H (upd H a o) := fun b x n e => by
  rw [upd_ne n]; exact e
/-- what stands at a place of Ep changes; the slots that speak of it are told anew -/
theorem Sim.poke {ws : List V} (S : Sim T c g Γ σ H) (hep : g.Ep a) (ha : H a = some (.lst vs)) (hpin : c.Hx a = none) (hlen : Γ'.length = Γ.length)
    (sl : ∀ (j : Nat) (s : Slot), Γ'[j]? = some s → SlotOk T c g σ (upd H a (.lst ws)) j s ∨ (Γ[j]? = some s ∧ g.ad j ≠ some a ∧ ∀ x, s ≠ .dr x ∨ ∃ a' p, g.da = some (a', p) ∧ a' ≠ a ∧ p ≠ a))
    (one : ∀ (j : Nat) (x : Dr), Γ'[j]? = some (Slot.dr x) → ∃ y, Γ[j]? = some (Slot.dr y)) : Sim T c g Γ' σ (upd H a (.lst ws)) := by
  have kp := Keep.poke (o := .lst ws) ha
  have lp : Lists (fun b => b = a) H := fun b e => ⟨.lst vs, (by rw [e]; exact ha), rfl⟩
  have hN : ∀ b, b = a → g.Ep b := fun b e => by rw [e]; exact hep
  refine ⟨S.len.trans hlen.symm, fun j s q => ?_, fun j hj => S.out j (by omega), S.inj, fun j l x y h1 h2 => ?_, fun b o e => ?_, fun b h => ?_, fun a' p q => ?_, fun b hb => ?_, S.hz, fun b o h => ⟨kp _ _ (fun z => by rw [z, hpin] at h; cases h) (S.pin b o h).1, (S.pin b o h).2⟩⟩
  · rcases sl j s q with z | ⟨z1, z2, z3⟩
    · exact z
    · refine (S.slot j s z1).turn rfl rfl (fun v d r => r.keep kp lp hN fun _ z _ => z) (fun v d r => r.keep kp lp (fun b e => .inl (hN b e)) fun _ z _ => z)
        (fun vs ds _ r => r.keep kp lp hN fun _ z _ => z) (fun a' xs e1 e2 => kp _ _ (fun e => z2 (by rw [← e]; exact e1)) e2) (fun a' p x e0 e1 e2 e3 => ?_)
      rcases z3 x with z | ⟨a2, p2, y1, y2, y3⟩
      · exact absurd e0 z
      · rw [e1] at y1; cases y1
        exact ⟨kp _ _ y2 e2, kp _ _ y3 e3⟩
  · obtain ⟨_, e1⟩ := one j x h1
    obtain ⟨_, e2⟩ := one l y h2
    exact S.one j l _ _ e1 e2
  · refine kp _ _ (fun z => ?_) (S.frame b o e)
    rw [z, S.hz a hep] at e; cases e
  · by_cases z : b = a
    · rw [z, upd_same]; exact Option.some_ne_none _
    · rw [upd_ne z]; exact S.old b h
  · obtain ⟨h1, h2, h3, h4, ⟨xs, h5⟩, h6⟩ := S.da a' p q
    refine ⟨h1, h2, h3, h4, ?_, ?_⟩
    · by_cases z : a' = a
      · rw [z, upd_same]; exact ⟨_, rfl⟩
      · rw [upd_ne z]; exact ⟨xs, h5⟩
    · by_cases z : p = a
      · rw [z, upd_same]; exact Option.some_ne_none _
      · rw [upd_ne z]; exact h6
  · obtain ⟨h1, h2, xs, h3, h4⟩ := S.xt b hb
    refine ⟨h1, h2, ?_⟩
    by_cases z : b = a
    · rw [z, upd_same]; exact ⟨_, rfl, rfl⟩
    · rw [upd_ne z]; exact ⟨xs, h3, h4⟩
theorem Sim.pinAd (S : Sim T c g Γ σ H) {i : Nat} (h : g.ad i = some a) : c.Hx a = none := by
  cases e : c.Hx a with
  | none => rfl
  | some o => exact absurd h ((S.xt a (S.pin a o e).2).1 i)
theorem Sim.pinDa (S : Sim T c g Γ σ H) {p : Addr} (h : g.da = some (a, p)) : c.Hx a = none := by
  cases e : c.Hx a with
  | none => rfl
  | some o => exact absurd (S.pin a o e).2 (S.da a p h).2.2.1
/-- an own list takes another content -/
theorem Sim.setOwn {i : Nat} {ws : List V} {es ds0 : List D} {E : Addr → Prop} (S : Sim T c g Γ σ H) (hi : Γ[i]? = some (.own ds0)) (had : g.ad i = some a) (ha : H a = some (.lst vs)) (hn : nolsts es = true) (r : Reps T.K E H ws es) :
    Sim T c g (Γ.set i (.own es)) σ (upd H a (.lst ws)) := by
  have hl : i < Γ.length := (List.getElem?_eq_some_iff.mp hi).1
  have kp := Keep.poke (o := .lst ws) ha
  have lp : Lists (fun b => b = a) H := fun b e => ⟨.lst vs, (by rw [e]; exact ha), rfl⟩
  refine S.poke (.inr (.inl ⟨i, had⟩)) ha (S.pinAd had) (by rw [List.length_set]) (fun j s q => ?_) (fun j x q => ?_)
  · by_cases hj : j = i
    · subst hj
      rw [List.getElem?_set_self hl] at q
      cases q
      obtain ⟨a1, vs', e1, e2, e3, e4, e5, e6⟩ := S.slot _ _ hi
      rw [had] at e1; cases e1
      exact .inl ⟨a, ws, had, e2, upd_same, e4, hn, r.free kp lp hn⟩
    · rw [List.getElem?_set_ne (Ne.symm hj)] at q
      refine .inr ⟨q, fun z => hj (S.inj _ _ _ z had), fun x => ?_⟩
      cases s with
      | dr y =>
        obtain ⟨h1, a', p, h2, h3, h4, h5⟩ := S.slot j _ q
        obtain ⟨_, h6, _⟩ := S.da a' p h2
        exact .inr ⟨a', p, h2, fun z => (h6 i).1 (by rw [z]; exact had), fun z => (h6 i).2 (by rw [z]; exact had)⟩
      | _ => exact .inl (fun z => nomatch z)
  · by_cases hj : j = i
    · subst hj
      rw [List.getElem?_set_self hl] at q
      cases q
    · rw [List.getElem?_set_ne (Ne.symm hj)] at q
      exact ⟨x, q⟩
/-- the draws go on -/
theorem Sim.setDr {i : Nat} {p : Addr} {x : Dr} {m : Int} (S : Sim T c g Γ σ H) (hi : Γ[i]? = some (.dr x)) (hda : g.da = some (a, p)) (ha : H a = some (.lst vs)) :
    Sim T c g (Γ.set i (.dr { x with at_ := m })) σ (upd H a (.lst [.ref p, .int m, .int x.base])) := by
  have hl : i < Γ.length := (List.getElem?_eq_some_iff.mp hi).1
  have kp := Keep.poke (o := .lst [.ref p, .int m, .int x.base]) ha
  obtain ⟨d1, d2, d3, d4, d5, d6⟩ := S.da a p hda
  refine S.poke (.inl ⟨p, hda⟩) ha (S.pinDa hda) (by rw [List.length_set]) (fun j s q => ?_) (fun j y q => ?_)
  · by_cases hj : j = i
    · subst hj
      rw [List.getElem?_set_self hl] at q
      cases q
      obtain ⟨h1, a', p', h2, h3, h4, h5⟩ := S.slot j _ hi
      rw [hda] at h2; cases h2
      exact .inl ⟨h1, a, p, hda, h3, upd_same, kp _ _ (fun z => d1 z.symm) h5⟩
    · rw [List.getElem?_set_ne (Ne.symm hj)] at q
      refine .inr ⟨q, fun z => (d2 j).1 z, fun y => ?_⟩
      cases s with
      | dr y' => exact absurd (S.one j i _ _ q hi) hj
      | _ => exact .inl (fun z => nomatch z)
  · by_cases hj : j = i
    · subst hj
      exact ⟨x, hi⟩
    · rw [List.getElem?_set_ne (Ne.symm hj)] at q
      exact ⟨y, q⟩
/-- name[e1] = e2 -/
def setAt (i : Nat) (d : D) (j : D) (Γ : Nv) : Option Nv := match Γ[i]?, j with
  | some (.own ds), .int n => if nolst d = true then (ixN ds.length n).map fun m => Γ.set i (.own (ds.set m d)) else none
  | some (.dr x), .int 1 => match d with | .int m => some (Γ.set i (.dr { x with at_ := m })) | _ => none
  | _, _ => none
def isRef (s : Option Slot) : Bool := match s with | some (.own _) => true | some (.dr _) => true | _ => false
theorem Sim.isRef_at {i : Nat} (S : Sim T c g Γ σ H) (h : isRef Γ[i]? = true) : ∃ a, σ[i]? = some (some (.ref a)) := by
  cases e : Γ[i]? with
  | none => rw [e] at h; cases h
  | some s =>
    have q := S.slot i s e
    cases s with
    | own ds =>
      obtain ⟨a, vs, h1, h2, _⟩ := q
      exact ⟨a, h2⟩
    | dr x =>
      obtain ⟨h1, a, p, h2, h3, _⟩ := q
      exact ⟨a, h3⟩
    | _ => rw [e] at h; cases h
def dSetI (i : Nat) (fj fe : EF D) : SF := fun Γ => (fe Γ).bind fun x => if isRef x.2[i]? = true then (fj x.2).bind fun y => match setAt i x.1 y.1 y.2 with | some Γ' => .ok (.nx, Γ') | none => .bad else .bad
theorem ds_setI {i : Nat} {ti : TE} {fj : EF D} {kb : Lq} (a : DE T W k te fe) (b : DE T W kb ti fj) : DS T W (tAsg te (gSub (tVar i) ti rSetL)) (dSetI i fj fe) := fun c g Γ σ H D S p => by
  refine a c g Γ σ H _ S ?_
  unfold dSetI at p
  cases e : fe Γ with
  | bad => rw [e] at p; exact p
  | err x => rw [e] at p; exact fun cls dd H' S' => p g cls dd σ H' Gle.refl S'
  | ok x =>
    obtain ⟨dx, Γ1⟩ := x
    rw [e, R.bind_ok] at p
    intro v1 H1 S1 k1 r1
    by_cases hr : isRef Γ1[i]? = true
    · rw [if_pos hr] at p
      obtain ⟨a0, ea⟩ := S1.isRef_at hr
      refine ⟨.ref a0, ea, b c g Γ1 σ H1 _ S1 ?_⟩
      cases e2 : fj Γ1 with
      | bad => rw [e2] at p; exact p
      | err y => rw [e2] at p; exact fun cls dd H' S' => p g cls dd σ H' Gle.refl S'
      | ok y =>
        obtain ⟨dy, Γ2⟩ := y
        rw [e2, R.bind_ok] at p
        intro v2 H2 S2 k2 r2
        have r1' := S.toW (S1.stay (vs := []) k2 (fun b z => S.exW z) r1)
        cases e3 : setAt i dx dy Γ2 with
        | none => simp only [e3] at p; exact False.elim p
        | some Γ3 =>
          simp only [e3] at p
          unfold setAt at e3
          cases e4 : Γ2[i]? with
          | none => rw [e4] at e3; cases e3
          | some s =>
            rw [e4] at e3
            have q := S2.slot i s e4
            cases s with
            | own ds =>
              obtain ⟨a1, vs, h1, h2, h3, h4, h5, h6⟩ := q
              rw [ea] at h2; cases h2
              cases r2 with
              | int n =>
                by_cases hn : nolst dx = true
                · simp only [if_pos hn] at e3
                  obtain ⟨m, hm, e5⟩ := Option.map_eq_some_iff.mp e3
                  subst e5
                  refine ⟨a0, vs, n, m, rfl, rfl, h3, by rw [h6.length]; exact hm, ?_⟩
                  refine p g σ _ Gle.refl (S2.setOwn e4 h1 h3 (nolsts_set hn h5) ((h6.loose (E' := fun _ => False) h5).set (r1'.loose hn) m))
                · simp only [if_neg hn] at e3; cases e3
              | _ => cases e3
            | dr x =>
              obtain ⟨h1, a1, p1, h2, h3, h4, h5⟩ := q
              rw [ea] at h3; cases h3
              cases r2 with
              | int n =>
                by_cases hn : n = 1
                · subst hn
                  cases r1' with
                  | int m =>
                    cases e3
                    exact ⟨a0, _, 1, 1, rfl, rfl, h4, rfl, p g σ _ Gle.refl (S2.setDr e4 h2 h4)⟩
                  | _ => cases e3
                · split at e3 <;> simp_all
              | _ => cases e3
            | _ => cases e3
    · rw [if_neg hr] at p; exact False.elim p
/-- name.append(e) -/
def dApp (i : Nat) (fe : EF D) : SF := fun Γ => if isRef Γ[i]? = true then (fe Γ).bind fun x => match x.2[i]? with
  | some (.own ds) => if nolst x.1 = true ∧ ds.length < sizeLine then .ok (.nx, x.2.set i (.own (ds ++ [x.1]))) else .bad
  | _ => .bad else .bad
theorem ds_app {i : Nat} (a : DE T W k te fe) : DS T W (tDrop (tBM T.K "list" rAppend (tVar i) (tCons te tNil))) (dApp i fe) := fun c g Γ σ H D S p => by
  unfold dApp at p
  by_cases hr : isRef Γ[i]? = true
  · rw [if_pos hr] at p
    obtain ⟨a0, ea⟩ := S.isRef_at hr
    have hl : ∃ xs, H a0 = some (.lst xs) := by
      cases e : Γ[i]? with
      | none => rw [e] at hr; cases hr
      | some s =>
        have q := S.slot i s e
        cases s with
        | own ds =>
          obtain ⟨a1, vs, h1, h2, h3, _⟩ := q
          rw [ea] at h2; cases h2
          exact ⟨_, h3⟩
        | dr x =>
          obtain ⟨h1, a1, p1, h2, h3, h4, _⟩ := q
          rw [ea] at h3; cases h3
          exact ⟨_, h4⟩
        | _ => rw [e] at hr; cases hr
    obtain ⟨xs0, hl⟩ := hl
    refine ⟨.ref a0, ea, .inl ⟨rfl, _, SqL.of hl⟩, a c g Γ σ H _ S ?_⟩
    cases e : fe Γ with
    | bad => rw [e] at p; exact p
    | err x => rw [e] at p; exact fun cls dd H' S' => p g cls dd σ H' Gle.refl S'
    | ok x =>
      obtain ⟨dx, Γ1⟩ := x
      rw [e, R.bind_ok] at p
      intro v1 H1 S1 k1 r1
      cases e4 : Γ1[i]? with
      | none => simp only [e4] at p; exact False.elim p
      | some s =>
        simp only [e4] at p
        have q := S1.slot i s e4
        cases s with
        | own ds =>
          obtain ⟨a1, vs, h1, h2, h3, h4, h5, h6⟩ := q
          rw [ea] at h2; cases h2
          dsimp only at p
          by_cases hc : nolst dx = true ∧ ds.length < sizeLine
          · rw [if_pos hc] at p
            refine ⟨a0, vs, v1, rfl, rfl, h3, by rw [h6.length]; exact hc.2, ?_⟩
            exact p g σ _ Gle.refl (S1.setOwn e4 h1 h3 (nolsts_append h5 (nolsts_one hc.1)) ((h6.loose (E' := fun _ => False) h5).append (.cons (r1.loose hc.1) .nil)))
          · rw [if_neg hc] at p; exact False.elim p
        | _ => exact False.elim p
  · rw [if_neg hr] at p; exact False.elim p
/-- a list that is changed no more -/
def frz (i : Nat) (Γ : Nv) : Nv := match Γ[i]? with | some (.own ds) => Γ.set i (.fr (.lst ds)) | _ => Γ
theorem Sim.frz (S : Sim T c g Γ σ H) (i : Nat) : ∃ g', Gle g g' ∧ Sim T c g' (frz i Γ) σ H := by
  unfold DL.frz
  cases e : Γ[i]? with
  | none => exact ⟨g, Gle.refl, S⟩
  | some s =>
    cases s with
    | own ds =>
      obtain ⟨a, vs, h1, h2, h3, h4, h5, h6⟩ := S.slot i _ e
      have hl : i < Γ.length := (List.getElem?_eq_some_iff.mp e).1
      have hs : σ.set i (some (.ref a)) = σ := by
        apply List.ext_getElem?
        intro j
        by_cases hj : j = i
        · subst hj
          rw [List.getElem?_set_self (by rw [S.len]; exact hl), h2]
        · rw [List.getElem?_set_ne (Ne.symm hj)]
      have q := S.put (o := some (.ref a)) (s := .fr (.lst ds)) i (fun _ z => nomatch z) (fun _ => ⟨Gh.cut_at g i, .ref a, S.in_len hl, .lst h3 (fun z => ?_) (h6.loose h5)⟩)
      · rw [hs] at q
        exact ⟨g.cut i, Gle.cut, q⟩
      · rcases z with z | z
        · rcases z with z | ⟨j, z⟩ | z
          · obtain ⟨p, z⟩ := z
            exact ((S.da a p z).2.1 i).1 h1
          · obtain ⟨y1, y2⟩ := Gh.cut_some z
            exact y1 (S.inj _ _ _ y2 h1)
          · exact (S.xt a z).1 i h1
        · exact z h4
    | _ => exact ⟨g, Gle.refl, S⟩
theorem ds_frz (i : Nat) (a : DS T W t f) : DS T W t (fun Γ => f (frz i Γ)) := fun c g Γ σ H D S p => by
  obtain ⟨g', q, S'⟩ := S.frz i
  exact a c g' _ σ H D S' (PostS.further p q)
end
end DL

set_option Elab.async false
set_option linter.all false
set_option maxRecDepth 100000
/-! data layer, part e: walks, loops, comprehensions, calls, a def's promise -/
namespace DL
open PySem PySem.Spec PyProof.Rows L2
section
variable {T : Ks} {W : WX} {c : Ct} {g g' : Gh} {Γ Γ' : Nv} {σ σ' : L2.St} {H H' : Hp} {v : V} {d : D} {k : Lq} {t u : TS} {te : TE} {f h : SF} {fe : EF D} {De : Ends} {a b : Addr} {vs ws : List V} {ds es : List D}
/-! ### what stands still through a loop -/
open Classical in
noncomputable def hzOf (g : Gh) (H : Hp) : Hp := fun b => if g.Ep b then none else H b
theorem hz_out (h : ¬ g.Ep b) : hzOf g H b = H b := by unfold hzOf; exact if_neg h
theorem hz_in (h : g.Ep b) : hzOf g H b = none := by unfold hzOf; exact if_pos h
theorem hz_sub {o : HO} (h : hzOf g H b = some o) : H b = some o ∧ ¬ g.Ep b := by
  by_cases e : g.Ep b
  · rw [hz_in e] at h; cases h
  · rw [hz_out e] at h; exact ⟨h, e⟩
noncomputable abbrev Ct.zone (c : Ct) (g : Gh) (H : Hp) : Ct := { c with Hz := hzOf g H }
theorem SlotOk.ct {c' : Ct} {i : Nat} {s : Slot} (e : c'.H0 = c.H0) (q : SlotOk T c g σ H i s) : SlotOk T c' g σ H i s := by
  cases s <;> (unfold SlotOk at *; (try rw [e]); exact q)
theorem Sim.zone (S : Sim T c g Γ σ H) : Sim T (c.zone g H) g Γ σ H :=
  ⟨S.len, fun i s q => (S.slot i s q).ct rfl, S.out, S.inj, S.one, fun b o e => (hz_sub e).1, S.old, S.da, S.xt, fun b h => hz_in h, S.pin⟩
theorem Sim.unzone (S' : Sim T (c.zone g H) g' Γ' σ' H') (S : Sim T c g Γ σ H) : Sim T c g' Γ' σ' H' := by
  have w : ∀ b o, c.Hz b = some o → hzOf g H b = some o := fun b o e => by
    rw [hz_out fun z => by rw [S.hz b z] at e; cases e]
    exact S.frame b o e
  refine ⟨S'.len, fun i s q => (S'.slot i s q).ct rfl, S'.out, S'.inj, S'.one, fun b o e => S'.frame b o (w b o e), S'.old, S'.da, S'.xt, fun b h => ?_, S'.pin⟩
  cases e : c.Hz b with
  | none => rfl
  | some o =>
    have q : (c.zone g H).Hz b = none := S'.hz b h
    have q' : hzOf g H b = none := q
    rw [w b o e] at q'; cases q'
theorem Rep.hz (S : Sim T c g Γ σ H) (r : Rep T.K g.Ep H v d) : Rep T.K (fun _ => False) (hzOf g H) v d :=
  r.keep (N := g.Ep) (fun b o n e => by rw [hz_out n]; exact e) S.lists (fun _ z => z) fun _ z _ => z.elim
theorem Reps.hz (S : Sim T c g Γ σ H) (r : Reps T.K g.Ep H vs ds) : Reps T.K (fun _ => False) (hzOf g H) vs ds :=
  r.keep (N := g.Ep) (fun b o n e => by rw [hz_out n]; exact e) S.lists (fun _ z => z) fun _ z _ => z.elim
theorem Rep.lift {Hz : Hp} {E : Addr → Prop} (r : Rep T.K (fun _ => False) Hz v d) (s : Same Hz H) (hE : ∀ b, E b → Hz b = none) : Rep T.K E H v d :=
  r.keep (N := fun _ => False) (ofSame s) (fun _ z => z.elim) (fun _ z => z.elim) fun b z n => (n (hE b z)).elim
theorem SqT.same {p : Addr} {xs : List V} (h : SqT T.K H p xs) (s : Same H H') : SqT T.K H' p xs := (ofSame (N := fun _ => False) s).sqt (fun _ z => z.elim) h

/-! ### what is walked -/
structure WalkOk (T : Ks) (J : It) (ds : List D) (Hz : Hp) : Prop where
  go : ∀ i H, Same Hz H → i < ds.length → J.go i H
  yld : ∀ i H x H', Same Hz H → J.yld i H x H' → Same H H' ∧ ∀ d, ds[i]? = some d → ∀ E : Addr → Prop, (∀ b, E b → Hz b = none) → Rep T.K E H' x d
  stop : ∀ i H, Same Hz H → i = ds.length → J.stop i H
theorem getV {E : Addr → Prop} {i : Nat} (r : Reps T.K E H vs ds) (h : i < ds.length) : ∃ v, vs[i]? = some v := ⟨vs[i]'(by rw [r.length]; exact h), List.getElem?_eq_getElem _⟩
theorem walk_lst {Hz : Hp} (e : ∀ H, Same Hz H → SqL T.K H a vs) (r : Reps T.K (fun _ => False) Hz vs ds) : WalkOk T (Itl T.K a) ds Hz where
  go := fun i H s h => by
    obtain ⟨v, q⟩ := getV r h
    exact ⟨vs, v, e H s, q⟩
  yld := fun i H x H' s y => by
    obtain ⟨e1, y⟩ := y
    subst e1
    refine ⟨Same.refl _, fun d hd E hE => ?_⟩
    obtain ⟨v, q1, q2⟩ := r.get hd
    have : x = v := Option.some.inj ((y vs (e _ s)).symm.trans q1)
    subst this
    exact q2.lift s hE
  stop := fun i H s h0 => have h := Nat.le_of_eq h0.symm; ⟨vs, e H s, by rw [r.length]; exact h⟩
theorem walk_tup {Hz : Hp} (e : SqT T.K Hz a vs) (r : Reps T.K (fun _ => False) Hz vs ds) : WalkOk T (Itt T.K a) ds Hz where
  go := fun i H s h => by
    obtain ⟨v, q⟩ := getV r h
    exact ⟨vs, v, SqT.same e s, q⟩
  yld := fun i H x H' s y => by
    obtain ⟨e1, y⟩ := y
    subst e1
    refine ⟨Same.refl _, fun d hd E hE => ?_⟩
    obtain ⟨v, q1, q2⟩ := r.get hd
    have : x = v := Option.some.inj ((y vs (SqT.same e s)).symm.trans q1)
    subst this
    exact q2.lift s hE
  stop := fun i H s h0 => have h := Nat.le_of_eq h0.symm; ⟨vs, SqT.same e s, by rw [r.length]; exact h⟩
def rangeD (lo : Int) (n : Nat) : List D := (List.range n).map fun i => D.int (lo + (i : Nat))
def rangeC (lo c : Int) (n : Nat) : List D := (List.range n).map fun i => D.int (lo + (i : Nat) * c)
theorem walk_rng {lo : Int} {n : Nat} {Hz : Hp} : WalkOk T (Itr lo n) (rangeD lo n) Hz where
  go := fun i H _ h => by
    have h : i < (rangeD lo n).length := h
    rw [rangeD, List.length_map, List.length_range] at h; exact h
  yld := fun i H x H' _ y => by
    obtain ⟨e1, e2⟩ := y
    subst e1; subst e2
    refine ⟨Same.refl _, fun d hd E _ => ?_⟩
    unfold rangeD at hd
    rw [List.getElem?_map] at hd
    obtain ⟨j, h1, h2⟩ := Option.map_eq_some_iff.mp hd
    obtain ⟨_, h3⟩ := List.getElem?_eq_some_iff.mp h1
    rw [List.getElem_range] at h3
    subst h3; subst h2
    exact .int _
  stop := fun i H _ h0 => have h := Nat.le_of_eq h0.symm; by
    have h : (rangeD lo n).length ≤ i := h
    rw [rangeD, List.length_map, List.length_range] at h; exact h
theorem walk_rngC {lo cc : Int} {n : Nat} {Hz : Hp} : WalkOk T (Itc lo cc n) (rangeC lo cc n) Hz where
  go := fun i H _ h => by
    have h : i < (rangeC lo cc n).length := h
    rw [rangeC, List.length_map, List.length_range] at h; exact h
  yld := fun i H x H' _ y => by
    obtain ⟨e1, e2⟩ := y
    subst e1; subst e2
    refine ⟨Same.refl _, fun d hd E _ => ?_⟩
    unfold rangeC at hd
    rw [List.getElem?_map] at hd
    obtain ⟨j, h1, h2⟩ := Option.map_eq_some_iff.mp hd
    obtain ⟨_, h3⟩ := List.getElem?_eq_some_iff.mp h1
    rw [List.getElem_range] at h3
    subst h3; subst h2
    exact .int _
  stop := fun i H _ h0 => have h := Nat.le_of_eq h0.symm; by
    have h : (rangeC lo cc n).length ≤ i := h
    rw [rangeC, List.length_map, List.length_range] at h; exact h
def enumD (ds : List D) : List D := ds.mapIdx fun i d => D.tup [.int (i : Nat), d]
theorem walk_enum {Hz : Hp} (e : ∀ H, Same Hz H → SqL T.K H a vs) (r : Reps T.K (fun _ => False) Hz vs ds) : WalkOk T (Ite T.K a) (enumD ds) Hz where
  go := fun i H s h => by
    have h : i < (enumD ds).length := h
    rw [enumD, List.length_mapIdx] at h
    obtain ⟨v, q⟩ := getV r h
    exact ⟨vs, v, e H s, q⟩
  yld := fun i H x H' s y => by
    obtain ⟨p, z, e1, np, e2, y⟩ := y
    subst e1; subst e2
    have s' := same_upd (o := .tup [V.int (i : Nat), z]) np
    refine ⟨s', fun d hd E hE => ?_⟩
    rw [enumD, List.getElem?_mapIdx] at hd
    obtain ⟨d', hd', e3⟩ := Option.map_eq_some_iff.mp hd
    subst e3
    obtain ⟨v, q1, q2⟩ := r.get hd'
    have : z = v := Option.some.inj ((y vs (e _ s)).symm.trans q1)
    subst this
    exact .tup (.inl (.inl upd_same)) (.cons (.int _) (.cons ((q2.lift s hE).same s') .nil))
  stop := fun i H s h0 => have h := Nat.le_of_eq h0.symm; by
    have h : (enumD ds).length ≤ i := h
    rw [enumD, List.length_mapIdx] at h
    exact ⟨vs, e H s, by rw [r.length]; exact h⟩
def zipD (ds es : List D) : List D := List.zipWith (fun x y => D.tup [x, y]) ds es
theorem walk_zip {Hz : Hp} (e : ∀ H, Same Hz H → SqL T.K H a vs) (e' : ∀ H, Same Hz H → SqL T.K H b ws) (r : Reps T.K (fun _ => False) Hz vs ds) (r' : Reps T.K (fun _ => False) Hz ws es) : WalkOk T (Itz T.K a b) (zipD ds es) Hz where
  go := fun i H s h => by
    have h : i < (zipD ds es).length := h
    rw [zipD, List.length_zipWith] at h
    obtain ⟨v, q⟩ := getV r (i := i) (by omega)
    obtain ⟨w, q'⟩ := getV r' (i := i) (by omega)
    exact ⟨vs, ws, v, w, e H s, e' H s, q, q'⟩
  yld := fun i H x H' s y => by
    obtain ⟨p, z, z', e1, np, e2, y1, y2⟩ := y
    subst e1; subst e2
    have s' := same_upd (o := .tup [z, z']) np
    refine ⟨s', fun d hd E hE => ?_⟩
    rw [zipD, List.getElem?_zipWith] at hd
    cases hx : ds[i]? with
    | none => rw [hx] at hd; cases hd
    | some dx =>
      cases hy : es[i]? with
      | none => rw [hx, hy] at hd; cases hd
      | some dy =>
        rw [hx, hy] at hd
        cases hd
        obtain ⟨v, q1, q2⟩ := r.get hx
        obtain ⟨w, q3, q4⟩ := r'.get hy
        have : z = v := Option.some.inj ((y1 vs (e _ s)).symm.trans q1)
        subst this
        have : z' = w := Option.some.inj ((y2 ws (e' _ s)).symm.trans q3)
        subst this
        exact .tup (.inl (.inl upd_same)) (.cons ((q2.lift s hE).same s') (.cons ((q4.lift s hE).same s') .nil))
  stop := fun i H s h0 => have h := Nat.le_of_eq h0.symm; by
    have h : (zipD ds es).length ≤ i := h
    rw [zipD, List.length_zipWith] at h
    exact ⟨vs, ws, e H s, e' H s, by rw [r.length, r'.length]; omega⟩
theorem walk_rev {Hz : Hp} (e : ∀ H, Same Hz H → SqL T.K H a vs) (r : Reps T.K (fun _ => False) Hz vs ds) : WalkOk T (Itv T.K a vs.length) ds.reverse Hz where
  go := fun i H s h => by
    have h : i < ds.reverse.length := h
    rw [List.length_reverse] at h
    obtain ⟨v, q⟩ := getV r (i := vs.length - 1 - i) (by rw [r.length]; omega)
    exact ⟨by rw [r.length]; exact h, vs, v, e H s, q⟩
  yld := fun i H x H' s y => by
    obtain ⟨e1, y⟩ := y
    subst e1
    refine ⟨Same.refl _, fun d hd E hE => ?_⟩
    have hi : i < ds.length := by
      have := (List.getElem?_eq_some_iff.mp hd).1
      rwa [List.length_reverse] at this
    rw [List.getElem?_reverse hi] at hd
    obtain ⟨v, q1, q2⟩ := r.get hd
    have q := y vs (e _ s)
    rw [r.length] at q
    have : x = v := Option.some.inj (q.symm.trans q1)
    subst this
    exact q2.lift s hE
  stop := fun i H s h0 => have h := Nat.le_of_eq h0.symm; by
    have h : ds.reverse.length ≤ i := h
    rw [List.length_reverse] at h
    show vs.length ≤ i
    rw [r.length]; exact h
def PostI (T : Ks) (c : Ct) (g : Gh) (σ : L2.St) (H : Hp) (R' : It → Hp → Prop) (W : WX) : R (Err × Nv) (List D × Nv) → Prop
  | .ok (ds, Γ) => ∀ J H', Sim T c g Γ σ H' → Keep g.Dp H H' → WalkOk T J ds (hzOf g H') → R' J H'
  | .err (e, Γ) => ∀ cls dd H', Sim T c g Γ σ H' → ErrOk T e cls dd H' → W cls dd σ H'
  | .bad => False
def DI (T : Ks) (W : WX) (wi : TI) (f : EF (List D)) : Prop := ∀ c g Γ σ H R', Sim T c g Γ σ H → PostI T c g σ H R' W (f Γ) → wi σ H R'
theorem DE.toS (a : DE T W .F te fe) : DE T W .S te fe := fun c g Γ σ H Q S p => a c g Γ σ H Q S (by
  cases e : fe Γ with
  | ok x => obtain ⟨d, Γ1⟩ := x; rw [e] at p; exact fun v H' S' q r => p v H' S' q (r.weak fun b z _ => .inl z)
  | err x => rw [e] at p; exact p
  | bad => rw [e] at p; exact p)
def lstOf : D → Option (List D)
  | .lst ds => some ds
  | .fz ds => some ds
  | _ => none
theorem Rep.sql {E : Addr → Prop} (r : Rep T.K E H v d) (e : lstOf d = some ds) (hE : Lists E H) : ∃ p vs, v = .ref p ∧ Reps T.K E H vs ds ∧ (∀ H', Keep E H H' → SqL T.K H' p vs) := by
  cases r with
  | lst h n r => cases e; exact ⟨_, _, rfl, r, fun H' k => SqL.of (k _ _ n h)⟩
  | fz h r =>
    cases e
    exact ⟨_, _, rfl, r, fun H' k => .inl (.inr (k.frz hE h))⟩
  | fl h n r => cases e; exact ⟨_, _, rfl, r, fun H' k => SqL.of (k _ _ n h)⟩
  | fk h r => cases e; exact ⟨_, _, rfl, r, fun H' k => .inr h⟩
  | _ => cases e
def dWalk (fe : EF D) : EF (List D) := fun Γ => (fe Γ).bind fun x => liftL (lstOf x.1) x.2
theorem keepHz (s : Same (hzOf g H) H') : Keep g.Ep H H' := fun b o n e => s b o (by rw [hz_out n]; exact e)
theorem di_lst (a : DE T W .S te fe) : DI T W (iList T.K te) (dWalk fe) := fun c g Γ σ H R' S p => by
  refine a c g Γ σ H _ S ?_
  unfold dWalk at p
  cases e : fe Γ with
  | bad => rw [e] at p; exact p
  | err x => rw [e] at p; exact p
  | ok x =>
    obtain ⟨d, Γ1⟩ := x
    rw [e, R.bind_ok] at p
    intro v1 H1 S1 k1 r1
    cases e2 : lstOf d with
    | none => simp only [e2] at p; exact False.elim p
    | some ds =>
      simp only [e2] at p
      obtain ⟨q, vs, ev, rr, hs⟩ := Rep.sql r1 e2 S1.lists
      exact ⟨q, ev, ⟨vs, hs _ Keep.refl⟩, p _ H1 S1 k1 (walk_lst (fun H s => hs H (keepHz s)) (rr.hz S1))⟩
def tupOf : D → Option (List D)
  | .tup ds => some ds
  | _ => none
def dWalkT (fe : EF D) : EF (List D) := fun Γ => (fe Γ).bind fun x => liftL (tupOf x.1) x.2
theorem di_tup (a : DE T W .S te fe) : DI T W (iTup T.K te) (dWalkT fe) := fun c g Γ σ H R' S p => by
  refine a c g Γ σ H _ S ?_
  unfold dWalkT at p
  cases e : fe Γ with
  | bad => rw [e] at p; exact p
  | err x => rw [e] at p; exact p
  | ok x =>
    obtain ⟨d, Γ1⟩ := x
    rw [e, R.bind_ok] at p
    intro v1 H1 S1 k1 r1
    cases r1 with
    | @tup q vs ds h rr =>
      refine ⟨q, rfl, ⟨vs, h⟩, p _ H1 S1 k1 (walk_tup ?_ (rr.hz S1))⟩
      exact Keep.sqt (N := g.Ep) (fun b o n e => by rw [hz_out n]; exact e) S1.lists h
    | _ => exact False.elim p
def inRg (i : Int) : Prop := -(2 ^ 62) ≤ i ∧ i < 2 ^ 62
instance : DecidablePred inRg := fun i => inferInstanceAs (Decidable (_ ∧ _))
def rg1 : List D → Option (List D)
  | [.int j] => if inRg j then some (rangeD 0 j.toNat) else none
  | _ => none
def rg2 : List D → Option (List D)
  | [.int i, .int j] => if inRg i ∧ inRg j then some (rangeD i (j - i).toNat) else none
  | _ => none
def dRg (o : List D → Option (List D)) (fs : EF (List D)) : EF (List D) := fun Γ => (fs Γ).bind fun x => liftL (o x.1) x.2
theorem di_rg1 {ts : TA} {fs : EF (List D)} (a : DA T W k ts fs) : DI T W (iRng1 ts) (dRg rg1 fs) := fun c g Γ σ H R' S p => by
  refine a c g Γ σ H _ S ?_
  unfold dRg at p
  cases e : fs Γ with
  | bad => rw [e] at p; exact p
  | err x => rw [e] at p; exact p
  | ok x =>
    obtain ⟨ds, Γ1⟩ := x
    rw [e, R.bind_ok] at p
    intro v1 H1 S1 k1 r1
    cases e2 : rg1 ds with
    | none => simp only [e2] at p; exact False.elim p
    | some es =>
      simp only [e2] at p
      unfold rg1 at e2
      split at e2
      · rename_i j
        split at e2
        · rename_i hj
          cases e2
          cases r1 with
          | cons r1 r2 =>
            cases r2; cases r1
            exact ⟨j, rfl, hj.1, hj.2, p _ H1 S1 k1 walk_rng⟩
        · cases e2
      · cases e2
theorem di_rg2 {ts : TA} {fs : EF (List D)} (a : DA T W k ts fs) : DI T W (iRng2 ts) (dRg rg2 fs) := fun c g Γ σ H R' S p => by
  refine a c g Γ σ H _ S ?_
  unfold dRg at p
  cases e : fs Γ with
  | bad => rw [e] at p; exact p
  | err x => rw [e] at p; exact p
  | ok x =>
    obtain ⟨ds, Γ1⟩ := x
    rw [e, R.bind_ok] at p
    intro v1 H1 S1 k1 r1
    cases e2 : rg2 ds with
    | none => simp only [e2] at p; exact False.elim p
    | some es =>
      simp only [e2] at p
      unfold rg2 at e2
      split at e2
      · rename_i i j
        split at e2
        · rename_i hj
          cases e2
          cases r1 with
          | cons r1 r2 =>
            cases r2 with
            | cons r2 r3 =>
              cases r3; cases r2; cases r1
              exact ⟨i, j, rfl, ⟨hj.1.1, hj.1.2, hj.2.1, hj.2.2⟩, p _ H1 S1 k1 walk_rng⟩
        · cases e2
      · cases e2
/-- the built-in walks over lists: enumerate, zip, reversed -/
def en1 : List D → Option (List D)
  | [d] => (lstOf d).map enumD
  | _ => none
theorem di_enum {ts : TA} {fs : EF (List D)} (a : DA T W .S ts fs) : DI T W (iEnum T.K ts) (dRg en1 fs) := fun c g Γ σ H R' S p => by
  refine a c g Γ σ H _ S ?_
  unfold dRg at p
  cases e : fs Γ with
  | bad => rw [e] at p; exact p
  | err x => rw [e] at p; exact p
  | ok x =>
    obtain ⟨ds, Γ1⟩ := x
    rw [e, R.bind_ok] at p
    intro v1 H1 S1 k1 r1
    cases e2 : en1 ds with
    | none => simp only [e2] at p; exact False.elim p
    | some es =>
      simp only [e2] at p
      unfold en1 at e2
      split at e2
      · rename_i d
        obtain ⟨xs, e3, e4⟩ := Option.map_eq_some_iff.mp e2
        subst e4
        cases r1 with
        | cons r1 r2 =>
          cases r2
          obtain ⟨q, vs, ev, rr, hs⟩ := Rep.sql r1 e3 S1.lists
          subst ev
          exact ⟨q, vs, rfl, hs _ Keep.refl, p _ H1 S1 k1 (walk_enum (fun H s => hs H (keepHz s)) (rr.hz S1))⟩
      · cases e2
def rv1 : List D → Option (List D)
  | [d] => (lstOf d).map List.reverse
  | _ => none
theorem di_rev {ts : TA} {fs : EF (List D)} (a : DA T W .S ts fs) : DI T W (iRev T.K ts) (dRg rv1 fs) := fun c g Γ σ H R' S p => by
  refine a c g Γ σ H _ S ?_
  unfold dRg at p
  cases e : fs Γ with
  | bad => rw [e] at p; exact p
  | err x => rw [e] at p; exact p
  | ok x =>
    obtain ⟨ds, Γ1⟩ := x
    rw [e, R.bind_ok] at p
    intro v1 H1 S1 k1 r1
    cases e2 : rv1 ds with
    | none => simp only [e2] at p; exact False.elim p
    | some es =>
      simp only [e2] at p
      unfold rv1 at e2
      split at e2
      · rename_i d
        obtain ⟨xs, e3, e4⟩ := Option.map_eq_some_iff.mp e2
        subst e4
        cases r1 with
        | cons r1 r2 =>
          cases r2
          obtain ⟨q, vs, ev, rr, hs⟩ := Rep.sql r1 e3 S1.lists
          subst ev
          exact ⟨q, vs, rfl, hs _ Keep.refl, p _ H1 S1 k1 (walk_rev (fun H s => hs H (keepHz s)) (rr.hz S1))⟩
      · cases e2
def zp2 : List D → Option (List D)
  | [x, y] => (lstOf x).bind fun xs => (lstOf y).map fun ys => zipD xs ys
  | _ => none
theorem di_zip {ts : TA} {fs : EF (List D)} (a : DA T W .S ts fs) : DI T W (iZip T.K ts) (dRg zp2 fs) := fun c g Γ σ H R' S p => by
  refine a c g Γ σ H _ S ?_
  unfold dRg at p
  cases e : fs Γ with
  | bad => rw [e] at p; exact p
  | err x => rw [e] at p; exact p
  | ok x =>
    obtain ⟨ds, Γ1⟩ := x
    rw [e, R.bind_ok] at p
    intro v1 H1 S1 k1 r1
    cases e2 : zp2 ds with
    | none => simp only [e2] at p; exact False.elim p
    | some es =>
      simp only [e2] at p
      unfold zp2 at e2
      split at e2
      · rename_i dx dy
        obtain ⟨xs, e3, e4⟩ := Option.bind_eq_some_iff.mp e2
        obtain ⟨ys, e5, e6⟩ := Option.map_eq_some_iff.mp e4
        subst e6
        cases r1 with
        | cons r1 r2 =>
          cases r2 with
          | cons r2 r3 =>
            cases r3
            obtain ⟨q, vs, ev, rr, hs⟩ := Rep.sql r1 e3 S1.lists
            obtain ⟨q', vs', ev', rr', hs'⟩ := Rep.sql r2 e5 S1.lists
            subst ev; subst ev'
            exact ⟨q, q', vs, vs', rfl, hs _ Keep.refl, hs' _ Keep.refl, p _ H1 S1 k1 (walk_zip (fun H s => hs H (keepHz s)) (fun H s => hs' H (keepHz s)) (rr.hz S1) (rr'.hz S1))⟩
      · cases e2

/-! ### for, while -/
def dLoop (fg : D → Nv → Option Nv) (fb : SF) : List D → Nv → R (Err × Nv) (Fl × Nv)
  | [], Γ => .ok (.nx, Γ)
  | d :: ds, Γ => match fg d Γ with
    | none => .bad
    | some Γ1 => (fb Γ1).bind fun x => match x.1 with
      | .nx => dLoop fg fb ds x.2
      | .ct => dLoop fg fb ds x.2
      | .bk => .ok (.nx, x.2)
      | .rt d => .ok (.rt d, x.2)
def dFor (fi : EF (List D)) (fg : D → Nv → Option Nv) (fb : SF) : SF := fun Γ => (fi Γ).bind fun x => dLoop fg fb x.1 x.2
theorem drop_cons {α : Type} {l : List α} {i : Nat} (h : i < l.length) : l.drop i = l[i] :: l.drop (i + 1) := by simp
theorem ds_for {wi : TI} {gt : TG} {fi : EF (List D)} {fg : D → Nv → Option Nv} {l : List Nat} (a : DI T W wi fi) (b : DG T l gt fg) (hb : DS T W t f) : DS T W (tFor wi gt t) (dFor fi fg f) := fun c g Γ σ H D S p => by
  refine a c g Γ σ H _ S ?_
  unfold dFor at p
  cases e : fi Γ with
  | bad => rw [e] at p; exact p
  | err x => rw [e] at p; exact fun cls dd H' S' => p g cls dd σ H' Gle.refl S'
  | ok x =>
    obtain ⟨ds, Γ1⟩ := x
    rw [e, R.bind_ok] at p
    intro J H1 S1 k1 w
    refine ⟨fun i m σ' H' => m = ds.length - i ∧ i ≤ ds.length ∧ ∃ g' Γ', Gle g g' ∧ Sim T (c.zone g H1) g' Γ' σ' H' ∧ PostS T c g D W (dLoop fg f (ds.drop i) Γ'),
      ⟨ds.length, rfl, Nat.zero_le _, g, Γ1, Gle.refl, S1.zone, by rw [List.drop_zero]; exact p⟩, ?_⟩
    rintro i m σ' H2 ⟨rfl, hi, g', Γ', q', S', p'⟩
    by_cases hlt : i < ds.length
    · refine .inr ⟨w.go i H2 S'.frame hlt, fun σ3 H3 => i + 1 ≤ ds.length ∧ ∃ g' Γ', Gle g g' ∧ Sim T (c.zone g H1) g' Γ' σ3 H3 ∧ PostS T c g D W (dLoop fg f (ds.drop (i + 1)) Γ'),
        fun σ3 H3 h => ⟨ds.length - (i + 1), by omega, rfl, h.1, h.2⟩, fun x H3 y => ?_⟩
      obtain ⟨s3, r3⟩ := w.yld i H2 x H3 S'.frame y
      rw [drop_cons hlt] at p'
      unfold dLoop at p'
      have r4 : Rep T.K g'.Ep H3 x ds[i] := r3 _ (List.getElem?_eq_getElem hlt) _ fun b z => S'.hz b z
      cases e2 : fg ds[i] Γ' with
      | none => rw [e2] at p'; exact False.elim p'
      | some Γ2 =>
        rw [e2] at p'
        refine b (c.zone g H1) g' Γ' σ' H3 x ds[i] _ (S'.grow s3) r4 (fun Γ3 q3 σ3 w3 S3 => ?_) ⟨Γ2, e2⟩
        have : Γ3 = Γ2 := Option.some.inj (q3.symm.trans e2)
        subst this
        refine hb (c.zone g H1) _ Γ3 σ3 H3 _ S3 ?_
        have q4 : Gle g (g'.cuts l) := q'.trans (Gle.cuts l)
        dsimp only at p'
        cases e4 : f Γ3 with
        | bad => rw [e4] at p'; exact p'
        | err x => rw [e4] at p'; exact fun g5 cls dd σ5 H5 q5 S5 eo => p' g5 cls dd σ5 H5 (q4.trans q5) (S5.unzone S1) eo
        | ok x =>
          obtain ⟨fl, Γ4⟩ := x
          rw [e4, R.bind_ok] at p'
          cases fl with
          | nx => exact fun g5 σ5 H5 q5 S5 => ⟨hlt, g5, Γ4, q4.trans q5, S5, p'⟩
          | ct => exact fun g5 σ5 H5 q5 S5 => ⟨hlt, g5, Γ4, q4.trans q5, S5, p'⟩
          | bk => exact fun g5 σ5 H5 q5 S5 => p' g5 σ5 H5 (q4.trans q5) (S5.unzone S1)
          | rt d => exact fun g5 v σ5 H5 q5 S5 r5 => p' g5 v σ5 H5 (q4.trans q5) (S5.unzone S1) r5
    · have hx : i = ds.length := by omega
      subst hx
      refine .inl ⟨w.stop _ H2 S'.frame rfl, ?_⟩
      rw [List.drop_length] at p'
      exact p' g' σ' H2 q' (S'.unzone S1)
def dWhileN (fc : EF Bool) (fb : SF) : Nat → Nv → R (Err × Nv) (Fl × Nv)
  | 0, _ => .bad
  | n + 1, Γ => (fc Γ).bind fun x => if x.1 then (fb x.2).bind fun y => match y.1 with
      | .nx => dWhileN fc fb n y.2
      | .ct => dWhileN fc fb n y.2
      | .bk => .ok (.nx, y.2)
      | .rt d => .ok (.rt d, y.2)
    else .ok (.nx, x.2)
def dWhile (n : Nv → Nat) (fc : EF Bool) (fb : SF) : SF := fun Γ => dWhileN fc fb (n Γ) Γ
theorem ds_while {tc : TT} {fc : EF Bool} (n : Nv → Nat) (a : DT T W tc fc) (hb : DS T W t f) : DS T W (tWhile tc t) (dWhile n fc f) := fun c g Γ σ H D S p => by
  refine ⟨fun m σ' H' => ∃ g' Γ', Gle g g' ∧ Sim T c g' Γ' σ' H' ∧ PostS T c g D W (dWhileN fc f m Γ'), ⟨n Γ, g, Γ, Gle.refl, S, p⟩, ?_⟩
  rintro m σ1 H1 ⟨g1, Γ1, q1, S1, p1⟩
  refine a c g1 Γ1 σ1 H1 _ S1 ?_
  cases m with
  | zero => exact False.elim p1
  | succ m =>
    unfold dWhileN at p1
    cases e : fc Γ1 with
    | bad => rw [e] at p1; exact p1
    | err x => rw [e] at p1; exact fun cls dd H' S' => p1 g1 cls dd σ1 H' q1 S'
    | ok x =>
      obtain ⟨x, Γ2⟩ := x
      rw [e, R.bind_ok] at p1
      intro H2 S2 k2
      cases x with
      | false => exact iteF (p1 g1 σ1 H2 q1 S2)
      | true =>
        refine iteT ⟨fun σ' H' => ∃ g' Γ', Gle g g' ∧ Sim T c g' Γ' σ' H' ∧ PostS T c g D W (dWhileN fc f m Γ'), fun σ' H' h => ⟨m, Nat.lt_succ_self _, h⟩, ?_⟩
        refine hb c g1 Γ2 σ1 H2 _ S2 ?_
        simp only [if_true] at p1
        cases e4 : f Γ2 with
        | bad => rw [e4] at p1; exact p1
        | err x => rw [e4] at p1; exact fun g5 cls dd σ5 H5 q5 S5 eo => p1 g5 cls dd σ5 H5 (q1.trans q5) S5 eo
        | ok x =>
          obtain ⟨fl, Γ4⟩ := x
          rw [e4, R.bind_ok] at p1
          cases fl with
          | nx => exact fun g5 σ5 H5 q5 S5 => ⟨g5, Γ4, q1.trans q5, S5, p1⟩
          | ct => exact fun g5 σ5 H5 q5 S5 => ⟨g5, Γ4, q1.trans q5, S5, p1⟩
          | bk => exact fun g5 σ5 H5 q5 S5 => p1 g5 σ5 H5 (q1.trans q5) S5
          | rt d => exact fun g5 v σ5 H5 q5 S5 r5 => p1 g5 v σ5 H5 (q1.trans q5) S5 r5
end
end DL

set_option Elab.async false
set_option linter.all false
set_option maxRecDepth 100000
/-! data layer, part f: comprehensions, calls, a def's promise -/
namespace DL
open PySem PySem.Spec PyProof.Rows L2
section
variable {T : Ks} {W : WX} {c : Ct} {g g' : Gh} {Γ Γ' : Nv} {σ σ' : L2.St} {H H' : Hp} {v : V} {d : D} {k : Lq} {t u : TS} {te : TE} {f h : SF} {fe : EF D} {De : Ends} {a b : Addr} {vs ws : List V} {ds es : List D}
/-! ### comprehensions -/
def wipeN (Γ : Nv) : List Nat → Nv
  | [] => Γ
  | i :: r => (wipeN Γ r).set i .emp
def plain (Γ : Nv) (i : Nat) : Bool := match Γ[i]? with | some (.own _) => false | some (.od _ _) => false | some (.dr _) => false | none => false | _ => true
/-- the slots of own as they were -/
def giveBack (Γ0 Γ : Nv) : List Nat → Nv
  | [] => Γ
  | i :: r => (giveBack Γ0 Γ r).set i (Γ0.getD i .emp)
def lcLoop (fg : D → Nv → Option Nv) (ft : EF Bool) (fe : EF D) (own : List Nat) : List D → Nv → List D → R (Err × Nv) (List D × Nv)
  | [], Γ, acc => .ok (acc, Γ)
  | d :: ds, Γ, acc => match fg d Γ with
    | none => .bad
    | some Γ1 => match ft Γ1 with
      | .ok (true, Γ2) => match fe Γ2 with
        | .ok (y, Γ3) => if acc.length < sizeLine then lcLoop fg ft fe own ds (wipeN Γ3 own) (acc ++ [y]) else .bad
        | _ => .bad
      | .ok (false, Γ2) => lcLoop fg ft fe own ds (wipeN Γ2 own) acc
      | _ => .bad
def dLc (fi : EF (List D)) (fg : D → Nv → Option Nv) (ft : EF Bool) (fe : EF D) (own : List Nat) : EF (List D) := fun Γ => (fi Γ).bind fun x =>
  if own.all (plain x.2) = true then (lcLoop fg ft fe own x.1 (wipeN x.2 own) []).bind fun y => .ok (y.1, giveBack x.2 y.2 own) else .bad
def dYes : EF Bool := fun Γ => .ok (true, Γ)
theorem dt_yes : DT T W tYes dYes := fun c g Γ σ H Q S p => p H S Keep.refl
theorem Sim.wiped (S : Sim T c g Γ σ H) : ∀ {own : List Nat}, (∀ i ∈ own, g.ad i = none) → Sim T c g (wipeN Γ own) (wipe σ own) H
  | [], _ => S
  | i :: r, h => by
    have q := (S.wiped (own := r) fun j hj => h j (List.mem_cons_of_mem _ hj)).setEmp i none
    rw [Gh.cut_id (h i List.mem_cons_self)] at q
    exact q
theorem plain_ad (S : Sim T c g Γ σ H) {i : Nat} (h : plain Γ i = true) : g.ad i = none := by
  unfold plain at h
  cases e : Γ[i]? with
  | none => rw [e] at h; cases h
  | some s =>
    rw [e] at h
    have q := S.slot i s e
    cases s with
    | emp => exact q
    | im d => exact q.1
    | fr d => exact q.1
    | own _ => cases h
    | od _ _ => cases h
    | dr _ => cases h
theorem wipe_out {i : Nat} : ∀ {l : List Nat}, i ∉ l → (wipe σ l)[i]? = σ[i]?
  | [], _ => rfl
  | j :: r, h => by
    show ((wipe σ r).set j none)[i]? = _
    rw [List.getElem?_set_ne fun z => h (by rw [z]; exact List.mem_cons_self)]
    exact wipe_out fun z => h (List.mem_cons_of_mem _ z)
theorem giveBack_len (Γ0 Γ : Nv) : ∀ l : List Nat, (giveBack Γ0 Γ l).length = Γ.length
  | [] => rfl
  | i :: r => by unfold giveBack; rw [List.length_set, giveBack_len Γ0 Γ r]
theorem giveBack_out {Γ0 : Nv} {i : Nat} : ∀ {l : List Nat}, i ∉ l → (giveBack Γ0 Γ l)[i]? = Γ[i]?
  | [], _ => rfl
  | j :: r, h => by
    show ((giveBack Γ0 Γ r).set j _)[i]? = _
    rw [List.getElem?_set_ne fun z => h (by rw [z]; exact List.mem_cons_self)]
    exact giveBack_out fun z => h (List.mem_cons_of_mem _ z)
theorem giveBack_in {Γ0 : Nv} {i : Nat} (hi : i < Γ.length) : ∀ {l : List Nat}, i ∈ l → (giveBack Γ0 Γ l)[i]? = some (Γ0.getD i .emp)
  | [], h => by simp at h
  | j :: r, h => by
    show ((giveBack Γ0 Γ r).set j _)[i]? = _
    by_cases e : j = i
    · subst e
      rw [List.getElem?_set_self (by rw [giveBack_len]; exact hi)]
    · rw [List.getElem?_set_ne e]
      exact giveBack_in hi ((List.mem_cons.mp h).resolve_left fun z => e z.symm)
/-- behind a comprehension the slots are as they were -/
theorem Sim.back {Γ0 : Nv} {H0 : Hp} {own : List Nat} (S0 : Sim T c g Γ0 σ H0) (na : H0 a = none) (S : Sim T c (g.more a) Γ (wipe σ own) H) (kk : Keep g.Dp H0 H) (hp : own.all (plain Γ0) = true) : Sim T c (g.more a) (giveBack Γ0 Γ own) σ H := by
  have w : ∀ b, (g.more a).Ep b → H0 b ≠ none → g.Ep b := fun b z n => (Gh.more_ep z).resolve_left fun e => n (by rw [e]; exact na)
  have hl : Γ.length = Γ0.length := by
    rw [← S.len, ← S0.len, wipe_length]
  have hpl : ∀ i ∈ own, plain Γ0 i = true := fun i hi => List.all_eq_true.mp hp i hi
  refine ⟨by rw [giveBack_len, hl]; exact S0.len, fun i s q => ?_, fun i hi => S.out i (by rw [giveBack_len] at hi; exact hi), S.inj, fun i j x y h1 h2 => ?_, S.frame, S.old, S.da, S.xt, S.hz, S.pin⟩
  · by_cases hm : i ∈ own
    · have hi : i < Γ.length := by
        have := (List.getElem?_eq_some_iff.mp q).1
        rwa [giveBack_len] at this
      rw [giveBack_in hi hm] at q
      have e0 : Γ0[i]? = some s := by
        have q' := Option.some.inj q
        rw [← q', List.getD_eq_getElem?_getD, List.getElem?_eq_getElem (by omega)]
        rfl
      refine (S0.slot i s e0).turn rfl rfl (fun v d r => r.keep kk S0.listsD (fun _ z => .inl z) w) (fun v d r => r.keep kk S0.listsD (fun _ z => .inl (.inl z)) fun b z n => z.imp (fun z => w b z n) id) (fun vs ds _ r => r.keep kk S0.listsD (fun _ z => .inl z) w)
        (fun a xs e1 e2 => ?_) (fun a p x e1 => ?_)
      · rw [plain_ad S0 (hpl i hm)] at e1; cases e1
      · have z := hpl i hm
        unfold plain at z
        rw [e0, e1] at z; cases z
    · rw [giveBack_out hm] at q
      have z := S.slot i s q
      unfold SlotOk at z ⊢
      rw [wipe_out hm] at z
      exact z
  · have nd : ∀ (m : Nat) (z : Dr), (giveBack Γ0 Γ own)[m]? = some (Slot.dr z) → Γ[m]? = some (Slot.dr z) := fun m z q => by
      by_cases hm : m ∈ own
      · have hi : m < Γ.length := by
          have := (List.getElem?_eq_some_iff.mp q).1
          rwa [giveBack_len] at this
        rw [giveBack_in hi hm] at q
        have w := hpl m hm
        unfold plain at w
        have e0 : Γ0[m]? = some (Slot.dr z) := by
          have q' := Option.some.inj q
          rw [← q', List.getD_eq_getElem?_getD, List.getElem?_eq_getElem (by omega)]
          rfl
        rw [e0] at w; cases w
      · rwa [giveBack_out hm] at q
    exact S.one i j x y (nd _ _ h1) (nd _ _ h2)
theorem Keep.or {N M : Addr → Prop} (q : Keep N H H') : Keep (fun b => N b ∨ M b) H H' := fun b o n e => q b o (fun z => n (.inl z)) e
theorem do_lc {wi : TI} {gt : TG} {tt : TT} {fi : EF (List D)} {fg : D → Nv → Option Nv} {ft : EF Bool} {l own : List Nat} (a : DI T W wi fi) (b : DG T l gt fg) (bt : DT T (fun _ _ _ _ => False) tt ft) (be : DE T (fun _ _ _ _ => False) .N te fe) (hl : ∀ i ∈ l, i ∈ own) :
    DO T W (tLc wi gt tt te own) (dLc fi fg ft fe own) := fun c g Γ σ H Q S p => by
  refine a c g Γ σ H _ S ?_
  unfold dLc at p
  cases e : fi Γ with
  | bad => rw [e] at p; exact p
  | err x => rw [e] at p; exact p
  | ok x =>
    obtain ⟨ds, Γ1⟩ := x
    rw [e, R.bind_ok] at p
    intro J H1 S1 k1 w
    by_cases hp : own.all (plain Γ1) = true
    · rw [if_pos hp] at p
      intro Dd nD
      have hpl : ∀ i ∈ own, g.ad i = none := fun i hi => plain_ad S1 (List.all_eq_true.mp hp i hi)
      have gr1 : ∀ b, H b ≠ none → H1 b ≠ none := S.grown S1 k1
      have sD := same_upd (o := .lst []) nD
      -- what holds between two turns
      let N : Addr → Prop := fun b => H1 b ≠ none ∨ b = Dd
      have dpN : ∀ b, g.Dp b → N b := fun b z => .inl (S1.some_of (k := .W) z)
      refine ⟨fun i m H' => m = ds.length - i ∧ i ≤ ds.length ∧ ∃ Γ' acc vs, Sim T (c.zone g H1) (g.more Dd) Γ' (wipe σ own) H' ∧ Keep g.Dp H1 H' ∧ H' Dd = some (.lst vs) ∧ Reps T.K N H' vs acc ∧
          PostO T c g σ H Q W ((lcLoop fg ft fe own (ds.drop i) Γ' acc).bind fun y => .ok (y.1, giveBack Γ1 y.2 own)), ⟨ds.length, rfl, Nat.zero_le _, wipeN Γ1 own, [], [], ?_, ofSame sD, upd_same, .nil, by rw [List.drop_zero]; exact p⟩, ?_⟩
      · exact (S1.wiped hpl).zone.more sD nD upd_same |> fun z => ⟨z.len, z.slot, z.out, z.inj, z.one, fun b o e => z.frame b o e, z.old, z.da, z.xt, fun b h => by
          rcases Gh.more_ep h with q | q
          · subst q
            show hzOf g H1 b = none
            by_cases zz : g.Ep b
            · exact hz_in zz
            · rw [hz_out zz]; exact nD
          · exact hz_in q, z.pin⟩
      rintro i m H2 ⟨rfl, hi, Γ', acc, vs, S2, k2, eD, rA, p2⟩
      have fr : Same (hzOf g H1) H2 := S2.frame
      by_cases hlt : i < ds.length
      · refine .inr ⟨w.go i H2 fr hlt, fun H3 => i + 1 ≤ ds.length ∧ ∃ Γ' acc vs, Sim T (c.zone g H1) (g.more Dd) Γ' (wipe σ own) H3 ∧ Keep g.Dp H1 H3 ∧ H3 Dd = some (.lst vs) ∧ Reps T.K N H3 vs acc ∧
          PostO T c g σ H Q W ((lcLoop fg ft fe own (ds.drop (i + 1)) Γ' acc).bind fun y => .ok (y.1, giveBack Γ1 y.2 own)), fun H3 h => ⟨ds.length - (i + 1), by omega, rfl, h.1, h.2⟩, fun x H3 y => ?_⟩
        obtain ⟨s3, r3⟩ := w.yld i H2 x H3 fr y
        rw [drop_cons hlt] at p2
        unfold lcLoop at p2
        have r4 : Rep T.K (g.more Dd).Ep H3 x ds[i] := r3 _ (List.getElem?_eq_getElem hlt) _ fun b z => S2.hz b z
        have S3 := S2.grow s3
        cases e2 : fg ds[i] Γ' with
        | none => rw [e2] at p2; exact False.elim p2
        | some Γ2 =>
          rw [e2] at p2
          dsimp only at p2
          refine b (c.zone g H1) (g.more Dd) Γ' _ H3 x ds[i] _ S3 r4 (fun Γ3 q3 σ3 w3 S4 => ?_) ⟨Γ2, e2⟩
          have : Γ3 = Γ2 := Option.some.inj (q3.symm.trans e2)
          subst this
          have gid : (g.more Dd).cuts l = g.more Dd := Gh.cuts_id fun i hi => hpl i (hl i hi)
          rw [gid] at S4
          have w4 : L2.wipe σ3 own = L2.wipe σ own := by
            rw [w3 own hl]
            have : ∀ m : List Nat, (∀ i ∈ m, i ∈ own) → wipe (wipe σ own) m = wipe σ own := by
              intro m
              induction m with
              | nil => intro _; rfl
              | cons j r ih =>
                intro hm
                show (wipe (wipe σ own) r).set j none = _
                rw [ih fun i hi => hm i (List.mem_cons_of_mem _ hi)]
                apply List.ext_getElem?
                intro n
                have key : ∀ (m : List Nat) (j : Nat), j ∈ m → j < σ.length → (wipe σ m)[j]? = some none := by
                  intro m
                  induction m with
                  | nil => intro j hj; simp at hj
                  | cons q r ih =>
                    intro j hj hlen
                    show ((wipe σ r).set q none)[j]? = _
                    by_cases z : q = j
                    · subst z
                      rw [List.getElem?_set_self (by rw [wipe_length]; exact hlen)]
                    · rw [List.getElem?_set_ne z]
                      exact ih j ((List.mem_cons.mp hj).resolve_left fun y => z y.symm) hlen
                by_cases hn : j = n
                · subst hn
                  by_cases hlen : j < σ.length
                  · rw [List.getElem?_set_self (by rw [wipe_length]; exact hlen), key own j (hm j List.mem_cons_self) hlen]
                  · rw [List.getElem?_eq_none (by rw [List.length_set, wipe_length]; omega), List.getElem?_eq_none (by rw [wipe_length]; omega)]
                · rw [List.getElem?_set_ne hn]
            exact this own fun i hi => hi
          refine ⟨w4, bt (c.zone g H1) (g.more Dd) Γ3 σ3 H3 _ S4 ?_⟩
          have rA3 : Reps T.K N H3 vs acc := rA.same s3
          cases e5 : ft Γ3 with
          | bad => rw [e5] at p2; exact False.elim p2
          | err z => rw [e5] at p2; exact False.elim p2
          | ok z =>
            obtain ⟨bb, Γ4⟩ := z
            rw [e5] at p2
            intro H5 S5 k5
            have dpd : ∀ {b}, (g.more Dd).Dp b → g.Dp b := fun z => z
            have k25 : Keep g.Dp H1 H5 := k2.trans ((ofSame s3).trans k5)
            have eD3 : H3 Dd = some (.lst vs) := s3 _ _ eD
            have notD : ¬ g.Dp Dd := fun z => S1.some_of (k := .W) z nD
            have eD5 : H5 Dd = some (.lst vs) := k5 _ _ notD eD3
            have rA5 : Reps T.K N H5 vs acc := rA3.keep k5 S4.listsD dpN fun _ z _ => z
            have wp : ∀ {Γ6 : Nv} {H6 : Hp}, Sim T (c.zone g H1) (g.more Dd) Γ6 σ3 H6 → Sim T (c.zone g H1) (g.more Dd) (wipeN Γ6 own) (wipe σ own) H6 := fun {Γ6 H6} z => by
              have q := z.wiped (own := own) hpl
              rw [w4] at q
              exact q
            cases bb with
            | false =>
              rw [if_neg Bool.false_ne_true]
              exact ⟨hlt, wipeN Γ4 own, acc, vs, wp S5, k25, eD5, rA5, p2⟩
            | true =>
              rw [if_pos rfl]
              refine be (c.zone g H1) (g.more Dd) Γ4 σ3 H5 _ S5 ?_
              dsimp only at p2
              cases e6 : fe Γ4 with
              | bad => rw [e6] at p2; exact False.elim p2
              | err z => rw [e6] at p2; exact False.elim p2
              | ok z =>
                obtain ⟨yd, Γ5⟩ := z
                rw [e6] at p2
                dsimp only at p2
                intro yv H6 S6 k6 r6
                have eD6 : H6 Dd = some (.lst vs) := k6 _ _ notD eD5
                have rA6 : Reps T.K N H6 vs acc := rA5.keep k6 S5.listsD dpN fun _ z _ => z
                by_cases hsz : acc.length < sizeLine
                · rw [if_pos hsz] at p2
                  refine ⟨vs, eD6, by rw [rA6.length]; exact hsz, hlt, wipeN Γ5 own, acc ++ [yd], vs ++ [yv], ?_, ?_, upd_same, ?_, p2⟩
                  · have S7 := wp S6
                    obtain ⟨x1, x2, x3⟩ := S7.xt Dd List.mem_cons_self
                    refine S7.poke Gh.a_more eD6 (S1.notPin nD) rfl (fun j s q => .inr ⟨q, x1 j, fun x => ?_⟩) (fun j x q => ⟨x, q⟩)
                    cases s with
                    | dr y' =>
                      obtain ⟨_, a', p', h2, _⟩ := S7.slot j _ q
                      obtain ⟨_, _, h3, h4, _⟩ := S7.da a' p' h2
                      exact .inr ⟨a', p', h2, fun z => h3 (by rw [z]; exact List.mem_cons_self), fun z => h4 (by rw [z]; exact List.mem_cons_self)⟩
                    | _ => exact .inl (fun z => nomatch z)
                  · refine fun b o n e => ?_
                    by_cases z : b = Dd
                    · rw [z, nD] at e; cases e
                    · rw [upd_ne z]; exact k6 b o n (k25 b o n e)
                  · have kp := Keep.poke (o := .lst (vs ++ [yv])) eD6
                    have lp : Lists (fun b => b = Dd) H6 := fun b e => ⟨.lst vs, (by rw [e]; exact eD6), rfl⟩
                    refine (rA6.append (.cons (r6.weak fun b z n => ?_) .nil)).keep kp lp (fun b z => .inr z) fun _ z _ => z
                    rcases z with z | z
                    · show H5 b ≠ none
                      exact keep_some k25 (fun b z => S5.some_of (k := .W) z) b z
                    · show H5 b ≠ none
                      rw [z, eD5]; exact Option.some_ne_none _
                · rw [if_neg hsz] at p2; exact False.elim p2
      · have hx : i = ds.length := by omega
        subst hx
        refine .inl ⟨w.stop _ H2 fr rfl, ?_⟩
        rw [List.drop_length] at p2
        unfold lcLoop at p2
        rw [R.bind_ok] at p2
        have S3 : Sim T c (g.more Dd) Γ' (wipe σ own) H2 := S2.unzone S1
        refine p2 Dd vs H2 ?_ (k1.trans k2) (none_back (N := fun _ => False) gr1 nD) eD (rA.weak fun b z _ => .inl (gr1 b z))
        exact Sim.back S1 nD S3 k2 hp
    · rw [if_neg hp] at p; exact False.elim p
end
end DL

set_option Elab.async false
set_option linter.all false
set_option maxRecDepth 100000
/-! data layer, part g: calls, a def's promise -/
namespace DL
open PySem PySem.Spec PyProof.Rows L2
/-! ### promises -/
def PostC (T : Ks) (H : Hp) (Q : VK) (E : XK) : R Err D → Prop
  | .ok d => ∀ v H', Same H H' → Rep T.K (fun b => H b ≠ none) H' v d → Q v H'
  | .err e => ∀ cls dd H', Same H H' → ErrOk T e cls dd H' → E cls dd H'
  | .bad => False
/-- a def that gives F and changes nothing -/
def spP (T : Ks) (n : Nat) (F : List D → R Err D) : Sp := fun vs H Q E => ∃ ds, ds.length = n ∧ Reps T.K (fun _ => False) H vs ds ∧ PostC T H Q E (F ds)
/-- a def that draws -/
def spD (T : Ks) (n : Nat) (F : Dr → List D → R Err (D × Dr)) : Sp := fun vs H Q E => ∃ a p x ws ds, vs = .ref a :: ws ∧ a ≠ p ∧ H a = some (.lst [.ref p, .int x.at_, .int x.base]) ∧ H p = some (.lst (x.pool.map V.int)) ∧ ds.length = n ∧
  Reps T.K (fun b => b = a) H ws ds ∧ match F x ds with
    | .ok (d, x') => ∀ v H', Keep (fun b => b = a) H H' → H' a = some (.lst [.ref p, .int x'.at_, .int x'.base]) → H' p = some (.lst (x'.pool.map V.int)) → Rep T.K (fun b => H b ≠ none) H' v d → Q v H'
    | _ => False
theorem spP_len {T : Ks} {n : Nat} {F : List D → R Err D} {vs : List V} {H : Hp} {Q : VK} {E : XK} (h : spP T n F vs H Q E) : vs.length = n := by
  obtain ⟨ds, h1, h2, _⟩ := h
  rw [h2.length, h1]
theorem spD_len {T : Ks} {n : Nat} {F : Dr → List D → R Err (D × Dr)} {vs : List V} {H : Hp} {Q : VK} {E : XK} (h : spD T n F vs H Q E) : vs.length = n + 1 := by
  obtain ⟨a, p, x, ws, ds, h1, _, _, _, h2, h3, _⟩ := h
  rw [h1, List.length_cons, h3.length, h2]
section
variable {T : Ks} {W : WX} {c : Ct} {g g' : Gh} {Γ Γ' : Nv} {σ σ' : L2.St} {H H' : Hp} {v : V} {d : D} {k : Lq} {t u : TS} {te : TE} {f h : SF} {fe : EF D} {De : Ends} {a b : Addr} {vs ws : List V} {ds es : List D}
/-! ### calls -/
def dCall (F : List D → R Err D) (dds : List D) (fs : EF (List D)) : EF D := fun Γ => (fs Γ).bind fun x => match F (x.1 ++ dds) with | .ok d => .ok (d, x.2) | _ => .bad
theorem reps_app {E : Addr → Prop} (r : Reps T.K (exq c g H k) H' vs ds) {dvs : List V} {dds : List D} (q : ∀ H, Reps T.K (fun _ => False) H dvs dds) : Reps T.K (fun _ => False) H' (vs ++ dvs) (ds ++ dds) :=
  (r.weak fun _ z _ => z.elim).append (q H')
theorem de_call {n : Nat} {F : List D → R Err D} {dvs : List V} {dds : List D} {ts : TA} {fs : EF (List D)} {E : XK} {ka : Lq} (a : DA T W ka ts fs) (q : ∀ H, Reps T.K (fun _ => False) H dvs dds) (hn : ∀ ds e, F ds = .ok e → ds.length = n) : DE T W k (tCall (spP T n F) dvs E ts) (dCall F dds fs) := fun c g Γ σ H Q S p => by
  refine a c g Γ σ H _ S ?_
  unfold dCall at p
  cases e : fs Γ with
  | bad => rw [e] at p; exact p
  | err x => rw [e] at p; exact p
  | ok x =>
    obtain ⟨ds, Γ1⟩ := x
    rw [e, R.bind_ok] at p
    intro v1 H1 S1 k1 r1
    cases e2 : F (ds ++ dds) with
    | bad => simp only [e2] at p; exact False.elim p
    | err z => simp only [e2] at p; exact False.elim p
    | ok d =>
      simp only [e2] at p
      refine ⟨ds ++ dds, hn _ _ e2, reps_app (E := fun _ => False) r1 q, ?_⟩
      rw [e2]
      exact fun v H' s r => p v H' (S1.grow s) (k1.trans (ofSame s)) (S.newq r (S.grown S1 k1))
def dCallO (F : List D → R Err D) (dds : List D) (fs : EF (List D)) : EF (List D) := fun Γ => (fs Γ).bind fun x => match F (x.1 ++ dds) with | .ok (.lst es) => .ok (es, x.2) | _ => .bad
theorem do_call {n : Nat} {F : List D → R Err D} {dvs : List V} {dds : List D} {ts : TA} {fs : EF (List D)} {E : XK} {ka : Lq} (a : DA T W ka ts fs) (q : ∀ H, Reps T.K (fun _ => False) H dvs dds) (hn : ∀ ds e, F ds = .ok e → ds.length = n) : DO T W (tCall (spP T n F) dvs E ts) (dCallO F dds fs) := fun c g Γ σ H Q S p => by
  refine a c g Γ σ H _ S ?_
  unfold dCallO at p
  cases e : fs Γ with
  | bad => rw [e] at p; exact p
  | err x => rw [e] at p; exact p
  | ok x =>
    obtain ⟨ds, Γ1⟩ := x
    rw [e, R.bind_ok] at p
    intro v1 H1 S1 k1 r1
    cases e2 : F (ds ++ dds) with
    | bad => simp only [e2] at p; exact False.elim p
    | err z => simp only [e2] at p; exact False.elim p
    | ok d =>
      simp only [e2] at p
      refine ⟨ds ++ dds, hn _ _ e2, reps_app (E := fun _ => False) r1 q, ?_⟩
      rw [e2]
      intro v H' s r
      cases r with
      | @lst a2 vs2 es h2 n2 r2 =>
        have na : H1 a2 = none := by
          cases z : H1 a2 with
          | none => rfl
          | some o => exact absurd (show H1 a2 ≠ none by rw [z]; exact Option.some_ne_none _) n2
        exact p a2 vs2 H' (S1.more s na h2) (k1.trans (ofSame s)) (none_back (N := fun _ => False) (S.grown S1 k1) na) h2 (r2.weak fun b z _ => S.grown S1 k1 b z)
      | _ => exact False.elim p
def isDr (s : Option Slot) : Bool := match s with | some (.dr _) => true | _ => false
theorem map_int_inj : ∀ {xs ys : List Int}, xs.map V.int = ys.map V.int → xs = ys
  | [], [], _ => rfl
  | [], _ :: _, h => by simp at h
  | _ :: _, [], h => by simp at h
  | x :: xs, y :: ys, h => by
    simp only [List.map_cons, List.cons.injEq, V.int.injEq] at h
    rw [h.1, map_int_inj h.2]
/-- behind a call that draws -/
theorem Sim.drawn {i : Nat} {p : Addr} {x x' : Dr} (S : Sim T c g Γ σ H) (hi : Γ[i]? = some (.dr x)) (hda : g.da = some (a, p)) (ha : H a = some (.lst vs)) (hp : H p = some (.lst (x'.pool.map V.int))) :
    Sim T c g (Γ.set i (.dr x')) σ (upd H a (.lst [.ref p, .int x'.at_, .int x'.base])) := by
  have hl : i < Γ.length := (List.getElem?_eq_some_iff.mp hi).1
  have kp := Keep.poke (o := .lst [.ref p, .int x'.at_, .int x'.base]) ha
  obtain ⟨d1, d2, d3, d4, d5, d6⟩ := S.da a p hda
  refine S.poke (.inl ⟨p, hda⟩) ha (S.pinDa hda) (by rw [List.length_set]) (fun j s q => ?_) (fun j y q => ?_)
  · by_cases hj : j = i
    · subst hj
      rw [List.getElem?_set_self hl] at q
      cases q
      obtain ⟨h1, a', p', h2, h3, h4, h5⟩ := S.slot j _ hi
      rw [hda] at h2; cases h2
      exact .inl ⟨h1, a, p, hda, h3, upd_same, kp _ _ (fun z => d1 z.symm) hp⟩
    · rw [List.getElem?_set_ne (Ne.symm hj)] at q
      refine .inr ⟨q, fun z => (d2 j).1 z, fun y => ?_⟩
      cases s with
      | dr y' => exact absurd (S.one j i _ _ q hi) hj
      | _ => exact .inl (fun z => nomatch z)
  · by_cases hj : j = i
    · subst hj
      exact ⟨x, hi⟩
    · rw [List.getElem?_set_ne (Ne.symm hj)] at q
      exact ⟨y, q⟩
def dCallD (i : Nat) (F : Dr → List D → R Err (D × Dr)) (fs : EF (List D)) : EF D := fun Γ => if isDr Γ[i]? = true then (fs Γ).bind fun y => match y.2[i]? with
  | some (.dr x) => match F x y.1 with | .ok (d, x') => .ok (d, y.2.set i (.dr x')) | _ => .bad
  | _ => .bad else .bad
def dCallDO (i : Nat) (F : Dr → List D → R Err (D × Dr)) (fs : EF (List D)) : EF (List D) := fun Γ => if isDr Γ[i]? = true then (fs Γ).bind fun y => match y.2[i]? with
  | some (.dr x) => match F x y.1 with | .ok (.lst es, x') => .ok (es, y.2.set i (.dr x')) | _ => .bad
  | _ => .bad else .bad
theorem Sim.dr_at {i : Nat} (S : Sim T c g Γ σ H) (h : isDr Γ[i]? = true) : ∃ a p, g.da = some (a, p) ∧ σ[i]? = some (some (.ref a)) := by
  cases e : Γ[i]? with
  | none => rw [e] at h; cases h
  | some s =>
    have q := S.slot i s e
    cases s with
    | dr x =>
      obtain ⟨h1, a, p, h2, h3, _⟩ := q
      exact ⟨a, p, h2, h3⟩
    | _ => rw [e] at h; cases h
theorem callD_core {i n : Nat} {F : Dr → List D → R Err (D × Dr)} {Q : VK} {E : XK} {x x' : Dr} {Γ2 : Nv} {H2 : Hp} {k : Lq} (S2 : Sim T c g Γ2 σ H2) {a0 p0 : Addr} (hda : g.da = some (a0, p0)) (e4 : Γ2[i]? = some (.dr x)) (r2 : Reps T.K (exq c g H k) H2 vs ds) (S : Sim T c g Γ σ H)
    (hn : ds.length = n) (eF : F x ds = .ok (d, x')) (q : ∀ v H', Sim T c g (Γ2.set i (.dr x')) σ H' → Keep g.Dp H2 H' → Rep T.K (fun b => H2 b ≠ none) H' v d →
      (∀ a vs, H2 a = none → H' a = some (.lst vs) → Sim T c (g.more a) (Γ2.set i (.dr x')) σ H') → Q v H') : spD T n F (.ref a0 :: vs) H2 Q E := by
  obtain ⟨h1, a', p', h2, h3, h4, h5⟩ := S2.slot i _ e4
  rw [hda] at h2; cases h2
  obtain ⟨d1, d2, d3, d4, d5, d6⟩ := S2.da a0 p0 hda
  refine ⟨a0, p0, x, vs, ds, rfl, d1, h4, h5, hn, r2.weak fun b z _ => by rw [z]; exact S.exW ⟨p0, hda⟩, ?_⟩
  rw [eF]
  intro v H' kq ha hp r
  have hp2 : H2 p0 = some (.lst (x'.pool.map V.int)) := by
    have z := kq p0 _ (fun z => d1 z.symm) h5
    exact h5.trans (z.symm.trans hp)
  have Sd := S2.drawn (x' := x') e4 hda h4 hp2
  have sd : Same (upd H2 a0 (.lst [.ref p0, .int x'.at_, .int x'.base])) H' := fun b o e => by
    by_cases z : b = a0
    · subst z
      rw [upd_same] at e; cases e; exact ha
    · rw [upd_ne z] at e
      exact kq b o z e
  refine q v H' (Sd.grow sd) (fun b o n e => kq b o (fun z => n ⟨p0, by rw [z]; exact hda⟩) e) r fun a vs na ea => Sd.more sd ?_ ea
  rw [upd_ne fun z => by rw [z, h4] at na; cases na]
  exact na
theorem de_callD {i n : Nat} {F : Dr → List D → R Err (D × Dr)} {ts : TA} {fs : EF (List D)} {E : XK} {ka : Lq} (a : DA T W ka ts fs) (hn : ∀ x ds e, F x ds = .ok e → ds.length = n) : DE T W k (tCall (spD T n F) [] E (tCons (tVar i) ts)) (dCallD i F fs) := fun c g Γ σ H Q S p => by
  unfold dCallD at p
  by_cases hr : isDr Γ[i]? = true
  · rw [if_pos hr] at p
    obtain ⟨a0, p0, hda, ea⟩ := S.dr_at hr
    refine ⟨.ref a0, ea, a c g Γ σ H _ S ?_⟩
    cases e : fs Γ with
    | bad => rw [e] at p; exact p
    | err x => rw [e] at p; exact p
    | ok x =>
      obtain ⟨ds, Γ1⟩ := x
      rw [e, R.bind_ok] at p
      intro v1 H1 S1 k1 r1
      cases e4 : Γ1[i]? with
      | none => simp only [e4] at p; exact False.elim p
      | some s =>
        simp only [e4] at p
        cases s with
        | dr x =>
          dsimp only at p
          cases e5 : F x ds with
          | bad => simp only [e5] at p; exact False.elim p
          | err z => simp only [e5] at p; exact False.elim p
          | ok z =>
            obtain ⟨d, x'⟩ := z
            simp only [e5] at p
            rw [List.append_nil]
            refine callD_core S1 hda e4 r1 S (hn _ _ _ e5) e5 fun v H' S' k' r _ => ?_
            exact p v H' S' (k1.trans k') (S.newq r (S.grown S1 k1))
        | _ => exact False.elim p
  · rw [if_neg hr] at p; exact False.elim p
theorem do_callD {i n : Nat} {F : Dr → List D → R Err (D × Dr)} {ts : TA} {fs : EF (List D)} {E : XK} {ka : Lq} (a : DA T W ka ts fs) (hn : ∀ x ds e, F x ds = .ok e → ds.length = n) : DO T W (tCall (spD T n F) [] E (tCons (tVar i) ts)) (dCallDO i F fs) := fun c g Γ σ H Q S p => by
  unfold dCallDO at p
  by_cases hr : isDr Γ[i]? = true
  · rw [if_pos hr] at p
    obtain ⟨a0, p0, hda, ea⟩ := S.dr_at hr
    refine ⟨.ref a0, ea, a c g Γ σ H _ S ?_⟩
    cases e : fs Γ with
    | bad => rw [e] at p; exact p
    | err x => rw [e] at p; exact p
    | ok x =>
      obtain ⟨ds, Γ1⟩ := x
      rw [e, R.bind_ok] at p
      intro v1 H1 S1 k1 r1
      cases e4 : Γ1[i]? with
      | none => simp only [e4] at p; exact False.elim p
      | some s =>
        simp only [e4] at p
        cases s with
        | dr x =>
          dsimp only at p
          cases e5 : F x ds with
          | bad => simp only [e5] at p; exact False.elim p
          | err z => simp only [e5] at p; exact False.elim p
          | ok z =>
            obtain ⟨d, x'⟩ := z
            simp only [e5] at p
            rw [List.append_nil]
            refine callD_core S1 hda e4 r1 S (hn _ _ _ e5) e5 fun v H' S' k' r mo => ?_
            cases r with
            | @lst a2 vs2 es h2 n2 r2 =>
              have na : H1 a2 = none := by
                cases z : H1 a2 with
                | none => rfl
                | some o => exact absurd (show H1 a2 ≠ none by rw [z]; exact Option.some_ne_none _) n2
              exact p a2 vs2 H' (mo a2 vs2 na h2) (k1.trans k') (none_back (N := fun _ => False) (S.grown S1 k1) na) h2 (r2.weak fun b z _ => S.grown S1 k1 b z)
            | _ => exact False.elim p
        | _ => exact False.elim p
  · rw [if_neg hr] at p; exact False.elim p

/-! ### a def's body -/
def resP : R (Err × Nv) (Fl × Nv) → R Err D
  | .ok (.nx, _) => .ok .non
  | .ok (.rt d, _) => .ok d
  | _ => .bad
/-- a def of n arguments and m further names -/
def fnP (n m : Nat) (f : SF) (ds : List D) : R Err D := if ds.length = n then resP (f (ds.map Slot.im ++ List.replicate m .emp)) else .bad
theorem fnP_len {n m : Nat} {f : SF} (ds : List D) (e : D) (h : fnP n m f ds = .ok e) : ds.length = n := by
  unfold fnP at h
  split at h
  · assumption
  · cases h
theorem start_get {N : List Str} {i : Nat} {v : V} (h : vs[i]? = some v) : (L2.start N vs)[i]? = some (some v) := by
  have hi : i < vs.length := (List.getElem?_eq_some_iff.mp h).1
  unfold L2.start
  rw [List.getElem?_append_left (by simpa using hi), List.getElem?_map, h]
  rfl
theorem sim_start {N : List Str} {n m : Nat} {E : Addr → Prop} (r : Reps T.K E H vs ds) (hl : ds.length = n) (hN : N.length = n + m) : Sim T { H0 := H, Hz := H } ⟨fun _ => none, none, []⟩ (ds.map Slot.im ++ List.replicate m .emp) (L2.start N vs) H := by
  have noE : ∀ b, ¬ (Gh.mk (fun _ => none) none []).Ep b := fun b z => by
    rcases z with ⟨p, z⟩ | ⟨i, z⟩ | z
    · cases z
    · cases z
    · simp at z
  refine ⟨?_, fun i s q => ?_, fun _ _ => rfl, fun i j a q => (by cases q), fun i j x y q => ?_, fun _ _ e => e, fun _ e => e, fun a p q => (by cases q), fun b hb => (by simp at hb), fun b z => (noE b z).elim, fun b o e => nomatch e⟩
  · unfold L2.start
    rw [List.length_append, List.length_append, List.length_map, List.length_map, List.length_replicate, List.length_replicate, r.length]
    omega
  · by_cases hi : i < ds.length
    · rw [List.getElem?_append_left (by simpa using hi), List.getElem?_map] at q
      obtain ⟨d, h1, h2⟩ := Option.map_eq_some_iff.mp q
      subst h2
      obtain ⟨v, h3, h4⟩ := r.get h1
      exact ⟨rfl, v, start_get h3, h4.weak fun b z _ => (noE b z).elim⟩
    · rw [List.getElem?_append_right (by simpa using hi)] at q
      rw [List.getElem?_replicate] at q
      split at q
      · cases q; exact rfl
      · cases q
  · exfalso
    by_cases hi : i < ds.length
    · rw [List.getElem?_append_left (by simpa using hi), List.getElem?_map] at q
      obtain ⟨d, h1, h2⟩ := Option.map_eq_some_iff.mp q
      cases h2
    · rw [List.getElem?_append_right (by simpa using hi), List.getElem?_replicate] at q
      split at q <;> cases q
theorem body_P {N : List Str} {n m : Nat} {Q : VK} {E : XK} (a : DS T (fun _ _ _ _ => False) t f) (hN : N.length = n + m) (h : spP T n (fnP n m f) vs H Q E) : t { nx := fun _ H' => Q .non H', rt := Q } (L2.start N vs) H := by
  obtain ⟨ds, h1, h2, h3⟩ := h
  refine a _ _ _ _ _ _ (sim_start h2 h1 hN) ?_
  unfold fnP at h3
  rw [if_pos h1] at h3
  cases e : f (ds.map Slot.im ++ List.replicate m .emp) with
  | bad => rw [e] at h3; exact h3
  | err x => rw [e] at h3; exact False.elim h3
  | ok x =>
    obtain ⟨fl, Γ⟩ := x
    rw [e] at h3
    cases fl with
    | nx => exact fun g' σ' H' _ S' => h3 .non H' S'.frame .non
    | bk => exact False.elim h3
    | ct => exact False.elim h3
    | rt d => exact fun g' v σ' H' _ S' r => h3 v H' S'.frame r
def resD : R (Err × Nv) (Fl × Nv) → R Err (D × Dr)
  | .ok (.nx, (Γ : Nv)) => match (Γ : List Slot)[0]? with | some (Slot.dr x) => .ok (.non, x) | _ => .bad
  | .ok (.rt d, (Γ : Nv)) => match (Γ : List Slot)[0]? with | some (Slot.dr x) => .ok (d, x) | _ => .bad
  | _ => .bad
def fnD (n m : Nat) (f : SF) (x : Dr) (ds : List D) : R Err (D × Dr) := if ds.length = n then resD (f (.dr x :: (ds.map Slot.im ++ List.replicate m .emp))) else .bad
theorem fnD_len {n m : Nat} {f : SF} (x : Dr) (ds : List D) (e : D × Dr) (h : fnD n m f x ds = .ok e) : ds.length = n := by
  unfold fnD at h
  split at h
  · assumption
  · cases h
theorem sim_startD {N : List Str} {n m : Nat} {p : Addr} {x : Dr} (hap : a ≠ p) (ha : H a = some (.lst [.ref p, .int x.at_, .int x.base])) (hp : H p = some (.lst (x.pool.map V.int))) (r : Reps T.K (fun b => b = a) H ws ds) (hl : ds.length = n) (hN : N.length = n + 1 + m) :
    Sim T { H0 := H, Hz := fun b => if b = a then none else H b } ⟨fun _ => none, some (a, p), []⟩ (Slot.dr x :: (ds.map Slot.im ++ List.replicate m .emp)) (L2.start N (.ref a :: ws)) H := by
  have inE : ∀ b, (Gh.mk (fun _ => none) (some (a, p)) []).Ep b → b = a := fun b z => by
    rcases z with ⟨p, z⟩ | ⟨i, z⟩ | z
    · cases z; rfl
    · cases z
    · simp at z
  have nodr : ∀ (i : Nat) (y : Dr), (ds.map Slot.im ++ List.replicate m Slot.emp)[i]? ≠ some (Slot.dr y) := fun i y q => by
    by_cases hi : i < ds.length
    · rw [List.getElem?_append_left (by simpa using hi), List.getElem?_map] at q
      obtain ⟨d, h1, h2⟩ := Option.map_eq_some_iff.mp q
      cases h2
    · rw [List.getElem?_append_right (by simpa using hi), List.getElem?_replicate] at q
      split at q <;> cases q
  refine ⟨?_, fun i s q => ?_, fun _ _ => rfl, fun i j a q => (by cases q), fun i j y z q1 q2 => ?_, fun b o e => ?_, fun _ e => e, fun a' p' q => ?_, fun b hb => (by simp at hb), fun b z => if_pos (inE b z), fun b o e => nomatch e⟩
  · unfold L2.start
    have := r.length
    simp only [List.length_append, List.length_map, List.length_cons, List.length_replicate]
    omega
  · cases i with
    | zero =>
      cases q
      exact ⟨rfl, a, p, rfl, start_get (vs := .ref a :: ws) rfl, ha, hp⟩
    | succ i =>
      rw [List.getElem?_cons_succ] at q
      by_cases hi : i < ds.length
      · rw [List.getElem?_append_left (by simpa using hi), List.getElem?_map] at q
        obtain ⟨d, h1, h2⟩ := Option.map_eq_some_iff.mp q
        subst h2
        obtain ⟨v, h3, h4⟩ := r.get h1
        exact ⟨rfl, v, start_get (vs := .ref a :: ws) (i := i + 1) h3, h4.weak fun b z _ => inE b z⟩
      · rw [List.getElem?_append_right (by simpa using hi)] at q
        rw [List.getElem?_replicate] at q
        split at q
        · cases q; exact rfl
        · cases q
  · cases i with
    | zero =>
      cases j with
      | zero => rfl
      | succ j => exact absurd q2 (nodr j _)
    | succ i => exact absurd q1 (nodr i _)
  · have e : (if b = a then none else H b) = some o := e
    show H b = some o
    by_cases z : b = a
    · rw [if_pos z] at e; cases e
    · rw [if_neg z] at e; exact e
  · cases q
    exact ⟨hap, fun i => ⟨(fun z => nomatch z), (fun z => nomatch z)⟩, List.not_mem_nil, List.not_mem_nil, ⟨_, ha⟩, (by rw [hp]; exact Option.some_ne_none _)⟩
theorem body_D {N : List Str} {n m : Nat} {Q : VK} {E : XK} (b : DS T (fun _ _ _ _ => False) t f) (hN : N.length = n + 1 + m) (h : spD T n (fnD n m f) vs H Q E) : t { nx := fun _ H' => Q .non H', rt := Q } (L2.start N vs) H := by
  obtain ⟨a, p, x, ws, ds, h0, hap, ha, hp, h1, h2, h3⟩ := h
  subst h0
  refine b _ _ _ _ _ _ (sim_startD hap ha hp h2 h1 hN) ?_
  unfold fnD at h3
  rw [if_pos h1] at h3
  have fin : ∀ {g' : Gh} {Γ : Nv} {σ' : L2.St} {H' : Hp} {x' : Dr} {v : V} {d : D}, Gle ⟨fun _ => none, some (a, p), []⟩ g' → Sim T { H0 := H, Hz := fun b => if b = a then none else H b } g' Γ σ' H' → (Γ : List Slot)[0]? = some (Slot.dr x') →
      (∀ v H', Keep (fun b => b = a) H H' → H' a = some (.lst [.ref p, .int x'.at_, .int x'.base]) → H' p = some (.lst (x'.pool.map V.int)) → Rep T.K (fun b => H b ≠ none) H' v d → Q v H') → Rep T.K (fun b => H b ≠ none) H' v d → Q v H' :=
    fun {g' Γ σ' H' x' v d} q S e hq r => by
      obtain ⟨h1, a', p', h2, h3, h4, h5⟩ := S.slot 0 _ e
      have z : g'.da = some (a, p) := q.da (fun z => nomatch z)
      rw [z] at h2; cases h2
      exact hq v H' (fun b o n e => S.frame b o (by show (if b = a then none else H b) = some o; rw [if_neg n]; exact e)) h4 h5 r
  cases e : f (.dr x :: (ds.map Slot.im ++ List.replicate m .emp)) with
  | bad => rw [e] at h3; exact False.elim h3
  | err x => rw [e] at h3; exact False.elim h3
  | ok y =>
    obtain ⟨fl, Γ⟩ := y
    rw [e] at h3
    cases fl with
    | nx =>
      intro g' σ' H' q S'
      unfold resD at h3
      cases e2 : (Γ : List Slot)[0]? with
      | none => simp only [e2] at h3
      | some s =>
        cases s with
        | dr x' => simp only [e2] at h3; exact fin (d := .non) q S' e2 h3 .non
        | _ => simp only [e2] at h3
    | bk => exact False.elim h3
    | ct => exact False.elim h3
    | rt d =>
      intro g' v σ' H' q S' r
      unfold resD at h3
      cases e2 : (Γ : List Slot)[0]? with
      | none => simp only [e2] at h3
      | some s =>
        cases s with
        | dr x' => simp only [e2] at h3; exact fin q S' e2 h3 r
        | _ => simp only [e2] at h3
end
end DL

set_option Elab.async false
set_option linter.all false
set_option maxRecDepth 100000
/-! data layer, part h: operators and built-ins -/
namespace DL
open PySem PySem.Spec PyProof.Rows L2
theorem opr_or {X : Cx} {f : Value → Value → Sem Value} {r s : R2} (h1 : OpR X f r) (h2 : OpR X f s) : OpR X f (fun x y H Q => r x y H Q ∨ s x y H Q) := by
  intro pins st σ H x y v u Q I rx ry h
  rcases h with h | h
  · exact h1 pins st σ H x y v u Q I rx ry h
  · exact h2 pins st σ H x y v u Q I rx ry h
section
variable {T : Ks} {W : WX} {E : Addr → Prop} {H H' : Hp} {v : V} {d : D} {vs ws : List V} {ds es : List D} {k : Lq}
/-! ### sums -/
def rAddP : R2 := fun x y H Q => rI0 (fun i j => .int (i + j)) x y H Q ∨ (∃ i j, x = .str i ∧ y = .str j ∧ i.length + j.length ≤ sizeLine ∧ Q (.str (i ++ j)) H) ∨ rCat x y H Q
theorem op_addP {X : Cx} : OpR X (binaryOp .Add) rAddP := opr_or op_add (opr_or op_add_str op_cat)
def oAdd : D → D → Option D
  | .int i, .int j => some (.int (i + j))
  | .str i, .str j => if i.length + j.length ≤ sizeLine then some (.str (i ++ j)) else none
  | _, _ => none
theorem opd_add : OpD T rAddP oAdd := fun E H x y dx dy z Q r1 r2 e q => by
  unfold oAdd at e
  split at e
  · cases e; cases r1; cases r2
    exact .inl ⟨_, _, rfl, rfl, q _ _ (Same.refl _) (.int _)⟩
  · cases r1; cases r2
    split at e
    · cases e
      exact .inr (.inl ⟨_, _, rfl, rfl, ‹_›, q _ _ (Same.refl _) (.str _)⟩)
    · cases e
  · cases e
def oCat : D → D → Option (List D)
  | .lst xs, .lst ys => if xs.length + ys.length ≤ sizeLine ∧ nolsts xs = true ∧ nolsts ys = true then some (xs ++ ys) else none
  | _, _ => none
theorem opo_cat : OpO T rAddP oCat := fun E H x y dx dy z Q r1 r2 e q => by
  unfold oCat at e
  split at e
  · split at e
    · rename_i xs ys hc
      cases e
      cases r1 with
      | @lst p1 vs1 _ h1 n1 r1 =>
        cases r2 with
        | @lst p2 vs2 _ h2 n2 r2 =>
          refine .inr (.inr ⟨_, _, _, _, rfl, rfl, h1, h2, by rw [r1.length, r2.length]; exact hc.1, fun p np => ?_⟩)
          have s := same_upd (o := .lst (vs1 ++ vs2)) np
          exact q p _ _ s np upd_same (((r1.loose hc.2.1).append (r2.loose hc.2.2)).same s)
    · cases e
  · cases e
/-! ### other arithmetic -/
def oSub : D → D → Option D
  | .int i, .int j => some (.int (i - j))
  | _, _ => none
theorem opd_sub : OpD T (rI0 fun i j => .int (i - j)) oSub := fun E H x y dx dy z Q r1 r2 e q => by
  unfold oSub at e
  split at e
  · cases e; cases r1; cases r2
    exact ⟨_, _, rfl, rfl, q _ _ (Same.refl _) (.int _)⟩
  · cases e
def okMul (i j : Int) : Prop := (-(2 ^ 64) < i ∧ i < 2 ^ 64) ∨ (-(2 ^ 64) < j ∧ j < 2 ^ 64)
instance : ∀ i j, Decidable (okMul i j) := fun i j => inferInstanceAs (Decidable (_ ∨ _))
def rMulP : R2 := fun x y H Q => rI CMul (fun i j => .int (i * j)) x y H Q ∨ rRep x y H Q
theorem op_mulP {X : Cx} : OpR X (binaryOp .Mult) rMulP := opr_or op_mul op_rep
def oMul : D → D → Option D
  | .int i, .int j => if okMul i j then some (.int (i * j)) else none
  | _, _ => none
theorem opd_mul : OpD T rMulP oMul := fun E H x y dx dy z Q r1 r2 e q => by
  unfold oMul at e
  split at e
  · cases r1; cases r2
    split at e
    · cases e
      exact .inl ⟨_, _, rfl, rfl, ‹_›, q _ _ (Same.refl _) (.int _)⟩
    · cases e
  · cases e
def oMod : D → D → Option D
  | .int i, .int j => if j = 0 then none else some (.int (i.fmod j))
  | _, _ => none
theorem opd_mod : OpD T (rI (fun _ j => j ≠ 0) fun i j => .int (i.fmod j)) oMod := fun E H x y dx dy z Q r1 r2 e q => by
  unfold oMod at e
  split at e
  · cases r1; cases r2
    split at e
    · cases e
    · cases e
      exact ⟨_, _, rfl, rfl, ‹_›, q _ _ (Same.refl _) (.int _)⟩
  · cases e
def oDiv : D → D → Option D
  | .int i, .int j => if j ≠ 0 ∧ j.natAbs < 1073741824 then some (.int (i.fdiv j)) else none
  | _, _ => none
theorem opd_div : OpD T (rI CDivN fun i j => .int (i.fdiv j)) oDiv := fun E H x y dx dy z Q r1 r2 e q => by
  unfold oDiv at e
  split at e
  · cases r1; cases r2
    split at e
    · cases e
      exact ⟨_, _, rfl, rfl, ‹_›, q _ _ (Same.refl _) (.int _)⟩
    · cases e
  · cases e
def oPow : D → D → Option D
  | .int i, .int j => if 0 ≤ j ∧ j ≤ 1000000 ∧ i.natAbs < 2 ^ 64 then some (.int (i ^ j.toNat)) else none
  | _, _ => none
theorem opd_pow : OpD T (rI CPow fun i j => .int (i ^ j.toNat)) oPow := fun E H x y dx dy z Q r1 r2 e q => by
  unfold oPow at e
  split at e
  · cases r1; cases r2
    split at e
    · cases e
      exact ⟨_, _, rfl, rfl, ‹_›, q _ _ (Same.refl _) (.int _)⟩
    · cases e
  · cases e
def oNeg : D → Option D
  | .int i => some (.int (-i))
  | _ => none
theorem und_neg : UnD T (rU fun i => .int (-i)) oNeg := fun E H x dx z Q r1 e q => by
  unfold oNeg at e
  split at e
  · cases e; cases r1
    exact ⟨_, rfl, q _ _ (Same.refl _) (.int _)⟩
  · cases e
/-! ### comparisons -/
def oCmp (p : Int → Int → Bool) : D → D → Option D
  | .int i, .int j => some (.bl (p i j))
  | _, _ => none
theorem opd_cmp {p : Int → Int → Bool} : OpD T (rI0 fun i j => .bl (p i j)) (oCmp p) := fun E H x y dx dy z Q r1 r2 e q => by
  unfold oCmp at e
  split at e
  · cases e; cases r1; cases r2
    exact ⟨_, _, rfl, rfl, q _ _ (Same.refl _) (.bl _)⟩
  · cases e
def oLt := oCmp fun i j => decide (i < j)
def oLe := oCmp fun i j => decide (i ≤ j)
def oGt := oCmp fun i j => decide (j < i)
def oGe := oCmp fun i j => decide (j ≤ i)
theorem opd_lt : OpD T (rI0 fun i j => .bl (decide (i < j))) oLt := opd_cmp
theorem opd_le : OpD T (rI0 fun i j => .bl (decide (i ≤ j))) oLe := opd_cmp
theorem opd_gt : OpD T (rI0 fun i j => .bl (decide (j < i))) oGt := opd_cmp
theorem opd_ge : OpD T (rI0 fun i j => .bl (decide (j ≤ i))) oGe := opd_cmp
def oIsN : D → D → Option D
  | .non, .non => some (.bl true)
  | _, .non => some (.bl false)
  | _, _ => none
def oNotN : D → D → Option D
  | .non, .non => some (.bl false)
  | _, .non => some (.bl true)
  | _, _ => none
theorem opd_isN : OpD T (fun x y H Q => y = .non ∧ Q (.bl (decide (x = .non))) H) oIsN := fun E H x y dx dy z Q r1 r2 e q => by
  unfold oIsN at e
  split at e
  · cases e; cases r1; cases r2
    exact ⟨rfl, q _ _ (Same.refl _) (.bl _)⟩
  · rename_i hn
    cases e; cases r2
    refine ⟨rfl, ?_⟩
    rw [decide_eq_false (fun z => by subst z; cases r1; exact hn rfl)]
    exact q _ _ (Same.refl _) (.bl _)
  · cases e
theorem opd_notN : OpD T (fun x y H Q => y = .non ∧ Q (.bl (!decide (x = .non))) H) oNotN := fun E H x y dx dy z Q r1 r2 e q => by
  unfold oNotN at e
  split at e
  · cases e; cases r1; cases r2
    exact ⟨rfl, q _ _ (Same.refl _) (.bl _)⟩
  · rename_i hn
    cases e; cases r2
    refine ⟨rfl, ?_⟩
    rw [decide_eq_false (fun z => by subst z; cases r1; exact hn rfl)]
    exact q _ _ (Same.refl _) (.bl _)
  · cases e
/-! ### ==, != -/
mutual
def toP : D → Option PyData
  | .non => some .none
  | .bl b => some (.bool b)
  | .int i => some (.int i)
  | .str x => some (.str x)
  | .tup xs => (toPs xs).map PyData.tuple
  | .lst xs => (toPs xs).map PyData.list
  | .fz xs => (toPs xs).map PyData.list
  | _ => none
def toPs : List D → Option (List PyData)
  | [] => some []
  | d :: ds => (toP d).bind fun x => (toPs ds).map fun y => x :: y
end
mutual
theorem Rep.dp : ∀ {v : V} {d : D} {p : PyData}, Rep T.K E H v d → toP d = some p → Dp T.K H v p
  | _, _, _, .non, e => by cases e; exact .non
  | _, _, _, .bl b, e => by cases e; exact .bl b
  | _, _, _, .int i, e => by cases e; exact .int i
  | _, _, _, .str x, e => by cases e; exact .str x
  | _, _, _, .ref a, e => by cases e
  | _, _, _, .ty n, e => by cases e
  | _, _, _, .tup h r, e => by
    rw [toP] at e
    obtain ⟨ps, e1, e2⟩ := Option.map_eq_some_iff.mp e
    subst e2
    exact .tup h (Reps.dp r e1)
  | _, _, _, .lst h n r, e => by
    rw [toP] at e
    obtain ⟨ps, e1, e2⟩ := Option.map_eq_some_iff.mp e
    subst e2
    exact .lst (SqL.of h) (Reps.dp r e1)
  | _, _, _, .fz h r, e => by
    rw [toP] at e
    obtain ⟨ps, e1, e2⟩ := Option.map_eq_some_iff.mp e
    subst e2
    exact .lst (.inl (.inr h)) (Reps.dp r e1)
  | _, _, _, .fl h n r, e => by
    rw [toP] at e
    obtain ⟨ps, e1, e2⟩ := Option.map_eq_some_iff.mp e
    subst e2
    exact .lst (SqL.of h) (Reps.dp r e1)
  | _, _, _, .fk h r, e => by
    rw [toP] at e
    obtain ⟨ps, e1, e2⟩ := Option.map_eq_some_iff.mp e
    subst e2
    exact .lst (.inr h) (Reps.dp r e1)
  | _, _, _, .ins h n r q, e => by cases e
  | _, _, _, .dct h n r, e => by cases e
theorem Reps.dp : ∀ {vs : List V} {ds : List D} {ps : List PyData}, Reps T.K E H vs ds → toPs ds = some ps → DpAll T.K H vs ps
  | _, _, _, .nil, e => by cases e; exact .nil
  | _, _, _, .cons r t, e => by
    rw [toPs] at e
    obtain ⟨p, e1, e2⟩ := Option.bind_eq_some_iff.mp e
    obtain ⟨ps, e3, e4⟩ := Option.map_eq_some_iff.mp e2
    subst e4
    exact .cons (Rep.dp r e1) (Reps.dp t e3)
end
/-- a flat value, without the heap -/
def flatD : D → Option V
  | .non => some .non
  | .bl b => some (.bl b)
  | .int i => some (.int i)
  | .str x => some (.str x)
  | _ => none
theorem Rep.flat {w : V} (r : Rep T.K E H v d) (e : flatD d = some w) : v = w ∧ flatV w = true := by
  cases r with
  | non => cases e; exact ⟨rfl, rfl⟩
  | bl b => cases e; exact ⟨rfl, rfl⟩
  | int i => cases e; exact ⟨rfl, rfl⟩
  | str x => cases e; exact ⟨rfl, rfl⟩
  | _ => cases e
def eqB (x y : D) : Option Bool := match flatD x, flatD y with
  | some a, some b => if scal a b = true then some (decide (a = b)) else none
  | _, _ => match toP x, toP y with
    | some p, some q => if SeqAt.shaped p = true ∧ SeqAt.shaped q = true then some (PyData.eqv p q) else none
    | _, _ => none
def oEq (x y : D) : Option D := (eqB x y).map D.bl
def oNe (x y : D) : Option D := (eqB x y).map fun b => D.bl (!b)
def rEqP (K : PySem.W.Frag) : R2 := fun x y H Q => rEq x y H Q ∨ rEqD K x y H Q
def rNeP (K : PySem.W.Frag) : R2 := fun x y H Q => rNe x y H Q ∨ rNeD K x y H Q
theorem op_eqP {X : Cx} (hu : X.A.units + 64 < cLine) : OpR X (compareOp .Eq) (rEqP X.K) := opr_or op_eq (op_eqD hu)
theorem op_neP {X : Cx} (hu : X.A.units + 64 < cLine) : OpR X (compareOp .NotEq) (rNeP X.K) := opr_or op_ne (op_neD hu)
theorem eqB_cases {x y : V} {dx dy : D} {b : Bool} (r1 : Rep T.K E H x dx) (r2 : Rep T.K E H y dy) (e : eqB dx dy = some b) :
    (scal x y = true ∧ b = decide (x = y)) ∨ ∃ p q, Dp T.K H x p ∧ Dp T.K H y q ∧ SeqAt.shaped p = true ∧ SeqAt.shaped q = true ∧ b = PyData.eqv p q := by
  unfold eqB at e
  split at e
  · rename_i a b' h1 h2
    obtain ⟨e1, _⟩ := r1.flat h1
    obtain ⟨e2, _⟩ := r2.flat h2
    subst e1; subst e2
    split at e
    · cases e; exact .inl ⟨‹_›, rfl⟩
    · cases e
  · split at e
    · rename_i p q h1 h2
      split at e
      · rename_i hs
        cases e
        exact .inr ⟨p, q, r1.dp h1, r2.dp h2, hs.1, hs.2, rfl⟩
      · cases e
    · cases e
theorem opd_eq : OpD T (rEqP T.K) oEq := fun E H x y dx dy z Q r1 r2 e q => by
  obtain ⟨b, e1, e2⟩ := Option.map_eq_some_iff.mp e
  subst e2
  have q' := q (.bl b) H (Same.refl _) (.bl b)
  rcases eqB_cases r1 r2 e1 with ⟨h1, h2⟩ | ⟨p, p', h1, h2, h3, h4, h5⟩
  · rw [h2] at q'; exact .inl ⟨h1, q'⟩
  · rw [h5] at q'; exact .inr ⟨p, p', h1, h2, h3, h4, q'⟩
theorem opd_ne : OpD T (rNeP T.K) oNe := fun E H x y dx dy z Q r1 r2 e q => by
  obtain ⟨b, e1, e2⟩ := Option.map_eq_some_iff.mp e
  subst e2
  have q' := q (.bl (!b)) H (Same.refl _) (.bl _)
  rcases eqB_cases r1 r2 e1 with ⟨h1, h2⟩ | ⟨p, p', h1, h2, h3, h4, h5⟩
  · rw [h2] at q'; exact .inl ⟨h1, q'⟩
  · rw [h5] at q'; exact .inr ⟨p, p', h1, h2, h3, h4, q'⟩
/-! ### in -/
def seqOf : D → Option (List D)
  | .lst ds => some ds
  | .fz ds => some ds
  | .tup ds => some ds
  | _ => none
theorem Rep.seq (r : Rep T.K E H v d) (e : seqOf d = some ds) : ∃ p vs, v = .ref p ∧ Reps T.K E H vs ds ∧ (SqL T.K H p vs ∨ SqT T.K H p vs) := by
  cases r with
  | lst h n r => cases e; exact ⟨_, _, rfl, r, .inl (SqL.of h)⟩
  | fz h r => cases e; exact ⟨_, _, rfl, r, .inl (.inl (.inr h))⟩
  | fl h n r => cases e; exact ⟨_, _, rfl, r, .inl (SqL.of h)⟩
  | fk h r => cases e; exact ⟨_, _, rfl, r, .inl (.inr h)⟩
  | tup h r => cases e; exact ⟨_, _, rfl, r, .inr h⟩
  | _ => cases e
def flats : List D → Option (List V)
  | [] => some []
  | d :: ds => (flatD d).bind fun x => (flats ds).map fun y => x :: y
theorem Reps.flat : ∀ {vs : List V} {ds : List D} {xs : List V}, Reps T.K E H vs ds → flats ds = some xs → vs = xs ∧ xs.all flatV = true
  | _, _, _, .nil, e => by cases e; exact ⟨rfl, rfl⟩
  | _, _, _, .cons r t, e => by
    unfold flats at e
    obtain ⟨p, e1, e2⟩ := Option.bind_eq_some_iff.mp e
    obtain ⟨ps, e3, e4⟩ := Option.map_eq_some_iff.mp e2
    subst e4
    obtain ⟨h1, h2⟩ := r.flat e1
    obtain ⟨h3, h4⟩ := Reps.flat t e3
    subst h1; subst h3
    exact ⟨rfl, by rw [List.all_cons, h2, h4]; rfl⟩
def inB (x y : D) : Option Bool := (flatD x).bind fun a => (seqOf y).bind fun ys => (flats ys).map fun bs => inV a bs
def oIn (x y : D) : Option D := (inB x y).map D.bl
def oNotIn (x y : D) : Option D := (inB x y).map fun b => D.bl (!b)
theorem inB_ok {x y : V} {dx dy : D} {b : Bool} (r1 : Rep T.K E H x dx) (r2 : Rep T.K E H y dy) (e : inB dx dy = some b) : ∃ p xs, y = .ref p ∧ (SqL T.K H p xs ∨ SqT T.K H p xs) ∧ flatV x = true ∧ xs.all flatV = true ∧ b = inV x xs := by
  unfold inB at e
  obtain ⟨a, e1, e2⟩ := Option.bind_eq_some_iff.mp e
  obtain ⟨ys, e3, e4⟩ := Option.bind_eq_some_iff.mp e2
  obtain ⟨bs, e5, e6⟩ := Option.map_eq_some_iff.mp e4
  obtain ⟨p, vs, h1, h2, h3⟩ := r2.seq e3
  obtain ⟨h4, h5⟩ := r1.flat e1
  obtain ⟨h6, h7⟩ := h2.flat e5
  subst h4; subst h6
  exact ⟨p, vs, h1, h3, h5, h7, e6.symm⟩
theorem opd_in : OpD T (rIn T.K false) oIn := fun E H x y dx dy z Q r1 r2 e q => by
  obtain ⟨b, e1, e2⟩ := Option.map_eq_some_iff.mp e
  subst e2
  obtain ⟨p, xs, h1, h2, h3, h4, h5⟩ := inB_ok r1 r2 e1
  refine ⟨p, xs, h1, h2, h3, h4, ?_⟩
  rw [h5] at q
  exact q _ H (Same.refl _) (.bl _)
theorem opd_notIn : OpD T (rIn T.K true) oNotIn := fun E H x y dx dy z Q r1 r2 e q => by
  obtain ⟨b, e1, e2⟩ := Option.map_eq_some_iff.mp e
  subst e2
  obtain ⟨p, xs, h1, h2, h3, h4, h5⟩ := inB_ok r1 r2 e1
  refine ⟨p, xs, h1, h2, h3, h4, ?_⟩
  rw [h5] at q
  exact q _ H (Same.refl _) (.bl _)
/-! ### a place of a list, a tuple, a text -/
def oIx : D → D → Option D
  | .lst ds, .int i => atI ds i
  | .fz ds, .int i => atI ds i
  | .tup ds, .int i => atI ds i
  | .str z, .int i => if z.length ≤ sizeLine then (atI z.cps.toList i).map fun c => .str ⟨#[c]⟩ else none
  | _, _ => none
theorem atI_reps {i : Int} (r : Reps T.K E H vs ds) (e : atI ds i = some d) : ∃ v, atI vs i = some v ∧ Rep T.K E H v d := by
  unfold atI at e ⊢
  rw [r.length]
  obtain ⟨j, e1, e2⟩ := Option.bind_eq_some_iff.mp e
  obtain ⟨v, h1, h2⟩ := r.get e2
  exact ⟨v, by rw [e1]; exact h1, h2⟩
theorem de_ix {ta tb : TE} {f h : EF D} {kb : Lq} (a : DE T W k ta f) (b : DE T W kb tb h) : DE T W k (tOp (rIx T.K) ta tb) (dOp oIx f h) := fun c g Γ σ H Q S p => by
  refine a c g Γ σ H _ S ?_
  unfold dOp at p
  cases e : f Γ with
  | bad => rw [e] at p; exact p
  | err x => rw [e] at p; exact p
  | ok x =>
    obtain ⟨dx, Γ1⟩ := x
    rw [e, R.bind_ok] at p
    intro v1 H1 S1 k1 r1
    refine b c g Γ1 σ H1 _ S1 ?_
    cases e2 : h Γ1 with
    | bad => rw [e2] at p; exact p
    | err y => rw [e2] at p; exact p
    | ok y =>
      obtain ⟨dy, Γ2⟩ := y
      simp only [e2, R.bind_ok] at p
      intro v2 H2 S2 k2 r2
      cases e3 : oIx dx dy with
      | none => rw [e3] at p; exact False.elim p
      | some z =>
        rw [e3] at p
        have r1' := S1.stay (vs := []) k2 (fun b z => S.exW z) r1
        unfold oIx at e3
        split at e3
        · cases r1' with
          | lst h1 n1 r1 =>
            cases r2
            obtain ⟨v, h2, h3⟩ := atI_reps r1 e3
            exact .inl ⟨_, _, _, v, rfl, rfl, SqL.of h1, h2, p v H2 S2 (k1.trans k2) h3⟩
        · cases r1' with
          | fz h1 r1 =>
            cases r2
            obtain ⟨v, h2, h3⟩ := atI_reps r1 e3
            exact .inl ⟨_, _, _, v, rfl, rfl, .inl (.inr h1), h2, p v H2 S2 (k1.trans k2) h3⟩
          | fl h1 n1 r1 =>
            cases r2
            obtain ⟨v, h2, h3⟩ := atI_reps r1 e3
            exact .inl ⟨_, _, _, v, rfl, rfl, SqL.of h1, h2, p v H2 S2 (k1.trans k2) h3⟩
          | fk h1 r1 =>
            cases r2
            obtain ⟨v, h2, h3⟩ := atI_reps r1 e3
            exact .inl ⟨_, _, _, v, rfl, rfl, .inr h1, h2, p v H2 S2 (k1.trans k2) h3⟩
        · cases r1' with
          | tup h1 r1 =>
            cases r2
            obtain ⟨v, h2, h3⟩ := atI_reps r1 e3
            exact .inr (.inl ⟨_, _, _, v, rfl, rfl, h1, h2, p v H2 S2 (k1.trans k2) h3⟩)
        · cases r1'; cases r2
          split at e3
          · obtain ⟨cc, e4, e5⟩ := Option.map_eq_some_iff.mp e3
            subst e5
            exact .inr (.inr ⟨_, _, cc, rfl, rfl, ‹_›, e4, p _ H2 S2 (k1.trans k2) (.str _)⟩)
          · cases e3
        · cases e3
/-- the draws read -/
def dDr (i j : Nat) : EF D := fun Γ => match (Γ : List Slot)[i]? with
  | some (Slot.dr x) => match j with
    | 0 => .ok (.lst (x.pool.map D.int), Γ)
    | 1 => .ok (.int x.at_, Γ)
    | 2 => .ok (.int x.base, Γ)
    | _ => .bad
  | _ => .bad
theorem de_dr {i j : Nat} {ji : Int} (hj : ji = (j : Int)) : DE T W .W (tOp (rIx T.K) (tVar i) (tC (.int ji))) (dDr i j) := fun c g Γ σ H Q S p => by
  subst hj
  unfold dDr at p
  cases e : (Γ : List Slot)[i]? with
  | none => simp only [e] at p; exact False.elim p
  | some s =>
    cases s with
    | dr x =>
      simp only [e] at p
      obtain ⟨h1, a, p', h2, h3, h4, h5⟩ := S.slot i _ e
      obtain ⟨d1, d2, d3, d4, d5, d6⟩ := S.da a p' h2
      refine ⟨_, h3, .inl ?_⟩
      match j, p with
      | 0, p =>
        refine ⟨a, _, _, .ref p', rfl, rfl, SqL.of h4, rfl, p _ H S Keep.refl (.lst h5 (fun ⟨q, z⟩ => ?_) (Reps.ints _))⟩
        rw [h2] at z; cases z; exact d1 rfl
      | 1, p => exact ⟨a, _, _, _, rfl, rfl, SqL.of h4, rfl, p _ H S Keep.refl (.int _)⟩
      | 2, p => exact ⟨a, _, _, _, rfl, rfl, SqL.of h4, rfl, p _ H S Keep.refl (.int _)⟩
      | j + 3, p => exact False.elim p
    | _ => simp only [e] at p; exact False.elim p
/-! ### built-ins -/
def oLen : List D → Option D
  | [.str z] => if z.length ≤ sizeLine then some (.int z.length) else none
  | [d] => (seqOf d).map fun ds => .int ds.length
  | _ => none
theorem cad_len : CaD T (fun xs H Q => ∃ x n, xs = [x] ∧ LenV T.K x H n ∧ Q (.int n) H) oLen := fun E H xs ds z Q r e q => by
  unfold oLen at e
  split at e
  · split at e
    · cases e
      cases r with
      | cons r1 r2 =>
        cases r2; cases r1
        exact ⟨_, _, rfl, ⟨‹_›, rfl⟩, q _ _ (Same.refl _) (.int _)⟩
    · cases e
  · obtain ⟨ys, e1, e2⟩ := Option.map_eq_some_iff.mp e
    subst e2
    cases r with
    | cons r1 r2 =>
      cases r2
      obtain ⟨p, vs, h1, h2, h3⟩ := r1.seq e1
      subst h1
      refine ⟨_, vs.length, rfl, ?_, by rw [h2.length]; exact q _ _ (Same.refl _) (.int _)⟩
      rcases h3 with h3 | h3
      · exact .inl ⟨_, h3, rfl⟩
      · exact .inr ⟨_, h3, rfl⟩
  · cases e
def oAbs : List D → Option D
  | [.int i] => some (.int (if i < 0 then -i else i))
  | _ => none
theorem cad_abs : CaD T (fun xs H Q => ∃ i, xs = [.int i] ∧ Q (.int (if i < 0 then -i else i)) H) oAbs := fun E H xs ds z Q r e q => by
  unfold oAbs at e
  split at e
  · cases e
    cases r with
    | cons r1 r2 =>
      cases r2; cases r1
      exact ⟨_, rfl, q _ _ (Same.refl _) (.int _)⟩
  · cases e
def oInt : List D → Option D
  | [.int i] => some (.int i)
  | [.bl k] => some (.int (if k then 1 else 0))
  | _ => none
theorem cad_int : CaD T (fun xs H Q => (∃ i, xs = [.int i] ∧ Q (.int i) H) ∨ ∃ k, xs = [.bl k] ∧ Q (.int (if k then 1 else 0)) H) oInt := fun E H xs ds z Q r e q => by
  unfold oInt at e
  split at e
  · cases e
    cases r with
    | cons r1 r2 =>
      cases r2; cases r1
      exact .inl ⟨_, rfl, q _ _ (Same.refl _) (.int _)⟩
  · cases e
    cases r with
    | cons r1 r2 =>
      cases r2; cases r1
      exact .inr ⟨_, rfl, q _ _ (Same.refl _) (.int _)⟩
  · cases e
def oStr : List D → Option D
  | [.int i] => if i.natAbs.log2 < 1920 then some (.str (toString i : String)) else none
  | _ => none
theorem cad_str : CaD T (fun xs H Q => ∃ i, xs = [.int i] ∧ i.natAbs.log2 < 1920 ∧ Q (.str (toString i : String)) H) oStr := fun E H xs ds z Q r e q => by
  unfold oStr at e
  split at e
  · split at e
    · cases e
      cases r with
      | cons r1 r2 =>
        cases r2; cases r1
        exact ⟨_, rfl, ‹_›, q _ _ (Same.refl _) (.str _)⟩
    · cases e
  · cases e
def oList : List D → Option (List D)
  | [d] => (seqOf d).bind fun ds => if nolsts ds = true then some ds else none
  | _ => none
theorem cao_list : CaO T (fun xs H Q => ∃ p ys, xs = [.ref p] ∧ (SqL T.K H p ys ∨ SqT T.K H p ys) ∧ ∀ l, H l = none → Q (.ref l) (upd H l (.lst ys))) oList := fun E H xs ds z Q r e q => by
  unfold oList at e
  split at e
  · obtain ⟨ys, e1, e2⟩ := Option.bind_eq_some_iff.mp e
    split at e2
    · cases e2
      cases r with
      | cons r1 r2 =>
        cases r2
        obtain ⟨p, vs, h1, h2, h3⟩ := r1.seq e1
        subst h1
        refine ⟨p, vs, rfl, h3, fun l nl => ?_⟩
        have s := same_upd (o := .lst vs) nl
        exact q l vs _ s nl upd_same ((h2.loose ‹_›).same s)
    · cases e2
  · cases e
end
end DL

set_option Elab.async false
set_option linter.all false
set_option maxRecDepth 100000
/-! data layer, part i: +=, slices, further ranges -/
namespace DL
open PySem PySem.Spec PyProof.Rows L2
section
variable {T : Ks} {W : WX} {E : Addr → Prop} {H H' : Hp} {v : V} {d : D} {vs ws : List V} {ds es : List D} {k : Lq} {te : TE} {t : TS} {f : SF} {fe : EF D}
def dFrz (i : Nat) (f : SF) : SF := fun Γ => f (frz i Γ)
/-- name += int -/
def dAug (i : Nat) (o : Int → Int → Int) (fe : EF D) : SF := fun Γ => match (Γ : List Slot)[i]? with
  | some (Slot.fr (.int x)) => (fe Γ).bind fun y => match y.1 with | .int j => .ok (.nx, y.2.set i (.fr (.int (o x j)))) | _ => .bad
  | some (Slot.im (.int x)) => (fe Γ).bind fun y => match y.1 with | .int j => .ok (.nx, y.2.set i (.fr (.int (o x j)))) | _ => .bad
  | _ => .bad
theorem ds_aug {i : Nat} {o : Int → Int → Int} (a : DE T W k te fe) : DS T W (tAug i te (ipI o)) (dAug i o fe) := fun c g Γ σ H De S p => by
  have core : ∀ x : Int, σ[i]? = some (some (.int x)) → PostS T c g De W ((fe Γ).bind fun y => match y.1 with | .int j => .ok (.nx, y.2.set i (.fr (.int (o x j)))) | _ => .bad) → tAug i te (ipI o) De σ H := fun x hx p => by
    refine ⟨_, hx, a c g Γ σ H _ S ?_⟩
    cases e : fe Γ with
    | bad => rw [e] at p; exact p
    | err z => rw [e] at p; exact fun cls dd H' S' => p g cls dd σ H' Gle.refl S'
    | ok z =>
      obtain ⟨dz, Γ1⟩ := z
      rw [e, R.bind_ok] at p
      intro v1 H1 S1 k1 r1
      cases r1 with
      | int j => exact ⟨x, j, rfl, rfl, p _ _ H1 Gle.cut (S1.setFr i (.int _))⟩
      | _ => exact False.elim p
  unfold dAug at p
  cases e : (Γ : List Slot)[i]? with
  | none => simp only [e] at p; exact False.elim p
  | some s =>
    have q := S.slot i s e
    cases s with
    | fr d =>
      obtain ⟨_, v, h1, h2⟩ := q
      cases h2 with
      | int x => simp only [e] at p; exact core x h1 p
      | _ => simp only [e] at p; exact False.elim p
    | im d =>
      obtain ⟨_, v, h1, h2⟩ := q
      cases h2 with
      | int x => simp only [e] at p; exact core x h1 p
      | _ => simp only [e] at p; exact False.elim p
    | _ => simp only [e] at p; exact False.elim p
/-! ### list * int -/
theorem Reps.flat2 {E : Addr → Prop} (r : Reps T.K E H vs ds) : ∀ n : Nat, Reps T.K E H (List.replicate n vs).flatten (List.replicate n ds).flatten
  | 0 => .nil
  | n + 1 => by
    rw [List.replicate_succ, List.replicate_succ, List.flatten_cons, List.flatten_cons]
    exact r.append (Reps.flat2 r n)
def oRep : D → D → Option (List D)
  | .lst xs, .int k => if (-(2 ^ 63) ≤ k ∧ k < 2 ^ 63 ∧ xs.length * k.toNat ≤ sizeLine) ∧ nolsts xs = true then some (List.replicate k.toNat xs).flatten else none
  | _, _ => none
theorem opo_rep : OpO T rMulP oRep := fun E H x y dx dy z Q r1 r2 e q => by
  unfold oRep at e
  split at e
  · split at e
    · rename_i xs k hc
      cases e
      cases r2
      cases r1 with
      | @lst p1 vs1 _ h1 n1 r1 =>
        refine .inr ⟨_, _, _, rfl, rfl, h1, hc.1.1, hc.1.2.1, by rw [r1.length]; exact hc.1.2.2, fun p np => ?_⟩
        have s := same_upd (o := .lst (List.replicate k.toNat vs1).flatten) np
        exact q p _ _ s np upd_same (((r1.loose hc.2).flat2 _).same s)
    · cases e
  · cases e
/-! ### ranges -/
def rg3 : List D → Option (List D)
  | [.int i, .int j, .int c] => if c = -1 ∧ inRg i ∧ inRg j then some (rangeC i (-1) (i - j).toNat) else none
  | _ => none
theorem di_rg3 {ts : TA} {fs : EF (List D)} (a : DA T W k ts fs) : DI T W (iRng3 ts) (dRg rg3 fs) := fun c g Γ σ H R' S p => by
  refine a c g Γ σ H _ S ?_
  unfold dRg at p
  cases e : fs Γ with
  | bad => rw [e] at p; exact p
  | err x => rw [e] at p; exact p
  | ok x =>
    obtain ⟨ds, Γ1⟩ := x
    rw [e, R.bind_ok] at p
    intro v1 H1 S1 k1 r1
    cases e2 : rg3 ds with
    | none => simp only [e2] at p; exact False.elim p
    | some es =>
      simp only [e2] at p
      unfold rg3 at e2
      split at e2
      · rename_i i j cc
        split at e2
        · rename_i hj
          cases e2
          obtain ⟨hc, hj1, hj2⟩ := hj
          subst hc
          cases r1 with
          | cons r1 r2 =>
            cases r2 with
            | cons r2 r3 =>
              cases r3 with
              | cons r3 r4 =>
                cases r4; cases r3; cases r2; cases r1
                exact ⟨i, j, -1, _, rfl, RgC.neg hj1.1 hj1.2 hj2.1 hj2.2, p _ H1 S1 k1 walk_rngC⟩
        · cases e2
      · cases e2
/-! ### slices -/
def DP (T : Ks) (W : WX) (t : TO) (f : EF (Option Int)) : Prop := ∀ c g Γ σ H (Q : Option Int → Hp → Prop), Sim T c g Γ σ H → (match f Γ with
  | .ok (o, Γ') => ∀ H', Sim T c g Γ' σ H' → Keep g.Dp H H' → Q o H'
  | .err (e, Γ') => ∀ cls dd H', Sim T c g Γ' σ H' → ErrOk T e cls dd H' → W cls dd σ H'
  | .bad => False) → t σ H Q
def dNoP : EF (Option Int) := fun Γ => .ok (none, Γ)
def dP (fe : EF D) : EF (Option Int) := fun Γ => (fe Γ).bind fun x => match x.1 with | .int i => .ok (some i, x.2) | _ => .bad
theorem dp_none : DP T W tNoPart dNoP := fun c g Γ σ H Q S p => p H S Keep.refl
theorem dp_some (a : DE T W k te fe) : DP T W (tPart te) (dP fe) := fun c g Γ σ H Q S p => by
  refine a c g Γ σ H _ S ?_
  unfold dP at p
  cases e : fe Γ with
  | bad => rw [e] at p; exact p
  | err x => rw [e] at p; exact p
  | ok x =>
    obtain ⟨d, Γ1⟩ := x
    rw [e, R.bind_ok] at p
    intro v1 H1 S1 k1 r1
    cases r1 with
    | int i => exact ⟨i, rfl, p H1 S1 k1⟩
    | _ => exact False.elim p
def cutD {α : Type} (xs : List α) (lo hi : Option Int) : List α := (xs.drop (HT.sIx xs.length 0 lo)).take (HT.sIx xs.length xs.length hi - HT.sIx xs.length 0 lo)
theorem Reps.cut {E : Addr → Prop} (r : Reps T.K E H vs ds) (lo hi : Option Int) : Reps T.K E H (cutV vs lo hi) (cutD ds lo hi) := by
  unfold cutV cutD
  rw [r.length]
  exact (r.drop _).take _
/-- the three kinds of slices, by values -/
def rSlP (K : PySem.W.Frag) : V → Option Int → Option Int → Hp → VK → Prop := fun x lo hi H Q => rSlL K x lo hi H Q ∨ rSlT K x lo hi H Q ∨ rSlS x lo hi H Q
theorem sl_any {X : Cx} : SlR X (rSlP X.K) := by
  intro pins s σ H x v vl vu lo hi sl Q I rx hs pl pu h
  rcases h with h | h | h
  · exact sl_list pins s σ H x v vl vu lo hi sl Q I rx hs pl pu h
  · exact sl_tup pins s σ H x v vl vu lo hi sl Q I rx hs pl pu h
  · exact sl_str pins s σ H x v vl vu lo hi sl Q I rx hs pl pu h
/-- a slice of a list: a new list -/
def dSlO (fe : EF D) (fl fh : EF (Option Int)) : EF (List D) := fun Γ => (fe Γ).bind fun x => (fl x.2).bind fun l => (fh l.2).bind fun u => match lstOf x.1 with
  | some ds => if nolsts ds = true then .ok (cutD ds l.1 u.1, u.2) else .bad
  | none => .bad
theorem nolsts_take : ∀ {ds : List D} {n : Nat}, nolsts ds = true → nolsts (ds.take n) = true
  | [], 0, _ => rfl
  | [], _ + 1, _ => rfl
  | _ :: _, 0, _ => rfl
  | x :: r, n + 1, h => by
    simp only [nolsts, Bool.and_eq_true] at h
    show nolsts (x :: r.take n) = true
    simp only [nolsts, Bool.and_eq_true]
    exact ⟨h.1, nolsts_take h.2⟩
theorem nolsts_drop : ∀ {ds : List D} {n : Nat}, nolsts ds = true → nolsts (ds.drop n) = true
  | [], 0, _ => rfl
  | [], _ + 1, _ => rfl
  | _ :: _, 0, h => h
  | x :: r, n + 1, h => by
    simp only [nolsts, Bool.and_eq_true] at h
    exact nolsts_drop (ds := r) h.2
theorem do_sl {tl th : TO} {fl fh : EF (Option Int)} (a : DE T W k te fe) (b : DP T W tl fl) (b' : DP T W th fh) : DO T W (tSl (rSlP T.K) te tl th) (dSlO fe fl fh) := fun c g Γ σ H Q S p => by
  refine a c g Γ σ H _ S ?_
  unfold dSlO at p
  cases e : fe Γ with
  | bad => rw [e] at p; exact p
  | err x => rw [e] at p; exact p
  | ok x =>
    obtain ⟨dx, Γ1⟩ := x
    rw [e, R.bind_ok] at p
    intro v1 H1 S1 k1 r1
    refine b c g Γ1 σ H1 _ S1 ?_
    cases e2 : fl Γ1 with
    | bad => rw [e2] at p; exact p
    | err y => rw [e2] at p; exact p
    | ok y =>
      obtain ⟨l, Γ2⟩ := y
      simp only [e2, R.bind_ok] at p
      intro H2 S2 k2
      refine b' c g Γ2 σ H2 _ S2 ?_
      cases e3 : fh Γ2 with
      | bad => rw [e3] at p; exact p
      | err y => rw [e3] at p; exact p
      | ok y =>
        obtain ⟨u, Γ3⟩ := y
        simp only [e3, R.bind_ok] at p
        intro H3 S3 k3
        have r3 : Rep T.K g.Dp H3 v1 dx := S.toW (S1.stay (vs := []) (k2.trans k3) (fun b z => S.exW z) r1)
        cases e4 : lstOf dx with
        | none => simp only [e4] at p; exact False.elim p
        | some ds =>
          simp only [e4] at p
          by_cases hn : nolsts ds = true
          · rw [if_pos hn] at p
            obtain ⟨q, vs, ev, rr, hs⟩ := Rep.sql r3 e4 S3.listsD
            subst ev
            refine .inl ⟨q, vs, rfl, hs _ Keep.refl, fun a na => ?_⟩
            have s := same_upd (o := .lst (cutV vs l u)) na
            have gr : ∀ b, H b ≠ none → H3 b ≠ none := fun b z => S2.grown S3 k3 b (S1.grown S2 k2 b (S.grown S1 k1 b z))
            exact p a _ _ (S3.more s na upd_same) (k1.trans (k2.trans (k3.trans (ofSame s)))) (none_back (N := fun _ => False) gr na) upd_same (((rr.loose hn).cut l u).same s)
          · rw [if_neg hn] at p; exact False.elim p
/-- a slice of a tuple (not the whole) or of a text -/
def slD (d : D) (l u : Option Int) : Option D := match d with
  | .tup ds => if ¬ (HT.sIx ds.length 0 l = 0 ∧ HT.sIx ds.length ds.length u = ds.length) ∧ nolsts ds = true then some (.tup (cutD ds l u)) else none
  | .str z => if z.length ≤ sizeLine then some (.str (cutS z l u)) else none
  | _ => none
def dSl (fe : EF D) (fl fh : EF (Option Int)) : EF D := fun Γ => (fe Γ).bind fun x => (fl x.2).bind fun l => (fh l.2).bind fun u => liftO (slD x.1 l.1 u.1) u.2
theorem de_sl {ka : Lq} {tl th : TO} {fl fh : EF (Option Int)} (a : DE T W ka te fe) (b : DP T W tl fl) (b' : DP T W th fh) : DE T W k (tSl (rSlP T.K) te tl th) (dSl fe fl fh) := fun c g Γ σ H Q S p => by
  refine a c g Γ σ H _ S ?_
  unfold dSl at p
  cases e : fe Γ with
  | bad => rw [e] at p; exact p
  | err x => rw [e] at p; exact p
  | ok x =>
    obtain ⟨dx, Γ1⟩ := x
    rw [e, R.bind_ok] at p
    intro v1 H1 S1 k1 r1
    refine b c g Γ1 σ H1 _ S1 ?_
    cases e2 : fl Γ1 with
    | bad => rw [e2] at p; exact p
    | err y => rw [e2] at p; exact p
    | ok y =>
      obtain ⟨l, Γ2⟩ := y
      simp only [e2, R.bind_ok] at p
      intro H2 S2 k2
      refine b' c g Γ2 σ H2 _ S2 ?_
      cases e3 : fh Γ2 with
      | bad => rw [e3] at p; exact p
      | err y => rw [e3] at p; exact p
      | ok y =>
        obtain ⟨u, Γ3⟩ := y
        simp only [e3, R.bind_ok] at p
        intro H3 S3 k3
        have r3 : Rep T.K g.Dp H3 v1 dx := S.toW (S1.stay (vs := []) (k2.trans k3) (fun b z => S.exW z) r1)
        have kk := k1.trans (k2.trans k3)
        cases e4 : slD dx l u with
        | none => rw [e4] at p; exact False.elim p
        | some z =>
          rw [e4] at p
          unfold slD at e4
          split at e4
          · split at e4
            · rename_i hc
              cases e4
              cases r3 with
              | @tup q vs ds h rr =>
                refine .inr (.inl ⟨q, vs, rfl, h, by rw [rr.length]; exact hc.1, fun a na => ?_⟩)
                have s := same_upd (o := .tup (cutV vs l u)) na
                exact p _ _ (S3.grow s) (kk.trans (ofSame s)) (.tup (.inl (.inl upd_same)) (((rr.loose hc.2).cut l u).same s))
            · cases e4
          · split at e4
            · cases e4
              cases r3
              exact .inr (.inr ⟨_, rfl, ‹_›, p _ H3 S3 kk (.str _)⟩)
            · cases e4
          · cases e4
/-! ### tuple(x) -/
def oTuple : List D → Option D
  | [d] => (seqOf d).bind fun ds => if nolsts ds = true then some (.tup ds) else none
  | _ => none
theorem cad_tuple : CaD T (fun xs H Q => ∃ p ys, xs = [.ref p] ∧ ((SqL T.K H p ys ∧ ∀ l, H l = none → Q (.ref l) (upd H l (.tup ys))) ∨ (SqT T.K H p ys ∧ Q (.ref p) H))) oTuple := fun E H xs ds z Q r e q => by
  unfold oTuple at e
  split at e
  · obtain ⟨ys, e1, e2⟩ := Option.bind_eq_some_iff.mp e
    split at e2
    · cases e2
      cases r with
      | cons r1 r2 =>
        cases r2
        obtain ⟨p, vs, h1, h2, h3⟩ := r1.seq e1
        subst h1
        rcases h3 with h3 | h3
        · refine ⟨p, vs, rfl, .inl ⟨h3, fun l nl => ?_⟩⟩
          have s := same_upd (o := .tup vs) nl
          exact q _ _ s (.tup (.inl (.inl upd_same)) ((h2.loose ‹_›).same s))
        · exact ⟨p, vs, rfl, .inr ⟨h3, q _ _ (Same.refl _) (.tup h3 (h2.loose ‹_›))⟩⟩
    · cases e2
  · cases e
end
end DL
namespace DL
open PySem PySem.Spec PyProof.Rows L2
/-- a def of the text as it stands behind the top -/
structure DefAt (K : PySem.W.Frag) (mg : Str → Option Value) (x : Str) (st : Stmt) (ps : List Str) where
  f : Addr
  fd : FuncData
  F : Fun K x x st f fd
  m : mg x = some (.ref f)
  b : Binds K fd ps []
end DL
namespace DL
open PySem PySem.Spec PyProof.Rows L2
theorem fin_D {X : Cx} {T : Ks} {t : TS} {f : SF} {body : List Stmt} {N : List Str} {n m : Nat} {vs : List V} {H : Hp} {Q : VK} {E : XK} (ps : PSs X body t) (b : DS T (fun _ _ _ _ => False) t f) (hN : N.length = n + 1 + m) (h : spD T n (fnD n m f) vs H Q E) :
    ∃ t, PSs X body t ∧ t { nx := fun _ H' => Q .non H', rt := Q } (L2.start N vs) H := ⟨t, ps, body_D b hN h⟩
theorem fin_P {X : Cx} {T : Ks} {t : TS} {f : SF} {body : List Stmt} {N : List Str} {n m : Nat} {vs : List V} {H : Hp} {Q : VK} {E : XK} (ps : PSs X body t) (b : DS T (fun _ _ _ _ => False) t f) (hN : N.length = n + m) (h : spP T n (fnP n m f) vs H Q E) :
    ∃ t, PSs X body t ∧ t { nx := fun _ H' => Q .non H', rt := Q } (L2.start N vs) H := ⟨t, ps, body_P b hN h⟩
end DL

set_option Elab.async false
set_option linter.all false
set_option maxRecDepth 100000
/-! data layer, part j: enumerate(xs, k), reversed(range(..)) -/
namespace L2
open PySem PySem.Spec PyProof.Rows
/-- the list at a as it stands at each turn, each item in a new pair, counted from k -/
def IteK (K : PySem.W.Frag) (a : Addr) (k : Int) : It :=
  ⟨fun i H => ∃ (xs : List V) (x : V), SqL K H a xs ∧ xs[i]? = some x, fun i H v H' => ∃ T x, v = .ref T ∧ H T = none ∧ H' = upd H T (.tup [.int (k + (i : Nat)), x]) ∧ ∀ xs, SqL K H a xs → xs[i]? = some x, fun i H => ∃ xs : List V, SqL K H a xs ∧ i = xs.length⟩
theorem turn_enumK {P : Program} {w : World} {K : PySem.W.Frag} {elts : List Expr} {kk : Nat} {tpos : Pos} (a e it : Addr) (k : Int) :
    Turn P w K (.Tuple elts kk tpos) (IteK K a k) [e, it] e (fun i h => (∃ old, IsEnum h e it (k + ((i : Nat) : Int)) old) ∧ h.IsListIter it a i ∧ e ≠ it) where
  mem := by simp
  obj := fun i h st b hb => by
    obtain ⟨⟨old, he⟩, ⟨o, ho, hc, hd⟩, _⟩ := st
    have e' : b = e ∨ b = it := by simpa using hb
    rcases e' with z | z
    · rw [z]; exact ⟨_, he, fun v q => nomatch q⟩
    · rw [z]; exact ⟨o, ho, fun v q => by rw [hd] at q; cases q⟩
  keep := fun i h h' st q => let ⟨⟨old, he⟩, hi, hne⟩ := st; ⟨⟨old, q e (by simp) _ he⟩, hi.at fun o z => q it (by simp) o z, hne⟩
  item := by
    intro X hP hw hK hc i pins s σ H E I hf st hg
    subst hP hw hK
    obtain ⟨⟨old, he⟩, hit, hne⟩ := st
    obtain ⟨xs, x, hq, hx⟩ := hg
    obtain ⟨its, rv, p, hz⟩ := I.list hq
    obtain ⟨u, hu, ru⟩ := rv.get hx
    have hel : e < s.heap.objs.size := Heap.lt_size he
    have hil : it < s.heap.objs.size := by obtain ⟨_, q, _⟩ := hit; exact Heap.lt_size q
    have hal : a < s.heap.objs.size := by obtain ⟨o, q, _⟩ := p.isList; exact Heap.lt_size q
    have hai : a ≠ it := fun z => by
      obtain ⟨o, q, hcl, _⟩ := p.isList
      obtain ⟨o', q', hc', _⟩ := hit
      rw [z, q'] at q
      cases q
      rw [hc'] at hcl
      exact absurd hcl (by decide)
    have hae : e ≠ a := fun z => by
      obtain ⟨o, q, hcl, _⟩ := p.isList
      have he' : s.heap.get? e = some _ := he
      rw [z, q] at he'
      cases he'
      exact absurd (show Value.type "enumerate" = Value.type "list" from hcl) (by decide)
    have hlt : i < its.toArray.size := by
      have h1 := (List.getElem?_eq_some_iff.mp hu).1
      simpa using h1
    refine wpAny_pyNext_enum_itemC (Draws.list (prog := X.prog) (w := X.w) (A := X.A.in1) (I.ok.hd hc) it a hai its.toArray) he (i := i) ?st hlt hne ?nf fun x' h' tk hx' ho hst' hT hsz hk => ?_
    case st => exact ⟨hit, p.isList⟩
    case nf => simp [hne, hae]
    have ex : x' = u := by
      have h2 : its.toArray[i]? = some x' := hx'
      rw [List.getElem?_toArray, hu] at h2
      exact (Option.some.inj h2).symm
    subst ex
    refine ⟨_, rfl, wpAny_letOwnedTupleGo_enum (s := { s with heap := h', toks := tk + 1 }) ho fun h'' he' sb => ?_⟩
    have hT2 : h''.get? s.heap.objs.size = some { cls := .type "tuple", data := .seq #[.int (k + (i : Int)) tk, x'] } := (sb.2 _ (Nat.ne_of_gt hel)).trans hT
    have new : ObjOk X.prog X.w (upd H s.heap.objs.size (.tup [.int (k + (i : Nat)), x])) h'' s.heap.objs.size (.tup [.int (k + (i : Nat)), x]) :=
      ⟨by show 2 ≤ sizeLine; decide, [.int (k + (i : Int)) tk, x'], .cons ⟨_, rfl⟩ (.cons ru .nil), ⟨_, hT2, rfl, _, rfl⟩⟩
    have I1 : Inv X pins σ (upd H s.heap.objs.size (.tup [.int (k + (i : Nat)), x])) { s with heap := h'', toks := tk + 1 } :=
      I.turnedNew (ch := [e, it]) (fun b ob hb q => (sb.2 b (fun z => hb (by simp [z]))).trans (hk b ob (fun z => hb (by simp [z])) (fun z => hb (by simp [z])) q)) hf (Nat.le_refl _) new
    refine ⟨.ref s.heap.objs.size, _, I1, rfl, ⟨_, x, rfl, I.hok.fresh (Nat.le_refl _), rfl, fun ys hy => by rw [I.list_inj hy hq]; exact hx⟩, ⟨⟨x', ?_⟩, hst'.1.at fun o q => (sb.2 it (Ne.symm hne)).trans q, hne⟩, fun b hb => ?_⟩
    · have e1 : k + ((i + 1 : Nat) : Int) = k + (i : Int) + 1 := by omega
      rw [e1]; exact he'
    · have hb' : b < s.heap.objs.size := by
        have e' : b = e ∨ b = it := by simpa using hb
        rcases e' with z | z
        · rw [z]; exact hel
        · rw [z]; exact hil
      rw [upd_ne (Nat.ne_of_lt hb')]
      exact (hf b hb).1
  done := by
    intro X hP hw hK hc i pins s σ H E I hf st hg
    subst hP hw hK
    obtain ⟨⟨old, he⟩, hit, hne⟩ := st
    obtain ⟨xs, hq, hx⟩ := hg
    obtain ⟨its, rv, p, hz⟩ := I.list hq
    obtain ⟨f0, f1, f2, f3, f4, f5⟩ := hf it (by simp)
    have hl := rv.length
    have hai : a ≠ it := fun z => by
      obtain ⟨o, q, hcl, _⟩ := p.isList
      obtain ⟨o', q', hc', _⟩ := hit
      rw [z, q'] at q
      cases q
      rw [hc'] at hcl
      exact absurd hcl (by decide)
    have hi : i = its.toArray.size := by simp; omega
    refine wpAny_pyNext_enum_endD (Draws.list (prog := X.prog) (w := X.w) (A := X.A.in1) (I.ok.hd hc) it a hai its.toArray) he ⟨by rw [← hi]; exact hit, p.isList⟩ fun h' eb => ⟨rfl, I.turned (t' := s.toks) (fun b o hb q => eb b o hb q) f0 f1 f3 f4 f5⟩
  self := fun A i s Q E st h => let ⟨⟨_, he⟩, _⟩ := st; wpAny_pyIter_enum he h
end L2

namespace L2
open PySem PySem.Spec PyProof.Rows
def iEnumK (K : PySem.W.Frag) (ta : TA) : TI := fun σ H R => ta σ H fun vs H1 => ∃ a xs k, vs = [.ref a, .int k] ∧ -(2 ^ 63) ≤ k ∧ k < 2 ^ 63 ∧ SqL K H1 a xs ∧ R (IteK K a k) H1
theorem pi_enumK {X : Cx} {e e2 : Expr} {ta : TA} {p pos tpos : Pos} {elts : List Expr} {kk : Nat} (hg : Gl X "enumerate") (hm : X.mg "enumerate" = none) (ha : PA X [e, e2] ta)
    (hs : starEach [e, e2] X.env = [(false, eval e X.env), (false, eval e2 X.env)] := by rfl) (hs2 : starEach [e2] X.env = [(false, eval e2 X.env)] := by rfl) :
    PI X (.Tuple elts kk tpos) (.Call (.Name "enumerate" p) [e, e2] [] pos) (iEnumK X.K ta) := by
  refine ⟨fun pins s σ H R I h => ?_⟩
  refine Call_ (ld_blt I hg hm boot_enumerate (PyProof.Rows.callWith_type1 (thn (ha.run pos pins s σ H _ I h) fun us s1 ⟨vs, H1, I1, r1, q1⟩ => ?_) (by rw [hs, hs2]) (by rw [hs2]; rfl)))
  obtain ⟨a, xs, k, ex, hk0, hk1, hq, q⟩ := q1
  subst ex
  cases r1 with
  | cons r rr =>
    cases rr with
    | cons r2 rr =>
      cases rr
      cases r
      obtain ⟨t, rfl⟩ := r2
      obtain ⟨its, rv, p', hz⟩ := I1.list hq
      refine enum_begins (begins_list a its.toArray) p'.isList hk0 hk1 fun h' he hit hsz hk => wpAny_pyIter_enum he ?_
      have I2 : Inv X pins σ H1 { s1 with heap := h' } := I1.kept (t' := s1.toks) hk
      refine ⟨s1.heap.objs.size + 1, [s1.heap.objs.size + 1, s1.heap.objs.size], _, _, H1, rfl, I2, turn_enumK a (s1.heap.objs.size + 1) s1.heap.objs.size k, ⟨⟨.none, by rw [show k + ((0 : Nat) : Int) = k by omega]; exact he⟩, ⟨_, hit, rfl, rfl⟩, Nat.succ_ne_self _⟩, fun b hb => ?_, q⟩
      have e' : b = s1.heap.objs.size + 1 ∨ b = s1.heap.objs.size := by simpa using hb
      have hle : s1.heap.objs.size ≤ b := by
        rcases e' with z | z
        · rw [z]; exact Nat.le_add_right _ _
        · rw [z]; exact Nat.le_refl _
      exact I1.fpOk hle (I1.hok.fresh hle)
end L2
namespace DL
open PySem PySem.Spec PyProof.Rows L2
section
variable {T : Ks} {W : WX} {H H' : Hp} {a b : Addr} {vs ws : List V} {ds es : List D} {k : Lq} {te : TE} {fe : EF D}
def enumK (k : Int) (ds : List D) : List D := ds.mapIdx fun i d => D.tup [.int (k + (i : Nat)), d]
theorem walk_enumK {kk : Int} {Hz : Hp} (e : ∀ H, Same Hz H → SqL T.K H a vs) (r : Reps T.K (fun _ => False) Hz vs ds) : WalkOk T (IteK T.K a kk) (enumK kk ds) Hz where
  go := fun i H s h => by
    have h : i < (enumK kk ds).length := h
    rw [enumK, List.length_mapIdx] at h
    obtain ⟨v, q⟩ := getV r h
    exact ⟨vs, v, e H s, q⟩
  yld := fun i H x H' s y => by
    obtain ⟨p, z, e1, np, e2, y⟩ := y
    subst e1; subst e2
    have s' := same_upd (o := .tup [V.int (kk + (i : Nat)), z]) np
    refine ⟨s', fun d hd E hE => ?_⟩
    rw [enumK, List.getElem?_mapIdx] at hd
    obtain ⟨d', hd', e3⟩ := Option.map_eq_some_iff.mp hd
    subst e3
    obtain ⟨v, q1, q2⟩ := r.get hd'
    have : z = v := Option.some.inj ((y vs (e _ s)).symm.trans q1)
    subst this
    exact .tup (.inl (.inl upd_same)) (.cons (.int _) (.cons ((q2.lift s hE).same s') .nil))
  stop := fun i H s h => by
    have h : i = (enumK kk ds).length := h
    rw [enumK, List.length_mapIdx] at h
    exact ⟨vs, e H s, by rw [r.length]; exact h⟩
def en2 : List D → Option (List D)
  | [d, .int k] => if -(2 ^ 63) ≤ k ∧ k < 2 ^ 63 then (lstOf d).map (enumK k) else none
  | _ => none
theorem di_enumK {ts : TA} {fs : EF (List D)} (a : DA T W .S ts fs) : DI T W (iEnumK T.K ts) (dRg en2 fs) := fun c g Γ σ H R' S p => by
  refine a c g Γ σ H _ S ?_
  unfold dRg at p
  cases e : fs Γ with
  | bad => rw [e] at p; exact p
  | err x => rw [e] at p; exact p
  | ok x =>
    obtain ⟨ds, Γ1⟩ := x
    rw [e, R.bind_ok] at p
    intro v1 H1 S1 k1 r1
    cases e2 : en2 ds with
    | none => simp only [e2] at p; exact False.elim p
    | some es =>
      simp only [e2] at p
      unfold en2 at e2
      split at e2
      · rename_i d k
        split at e2
        · rename_i hk
          obtain ⟨xs, e3, e4⟩ := Option.map_eq_some_iff.mp e2
          subst e4
          cases r1 with
          | cons r1 r2 =>
            cases r2 with
            | cons r2 r3 =>
              cases r3; cases r2
              obtain ⟨q, vs, ev, rr, hs⟩ := Rep.sql r1 e3 S1.lists
              subst ev
              exact ⟨q, vs, k, rfl, hk.1, hk.2, hs _ Keep.refl, p _ H1 S1 k1 (walk_enumK (fun H s => hs H (keepHz s)) (rr.hz S1))⟩
        · cases e2
      · cases e2
/-- reversed(range(n)) -/
def dRev1 (fe : EF D) : EF (List D) := fun Γ => (fe Γ).bind fun x => match x.1 with | .int n => if inRg n then .ok (rangeC (0 + (((n - 0).toNat : Nat) : Int) - 1) (-1) (n - 0).toNat, x.2) else .bad | _ => .bad
theorem di_rev1 (a : DE T W k te fe) : DI T W (iRevR (tRg1 te)) (dRev1 fe) := fun c g Γ σ H R' S p => by
  refine a c g Γ σ H _ S ?_
  unfold dRev1 at p
  cases e : fe Γ with
  | bad => rw [e] at p; exact p
  | err x => rw [e] at p; exact p
  | ok x =>
    obtain ⟨d, Γ1⟩ := x
    rw [e, R.bind_ok] at p
    intro v1 H1 S1 k1 r1
    cases r1 with
    | int n =>
      dsimp only at p
      by_cases hn : inRg n
      · rw [if_pos hn] at p
        exact ⟨n, rfl, by decide, by decide, hn.1, hn.2, p _ H1 S1 k1 walk_rngC⟩
      · rw [if_neg hn] at p; exact False.elim p
    | _ => exact False.elim p
end
end DL

set_option Elab.async false
set_option linter.all false
set_option maxRecDepth 100000
/-! data layer, part k: instances made and read -/
namespace DL
open PySem PySem.Spec PyProof.Rows L2
section
variable {T : Ks} {W : WX} {c : Ct} {g g' : Gh} {Γ Γ' : Nv} {σ σ' : L2.St} {H H' : Hp} {v : V} {d : D} {k : Lq} {t u : TS} {te : TE} {f h : SF} {fe : EF D} {De : Ends} {a b : Addr} {vs ws : List V} {ds es : List D}
/-! ### an instance under its __init__ -/
theorem Sim.pokeX {x dx C : Addr} {o : HO} {fs fs' : List (Str × V)} (S : Sim T c g Γ σ H) (hx : g.xt = [x]) (e : H x = some (.ins C dx fs)) :
    Sim T { c with Hx := fun b => if b = x then some (.ins C dx fs') else none } g Γ σ (upd H x (.ins C dx fs')) := by
  have kp : Keep (fun b => b = x) H (upd H x (.ins C dx fs')) := fun b o n q => by rw [upd_ne n]; exact q
  have lp : Lists (fun b => b = x) H := fun b z => ⟨.ins C dx fs, (by rw [z]; exact e), rfl⟩
  have xin : x ∈ g.xt := by rw [hx]; exact List.mem_cons_self
  obtain ⟨x1, x2, _⟩ := S.xt x xin
  have hN : ∀ b, b = x → g.Ep b := fun b z => by rw [z]; exact .inr (.inr xin)
  refine ⟨S.len, fun i s q => ?_, S.out, S.inj, S.one, fun b o q => ?_, fun b q => ?_, fun a p q => ?_, fun b q => ?_, S.hz, fun b o q => ?_⟩
  · refine SlotOk.ct (c := c) rfl ((S.slot i s q).turn rfl rfl (fun v d r => r.keep kp lp hN fun _ z _ => z) (fun v d r => r.keep kp lp (fun b z => .inl (hN b z)) fun _ z _ => z) (fun vs ds _ r => r.keep kp lp hN fun _ z _ => z)
      (fun a xs e1 e2 => kp _ _ (fun z => x1 i (by rw [← z]; exact e1)) e2) (fun a p y _ e1 e2 e3 => ?_))
    obtain ⟨_, _, d3, d4, _⟩ := S.da a p e1
    exact ⟨kp _ _ (fun z => d3 (by rw [z]; exact xin)) e2, kp _ _ (fun z => d4 (by rw [z]; exact xin)) e3⟩
  · refine kp _ _ (fun z => ?_) (S.frame b o q)
    have q : c.Hz b = some o := q
    rw [z, S.hz x (.inr (.inr xin))] at q; cases q
  · by_cases z : b = x
    · rw [z, upd_same]; exact Option.some_ne_none _
    · rw [upd_ne z]; exact S.old b q
  · obtain ⟨d1, d2, d3, d4, ⟨xs, d5⟩, d6⟩ := S.da a p q
    have n1 : a ≠ x := fun z => d3 (by rw [z]; exact xin)
    have n2 : p ≠ x := fun z => d4 (by rw [z]; exact xin)
    exact ⟨d1, d2, d3, d4, ⟨xs, by rw [upd_ne n1]; exact d5⟩, by rw [upd_ne n2]; exact d6⟩
  · obtain ⟨y1, y2, o, y3, y4⟩ := S.xt b q
    refine ⟨y1, y2, ?_⟩
    by_cases z : b = x
    · rw [z, upd_same]; exact ⟨_, rfl, rfl⟩
    · rw [upd_ne z]; exact ⟨o, y3, y4⟩
  · have q : (if b = x then some (HO.ins C dx fs') else none) = some o := q
    by_cases z : b = x
    · rw [if_pos z] at q
      cases q
      rw [z]
      exact ⟨upd_same, xin⟩
    · rw [if_neg z] at q; cases q
/-- the fields ds by now, of names ns; fs at the end, of names nf -/
def FOk (T : Ks) (W : WX) (C : Addr) (ns nf : List Str) (t : TS) (F : Nv → List D → R Err (List D)) : Prop := ∀ c g Γ σ H (D : Ends) x dx vs ds, Sim T c g Γ σ H → g.xt = [x] → (Γ : List Slot)[0]? = some (Slot.im (.ref x)) → c.Hx x = some (.ins C dx (ns.zip vs)) → ns.length = vs.length →
  Reps T.K (fun b => c.H0 b ≠ none) c.Hz vs ds → (match F Γ ds with
    | .ok fs => ∀ σ' H' ws, Same c.Hz H' → H' x = some (.ins C dx (nf.zip ws)) → Reps T.K (fun b => c.H0 b ≠ none) H' ws fs → nf.length = ws.length → D.nx σ' H'
    | .err e => ∀ cls dd σ' H', Same c.Hz H' → ErrOk T e cls dd H' → W cls dd σ' H'
    | .bad => False) → t D σ H
theorem f_nil {C : Addr} {ns : List Str} : FOk T W C ns ns tNext (fun _ ds => .ok ds) := fun c g Γ σ H D x dx vs ds S hx h0 hp hl r p =>
  p σ H vs S.frame (S.pin x _ hp).1 (r.same S.frame) hl
def sameRef (a b : Option Slot) : Bool := match a, b with | some (.im (.ref x)), some (.im (.ref y)) => decide (x = y) | _, _ => false
def dPre (f : SF) (F : Nv → List D → R Err (List D)) (Γ : Nv) (ds : List D) : R Err (List D) := match f Γ with | .ok (.nx, (Γ1 : Nv)) => if sameRef (Γ : List Slot)[0]? (Γ1 : List Slot)[0]? = true then F Γ1 ds else .bad | .err (e, _) => .err e | _ => .bad
theorem f_pre {C : Addr} {ns nf : List Str} {F : Nv → List D → R Err (List D)} (a : DS T W t f) (b : FOk T W C ns nf u F) : FOk T W C ns nf (tSeq t u) (dPre f F) := fun c g Γ σ H D x dx vs ds S hx h0 hp hl r p => by
  refine a c g Γ σ H _ S ?_
  unfold dPre at p
  cases e : f Γ with
  | bad => simp only [e] at p
  | err z => simp only [e] at p; exact fun g' cls dd σ' H' q S' eo => p cls dd σ' H' S'.frame eo
  | ok z =>
    obtain ⟨fl, Γ1⟩ := z
    cases fl with
    | nx =>
      simp only [e] at p
      intro g' σ' H' q S'
      by_cases hs : sameRef (Γ : List Slot)[0]? (Γ1 : List Slot)[0]? = true
      · rw [if_pos hs] at p
        refine b c g' Γ1 σ' H' D x dx vs ds S' (by rw [q.xt]; exact hx) ?_ hp hl r p
        rw [h0] at hs
        unfold sameRef at hs
        split at hs
        · rename_i h1 h2
          cases h1
          have := of_decide_eq_true hs
          rw [h2, ← this]
        · cases hs
      · rw [if_neg hs] at p; exact False.elim p
    | _ => simp only [e] at p
theorem putF_new {f : Str} {v : V} : ∀ {ns : List Str} {vs : List V}, f ∉ ns → ns.length = vs.length → putF f v (ns.zip vs) = (ns ++ [f]).zip (vs ++ [v])
  | [], [], _, _ => rfl
  | [], _ :: _, _, h => by simp at h
  | _ :: _, [], _, h => by simp at h
  | n :: ns, w :: vs, hn, h => by
    have h1 : n ≠ f := fun z => hn (by rw [z]; exact List.mem_cons_self)
    have ih := putF_new (v := v) (ns := ns) (vs := vs) (fun z => hn (List.mem_cons_of_mem _ z)) (by simpa using h)
    show putF f v ((n, w) :: ns.zip vs) = (n, w) :: (ns ++ [f]).zip (vs ++ [v])
    unfold putF
    rw [if_neg (by simpa using h1), ih]
def dFld1 (fe : EF D) (F : Nv → List D → R Err (List D)) (Γ : Nv) (ds : List D) : R Err (List D) := match fe Γ with | .ok (d, (Γ1 : Nv)) => if sameRef (Γ : List Slot)[0]? (Γ1 : List Slot)[0]? = true then F Γ1 (ds ++ [d]) else .bad | .err (e, _) => .err e | .bad => .bad
theorem f_store {C : Addr} {ns nf : List Str} {fn : Str} {F : Nv → List D → R Err (List D)} (hC : Cls T.K C) (hA : NoAttr T.K C fn) (hn : fn ∉ ns) (hk : ns.length < 1000) (a : DE T W .F te fe) (b : FOk T W C (ns ++ [fn]) nf t F) :
    FOk T W C ns nf (tSeq (sFld T.K (tVar 0) te fn) t) (dFld1 fe F) := fun c g Γ σ H D x dx vs ds S hx h0 hp hl r p => by
  refine a c g Γ σ H _ S ?_
  unfold dFld1 at p
  cases e : fe Γ with
  | bad => rw [e] at p; exact p
  | err z => rw [e] at p; exact fun cls dd H' S' eo => p cls dd σ H' S'.frame eo
  | ok z =>
    obtain ⟨d, Γ1⟩ := z
    simp only [e] at p
    intro v1 H1 S1 k1 r1
    have ex := (S1.pin x _ hp).1
    by_cases hs : sameRef (Γ : List Slot)[0]? (Γ1 : List Slot)[0]? = true
    case neg => rw [if_neg hs] at p; exact False.elim p
    rw [if_pos hs] at p
    have h1 : (Γ1 : List Slot)[0]? = some (Slot.im (.ref x)) := by
      rw [h0] at hs
      unfold sameRef at hs
      split at hs
      · rename_i h1 h2
        cases h1
        have := of_decide_eq_true hs
        rw [h2, ← this]
      · cases hs
    obtain ⟨_, v0, q0, q1⟩ := S1.slot 0 _ h1
    cases q1
    refine ⟨_, q0, x, C, dx, _, rfl, ex, hC, hA, by rw [List.length_zip]; omega, ?_⟩
    rw [putF_new hn hl]
    have S2 := S1.zone.pokeX (o := .lst []) (fs' := (ns ++ [fn]).zip (vs ++ [v1])) hx ex
    have old : Same c.Hz (hzOf g H1) := fun b o q => by
      rw [hz_out fun z => by rw [S1.hz b z] at q; cases q]
      exact S1.frame b o q
    refine b _ g Γ1 σ _ D x dx (vs ++ [v1]) (ds ++ [d]) S2 hx h1 (by show (if x = x then _ else _) = _; rw [if_pos rfl]) (by rw [List.length_append, List.length_append, hl]; rfl) ?_ ?_
    · refine (r.same old).append (.cons ?_ .nil)
      exact r1.keep (N := g.Ep) (fun b o n e => by rw [hz_out n]; exact e) S1.lists (fun _ z => .inl z) fun _ z _ => .inr z
    · cases e2 : F Γ1 (ds ++ [d]) with
      | bad => rw [e2] at p; exact p
      | err z => rw [e2] at p; exact fun cls dd σ' H' s eo => p cls dd σ' H' (old.trans s) eo
      | ok fs => rw [e2] at p; exact fun σ' H' ws s => p σ' H' ws (old.trans s)
/-! ### the promise of an __init__ -/
def spI (T : Ks) (C : Addr) (nf : List Str) (n : Nat) (F : List D → R Err (List D)) : Sp := fun vs H Q E => ∃ x dx Hc ws ds, vs = .ref x :: ws ∧ Hc x = none ∧ Hc dx = none ∧ dx ≠ x ∧ H = upd (upd Hc dx (.own x)) x (.ins C dx []) ∧ ds.length = n ∧
  Reps T.K (fun _ => False) Hc ws ds ∧ match F ds with
    | .ok fs => ∀ H' ws', Same Hc H' → H' x = some (.ins C dx (nf.zip ws')) → Reps T.K (fun b => Hc b ≠ none) H' ws' fs → nf.length = ws'.length → Q .non H'
    | .err e => ∀ cls dd H', Same Hc H' → ErrOk T e cls dd H' → E cls dd H'
    | .bad => False
theorem spI_len {C : Addr} {nf : List Str} {n : Nat} {F : List D → R Err (List D)} {Q : VK} {E : XK} (h : spI T C nf n F vs H Q E) : vs.length = n + 1 := by
  obtain ⟨x, dx, Hc, ws, ds, h1, _, _, _, _, h2, h3, _⟩ := h
  rw [h1, List.length_cons, h3.length, h2]
/-- the fields that an __init__ of n arguments (and m further names) gives; the place of self is nothing to it: 0 -/
def fnI (n m : Nat) (x : Addr) (F : Nv → List D → R Err (List D)) (ds : List D) : R Err (List D) := if ds.length = n then F (Slot.im (.ref x) :: (ds.map Slot.im ++ List.replicate m .emp)) [] else .bad
theorem body_I {N : List Str} {n m : Nat} {C : Addr} {nf : List Str} {F : Nv → List D → R Err (List D)} {G : List D → R Err (List D)} {Q : VK} {E : XK} (b : FOk T (fun cls dd _ H => E cls dd H) C [] nf t F) (hN : N.length = n + 1 + m) (hG : ∀ x ds, ds.length = n → G ds ≠ .bad → fnI n m x F ds = G ds) (h : spI T C nf n G vs H Q E) :
    t { nx := fun _ H' => Q .non H', rt := Q } (L2.start N vs) H := by
  obtain ⟨x, dx, Hc, ws, ds, h0, nx, nd, hne, eH, h1, h2, h3⟩ := h
  subst h0
  have e1 := hG x ds h1 (fun z => by rw [z] at h3; exact h3)
  unfold fnI at e1
  rw [if_pos h1] at e1
  have s : Same Hc H := fun b o e => by
    rw [eH, upd_ne (ne_of_none e nx), upd_ne (ne_of_none e nd)]; exact e
  have ex : H x = some (.ins C dx []) := by rw [eH, upd_same]
  have inE : ∀ b, (Gh.mk (fun _ => none) none [x]).Ep b → b = x := fun b z => by
    rcases z with ⟨p, z⟩ | ⟨i, z⟩ | z
    · cases z
    · cases z
    · simpa using z
  have S0 : Sim T { H0 := Hc, Hz := Hc } ⟨fun _ => none, none, []⟩ (ds.map Slot.im ++ List.replicate m .emp) (L2.start (N.drop 1) ws) Hc := sim_start h2 h1 (by rw [List.length_drop]; omega)
  have hst : L2.start N (.ref x :: ws) = some (.ref x) :: L2.start (N.drop 1) ws := by
    unfold L2.start
    rw [List.map_cons, List.cons_append, List.length_drop, List.length_cons]
    congr 2
    rw [show N.length - (ws.length + 1) = N.length - 1 - ws.length by omega]
  have S : Sim T { H0 := Hc, Hz := Hc, Hx := fun b => if b = x then some (.ins C dx []) else none } ⟨fun _ => none, none, [x]⟩ (Slot.im (.ref x) :: (ds.map Slot.im ++ List.replicate m .emp)) (L2.start N (.ref x :: ws)) H := by
    rw [hst]
    refine ⟨by rw [List.length_cons, List.length_cons, S0.len], fun i sl q => ?_, fun _ _ => rfl, fun i j a q => (by cases q), fun i j y z q1 q2 => ?_, fun b o e => s b o e, fun b e => same_some s e, fun a p q => (by cases q), fun b hb => ?_, fun b z => ?_, fun b o e => ?_⟩
    · cases i with
      | zero => cases q; exact ⟨rfl, _, rfl, .ref x⟩
      | succ i =>
        rw [List.getElem?_cons_succ] at q
        have z := S0.slot i sl q
        cases sl with
        | emp => exact rfl
        | im d =>
          obtain ⟨_, v, y1, y2⟩ := z
          refine ⟨rfl, v, y1, (y2.weak fun b zz n => ?_).same s⟩
          rw [inE b zz] at n
          exact absurd nx n
        | fr d =>
          obtain ⟨_, v, y1, y2⟩ := z
          refine ⟨rfl, v, y1, (y2.weak fun b zz n => ?_).same s⟩
          rcases zz with zz | zz
          · rw [inE b zz] at n; exact absurd nx n
          · exact .inr zz
        | own es => obtain ⟨a, _, y1, _⟩ := z; cases y1
        | od _ es => obtain ⟨a, _, y1, _⟩ := z; cases y1
        | dr y => obtain ⟨_, a, p, y1, _⟩ := z; cases y1
    · cases i with
      | zero => cases q1
      | succ i =>
        cases j with
        | zero => cases q2
        | succ j =>
          rw [List.getElem?_cons_succ] at q1 q2
          rw [S0.one i j y z q1 q2]
    · have hb' : b = x := by simpa using hb
      rw [hb']
      exact ⟨(fun i z => nomatch z), nx, _, ex, rfl⟩
    · rw [inE b z]; exact nx
    · have e : (if b = x then some (HO.ins C dx []) else none) = some o := e
      by_cases z : b = x
      · rw [if_pos z] at e; cases e
        rw [z]; exact ⟨ex, List.mem_cons_self⟩
      · rw [if_neg z] at e; cases e
  refine b _ _ _ _ _ _ x dx [] [] S rfl rfl (if_pos rfl) rfl .nil ?_
  rw [e1]
  cases e2 : G ds with
  | bad => rw [e2] at h3; exact h3
  | err z => rw [e2] at h3; exact fun cls dd σ' H' q eo => h3 cls dd H' q eo
  | ok fs => rw [e2] at h3; exact fun σ' H' ws' q e r hl => h3 H' ws' q e r hl
/-! ### a new instance; a field -/
def dMake (C : Addr) (nf : List Str) (F : List D → R Err (List D)) (dds : List D) (fs : EF (List D)) : EF D := fun Γ => (fs Γ).bind fun x => match F (x.1 ++ dds) with | .ok es => .ok (.ins C nf es, x.2) | _ => .bad
theorem de_make {C : Addr} {nf : List Str} {n : Nat} {F : List D → R Err (List D)} {dvs : List V} {dds : List D} {ts : TA} {fs : EF (List D)} {E : XK} {ka : Lq} (a : DA T W ka ts fs) (q : ∀ H, Reps T.K (fun _ => False) H dvs dds) (hn : ∀ ds e, F ds = .ok e → ds.length = n) :
    DE T W k (tMake C (spI T C nf n F) dvs E ts) (dMake C nf F dds fs) := fun c g Γ σ H Q S p => by
  refine a c g Γ σ H _ S ?_
  unfold dMake at p
  cases e : fs Γ with
  | bad => rw [e] at p; exact p
  | err x => rw [e] at p; exact p
  | ok x =>
    obtain ⟨ds, Γ1⟩ := x
    rw [e, R.bind_ok] at p
    intro v1 H1 S1 k1 r1 x dx nx nd hne
    cases e2 : F (ds ++ dds) with
    | bad => simp only [e2] at p; exact False.elim p
    | err z => simp only [e2] at p; exact False.elim p
    | ok es =>
      simp only [e2] at p
      refine ⟨x, dx, H1, v1 ++ dvs, ds ++ dds, rfl, nx, nd, hne, rfl, hn _ _ e2, reps_app (E := fun _ => False) r1 q, ?_⟩
      rw [e2]
      intro H' ws' s ex r hl
      refine ⟨rfl, p (.ref x) H' (S1.grow s) (k1.trans (ofSame s)) (S.newq (H1 := H1) ?_ (S.grown S1 k1))⟩
      exact .ins ex (fun z => z nx) r hl
def fldOf (C : Addr) (f : Str) : D → Option D
  | .ins C' ns ds => if C' = C then (ns.zip ds).lookup f else none
  | _ => none
theorem lookup_reps {E : Addr → Prop} {f : Str} : ∀ {ns : List Str} {vs : List V} {ds : List D}, Reps T.K E H vs ds → (ns.zip ds).lookup f = some d → ∃ v, (ns.zip vs).lookup f = some v ∧ Rep T.K E H v d
  | [], _, _, _, h => by simp at h
  | _ :: _, _, _, .nil, h => by simp at h
  | n :: ns, _, _, @Reps.cons _ _ _ v vs d' ds r t, h => by
    rw [List.zip_cons_cons, List.lookup_cons] at h ⊢
    by_cases e : f == n
    · rw [e] at h ⊢
      cases h
      exact ⟨v, rfl, r⟩
    · have e' : (f == n) = false := by simpa using e
      rw [e'] at h ⊢
      exact lookup_reps t h
def dFld (C : Addr) (f : Str) (fe : EF D) : EF D := fun Γ => (fe Γ).bind fun x => liftO (fldOf C f x.1) x.2
theorem de_fld {C : Addr} {f : Str} (hC : Cls T.K C) (hA : NoAttr T.K C f) (a : DE T W k te fe) : DE T W k (tFld T.K te f) (dFld C f fe) := fun c g Γ σ H Q S p => by
  refine a c g Γ σ H _ S ?_
  unfold dFld at p
  cases e : fe Γ with
  | bad => rw [e] at p; exact p
  | err x => rw [e] at p; exact p
  | ok x =>
    obtain ⟨d, Γ1⟩ := x
    rw [e, R.bind_ok] at p
    intro v1 H1 S1 k1 r1
    cases r1 with
    | @ins q C' dx ns vs ds h n r hl =>
      unfold fldOf at p
      by_cases hc : C' = C
      · subst hc
        simp only [if_true] at p
        cases e2 : (ns.zip ds).lookup f with
        | none => simp only [e2] at p; exact False.elim p
        | some z =>
          simp only [e2] at p
          obtain ⟨v, l1, l2⟩ := lookup_reps r e2
          exact ⟨q, C', dx, _, v, rfl, h, hC, hA, l1, p v H1 S1 k1 l2⟩
      · simp only [if_neg hc] at p; exact False.elim p
    | _ => exact False.elim p
end
end DL

set_option Elab.async false
set_option linter.all false
set_option maxRecDepth 100000
set_option maxHeartbeats 2000000
/-! data layer, part m: len(o), list(o) of an own class that has __len__ and __iter__ -/
namespace L2
open PySem PySem.Spec PyProof.Rows
structure SeqC (K : PySem.W.Frag) (C fi fl : Addr) : Prop where
  it : PySem.W.findIn K (.ref C) "__iter__" = some (some (.ref fi))
  itF : PySem.W.isFn K (.ref fi) = true
  ln : PySem.W.findIn K (.ref C) "__len__" = some (some (.ref fl))
  lnF : PySem.W.isFn K (.ref fl) = true
/-- __iter__ gives an iterator of the list at l, whose items are zs; __len__ their number -/
def spIt (C : Addr) (f : Str) : Sp := fun vs H Q _ => ∃ a dx fs l zs, vs = [.ref a] ∧ H a = some (.ins C dx fs) ∧ fs.lookup f = some (.ref l) ∧ H l = some (.lst zs) ∧ ∀ it, H it = none → Q (.ref it) (upd H it (ItO l it 0))
def spLn (C : Addr) (f : Str) : Sp := fun vs H Q _ => ∃ a dx fs l zs, vs = [.ref a] ∧ H a = some (.ins C dx fs) ∧ fs.lookup f = some (.ref l) ∧ H l = some (.lst zs) ∧ Q (.int zs.length) H
section
variable {prog : Program} {w : World} {A : Around} {E : Value → Shared → Prop} {s : Shared} {it l : Addr} {i : Nat} {items : Array Value}
theorem pynext_end {Q : Option Value → Shared → Prop} (hh : A.handled = none) (ho : s.heap.get? it = some (GNX.itObj l i)) (hl : s.heap.IsList l items) (hx : items[i]? = none)
    (hQ : ∀ h' u, h'.get? it = some u → (∀ b o, b ≠ it → s.heap.get? b = some o → h'.get? b = some o) → Q none { s with heap := h' }) : wpAny (model prog w) A (pyNext (.ref it)) Q E s := by
  have hT : s.TypeIs (.ref it) "list_iterator" := ⟨_, ho, rfl⟩
  unfold pyNext
  refine wpAny_bind (wpAny_attempt (wpAny_callSpecial?_slot (name := Str.ofString "__next__") hT slot_listiter_next
    (wpAny_call_entry slot_listiter_next hT entry_listiter_next (GNX.next_end hh ho hl hx fun h1 h' e vs e1 sb k ne he' hv => ?_) (args_listiter_next _))))
  refine wpAny_bind (wpAny_isInstance (T := "StopIteration") (b := true) ⟨_, he', rfl⟩ isSubtype_stop ?_)
  exact wpAny_pure (hQ _ _ (k _ _ e1) fun b o n q => k _ _ ((sb.2 b n).trans q))
theorem pynext_item {x : Value} {Q : Option Value → Shared → Prop} (ho : s.heap.get? it = some (GNX.itObj l i)) (hl : s.heap.IsList l items) (hx : items[i]? = some x)
    (hQ : ∀ h', h'.get? it = some (GNX.itObj l (i + 1)) → Heap.SameBut it s.heap h' → Q (some x) { s with heap := h' }) : wpAny (model prog w) A (pyNext (.ref it)) Q E s := by
  have hT : s.TypeIs (.ref it) "list_iterator" := ⟨_, ho, rfl⟩
  unfold pyNext
  exact wpAny_bind (wpAny_attempt (wpAny_callSpecial?_slot (name := Str.ofString "__next__") hT slot_listiter_next
    (wpAny_call_entry slot_listiter_next hT entry_listiter_next (GNX.next_item ho hl hx fun h' e sb => wpAny_pure (hQ h' e sb)) (args_listiter_next _))))
end
section
variable {X : Cx} {pins : List (Addr × Obj)} {σ : L2.St} {H : Hp} {s : Shared} {C fi fl a q l it : Addr} {zs : List V} {n : Nat} {A1 : Around}
def anyO (it : Addr) : HO := .ext fun h => ∃ o, h.get? it = some o
theorem anyO_ok {P : Program} {w : World} {h : Heap} {u : Obj} (e : h.get? it = some u) : ObjOk P w H h it (anyO it) := ⟨⟨u, e⟩, ⟨u, e⟩, fun h1 h2 ⟨o, q⟩ k => ⟨o, k _ q⟩⟩
theorem inv_drop' {φ : Heap → Prop} (I : Inv X pins σ (upd H it (.ext φ)) s) (h : H it = none) : Inv X pins σ H s := by
  have z := ItX.inv_drop I upd_same
  rw [ItX.dropH_upd h] at z
  exact z
theorem upd_comm {o u : HO} (h : q ≠ it) : upd (upd H q o) it u = upd (upd H it u) q o := by
  funext b
  by_cases h1 : b = it
  · subst h1; rw [upd_same, upd_ne (Ne.symm h), upd_same]
  · by_cases h2 : b = q
    · subst h2; rw [upd_ne h1, upd_same, upd_same]
    · rw [upd_ne h1, upd_ne h2, upd_ne h2, upd_ne h1]
/-- the list at q is filled from an iterator at it over the list at l -/
theorem fill_loop {Rs : Result → Shared → Prop} {H0 : Hp} (sb : Sub X n A1.in1) (hl : H0 l = some (.lst zs)) (nq : H0 q = none) (nit : H0 it = none) (nqi : q ≠ it) (hdone : ∀ s, Inv X pins σ (upd H0 q (.lst zs)) s → Rs (.ok (.ret .none)) s) :
    ∀ (m i : Nat) (s : Shared), i + m = zs.length → Inv X pins σ (upd (upd H0 q (.lst (zs.take i))) it (ItO l it i)) s →
      codeAny (model X.prog X.w) A1 (.builtin "list.extend.loop" ⟨[.ref q, .ref it, .none], []⟩) Rs s := by
  have nlq : l ≠ q := ne_of_none hl nq
  have nli : l ≠ it := ne_of_none hl nit
  intro m
  induction m with
  | zero =>
    intro i s hi I
    refine codeAny_builtin PySem.F.entry_extend_loop ?_
    rw [Around.under_plainId PySem.F.plain_extend_loop _]
    show wpAny _ A1.in1 (pyNext (.ref it) >>= _) _ _ s
    have e1 : zs.take i = zs := List.take_of_length_le (by omega)
    rw [e1] at I
    have hl' : upd (upd H0 q (.lst zs)) it (ItO l it i) l = some (.lst zs) := by rw [upd_ne nli, upd_ne nlq]; exact hl
    obtain ⟨its, rv, p, hz⟩ := I.list (SqL.of hl')
    have hlen := rv.length
    refine wpAny_bind (pynext_end sb.room.hd (itO_get I upd_same) p.isList (by simp; omega) fun h' u hu kp => ?_)
    have I1 : Inv X pins σ (upd (upd (upd H0 q (.lst zs)) it (ItO l it i)) it (anyO it)) { s with heap := h' } :=
      I.write (x := it) (e := it) (t' := s.toks) (by rw [upd_same]; exact True.intro) (.inl rfl) kp ⟨_, hu⟩ (anyO_ok hu)
    rw [upd_upd] at I1
    exact wpAny_pure (hdone _ (inv_drop' I1 (by rw [upd_ne (Ne.symm nqi)]; exact nit)))
  | succ m ih =>
    intro i s hi I
    refine codeAny_builtin PySem.F.entry_extend_loop ?_
    rw [Around.under_plainId PySem.F.plain_extend_loop _]
    show wpAny _ A1.in1 (pyNext (.ref it) >>= _) _ _ s
    have hlt : i < zs.length := by omega
    have hl' : upd (upd H0 q (.lst (zs.take i))) it (ItO l it i) l = some (.lst zs) := by rw [upd_ne nli, upd_ne nlq]; exact hl
    obtain ⟨its, rv, p, hz⟩ := I.list (SqL.of hl')
    have hx : zs[i]? = some zs[i] := List.getElem?_eq_getElem hlt
    obtain ⟨u, hu, ru⟩ := rv.get hx
    have eit := itO_get I upd_same
    refine wpAny_bind (pynext_item eit p.isList (x := u) (by simpa using hu) fun h' eo sb' => ?_)
    have I1 : Inv X pins σ (upd (upd (upd H0 q (.lst (zs.take i))) it (ItO l it i)) it (ItO l it (i + 1))) { s with heap := h' } :=
      I.write (x := it) (e := it) (t' := s.toks) (by rw [upd_same]; exact True.intro) (.inl rfl) (fun b o nb z => (sb'.2 b nb).trans z) ⟨_, eo⟩ (itO_ok eo)
    rw [upd_upd, upd_comm nqi] at I1
    show wpAny _ A1.in1 (updateSeq q (·.push u) >>= _) _ _ _
    obtain ⟨z, its2, k, r2, hl2, e⟩ := I1.lstM upd_same
    have hsl : (zs.take i).length < sizeLine := by rw [List.length_take]; omega
    have r2l := r2.length
    refine wpAny_bind (wpAny_updateSeq e rfl (wpAny_pure ⟨plainId_quiet PySem.F.plain_extend_loop _, ?_⟩) (by rw [List.size_toArray]; omega) (by show (its2.toArray.push u).size ≤ sizeLine + 1; rw [Array.size_push, List.size_toArray]; omega))
    have I2 := I1.lset (f := (·.push u)) (its' := its2 ++ [u]) (ys := zs.take i ++ [zs[i]]) (t' := s.toks) upd_same e (by simp) (r2.append (.cons ru .nil)) (by rw [List.length_append, List.length_singleton]; omega)
    rw [upd_upd] at I2
    have e3 : zs.take i ++ [zs[i]] = zs.take (i + 1) := by rw [List.take_add_one, hx]; rfl
    rw [e3, ← upd_comm nqi] at I2
    exact ih (i + 1) _ (by omega) I2
/-- the length, for a hint -/
theorem seq_hint {CI : CXT} {fd : FuncData} {ps : List Str} {EI : XK} {dx : Addr} {fs : List (Str × V)} {f : Str} {Q : Bool → Shared → Prop} {Ee : Value → Shared → Prop} (sb : Sub X n A1.in1) (hc : SeqC X.K C fi fl) (FL : FnOk X.prog X.w X.K X.mg X.base CI n fl fd ps (spLn C f)) (bL : Binds X.K fd ps []) (xI : ∀ e s', CI X.stack H s EI e s' → False)
    (I : Inv X pins σ H s) (ha : H a = some (.ins C dx fs)) (hf : fs.lookup f = some (.ref l)) (hl : H l = some (.lst zs)) (hq : ∀ b s', Inv X pins σ H s' → Q b s') : wpAny (model X.prog X.w) A1 (Builtin.List.listLengthHint (.ref a)) Q Ee s := by
  obtain ⟨mA, J, _⟩ := ins_get I.hok ha
  obtain ⟨od, J, _⟩ := J.look
  obtain ⟨m0, hF⟩ := I.fr
  have hzl : zs.length ≤ sizeLine := (I.lstM hl).1
  unfold Builtin.List.listLengthHint
  refine wpAny_bind (wpAny_bind (J.type.here ((PySem.W.looks_findIn I.kIn hc.ln).here ?_)))
  show wpAny _ _ (if (false : Bool) = true then _ else _) _ _ _
  refine PySem.W.KFB.if_not rfl ?_
  show wpAny _ _ (if (true : Bool) = true then _ else _) _ _ _
  rw [if_pos rfl]
  refine wpAny_bind (wpAny_rule ?_)
  have e0 : Env0 X.prog X.w X.K X.mg X.base A1.in1 X.stack s H := by
    have e := I.env0
    exact ⟨by rw [sb.fr]; exact e.frames, e.mod, e.bs, e.bsz, e.funs, e.frf, e.hok, e.bare⟩
  have hsp : spLn C f [.ref a] H (fun v H' => v = .int zs.length ∧ H' = H) EI := ⟨a, dx, fs, l, zs, rfl, ha, hf, hl, rfl, rfl⟩
  have hlen := FL.len _ _ _ _ hsp
  have r2 : Vals [V.ref a] [Value.ref a] := .cons rfl .nil
  refine wpAny_bind (wpAny_attempt (PySem.W.len_K hF I.ok.mod.kin J hc.ln hc.lnF (wpAny_call (codeAny_mono (FL.run A1.in1 X.stack s H ⟨[.ref a], []⟩ [.ref a] [.ref a] _ EI sb.room e0 (by
    have := bL s [.ref a] I.kIn (by simpa using hlen)
    simpa using this) r2 hsp) fun r s' hr => ?_))))
  cases r with
  | error e => exact (xI e s' hr).elim
  | ok fl' =>
    cases fl' with
    | next => exact False.elim hr
    | brk => exact False.elim hr
    | cont => exact False.elim hr
    | ret u =>
      obtain ⟨v, H', I', rv, ev, eH⟩ := I.after hr
      subst ev
      rw [eH] at I'
      obtain ⟨t, rfl⟩ := rv
      refine ⟨⟨by omega, by have : sizeLine = 16777216 := sizeLine_eq; omega⟩, ?_⟩
      dsimp only
      refine wpAny_bind (wpAny_of_eq (a := some (zs.length : Int)) (by rfl) ?_)
      dsimp only
      have ht : Builtin.List.listTooLong ((zs.length : Int).toNat) = false := by
        unfold Builtin.List.listTooLong
        rw [Int.toNat_natCast]
        exact decide_eq_false (by omega)
      rw [ht, if_neg Bool.false_ne_true]
      exact wpAny_pure (hq _ _ (I'.tok _))
/-- list(o) -/
def rListS (C : Addr) (f : Str) : List V → Hp → VK → Prop := fun xs H Q => ∃ a dx fs l zs, xs = [.ref a] ∧ H a = some (.ins C dx fs) ∧ fs.lookup f = some (.ref l) ∧ H l = some (.lst zs) ∧ ∀ q, H q = none → Q (.ref q) (upd H q (.lst zs))
theorem call_listS {CI CL : CXT} {fdI fdL : FuncData} {psI psL : List Str} {EI : XK} {f : Str} (hc : SeqC X.K C fi fl) (FI : FnOk X.prog X.w X.K X.mg X.base CI n fi fdI psI (spIt C f)) (bI : Binds X.K fdI psI []) (xI : ∀ H s e s', CI X.stack H s E0 e s' → False)
    (FL : FnOk X.prog X.w X.K X.mg X.base CL n fl fdL psL (spLn C f)) (bL : Binds X.K fdL psL []) (xL : ∀ H s e s', CL X.stack H s E0 e s' → False) (hr : Room (n + 3) X.A) : CallR X (.type "list") (rListS C f) := by
  intro pins s σ H xs us Q I rv h
  obtain ⟨a, dx, fs, l, zs, rfl, ha, hf, hl, hq⟩ := h
  obtain ⟨u, rfl, ru⟩ := rv.one
  cases ru
  have sb : Sub X n X.A.in1.in1.in1 := (Sub.in1 (Sub.in1 (Sub.in1 (⟨hr, rfl⟩ : Sub X (n + 3) X.A))))
  have sb2 : Sub X n X.A.in1.in1 := ((Sub.in1 (Sub.in1 (⟨hr, rfl⟩ : Sub X (n + 3) X.A)))).mono (by omega)
  refine callType_codes (Q₁ := fun obj s₁ => obj = .ref s.heap.objs.size ∧ s₁ = { s with heap := s.heap.push { cls := .type "list", data := .seq #[] } }) PySem.F.called_list (PySem.F.typeCall_list_1 _) PySem.F.entry_list_init
    (code_list_new _ ⟨rfl, rfl⟩) fun obj s₁ h₁ => ?_
  obtain ⟨rfl, rfl⟩ := h₁
  have hS : (s.heap.push { cls := .type "list", data := .seq #[] }).get? s.heap.objs.size = some { cls := .type "list", data := .seq #[] } := Heap.get?_push_size _ rfl
  refine ⟨⟨_, hS, rfl⟩, PySem.F.args_list_init_2 _ _, ?_⟩
  have fr : H s.heap.objs.size = none := I.hok.fresh (Nat.le_refl _)
  generalize hq0 : s.heap.objs.size = q at *
  have I1 : Inv X pins σ (upd H q (.lst [])) { s with heap := s.heap.push { cls := .type "list", data := .seq #[] } } := by
    rw [← hq0]
    exact I.lnew (its := []) (t' := s.toks) .nil (Nat.zero_le _)
  show wpAny _ _ (do let old ← Builtin.List.listItems (.ref q); Builtin.List.listUpdate (.ref q) (fun _ => #[]); letGo old.toList.reverse; Builtin.List.listExtendWith (.ref q) (.ref a) .none) _ _ _
  refine wpAny_bind ?_
  unfold Builtin.List.listItems
  refine wpAny_bind (wpAny_seqItems hS rfl (wpAny_pure ?_))
  show wpAny _ _ (updateSeq q (fun _ => #[]) >>= fun _ => letGo (#[] : Array Value).toList.reverse >>= fun _ => Builtin.List.listExtendWith (.ref q) (.ref a) .none) _ _ _
  refine wpAny_bind (wpAny_updateSeq hS rfl ?_)
  have I2 := I1.lset (f := fun _ => #[]) (its := []) (its' := []) (ys := []) (t' := s.toks) upd_same hS rfl .nil (Nat.zero_le _)
  rw [upd_upd] at I2
  refine wpAny_bind (wpAny_letGo ?_)
  have haq : a ≠ q := ne_of_none ha fr
  have hlq : l ≠ q := ne_of_none hl fr
  have ha2 : upd H q (.lst []) a = some (.ins C dx fs) := by rw [upd_ne haq]; exact ha
  have hl2 : upd H q (.lst []) l = some (.lst zs) := by rw [upd_ne hlq]; exact hl
  obtain ⟨mA, J, _⟩ := ins_get I2.hok ha2
  obtain ⟨od, J, _⟩ := J.look
  obtain ⟨m0, hF⟩ := I2.fr
  unfold Builtin.List.listExtendWith
  refine wpAny_bind (J.type.here ?_)
  have h1 : Builtin.List.listSameRef (.ref q) (.ref a) = false := by simp [Builtin.List.listSameRef, Ne.symm haq]
  have h2 : (Value.ref C == Value.type "list") = false := rfl
  have h3 : (Value.ref C == Value.type "tuple") = false := rfl
  simp only [h1, h2, h3, Bool.or_false, Bool.false_eq_true, if_false]
  refine wpAny_bind (PySem.W.owit_iter hF I2.ok.mod.kin J hc.it hc.itF ?_)
  have e0 : ∀ {sx : Shared} {Hx : Hp}, Env0 X.prog X.w X.K X.mg X.base X.A X.stack sx Hx → Env0 X.prog X.w X.K X.mg X.base X.A.in1.in1 X.stack sx Hx := fun {sx Hx} e =>
    ⟨by rw [sb2.fr]; exact e.frames, e.mod, e.bs, e.bsz, e.funs, e.frf, e.hok, e.bare⟩
  have hspI : spIt C f [.ref a] (upd H q (.lst [])) (fun v H' => ∃ it, v = .ref it ∧ upd H q (.lst []) it = none ∧ H' = upd (upd H q (.lst [])) it (ItO l it 0)) E0 := ⟨a, dx, fs, l, zs, rfl, ha2, hf, hl2, fun it nit => ⟨it, rfl, nit, rfl⟩⟩
  have hlen := FI.len _ _ _ _ hspI
  have r2 : Vals [V.ref a] [Value.ref a] := .cons rfl .nil
  refine wpAny_call (codeAny_mono (FI.run X.A.in1.in1 X.stack _ _ ⟨[.ref a], []⟩ [.ref a] [.ref a] _ E0 sb2.room (e0 I2.env0) (by
    have := bI _ [.ref a] I2.kIn (by simpa using hlen)
    simpa using this) r2 hspI) fun r s' hq' => ?_)
  cases r with
  | error e => exact (xI _ _ _ _ hq').elim
  | ok fl' =>
    cases fl' with
    | next => exact False.elim hq'
    | brk => exact False.elim hq'
    | cont => exact False.elim hq'
    | ret u =>
      obtain ⟨v, H', I', rv', it, ev, nit, eH⟩ := I2.after hq'
      subst ev
      subst eH
      cases rv'
      have nit' : H it = none := by
        by_cases z : it = q
        · rw [z]; exact fr
        · rw [upd_ne z] at nit; exact nit
      have nqi : q ≠ it := fun z => by rw [← z, upd_same] at nit; cases nit
      have eit := itO_get I' upd_same
      unfold PySem.W.OwitIt
      refine wpAny_specialOf (name := Str.ofString "__next__") (T := "list_iterator") ⟨_, eit, rfl⟩ slot_listiter_next.lookup ?_
      have hai : a ≠ it := ne_of_none ha nit'
      have hli : l ≠ it := ne_of_none hl nit'
      have ha3 : upd (upd H q (.lst [])) it (ItO l it 0) a = some (.ins C dx fs) := by rw [upd_ne hai]; exact ha2
      have hl3 : upd (upd H q (.lst [])) it (ItO l it 0) l = some (.lst zs) := by rw [upd_ne hli]; exact hl2
      refine wpAny_bind (wpAny_holding (seq_hint (A1 := X.A.in1.in1) (EI := E0) (Q := _) sb hc FL bL (fun e s' z => xL _ _ _ _ z) I' ha3 hf hl3 fun b s3 I3 => ?_))
      have hq3 : upd (upd H q (.lst [])) it (ItO l it 0) q = some (.lst []) := by rw [upd_ne nqi, upd_same]
      have fin : ∀ s4, Inv X pins σ (upd (upd H q (.lst [])) it (ItO l it 0)) s4 → codeAny (model X.prog X.w) X.A.in1 (.builtin "list.extend.loop" ⟨[.ref q, .ref it, .none], []⟩) (wants (fun r s₂ => r = .none ∧ EP X pins σ Q (.ref q) s₂) X.xe) s4 := fun s4 I4 =>
        fill_loop (A1 := X.A.in1) (n := n) (H0 := H) sb2 hl fr nit' nqi (fun s5 I5 => ⟨rfl, .ref q, _, I5, rfl, hq q fr⟩) zs.length 0 s4 (by omega) (by rw [List.take_zero]; exact I4)
      obtain ⟨z, its, k, r3, hl4, e3⟩ := I3.lstM hq3
      cases r3
      refine wpAny_ite_split (fun _ => ?_) (fun _ => wpAny_pure ⟨plainId_quiet PySem.F.plain_extend_loop _, fin s3 I3⟩)
      refine wpAny_bind (wpAny_rule ?_)
      refine wpAny_bind ?_
      show wpAny _ _ (updateSeq q (·.push .none) >>= fun _ => updateSeq q (·.pop)) _ _ _
      refine wpAny_bind (wpAny_updateSeq e3 rfl ?_)
      have I4 := I3.lset (f := (·.push Value.none)) (its' := [Value.none]) (ys := [.non]) (t' := s3.toks) hq3 e3 (by simp) (.cons rfl .nil) (by rw [List.length_singleton, sizeLine_eq]; decide)
      obtain ⟨z4, its4, k4, r4, hl4', e4⟩ := I4.lstM upd_same
      obtain ⟨u4, rfl, ru4⟩ := r4.one
      refine wpAny_updateSeq e4 rfl ?_ (by show 1 ≤ sizeLine; rw [sizeLine_eq]; decide) (by show 0 ≤ sizeLine + 1; exact Nat.zero_le _)
      refine wpAny_pure ⟨plainId_quiet PySem.F.plain_extend_loop _, fin _ ?_⟩
      have I5 := I4.lset (f := (·.pop)) (its := [u4]) (its' := []) (ys := []) (t' := s3.toks) upd_same e4 (by rfl) .nil (Nat.zero_le _)
      rw [upd_upd] at I5
      have hH : upd (upd (upd H q (.lst [])) it (ItO l it 0)) q (.lst []) = upd (upd H q (.lst [])) it (ItO l it 0) := by
        funext b
        by_cases hb : b = q
        · rw [hb, upd_same, hq3]
        · rw [upd_ne hb]
      rw [hH] at I5
      exact I5
end
end L2

set_option Elab.async false
set_option linter.all false
set_option maxRecDepth 100000
/-! data layer, part n: list of anything, the draws made -/
namespace DL
open PySem PySem.Spec PyProof.Rows L2
theorem callr_or {X : Cx} {f : Value} {r r' : List V → Hp → VK → Prop} (h1 : CallR X f r) (h2 : CallR X f r') : CallR X f (fun xs H Q => r xs H Q ∨ r' xs H Q) := by
  intro pins s σ H xs us Q I rv h
  rcases h with h | h
  · exact h1 pins s σ H xs us Q I rv h
  · exact h2 pins s σ H xs us Q I rv h
section
variable {T : Ks} {W : WX} {c : Ct} {g g' : Gh} {Γ Γ' : Nv} {σ σ' : L2.St} {H H' : Hp} {v : V} {d : D} {k : Lq} {t u : TS} {te : TE} {f h : SF} {fe : EF D} {De : Ends} {a b : Addr} {vs ws : List V} {ds es : List D}
abbrev rListOf (K : PySem.W.Frag) : List V → Hp → VK → Prop := fun xs H Q => ∃ p ys, xs = [.ref p] ∧ (SqL K H p ys ∨ SqT K H p ys) ∧ ∀ l, H l = none → Q (.ref l) (upd H l (.lst ys))
/-- list(x), x a list, a tuple or an instance of C -/
def oListS (C : Addr) : List D → Option (List D)
  | [.ins C' [_] [.lst zs]] => if C' = C ∧ nolsts zs = true then some zs else none
  | ds => oList ds
theorem cao_listP {C : Addr} {f : Str} : CaO T (fun xs H Q => rListOf T.K xs H Q ∨ rListS C f xs H Q) (fun ds => match ds with
    | [.ins C' [n] [.lst zs]] => if C' = C ∧ n = f ∧ nolsts zs = true then some zs else none
    | ds => oList ds) := fun E H xs ds z Q r e q => by
  dsimp only at e
  split at e
  · rename_i C' n zs
    split at e
    · rename_i hc
      obtain ⟨h1, h2, h3⟩ := hc
      subst h1; subst h2
      cases e
      cases r with
      | cons r1 r2 =>
        cases r2
        cases r1 with
        | @ins p _ dx _ ws _ hp np rw' hl =>
          cases rw' with
          | @cons w ws' _ _ r3 r4 =>
            cases r4
            cases r3 with
            | @lst l zv _ hl2 nl r5 =>
              refine .inr ⟨p, dx, _, l, zv, rfl, hp, by simp [List.lookup], hl2, fun q' nq => ?_⟩
              have s := same_upd (o := .lst zv) nq
              exact q q' zv _ s nq upd_same ((r5.loose h3).same s)
    · cases e
  · exact cao_list E H xs _ z (fun v H' => Q v H') r e q |> Or.inl
/-- the draws made: name = pool(script) -/
def intsOf : List D → Option (List Int)
  | [] => some []
  | .int i :: r => (intsOf r).map fun y => i :: y
  | _ => none
theorem intsOf_eq : ∀ {ds : List D} {ns : List Int}, intsOf ds = some ns → ds = ns.map D.int
  | [], ns, e => by cases e; rfl
  | .int i :: r, ns, e => by
    unfold intsOf at e
    obtain ⟨y, e1, e2⟩ := Option.map_eq_some_iff.mp e
    subst e2
    rw [intsOf_eq e1]; rfl
  | .non :: _, _, e => by cases e
  | .bl _ :: _, _, e => by cases e
  | .str _ :: _, _, e => by cases e
  | .ref _ :: _, _, e => by cases e
  | .ty _ :: _, _, e => by cases e
  | .tup _ :: _, _, e => by cases e
  | .lst _ :: _, _, e => by cases e
  | .fz _ :: _, _, e => by cases e
  | .ins _ _ _ :: _, _, e => by cases e
  | .dct _ _ :: _, _, e => by cases e
theorem reps_ints {E : Addr → Prop} : ∀ {vs : List V} {ns : List Int}, Reps T.K E H vs (ns.map D.int) → vs = ns.map V.int
  | [], [], _ => rfl
  | _ :: _, [], r => nomatch r
  | [], _ :: _, r => nomatch r
  | v :: vs, n :: ns, r => by
    cases r with
    | cons r1 r2 =>
      cases r1
      rw [reps_ints r2]; rfl
def noDr (Γ : Nv) : Bool := Γ.all fun s => match s with | .dr _ => false | _ => true
def drOf : D → Option Dr
  | .lst [.lst ps, .int a, .int b] => (intsOf ps).map fun ns => ⟨ns, a, b⟩
  | _ => none
/-- name = f(..), whose answer is the list of the draws -/
theorem mk_dr {i n : Nat} {F : List D → R Err D} {ts : TA} {fs : EF (List D)} {E : XK} {ka : Lq} {x : Dr} (a : DA T W ka ts fs) (S : Sim T c g Γ σ H) (hda : g.da = none) (he : fs Γ = .ok (ds, Γ1)) (hF : F ds = .ok d) (hd : drOf d = some x) (hn : ds.length = n)
    (hc : noDr Γ1 = true ∧ i < Γ1.length ∧ plain Γ1 i = true) (rest : ∀ g' σ' H', g'.xt = g.xt → Sim T c g' (Γ1.set i (.dr x)) σ' H' → De.nx σ' H') : tAsg (tCall (spP T n F) [] E ts) (gName i) De σ H := by
  refine a c g Γ σ H _ S ?_
  rw [he]
  intro v1 H1 S1 k1 r1
  rw [List.append_nil]
  refine ⟨ds, hn, r1.weak fun _ z _ => z.elim, ?_⟩
  rw [hF]
  intro v H' s r
  obtain ⟨hc1, hc2, hc3⟩ := hc
  have nodr : ∀ (j : Nat) (y : Dr), (Γ1 : List Slot)[j]? ≠ some (Slot.dr y) := fun j y q => by
    have z := List.all_eq_true.mp hc1 _ (List.mem_of_getElem? q)
    cases z
  unfold drOf at hd
  split at hd
  · rename_i ps ai bi
    obtain ⟨ns, e4, e5⟩ := Option.map_eq_some_iff.mp hd
    have e6 := intsOf_eq e4
    subst e6
    subst e5
    cases r with
    | @lst aa vs _ h2 n2 rr =>
      cases rr with
      | @cons w1 ws1 _ _ q1 qs1 =>
        cases qs1 with
        | @cons w2 ws2 _ _ q2 qs2 =>
          cases qs2 with
          | @cons w3 ws3 _ _ q3 qs3 =>
            cases qs3; cases q2; cases q3
            cases q1 with
            | @lst pp zs _ h3 n3 r3 =>
              have ez := reps_ints r3
              subst ez
              have nn : ∀ p, ¬ H1 p ≠ none → H1 p = none := fun p n => by
                cases z : H1 p with
                | none => rfl
                | some o => exact absurd (show H1 p ≠ none by rw [z]; exact Option.some_ne_none _) n
              have na := nn _ n2
              have np := nn _ n3
              have S2 := S1.more s na h2
              have adi : g.ad i = none := plain_ad S1 hc3
              have sub : ∀ b, (Gh.mk g.ad (some (aa, pp)) g.xt).Ep b → (g.more aa).Ep b := fun b z => by
                rcases z with ⟨p, z⟩ | ⟨j, z⟩ | z
                · cases z; exact Gh.a_more
                · exact .inr (.inl ⟨j, z⟩)
                · exact .inr (.inr (List.mem_cons_of_mem _ z))
              have w : ∀ b, (Gh.mk g.ad (some (aa, pp)) g.xt).Ep b → H' b ≠ none → (g.more aa).Ep b := fun b z _ => sub b z
              have hne : aa ≠ pp := fun z => by
                rw [z, h3] at h2
                have h2' := HO.lst.inj (Option.some.inj h2)
                cases ns with
                | nil => cases h2'
                | cons n0 r0 => cases h2'
              refine rest ⟨g.ad, some (aa, pp), g.xt⟩ _ H' rfl ⟨by rw [List.length_set, List.length_set]; exact S2.len, fun j sl q => ?_, fun j hj => S2.out j (by rw [List.length_set] at hj; exact hj), S2.inj, fun j l y z q1 q2 => ?_, S2.frame, S2.old, fun a' p' q => ?_, fun b hb => S2.xt b (List.mem_cons_of_mem _ hb), fun b hb => S2.hz b (sub b hb), fun b o q => ⟨s _ _ (S1.pin b o q).1, (S1.pin b o q).2⟩⟩
              · by_cases hj : j = i
                · subst hj
                  rw [List.getElem?_set_self hc2] at q
                  cases q
                  exact ⟨adi, aa, pp, rfl, S2.in_len hc2, h2, h3⟩
                · rw [List.getElem?_set_ne (Ne.symm hj)] at q
                  have hσ : (σ.set i (some (V.ref aa)))[j]? = σ[j]? := List.getElem?_set_ne (Ne.symm hj)
                  have z := S2.slot j sl q
                  cases sl with
                  | emp => exact z
                  | im d' =>
                    obtain ⟨y1, v', y2, y3⟩ := z
                    exact ⟨y1, v', hσ.trans y2, y3.weak w⟩
                  | fr d' =>
                    obtain ⟨y1, v', y2, y3⟩ := z
                    exact ⟨y1, v', hσ.trans y2, y3.weak fun b zz m => zz.imp (fun zz => w b zz m) id⟩
                  | own es =>
                    obtain ⟨a', vs', y1, y2, y3, y4, y5, y6⟩ := z
                    exact ⟨a', vs', y1, hσ.trans y2, y3, y4, y5, y6.weak w⟩
                  | od ks es =>
                    obtain ⟨a', vs', y1, y2, y3, y4, y5, y6⟩ := z
                    exact ⟨a', vs', y1, hσ.trans y2, y3, y4, y5, y6.weak w⟩
                  | dr y => exact absurd q (nodr j y)
              · have pick : ∀ (m : Nat) (y : Dr), (Γ1.set i (.dr ⟨ns, ai, bi⟩) : List Slot)[m]? = some (Slot.dr y) → m = i := fun m y q => by
                  by_cases hm : m = i
                  · exact hm
                  · rw [List.getElem?_set_ne (Ne.symm hm)] at q
                    exact absurd q (nodr m y)
                rw [pick j y q1, pick l z q2]
              · cases q
                refine ⟨hne, fun j => ⟨(S2.xt aa List.mem_cons_self).1 j, fun z => ?_⟩, S1.notXt na, S1.notXt np, ⟨_, h2⟩, by rw [h3]; exact Option.some_ne_none _⟩
                obtain ⟨_, y, _⟩ := S1.own_at z
                rw [np] at y; cases y
  · cases hd
end
end DL
namespace DL
open PySem PySem.Spec PyProof.Rows L2
section
variable {T : Ks} {W : WX} {E : Addr → Prop} {H H' : Hp} {v : V} {d : D} {vs : List V} {ds : List D}
def tyOf : D → Option String
  | .non => some "NoneType"
  | .bl _ => some "bool"
  | .int _ => some "int"
  | .str _ => some "str"
  | .lst _ => some "list"
  | .fz _ => some "list"
  | .tup _ => some "tuple"
  | _ => none
theorem Rep.tyx {t : String} (r : Rep T.K E H v d) (e : tyOf d = some t) : TyX T.K H v (.type t) := by
  cases r with
  | non => cases e; exact .base .non
  | bl b => cases e; exact .base (.bl b)
  | int i => cases e; exact .base (.int i)
  | str x => cases e; exact .base (.str x)
  | tup h r =>
    cases e
    rcases h with (h | ⟨o, h⟩) | ⟨o, its, n, h1, h2, _⟩
    · exact .base (.tup h)
    · exact .fTuple h
    · exact .kTuple h1 h2
  | lst h n r => cases e; exact .base (.lst h)
  | fz h r => cases e; obtain ⟨o, h⟩ := h; exact .base (.frz h)
  | fl h n r => cases e; exact .base (.lst h)
  | fk h r => cases e; obtain ⟨o, its, n, h1, h2, _⟩ := h; exact .kList h1 h2
  | _ => cases e
def oIsi : List D → Option D
  | [d, .ty n] => (tyOf d).bind fun t => (kitB t n).map D.bl
  | _ => none
theorem cad_isi : CaD T (rIsi T.K) oIsi := fun E H xs ds z Q r e q => by
  unfold oIsi at e
  split at e
  · obtain ⟨t, e1, e2⟩ := Option.bind_eq_some_iff.mp e
    obtain ⟨b, e3, e4⟩ := Option.map_eq_some_iff.mp e2
    subst e4
    cases r with
    | cons r1 r2 =>
      cases r2 with
      | cons r2 r3 =>
        cases r3; cases r2
        exact ⟨_, _, _, _, b, rfl, .ty _, r1.tyx e1, kit_ty e3, q _ _ (Same.refl _) (.bl b)⟩
  · cases e
end
end DL
namespace DL
open PySem PySem.Spec PyProof.Rows L2
/-- x is True, x is False: any flat x -/
def rIsTF : R2 := fun x y H Q => ∃ b : Bool, y = .bl b ∧ flatV x = true ∧ Q (.bl (decide (x = .bl b))) H
theorem op_isTF {X : Cx} : OpR X (compareOp .Is) rIsTF := by
  intro pins s σ H x y v u Q I rx ry h
  obtain ⟨b, rfl, hf, q⟩ := h
  cases (show u = Value.bool b from ry)
  cases x with
  | non =>
    cases (show v = Value.none from rx)
    exact wpAny_is_other rfl (fun z => nomatch z) ⟨.bl false, H, I, rfl, by simpa using q⟩
  | bl a =>
    cases (show v = Value.bool a from rx)
    by_cases e : a = b
    · subst e
      exact wpAny_is_self rfl ⟨.bl true, H, I, rfl, by simpa using q⟩
    · exact wpAny_is_other rfl (fun z => e (Value.bool.inj z)) ⟨.bl false, H, I, rfl, by simpa [e] using q⟩
  | int i =>
    obtain ⟨t, e⟩ := (show ∃ t, v = Value.int i t from rx)
    subst e
    exact wpAny_is_other rfl (fun z => nomatch z) ⟨.bl false, H, I, rfl, by simpa using q⟩
  | str i =>
    obtain ⟨t, e⟩ := (show ∃ t, v = Value.str i t from rx)
    subst e
    exact wpAny_is_other rfl (fun z => nomatch z) ⟨.bl false, H, I, rfl, by simpa using q⟩
  | _ => cases hf
section
variable {T : Ks}
def oIsTF (x y : D) : Option D := match y with
  | .bl b => (flatD x).map fun v => .bl (decide (v = .bl b))
  | _ => none
theorem opd_isTF : OpD T rIsTF oIsTF := fun E H x y dx dy z Q r1 r2 e q => by
  unfold oIsTF at e
  split at e
  · obtain ⟨v, e1, e2⟩ := Option.map_eq_some_iff.mp e
    subst e2
    obtain ⟨h1, h2⟩ := r1.flat e1
    subst h1
    cases r2
    exact ⟨_, rfl, h2, q _ _ (Same.refl _) (.bl _)⟩
  · cases e
end
end DL

set_option Elab.async false
set_option linter.all false
set_option maxRecDepth 100000
/-! data layer, part o: class constants, list(x) of both kinds, the law's own end -/
namespace DL
open PySem PySem.Spec PyProof.Rows L2
section
variable {T : Ks} {W : WX} {c : Ct} {g g' : Gh} {Γ Γ' : Nv} {σ σ' : L2.St} {H H' : Hp} {v : V} {d : D} {k : Lq} {t u : TS} {te : TE} {f h : SF} {fe : EF D} {De : Ends} {a b : Addr} {vs ws : List V} {ds es : List D}
/-- list(x), x a list, a tuple or an instance of C that walks its field f -/
def oListP (C : Addr) (f : Str) (ds : List D) : Option (List D) := match ds with
    | [.ins C' [n] [.lst zs]] => if C' = C ∧ n = f ∧ nolsts zs = true then some zs else none
    | ds => oList ds
theorem cao_listQ {C : Addr} {f : Str} : CaO T (fun xs H Q => rListOf T.K xs H Q ∨ rListS C f xs H Q) (oListP C f) := cao_listP
/-- a constant of a class -/
theorem de_cval {C : Addr} {mc : Value} {f : Str} {w : V} {z : D} {uv : Value} (r : ClX.CRead T.K C mc) (q : ClX.CVal T.K C mc f w uv) (hz : ∀ (E : Addr → Prop) H, Rep T.K E H w z) : DE T W k (ClX.tCVal T.K (tC (.ref C)) f) (dC z) := fun c g Γ σ H Q S p =>
  ⟨C, mc, w, uv, rfl, r, q, p w H S Keep.refl (hz _ _)⟩
/-! ### the law -/
def spLaw (K : PySem.W.Frag) : Sp := fun vs H Q _ => ∃ (a : Addr) (ns : List Int), vs = [.ref a] ∧ SqL K H a (ns.map V.int) ∧ ns.length ≤ 63 ∧ ∀ H', Q (.bl true) H'
theorem rep_script {E : Addr → Prop} {ns : List Int} (h : SqL T.K H a (ns.map V.int)) (hE : ¬ E a) : Rep T.K E H (.ref a) (.fz (ns.map D.int)) := by
  rcases h with (h | h) | h
  · exact .fl h hE (Reps.ints ns)
  · exact .fz h (Reps.ints ns)
  · exact .fk h (Reps.ints ns)
theorem law_fin {X : Cx} {body : List Stmt} {t2 : TS} {f2 : SF} {Fp : List D → R Err D} {N : List Str} {m : Nat} {Q : VK} {E E' : XK} (ps : PSs X body (tSeq (tAsg (tCall (spP T 1 Fp) [] E (tCons (tVar 0) tNil)) (gName 1)) t2)) (b : DS T (fun _ _ _ _ => False) t2 f2) (hN : N.length = 2 + m)
    (hmain : ∀ ns : List Int, ns.length ≤ 63 → ∃ d x Γ', Fp [.fz (ns.map D.int)] = .ok d ∧ drOf d = some x ∧ f2 (Slot.im (.fz (ns.map D.int)) :: Slot.dr x :: List.replicate m .emp) = .ok (.rt (.bl true), Γ')) (h : spLaw T.K vs H Q E') :
    ∃ t, PSs X body t ∧ t { nx := fun _ H' => Q .non H', rt := Q } (L2.start N vs) H := by
  refine ⟨_, ps, ?_⟩
  obtain ⟨a, ns, rfl, hs, hl, hq⟩ := h
  obtain ⟨d, x, Γ', e1, e2, e3⟩ := hmain ns hl
  have S : Sim T { H0 := H, Hz := H } ⟨fun _ => none, none, []⟩ ([D.fz (ns.map D.int)].map Slot.im ++ List.replicate (m + 1) .emp) (L2.start N [.ref a]) H := sim_start (E := fun _ => False) (n := 1) (.cons (rep_script hs (fun z => z)) .nil) rfl (by omega)
  have hz : (Slot.im (.fz (ns.map D.int)) :: Slot.dr x :: List.replicate m Slot.emp) = ([D.fz (ns.map D.int)].map Slot.im ++ List.replicate (m + 1) Slot.emp).set 1 (.dr x) := rfl
  refine mk_dr (W := fun _ _ _ _ => False) (n := 1) (d := d) (x := x) (ds := [.fz (ns.map D.int)]) (Γ1 := [D.fz (ns.map D.int)].map Slot.im ++ List.replicate (m + 1) .emp) (ka := .W) (da_cons (W := fun _ _ _ _ => False) (k := .W) (de_v (i := 0)) da_nil) S rfl rfl e1 e2 rfl ⟨?_, ?_, rfl⟩ fun g' σ' H' _ S' => ?_
  · unfold noDr
    rw [List.all_eq_true]
    intro s hs
    rcases List.mem_append.mp hs with h | h
    · simp at h; subst h; rfl
    · have := List.eq_of_mem_replicate h; subst this; rfl
  · simp
  · refine b _ g' _ σ' H' _ S' ?_
    rw [← hz, e3]
    intro g2 v σ2 H2 _ _ r
    cases r
    exact hq H2
end
end DL

set_option Elab.async false
set_option linter.all false
set_option maxRecDepth 100000
/-! data layer, part p: a class of the text as it stands behind the top -/
namespace DL
open PySem PySem.Spec PyProof.Rows L2
/-- a method of the text -/
structure MethAt (K : PySem.W.Frag) (C : Addr) (m q : Str) (st : Stmt) (ps : List Str) where
  f : Addr
  fd : FuncData
  F : Fun K m q st f fd
  at_ : PySem.W.findIn K (.ref C) m = some (some (.ref f))
  fn : PySem.W.isFn K (.ref f) = true
  b : Binds K fd ps []
structure ClassAt (K : PySem.W.Frag) (mg : Str → Option Value) (x : Str) where
  C : Addr
  m : mg x = some (.ref C)
  cls : Cls K C
  mks : PySem.W.makesIn K C = true
  kp : PySem.W.keepIn K (.ref C) = true
theorem mk_at {K : PySem.W.Frag} {mg : Str → Option Value} {x q : Str} {st : Stmt} {ps : List Str} (c : ClassAt K mg x) (i : MethAt K c.C "__init__" q st ps) : Mk K c.C i.f := ⟨c.mks, i.at_, i.fn, c.kp⟩
/-- .. whose last parameters have defaults -/
structure MethAtD (K : PySem.W.Frag) (C : Addr) (m q : Str) (st : Stmt) (ps : List Str) where
  f : Addr
  fd : FuncData
  dvs : List V
  F : FunD K m q (defArgs st) (defBody st) (defScope st) dvs [] f fd
  at_ : PySem.W.findIn K (.ref C) m = some (some (.ref f))
  fn : PySem.W.isFn K (.ref f) = true
  b : Binds K fd ps []
theorem mk_atD {K : PySem.W.Frag} {mg : Str → Option Value} {x q : Str} {st : Stmt} {ps : List Str} (c : ClassAt K mg x) (i : MethAtD K c.C "__init__" q st ps) : Mk K c.C i.f := ⟨c.mks, i.at_, i.fn, c.kp⟩
theorem fun_mkD {K : PySem.W.Frag} {x qual : Str} {st : Stmt} {f dT : Addr} {oc ocT : Value} {od odT an : Option Addr} {osl slT : Array (Option Value)} {kV doc pm cdv ct : Value} {dvs : List V} {its : List Value} {nT : Nat} (l : K.lookup f = some ⟨oc, od, .func (PySem.W.fnOf x qual (defArgs st) (defBody st) (defScope st) (.ref dT) kV doc pm an cdv ct), osl⟩)
    (c : PySem.W.codeIn K cdv qual = true) (k : PySem.W.keepIn K (.ref f) = true) (hd : dvs ≠ []) (lT : K.lookup dT = some ⟨ocT, odT, .seq its.toArray nT, slT⟩) (r : Vals dvs its) :
    FunD K x qual (defArgs st) (defBody st) (defScope st) dvs [] f (PySem.W.fnOf x qual (defArgs st) (defBody st) (defScope st) (.ref dT) kV doc pm an cdv ct) :=
  ⟨⟨oc, od, .ref dT, kV, doc, pm, an, cdv, ct, osl, rfl, l, c, .inr ⟨hd, dT, _, its, nT, rfl, lT, rfl, r⟩, .inl rfl⟩, k⟩
theorem okD {P : Program} {w : World} {K : PySem.W.Frag} {mg : Str → Option Value} {base : Heap} {x qual : Str} {st : Stmt} {f : Addr} {fd : FuncData} {dvs : List V} {N ps : List Str} {k : Nat} {sp : Sp} (F : FunD K x qual (defArgs st) (defBody st) (defScope st) dvs [] f fd) (S : FnScope N ps (defScope st)) (len : ∀ vs H Q E, sp vs H Q E → vs.length = ps.length)
    (hbody : ∀ (cdv : Value) (A : Around) (outer : List Env) (s : Shared) (H : Hp) (vs : List V) (Q : VK) (E : XK), Room k (A.deeper (envOfC qual (defScope st) s.heap.objs.size f cdv)) → sp vs H Q E →
      ∃ t, PSs (cxOf CX0 P w K mg base N qual (defScope st) f cdv A outer s H E).nox (defBody st) t ∧ t { nx := fun _ H' => Q .non H', rt := Q } (start N vs) H) : FnOk P w K mg base CX0 (k + 1) f fd ps sp :=
  F.ok S len fun cdv A outer s H vs Q E hr hsp => by
    obtain ⟨t, h, q⟩ := hbody cdv A outer s H vs Q E hr hsp
    exact ⟨t, h.nox, q⟩
theorem binds_all {K : PySem.W.Frag} {x qual : Str} {params : Arguments} {body : List Stmt} {scope : Scope} {dvs : List V} {f : Addr} {fd : FuncData} {ps : List Str} {n : Nat} (F : FunD K x qual params body scope dvs [] f fd) (hd : dvs ≠ []) (hn : dvs.length = n)
    (h : ∀ (T : Addr) (kV doc pm : Value) (an : Option Addr) (cdv ct : Value) (us its : List Value), us.length = ps.length → its.length = n →
      ∃ k, bindArgs (PySem.W.fnOf x qual params body scope (.ref T) kV doc pm an cdv ct) ⟨us, []⟩ = seqItems? (.ref T) >>= k ∧ k (some its.toArray) = pure (ps.zip us)) : Binds K fd ps [] := by
  obtain ⟨ds, h1, h2⟩ := F.binds1 ps.length n hd (by rw [hn, Nat.sub_self]; rfl) (fun T kV doc pm an cdv ct us its l1 l2 => by
    obtain ⟨k, e1, e2⟩ := h T kV doc pm an cdv ct us its l1 (l2.trans hn)
    refine ⟨k, e1, ?_⟩
    rw [e2, List.drop_of_length_le (by rw [l2, hn]; exact Nat.le_refl _), List.append_nil])
  rw [List.drop_of_length_le (by rw [hn]; exact Nat.le_refl _)] at h1
  cases h1
  exact h2
theorem meth_at {K : PySem.W.Frag} {C : Addr} {m q : Str} {st : Stmt} {ps : List Str} (i : MethAt K C m q st ps) : Meth K C m i.f := ⟨i.at_, i.fn, i.F.kp⟩
theorem seqc_at {K : PySem.W.Frag} {C : Addr} {q q' : Str} {st st' : Stmt} {ps ps' : List Str} (i : MethAt K C "__iter__" q st ps) (l : MethAt K C "__len__" q' st' ps') : SeqC K C i.f l.f := ⟨i.at_, i.fn, l.at_, l.fn⟩
theorem spIt_len {C : Addr} {f : Str} {vs : List V} {H : Hp} {Q : VK} {E : XK} (h : spIt C f vs H Q E) : vs.length = 1 := by
  obtain ⟨_, _, _, _, _, rfl, _⟩ := h; rfl
theorem spLn_len {C : Addr} {f : Str} {vs : List V} {H : Hp} {Q : VK} {E : XK} (h : spLn C f vs H Q E) : vs.length = 1 := by
  obtain ⟨_, _, _, _, _, rfl, _⟩ := h; rfl
theorem it_fin {X : Cx} {body : List Stmt} {C : Addr} {f s : Str} {vs : List V} {H : Hp} {Q : VK} {E : XK} (hC : Cls X.K C) (hA : NoAttr X.K C f) (ps : PSs X body (tRet (tCB (rIter X.K) (tCons (tFld X.K (tVar 0) f) tNil)))) (h : spIt C f vs H Q E) :
    ∃ t, PSs X body t ∧ t { nx := fun _ H' => Q .non H', rt := Q } (L2.start [s] vs) H := by
  refine ⟨_, ps, ?_⟩
  obtain ⟨a, dx, fs, l, zs, rfl, ha, hf, hl, hq⟩ := h
  exact ⟨_, rfl, a, C, dx, fs, _, rfl, ha, hC, hA, hf, l, zs, rfl, SqL.of hl, hq⟩
theorem ln_fin {X : Cx} {body : List Stmt} {C : Addr} {f s : Str} {vs : List V} {H : Hp} {Q : VK} {E : XK} (hC : Cls X.K C) (hA : NoAttr X.K C f) (ps : PSs X body (tRet (tCB (fun xs H Q => ∃ x n, xs = [x] ∧ LenV X.K x H n ∧ Q (.int n) H) (tCons (tFld X.K (tVar 0) f) tNil)))) (h : spLn C f vs H Q E) :
    ∃ t, PSs X body t ∧ t { nx := fun _ H' => Q .non H', rt := Q } (L2.start [s] vs) H := by
  refine ⟨_, ps, ?_⟩
  obtain ⟨a, dx, fs, l, zs, rfl, ha, hf, hl, hq⟩ := h
  exact ⟨_, rfl, a, C, dx, fs, _, rfl, ha, hC, hA, hf, .ref l, zs.length, rfl, .inl ⟨_, SqL.of hl, rfl⟩, hq⟩
/-- .. an __init__ that gives G, where G gives anything -/
theorem fin_I {X : Cx} {T : Ks} {C : Addr} {nf : List Str} {t : TS} {Fb : Nv → List D → R Err (List D)} {G : List D → R Err (List D)} {body : List Stmt} {N : List Str} {n m : Nat} {vs : List V} {H : Hp} {Q : VK} {E : XK} (ps : PSs X body t) (b : FOk T (fun cls dd _ H => E cls dd H) C [] nf t Fb) (hN : N.length = n + 1 + m)
    (hG : ∀ x ds, ds.length = n → G ds ≠ .bad → fnI n m x Fb ds = G ds) (h : spI T C nf n G vs H Q E) :
    ∃ t, PSs X body t ∧ t { nx := fun _ H' => Q .non H', rt := Q } (L2.start N vs) H := ⟨t, ps, body_I b hN hG h⟩
end DL
namespace DL
open PySem PySem.Spec PyProof.Rows L2
theorem spLaw_len {K : PySem.W.Frag} {vs : List V} {H : Hp} {Q : VK} {E : XK} (h : spLaw K vs H Q E) : vs.length = 1 := by
  obtain ⟨_, _, rfl, _⟩ := h; rfl
end DL

set_option Elab.async false
set_option linter.all false
set_option maxRecDepth 100000
/-! data layer, part q: how what a text computes is reckoned -/
namespace DL
open PySem PySem.Spec PyProof.Rows L2
section
variable {Γ Γ' : Nv} {i j n m : Nat} {d e : D} {ds es : List D} {f h k : EF D} {fs : EF (List D)} {a b : EF Bool} {p q : SF} {x : Dr}
@[simp] theorem ev_V : dV i Γ = match Γ[i]? with | some (.im d) => .ok (d, Γ) | some (.fr d) => .ok (d, Γ) | some (.own ds) => .ok (.lst ds, Γ) | some (.od ks ds) => .ok (.dct ks ds, Γ) | _ => .bad := eq_of rfl
@[simp] theorem ev_VF : dVF i Γ = match Γ[i]? with | some (.fr d) => .ok (d, Γ) | _ => .bad := eq_of rfl
@[simp] theorem ev_VS : dVS i Γ = match Γ[i]? with | some (.im d) => .ok (d, Γ) | some (.fr d) => .ok (d, Γ) | _ => .bad := eq_of rfl
@[simp] theorem ev_C : dC d Γ = .ok (d, Γ) := eq_of rfl
@[simp] theorem ev_Nil : dNil Γ = .ok ([], Γ) := eq_of rfl
@[simp] theorem ev_Nx : dNx Γ = .ok (.nx, Γ) := eq_of rfl
@[simp] theorem ev_Bk : dBk Γ = .ok (.bk, Γ) := eq_of rfl
@[simp] theorem ev_Ct : dCt Γ = .ok (.ct, Γ) := eq_of rfl
@[simp] theorem ev_Bad : dBad Γ = .bad := eq_of rfl
@[simp] theorem ev_RetN : dRetN Γ = .ok (.rt .non, Γ) := eq_of rfl
@[simp] theorem ev_gN : dgN i d Γ = some (Γ.set i (.im d)) := eq_of rfl
@[simp] theorem ev_gsNil : dgsNil [] Γ = some Γ := eq_of rfl
@[simp] theorem ev_gsCons {g : D → Nv → Option Nv} {gs : List D → Nv → Option Nv} : dgsCons g gs (d :: ds) Γ = (g d Γ).bind (gs ds) := eq_of rfl
@[simp] theorem ev_gT {gs : List D → Nv → Option Nv} : dgT gs (.tup ds) Γ = gs ds Γ := eq_of rfl
@[simp] theorem ev_Yes : dYes Γ = .ok (true, Γ) := eq_of rfl
@[simp] theorem ev_Frz : dFrz i p Γ = p (frz i Γ) := eq_of rfl
@[simp] theorem ev_NoP : dNoP Γ = .ok (none, Γ) := eq_of rfl
def nnK (x : D × Nv) : R (Err × Nv) (D × Nv) := if nolst x.1 then .ok (x.1, x.2) else .bad
@[simp] theorem ev_nn : dN f Γ = (f Γ).bind (nnK) := eq_of rfl
@[simp] theorem ev_nnK {d : D} : nnK (d, Γ) = if nolst d then .ok (d, Γ) else .bad := eq_of rfl
def opL (o : D → D → Option D) (c : D) (x : D × Nv) : R (Err × Nv) (D × Nv) := liftO (o c x.1) x.2
@[simp] theorem ev_opL {o : D → D → Option D} {c d : D} : opL o c (d, Γ) = liftO (o c d) Γ := eq_of rfl
def opK (o : D → D → Option D) (h : EF D) (x : D × Nv) : R (Err × Nv) (D × Nv) := (h x.2).bind (opL o x.1)
@[simp] theorem ev_op {o : D → D → Option D} : dOp o f h Γ = (f Γ).bind (opK o h) := eq_of rfl
@[simp] theorem ev_opK (o : D → D → Option D) (h : EF D) {d : D} : opK o h (d, Γ) = (h Γ).bind (opL o d) := eq_of rfl
def unK (o : D → Option D) (x : D × Nv) : R (Err × Nv) (D × Nv) := liftO (o x.1) x.2
@[simp] theorem ev_un {o : D → Option D} : dUn o f Γ = (f Γ).bind (unK o) := eq_of rfl
@[simp] theorem ev_unK (o : D → Option D) {d : D} : unK o (d, Γ) = liftO (o d) Γ := eq_of rfl
def cbK (o : List D → Option D) (x : List D × Nv) : R (Err × Nv) (D × Nv) := liftO (o x.1) x.2
@[simp] theorem ev_cb {o : List D → Option D} : dCB o fs Γ = (fs Γ).bind (cbK o) := eq_of rfl
@[simp] theorem ev_cbK (o : List D → Option D) {ds : List D} : cbK o (ds, Γ) = liftO (o ds) Γ := eq_of rfl
def consL (c : D) (x : List D × Nv) : R (Err × Nv) (List D × Nv) := .ok (c :: x.1, x.2)
@[simp] theorem ev_consL {c : D} {ds : List D} : consL c (ds, Γ) = .ok (c :: ds, Γ) := eq_of rfl
def consK (fs : EF (List D)) (x : D × Nv) : R (Err × Nv) (List D × Nv) := (fs x.2).bind (consL x.1)
@[simp] theorem ev_cons : dCons f fs Γ = (f Γ).bind (consK fs) := eq_of rfl
@[simp] theorem ev_consK (fs : EF (List D)) {d : D} : consK fs (d, Γ) = (fs Γ).bind (consL d) := eq_of rfl
def tupK (x : List D × Nv) : R (Err × Nv) (D × Nv) := if x.1.length ≤ sizeLine then .ok (.tup x.1, x.2) else .bad
@[simp] theorem ev_tup : dTup fs Γ = (fs Γ).bind (tupK) := eq_of rfl
@[simp] theorem ev_tupK {ds : List D} : tupK (ds, Γ) = if ds.length ≤ sizeLine then .ok (.tup ds, Γ) else .bad := eq_of rfl
def lstK (x : List D × Nv) : R (Err × Nv) (D × Nv) := if x.1.length ≤ sizeLine then .ok (.lst x.1, x.2) else .bad
@[simp] theorem ev_lstE : dLst fs Γ = (fs Γ).bind (lstK) := eq_of rfl
@[simp] theorem ev_lstK {ds : List D} : lstK (ds, Γ) = if ds.length ≤ sizeLine then .ok (.lst ds, Γ) else .bad := eq_of rfl
def boolK (x : D × Nv) : R (Err × Nv) (Bool × Nv) := match x.1 with | .bl b => .ok (b, x.2) | _ => .bad
@[simp] theorem ev_Bool : dBool f Γ = (f Γ).bind boolK := eq_of rfl
@[simp] theorem ev_boolK {b : Bool} : boolK (.bl b, Γ) = .ok (b, Γ) := eq_of rfl
def truK (x : D × Nv) : R (Err × Nv) (Bool × Nv) := match truD x.1 with | some b => .ok (b, x.2) | none => .bad
@[simp] theorem ev_Tru : dTru f Γ = (f Γ).bind truK := eq_of rfl
@[simp] theorem ev_truK : truK (d, Γ) = match truD d with | some b => .ok (b, Γ) | none => .bad := eq_of rfl
def andK (b : EF Bool) (x : Bool × Nv) : R (Err × Nv) (Bool × Nv) := if x.1 then b x.2 else .ok (false, x.2)
@[simp] theorem ev_and : dAnd a b Γ = (a Γ).bind (andK b) := eq_of rfl
@[simp] theorem ev_andK (b : EF Bool) {c : Bool} : andK b (c, Γ) = if c then b Γ else .ok (false, Γ) := eq_of rfl
def orK (b : EF Bool) (x : Bool × Nv) : R (Err × Nv) (Bool × Nv) := if x.1 then .ok (true, x.2) else b x.2
@[simp] theorem ev_or : dOr a b Γ = (a Γ).bind (orK b) := eq_of rfl
@[simp] theorem ev_orK (b : EF Bool) {c : Bool} : orK b (c, Γ) = if c then .ok (true, Γ) else b Γ := eq_of rfl
def notK (x : Bool × Nv) : R (Err × Nv) (Bool × Nv) := .ok (!x.1, x.2)
@[simp] theorem ev_not : dNot a Γ = (a Γ).bind (notK) := eq_of rfl
@[simp] theorem ev_notK {c : Bool} : notK (c, Γ) = .ok (!c, Γ) := eq_of rfl
def ifK (f h : EF D) (x : Bool × Nv) : R (Err × Nv) (D × Nv) := if x.1 then f x.2 else h x.2
@[simp] theorem ev_if : dIf a f h Γ = (a Γ).bind (ifK f h) := eq_of rfl
@[simp] theorem ev_ifK (f h : EF D) {c : Bool} : ifK f h (c, Γ) = if c then f Γ else h Γ := eq_of rfl
def andvK (h : EF D) (x : D × Nv) : R (Err × Nv) (D × Nv) := match x.1 with | .bl b => if b then h x.2 else .ok (.bl false, x.2) | _ => .bad
@[simp] theorem ev_AndV : dAndV f h Γ = (f Γ).bind (andvK h) := eq_of rfl
@[simp] theorem ev_andvK {b : Bool} : andvK h (.bl b, Γ) = if b then h Γ else .ok (.bl false, Γ) := eq_of rfl
def orvK (h : EF D) (x : D × Nv) : R (Err × Nv) (D × Nv) := match x.1 with | .bl b => if b then .ok (.bl true, x.2) else h x.2 | _ => .bad
@[simp] theorem ev_OrV : dOrV f h Γ = (f Γ).bind (orvK h) := eq_of rfl
@[simp] theorem ev_orvK {b : Bool} : orvK h (.bl b, Γ) = if b then .ok (.bl true, Γ) else h Γ := eq_of rfl
def seqK (q : SF) (x : Fl × Nv) : R (Err × Nv) (Fl × Nv) := match x.1 with | .nx => q x.2 | _ => .ok x
@[simp] theorem ev_Seq : dSeq p q Γ = (p Γ).bind (seqK q) := eq_of rfl
@[simp] theorem ev_seq1 : seqK q (.nx, Γ) = q Γ := eq_of rfl
@[simp] theorem ev_seq2 : seqK q (.rt d, Γ) = .ok (.rt d, Γ) := eq_of rfl
@[simp] theorem ev_seq3 : seqK q (.bk, Γ) = .ok (.bk, Γ) := eq_of rfl
@[simp] theorem ev_seq4 : seqK q (.ct, Γ) = .ok (.ct, Γ) := eq_of rfl
def dropK (x : D × Nv) : R (Err × Nv) (Fl × Nv) := .ok (.nx, x.2)
@[simp] theorem ev_drop : dDrop f Γ = (f Γ).bind (dropK) := eq_of rfl
@[simp] theorem ev_dropK {d : D} : dropK (d, Γ) = .ok (.nx, Γ) := eq_of rfl
def retK (x : D × Nv) : R (Err × Nv) (Fl × Nv) := .ok (.rt x.1, x.2)
@[simp] theorem ev_ret : dRet f Γ = (f Γ).bind (retK) := eq_of rfl
@[simp] theorem ev_retK {d : D} : retK (d, Γ) = .ok (.rt d, Γ) := eq_of rfl
def ifSK (p q : SF) (x : Bool × Nv) : R (Err × Nv) (Fl × Nv) := if x.1 then p x.2 else q x.2
@[simp] theorem ev_ifS : dIfS a p q Γ = (a Γ).bind (ifSK p q) := eq_of rfl
@[simp] theorem ev_ifSK (p q : SF) {c : Bool} : ifSK p q (c, Γ) = if c then p Γ else q Γ := eq_of rfl
def asgK (i : Nat) (x : D × Nv) : R (Err × Nv) (Fl × Nv) := .ok (.nx, x.2.set i (.fr x.1))
@[simp] theorem ev_asg : dAsg i f Γ = (f Γ).bind (asgK i) := eq_of rfl
@[simp] theorem ev_asgK (i : Nat) {d : D} : asgK i (d, Γ) = .ok (.nx, Γ.set i (.fr d)) := eq_of rfl
def asgSK (i : Nat) (x : D × Nv) : R (Err × Nv) (Fl × Nv) := .ok (.nx, x.2.set i (.im x.1))
@[simp] theorem ev_asgS : dAsgS i f Γ = (f Γ).bind (asgSK i) := eq_of rfl
@[simp] theorem ev_asgSK (i : Nat) {d : D} : asgSK i (d, Γ) = .ok (.nx, Γ.set i (.im d)) := eq_of rfl
def asgGK (g : D → Nv → Option Nv) (x : D × Nv) : R (Err × Nv) (Fl × Nv) := match g x.1 x.2 with | some Y => .ok (.nx, Y) | none => .bad
@[simp] theorem ev_asgG {g : D → Nv → Option Nv} : dAsgG g f Γ = (f Γ).bind (asgGK g) := eq_of rfl
@[simp] theorem ev_asgGK (g : D → Nv → Option Nv) {d : D} : asgGK g (d, Γ) = match g d Γ with | some Y => .ok (.nx, Y) | none => .bad := eq_of rfl
def llK (x : List D × Nv) : R (Err × Nv) (D × Nv) := .ok (.lst x.1, x.2)
@[simp] theorem ev_ll : dL fs Γ = (fs Γ).bind (llK) := eq_of rfl
@[simp] theorem ev_llK {ds : List D} : llK (ds, Γ) = .ok (.lst ds, Γ) := eq_of rfl
def ownK (i : Nat) (x : List D × Nv) : R (Err × Nv) (Fl × Nv) := if nolsts x.1 = true ∧ i < x.2.length then .ok (.nx, x.2.set i (.own x.1)) else .bad
@[simp] theorem ev_own : dOwn i fs Γ = (fs Γ).bind (ownK i) := eq_of rfl
@[simp] theorem ev_ownK (i : Nat) {ds : List D} : ownK i (ds, Γ) = if nolsts ds = true ∧ i < Γ.length then .ok (.nx, Γ.set i (.own ds)) else .bad := eq_of rfl
def lstOK (x : List D × Nv) : R (Err × Nv) (List D × Nv) := if x.1.length ≤ sizeLine then .ok (x.1, x.2) else .bad
@[simp] theorem ev_lstO : dLstO fs Γ = (fs Γ).bind (lstOK) := eq_of rfl
@[simp] theorem ev_lstOK {ds : List D} : lstOK (ds, Γ) = if ds.length ≤ sizeLine then .ok (ds, Γ) else .bad := eq_of rfl
def cbOK (o : List D → Option (List D)) (x : List D × Nv) : R (Err × Nv) (List D × Nv) := liftL (o x.1) x.2
@[simp] theorem ev_cbO {o : List D → Option (List D)} : dCBO o fs Γ = (fs Γ).bind (cbOK o) := eq_of rfl
@[simp] theorem ev_cbOK (o : List D → Option (List D)) {ds : List D} : cbOK o (ds, Γ) = liftL (o ds) Γ := eq_of rfl
def opOL (o : D → D → Option (List D)) (c : D) (x : D × Nv) : R (Err × Nv) (List D × Nv) := liftL (o c x.1) x.2
@[simp] theorem ev_opOL {o : D → D → Option (List D)} {c d : D} : opOL o c (d, Γ) = liftL (o c d) Γ := eq_of rfl
def opOK (o : D → D → Option (List D)) (h : EF D) (x : D × Nv) : R (Err × Nv) (List D × Nv) := (h x.2).bind (opOL o x.1)
@[simp] theorem ev_opO {o : D → D → Option (List D)} : dOpO o f h Γ = (f Γ).bind (opOK o h) := eq_of rfl
@[simp] theorem ev_opOK (o : D → D → Option (List D)) (h : EF D) {d : D} : opOK o h (d, Γ) = (h Γ).bind (opOL o d) := eq_of rfl
def setL (i : Nat) (c : D) (x : D × Nv) : R (Err × Nv) (Fl × Nv) := match setAt i c x.1 x.2 with | some Y => .ok (.nx, Y) | none => .bad
@[simp] theorem ev_setL {c d : D} : setL i c (d, Γ) = match setAt i c d Γ with | some Y => .ok (.nx, Y) | none => .bad := eq_of rfl
def setIK (i : Nat) (f : EF D) (x : D × Nv) : R (Err × Nv) (Fl × Nv) := if isRef x.2[i]? = true then (f x.2).bind (setL i x.1) else .bad
@[simp] theorem ev_setI : dSetI i f h Γ = (h Γ).bind (setIK i f) := eq_of rfl
@[simp] theorem ev_setIK (i : Nat) (f : EF D) {d : D} : setIK i f (d, Γ) = if isRef Γ[i]? = true then (f Γ).bind (setL i d) else .bad := eq_of rfl
def appK (i : Nat) (x : D × Nv) : R (Err × Nv) (Fl × Nv) := match x.2[i]? with | some (.own ds) => if nolst x.1 = true ∧ ds.length < sizeLine then .ok (.nx, x.2.set i (.own (ds ++ [x.1]))) else .bad | _ => .bad
@[simp] theorem ev_appK (i : Nat) {d : D} : appK i (d, Γ) = match Γ[i]? with | some (.own ds) => if nolst d = true ∧ ds.length < sizeLine then .ok (.nx, Γ.set i (.own (ds ++ [d]))) else .bad | _ => .bad := eq_of rfl
@[simp] theorem ev_App : dApp i f Γ = if isRef Γ[i]? = true then (f Γ).bind (appK i) else .bad := eq_of rfl
def walkK (x : D × Nv) : R (Err × Nv) (List D × Nv) := liftL (lstOf x.1) x.2
@[simp] theorem ev_walk : dWalk f Γ = (f Γ).bind (walkK) := eq_of rfl
@[simp] theorem ev_walkK {d : D} : walkK (d, Γ) = liftL (lstOf d) Γ := eq_of rfl
def walkTK (x : D × Nv) : R (Err × Nv) (List D × Nv) := liftL (tupOf x.1) x.2
@[simp] theorem ev_walkT : dWalkT f Γ = (f Γ).bind (walkTK) := eq_of rfl
@[simp] theorem ev_walkTK {d : D} : walkTK (d, Γ) = liftL (tupOf d) Γ := eq_of rfl
def rgK (o : List D → Option (List D)) (x : List D × Nv) : R (Err × Nv) (List D × Nv) := liftL (o x.1) x.2
@[simp] theorem ev_rg {o : List D → Option (List D)} : dRg o fs Γ = (fs Γ).bind (rgK o) := eq_of rfl
@[simp] theorem ev_rgK (o : List D → Option (List D)) {ds : List D} : rgK o (ds, Γ) = liftL (o ds) Γ := eq_of rfl
def forK (g : D → Nv → Option Nv) (p : SF) (x : List D × Nv) : R (Err × Nv) (Fl × Nv) := dLoop g p x.1 x.2
@[simp] theorem ev_for {g : D → Nv → Option Nv} : dFor fs g p Γ = (fs Γ).bind (forK g p) := eq_of rfl
@[simp] theorem ev_forK (g : D → Nv → Option Nv) (p : SF) {ds : List D} : forK g p (ds, Γ) = dLoop g p ds Γ := eq_of rfl
def callK (F : List D → R Err D) (es : List D) (x : List D × Nv) : R (Err × Nv) (D × Nv) := match F (x.1 ++ es) with | .ok d => .ok (d, x.2) | _ => .bad
@[simp] theorem ev_call {F : List D → R Err D} : dCall F es fs Γ = (fs Γ).bind (callK F es) := eq_of rfl
@[simp] theorem ev_callK (F : List D → R Err D) (es : List D) {ds : List D} : callK F es (ds, Γ) = match F (ds ++ es) with | .ok d => .ok (d, Γ) | _ => .bad := eq_of rfl
def callOK (F : List D → R Err D) (es : List D) (x : List D × Nv) : R (Err × Nv) (List D × Nv) := match F (x.1 ++ es) with | .ok (.lst z) => .ok (z, x.2) | _ => .bad
@[simp] theorem ev_callO {F : List D → R Err D} : dCallO F es fs Γ = (fs Γ).bind (callOK F es) := eq_of rfl
@[simp] theorem ev_callOK (F : List D → R Err D) (es : List D) {ds : List D} : callOK F es (ds, Γ) = match F (ds ++ es) with | .ok (.lst z) => .ok (z, Γ) | _ => .bad := eq_of rfl
def callDK  (i : Nat) (F : Dr → List D → R Err (D × Dr)) (x : List D × Nv) : R (Err × Nv) (D × Nv) := match x.2[i]? with | some (.dr x') => (match F x' x.1 with | .ok (d, y) => .ok (d, x.2.set i (.dr y)) | _ => .bad) | _ => .bad
@[simp] theorem ev_callDK  (i : Nat) (F : Dr → List D → R Err (D × Dr)) {ds : List D} : callDK i F (ds, Γ) = match Γ[i]? with | some (.dr x') => (match F x' ds with | .ok (d, y) => .ok (d, Γ.set i (.dr y)) | _ => .bad) | _ => .bad := eq_of rfl
def callDOK  (i : Nat) (F : Dr → List D → R Err (D × Dr)) (x : List D × Nv) : R (Err × Nv) (List D × Nv) := match x.2[i]? with | some (.dr x') => (match F x' x.1 with | .ok (.lst z, y) => .ok (z, x.2.set i (.dr y)) | _ => .bad) | _ => .bad
@[simp] theorem ev_callDOK  (i : Nat) (F : Dr → List D → R Err (D × Dr)) {ds : List D} : callDOK i F (ds, Γ) = match Γ[i]? with | some (.dr x') => (match F x' ds with | .ok (.lst z, y) => .ok (z, Γ.set i (.dr y)) | _ => .bad) | _ => .bad := eq_of rfl
@[simp] theorem ev_CallD {F : Dr → List D → R Err (D × Dr)} : dCallD i F fs Γ = if isDr Γ[i]? = true then (fs Γ).bind (callDK i F) else .bad := eq_of rfl
@[simp] theorem ev_CallDO {F : Dr → List D → R Err (D × Dr)} : dCallDO i F fs Γ = if isDr Γ[i]? = true then (fs Γ).bind (callDOK i F) else .bad := eq_of rfl
def chainM (o' : D → D → Option D) (c : D) (x : D × Nv) : R (Err × Nv) (D × Nv) := liftO (o' c x.1) x.2
def chainL (o o' : D → D → Option D) (j : EF D) (c : D) (x : D × Nv) : R (Err × Nv) (D × Nv) := match o c x.1 with | some (.bl b) => if b then (j x.2).bind (chainM o' x.1) else .ok (.bl false, x.2) | _ => .bad
def chainK (o o' : D → D → Option D) (h j : EF D) (x : D × Nv) : R (Err × Nv) (D × Nv) := (h x.2).bind (chainL o o' j x.1)
@[simp] theorem ev_chainM {o' : D → D → Option D} {c : D} : chainM o' c (d, Γ) = liftO (o' c d) Γ := eq_of rfl
@[simp] theorem ev_chainL {o o' : D → D → Option D} {c : D} : chainL o o' k c (d, Γ) = match o c d with | some (.bl b) => if b then (k Γ).bind (chainM o' d) else .ok (.bl false, Γ) | _ => .bad := eq_of rfl
@[simp] theorem ev_chainK {o o' : D → D → Option D} : chainK o o' h k (d, Γ) = (h Γ).bind (chainL o o' k d) := eq_of rfl
@[simp] theorem ev_Chain {o o' : D → D → Option D} : dChain o o' f h k Γ = (f Γ).bind (chainK o o' h k) := eq_of rfl
def pK (x : D × Nv) : R (Err × Nv) (Option Int × Nv) := match x.1 with | .int i => .ok (some i, x.2) | _ => .bad
@[simp] theorem ev_pK {i : Int} : pK (.int i, Γ) = .ok (some i, Γ) := eq_of rfl
@[simp] theorem ev_P : dP f Γ = (f Γ).bind pK := eq_of rfl
def slM (c : D) (l : Option Int) (x : Option Int × Nv) : R (Err × Nv) (D × Nv) := liftO (slD c l x.1) x.2
def slL (c : D) (fh : EF (Option Int)) (x : Option Int × Nv) : R (Err × Nv) (D × Nv) := (fh x.2).bind (slM c x.1)
def slK (fl fh : EF (Option Int)) (x : D × Nv) : R (Err × Nv) (D × Nv) := (fl x.2).bind (slL x.1 fh)
@[simp] theorem ev_slM {c : D} {l u : Option Int} : slM c l (u, Γ) = liftO (slD c l u) Γ := eq_of rfl
@[simp] theorem ev_slL {c : D} {l : Option Int} {fh : EF (Option Int)} : slL c fh (l, Γ) = (fh Γ).bind (slM c l) := eq_of rfl
@[simp] theorem ev_slK {fl fh : EF (Option Int)} : slK fl fh (d, Γ) = (fl Γ).bind (slL d fh) := eq_of rfl
@[simp] theorem ev_Sl {fl fh : EF (Option Int)} : dSl f fl fh Γ = (f Γ).bind (slK fl fh) := eq_of rfl
def makeK (C : Addr) (nf : List Str) (F : List D → R Err (List D)) (dds : List D) (x : List D × Nv) : R (Err × Nv) (D × Nv) := match F (x.1 ++ dds) with | .ok es => .ok (.ins C nf es, x.2) | _ => .bad
@[simp] theorem ev_makeK {C : Addr} {nf : List Str} {F : List D → R Err (List D)} {dds : List D} : makeK C nf F dds (ds, Γ) = match F (ds ++ dds) with | .ok es => .ok (.ins C nf es, Γ) | _ => .bad := eq_of rfl
@[simp] theorem ev_Make {C : Addr} {nf : List Str} {F : List D → R Err (List D)} {dds : List D} : dMake C nf F dds fs Γ = (fs Γ).bind (makeK C nf F dds) := eq_of rfl
@[simp] theorem ev_Dr0 : dDr i 0 Γ = match (Γ : List Slot)[i]? with | some (Slot.dr x) => .ok (.lst (x.pool.map D.int), Γ) | _ => .bad := by unfold dDr; split <;> simp_all
@[simp] theorem ev_Dr1 : dDr i 1 Γ = match (Γ : List Slot)[i]? with | some (Slot.dr x) => .ok (.int x.at_, Γ) | _ => .bad := by unfold dDr; split <;> simp_all
@[simp] theorem ev_Dr2 : dDr i 2 Γ = match (Γ : List Slot)[i]? with | some (Slot.dr x) => .ok (.int x.base, Γ) | _ => .bad := by unfold dDr; split <;> simp_all
@[simp] theorem ev_liftO : liftO (some d) Γ = .ok (d, Γ) := eq_of rfl
@[simp] theorem ev_liftL : liftL (some ds) Γ = .ok (ds, Γ) := eq_of rfl
@[simp] theorem ev_lst : lstOf (.lst ds) = some ds := eq_of rfl
@[simp] theorem ev_fz : lstOf (.fz ds) = some ds := eq_of rfl
@[simp] theorem ev_tupOf : tupOf (.tup ds) = some ds := eq_of rfl
@[simp] theorem ev_add {i j : Int} : oAdd (.int i) (.int j) = some (.int (i + j)) := eq_of rfl
@[simp] theorem ev_sub {i j : Int} : oSub (.int i) (.int j) = some (.int (i - j)) := eq_of rfl
@[simp] theorem ev_mul {i j : Int} : oMul (.int i) (.int j) = if okMul i j then some (.int (i * j)) else none := eq_of rfl
@[simp] theorem ev_mod {i j : Int} : oMod (.int i) (.int j) = if j = 0 then none else some (.int (i.fmod j)) := eq_of rfl
@[simp] theorem ev_div {i j : Int} : oDiv (.int i) (.int j) = if j ≠ 0 ∧ j.natAbs < 1073741824 then some (.int (i.fdiv j)) else none := eq_of rfl
@[simp] theorem ev_pow {i j : Int} : oPow (.int i) (.int j) = if 0 ≤ j ∧ j ≤ 1000000 ∧ i.natAbs < 2 ^ 64 then some (.int (i ^ j.toNat)) else none := eq_of rfl
@[simp] theorem ev_neg {i : Int} : oNeg (.int i) = some (.int (-i)) := eq_of rfl
@[simp] theorem ev_lt {i j : Int} : oLt (.int i) (.int j) = some (.bl (decide (i < j))) := eq_of rfl
@[simp] theorem ev_le {i j : Int} : oLe (.int i) (.int j) = some (.bl (decide (i ≤ j))) := eq_of rfl
@[simp] theorem ev_gt {i j : Int} : oGt (.int i) (.int j) = some (.bl (decide (j < i))) := eq_of rfl
@[simp] theorem ev_ge {i j : Int} : oGe (.int i) (.int j) = some (.bl (decide (j ≤ i))) := eq_of rfl
@[simp] theorem ev_int {i : Int} : oInt [.int i] = some (.int i) := eq_of rfl
@[simp] theorem ev_abs {i : Int} : oAbs [.int i] = some (.int (if i < 0 then -i else i)) := eq_of rfl
@[simp] theorem ev_lenL : oLen [.lst ds] = some (.int ds.length) := eq_of rfl
@[simp] theorem ev_lenF : oLen [.fz ds] = some (.int ds.length) := eq_of rfl
@[simp] theorem ev_lenT : oLen [.tup ds] = some (.int ds.length) := eq_of rfl
@[simp] theorem ev_lenS {z : Str} : oLen [.str z] = if z.length ≤ sizeLine then some (.int z.length) else none := eq_of rfl
@[simp] theorem ev_ixL {i : Int} : oIx (.lst ds) (.int i) = atI ds i := eq_of rfl
@[simp] theorem ev_ixF {i : Int} : oIx (.fz ds) (.int i) = atI ds i := eq_of rfl
@[simp] theorem ev_ixT {i : Int} : oIx (.tup ds) (.int i) = atI ds i := eq_of rfl
@[simp] theorem ev_listL : oList [.lst ds] = if nolsts ds = true then some ds else none := eq_of rfl
@[simp] theorem ev_isRefO {ds : List D} : isRef (some (.own ds)) = true := eq_of rfl
@[simp] theorem ev_isRefD : isRef (some (.dr x)) = true := eq_of rfl
@[simp] theorem ev_isDr : isDr (some (.dr x)) = true := eq_of rfl
@[simp] theorem ev_resP1 : resP (.ok (.nx, Γ)) = .ok .non := eq_of rfl
@[simp] theorem ev_resP2 : resP (.ok (.rt d, Γ)) = .ok d := eq_of rfl
@[simp] theorem ev_resD1 : resD (.ok (.nx, .dr x :: Γ)) = .ok (.non, x) := eq_of rfl
@[simp] theorem ev_resD2 : resD (.ok (.rt d, .dr x :: Γ)) = .ok (d, x) := eq_of rfl
@[simp] theorem ev_nolst_int {i : Int} : nolst (.int i) = true := by unfold nolst; rfl
@[simp] theorem ev_nolst_non : nolst .non = true := by unfold nolst; rfl
@[simp] theorem ev_nolst_bl {b : Bool} : nolst (.bl b) = true := by unfold nolst; rfl
@[simp] theorem ev_nolst_str {b : Str} : nolst (.str b) = true := by unfold nolst; rfl
@[simp] theorem ev_nolst_tup : nolst (.tup ds) = nolsts ds := by rw [nolst]
@[simp] theorem ev_nolsts_nil : nolsts [] = true := by unfold nolsts; rfl
@[simp] theorem ev_nolsts_cons : nolsts (d :: ds) = (nolst d && nolsts ds) := by rw [nolsts]
@[simp] theorem nolsts_app : nolsts (ds ++ es) = (nolsts ds && nolsts es) := by
  induction ds with
  | nil => simp
  | cons d r ih => simp [ih, Bool.and_assoc]
theorem nolsts_all (h : ∀ d ∈ ds, nolst d = true) : nolsts ds = true := by
  induction ds with
  | nil => simp
  | cons d r ih => simp [h d List.mem_cons_self, ih fun d hd => h d (List.mem_cons_of_mem _ hd)]
@[simp] theorem nolsts_ints {ns : List Int} : nolsts (ns.map D.int) = true := nolsts_all fun d hd => by
  obtain ⟨n, _, rfl⟩ := List.mem_map.mp hd
  simp
theorem eqB_int {i j : Int} : eqB (.int i) (.int j) = some (decide (i = j)) := by
  show some (decide (V.int i = V.int j)) = _
  simp
theorem eqB_str {i j : Str} : eqB (.str i) (.str j) = some (decide (i = j)) := by
  show some (decide (V.str i = V.str j)) = _
  simp
@[simp] theorem ev_eqI {i j : Int} : oEq (.int i) (.int j) = some (.bl (decide (i = j))) := by unfold oEq; rw [eqB_int]; rfl
@[simp] theorem ev_eqS {i j : Str} : oEq (.str i) (.str j) = some (.bl (decide (i = j))) := by unfold oEq; rw [eqB_str]; rfl
@[simp] theorem ev_neI {i j : Int} : oNe (.int i) (.int j) = some (.bl (!decide (i = j))) := by unfold oNe; rw [eqB_int]; rfl
@[simp] theorem ev_neS {i j : Str} : oNe (.str i) (.str j) = some (.bl (!decide (i = j))) := by unfold oNe; rw [eqB_str]; rfl
@[simp] theorem ev_isN : oIsN .non .non = some (.bl true) := eq_of rfl
@[simp] theorem ev_isNi {i : Int} : oIsN (.int i) .non = some (.bl false) := eq_of rfl
@[simp] theorem ev_notN : oNotN .non .non = some (.bl false) := eq_of rfl
@[simp] theorem ev_notNi {i : Int} : oNotN (.int i) .non = some (.bl true) := eq_of rfl
@[simp] theorem ev_setDr {m : Int} : setAt 0 (.int m) (.int 1) (.dr x :: Γ) = some (.dr { x with at_ := m } :: Γ) := eq_of rfl
@[simp] theorem ev_setDr1 {m : Int} {s : Slot} : setAt 1 (.int m) (.int 1) (s :: .dr x :: Γ) = some (s :: .dr { x with at_ := m } :: Γ) := eq_of rfl
theorem ev_setO {m : Int} {d : D} (h : (Γ : List Slot)[i]? = some (.own ds)) : setAt i d (.int m) Γ = if nolst d = true then (ixN ds.length m).map fun k => Γ.set i (.own (ds.set k d)) else none := by unfold setAt; rw [h]
@[simp] theorem okMul_eq {i j : Int} : okMul i j ↔ (-(2 ^ 64) < i ∧ i < 2 ^ 64) ∨ (-(2 ^ 64) < j ∧ j < 2 ^ 64) := Iff.rfl
theorem natSize {n : Nat} (h : n ≤ 1000) : n ≤ sizeLine := Nat.le_trans h (by decide)
theorem seq_nx {Γ1 : Nv} (h : p Γ = .ok (.nx, Γ1)) : dSeq p q Γ = q Γ1 := by rw [ev_Seq, h, R.bind_ok, ev_seq1]
theorem fnP_eq {F : SF} {d : D} (hl : ds.length = n) (h : resP (F (ds.map Slot.im ++ List.replicate m .emp)) = .ok d) : fnP n m F ds = .ok d := by unfold fnP; rw [if_pos hl, h]
/-! ### loops -/
theorem loop_rule {g : D → Nv → Option Nv} (I : Nat → Nv → Prop) (Post : Fl → Nv → Prop) {items : List D} (hstep : ∀ i d Γ, items[i]? = some d → I i Γ → ∃ Γ1 fl Γ2, g d Γ = some Γ1 ∧ p Γ1 = .ok (fl, Γ2) ∧ (match fl with | .nx => I (i + 1) Γ2 | .ct => I (i + 1) Γ2 | .bk => Post .nx Γ2 | .rt d => Post (.rt d) Γ2))
    (hend : ∀ Γ, I items.length Γ → Post .nx Γ) (h0 : I 0 Γ) : ∃ fl Γ', dLoop g p items Γ = .ok (fl, Γ') ∧ Post fl Γ' := by
  have key : ∀ (rest : List D) (i : Nat) (Γ : Nv), (∀ j, rest[j]? = items[i + j]?) → i + rest.length = items.length → I i Γ → ∃ fl Γ', dLoop g p rest Γ = .ok (fl, Γ') ∧ Post fl Γ' := by
    intro rest
    induction rest with
    | nil => intro i Γ _ hl hi; exact ⟨.nx, Γ, rfl, hend Γ (by rw [← hl]; exact hi)⟩
    | cons d r ih =>
      intro i Γ hr hl hi
      obtain ⟨Γ1, fl, Γ2, e1, e2, e3⟩ := hstep i d Γ (by rw [← Nat.add_zero i, ← hr 0]; rfl) hi
      unfold dLoop
      rw [e1]
      simp only [e2, R.bind_ok]
      have nxt : I (i + 1) Γ2 → ∃ fl Γ', dLoop g p r Γ2 = .ok (fl, Γ') ∧ Post fl Γ' := fun q => ih (i + 1) Γ2 (fun j => by
        have := hr (j + 1)
        rw [List.getElem?_cons_succ] at this
        rw [this]; congr 1; omega) (by rw [List.length_cons] at hl; omega) q
      cases fl with
      | nx => exact nxt e3
      | ct => exact nxt e3
      | bk => exact ⟨.nx, Γ2, rfl, e3⟩
      | rt d => exact ⟨.rt d, Γ2, rfl, e3⟩
  exact key items 0 Γ (fun j => by rw [Nat.zero_add]) (by omega) h0
/-- a loop that always goes on -/
theorem loop_nx {g : D → Nv → Option Nv} (I : Nat → Nv → Prop) {items : List D} (hstep : ∀ i d Γ, items[i]? = some d → I i Γ → ∃ Γ1 Γ2, g d Γ = some Γ1 ∧ (p Γ1 = .ok (.nx, Γ2) ∨ p Γ1 = .ok (.ct, Γ2)) ∧ I (i + 1) Γ2) (h0 : I 0 Γ) :
    ∃ Γ', dLoop g p items Γ = .ok (.nx, Γ') ∧ I items.length Γ' := by
  obtain ⟨fl, Γ', e, h⟩ := loop_rule (p := p) (g := g) (Γ := Γ) (items := items) I (fun fl Γ' => fl = .nx ∧ I items.length Γ') (fun i d Γ hd hi => by
    obtain ⟨Γ1, Γ2, e1, e2, e3⟩ := hstep i d Γ hd hi
    rcases e2 with e2 | e2
    · exact ⟨Γ1, .nx, Γ2, e1, e2, e3⟩
    · exact ⟨Γ1, .ct, Γ2, e1, e2, e3⟩) (fun Γ h => ⟨rfl, h⟩) h0
  exact ⟨Γ', by rw [e, h.1], h.2⟩
/-- a comprehension: out i of item i -/
theorem lc_rule {g : D → Nv → Option Nv} {own : List Nat} (out : Nat → Option D) {items : List D} {Γ0 : Nv} (hstep : ∀ i d, items[i]? = some d → ∃ Γ1 Γ2, g d Γ0 = some Γ1 ∧ ((∃ y Γ3, a Γ1 = .ok (true, Γ2) ∧ f Γ2 = .ok (y, Γ3) ∧ out i = some y ∧ wipeN Γ3 own = Γ0) ∨ (a Γ1 = .ok (false, Γ2) ∧ out i = none ∧ wipeN Γ2 own = Γ0)))
    (hs : items.length ≤ 1000) : lcLoop g a f own items Γ0 [] = .ok ((List.range items.length).filterMap out, Γ0) := by
  have key : ∀ (rest : List D) (i : Nat) (acc : List D), (∀ j, rest[j]? = items[i + j]?) → i + rest.length = items.length → acc = (List.range i).filterMap out → acc.length ≤ i → lcLoop g a f own rest Γ0 acc = .ok ((List.range items.length).filterMap out, Γ0) := by
    intro rest
    induction rest with
    | nil =>
      intro i acc _ hl hacc _
      unfold lcLoop
      rw [hacc, ← hl]; rfl
    | cons d r ih =>
      intro i acc hr hl hacc hle
      obtain ⟨Γ1, Γ2, e1, e2⟩ := hstep i d (by rw [← Nat.add_zero i, ← hr 0]; rfl)
      have hr' : ∀ j, r[j]? = items[i + 1 + j]? := fun j => by
        have := hr (j + 1)
        rw [List.getElem?_cons_succ] at this
        rw [this]; congr 1; omega
      have hl' : i + 1 + r.length = items.length := by rw [List.length_cons] at hl; omega
      unfold lcLoop
      rw [e1]
      rcases e2 with ⟨y, Γ3, e2, e3, e4, e5⟩ | ⟨e2, e4, e5⟩
      · simp only [e2, e3]
        rw [if_pos (Nat.lt_of_le_of_lt hle (Nat.lt_of_lt_of_le (show i < 1001 by omega) (by decide))), e5]
        exact ih (i + 1) _ hr' hl' (by rw [List.range_succ, List.filterMap_append, ← hacc, List.filterMap_cons_some e4, List.filterMap_nil]) (by rw [List.length_append, List.length_singleton]; omega)
      · simp only [e2, e5]
        exact ih (i + 1) _ hr' hl' (by rw [List.range_succ, List.filterMap_append, ← hacc, List.filterMap_cons_none e4, List.filterMap_nil, List.append_nil]) (by omega)
  exact key items 0 [] (fun j => by rw [Nat.zero_add]) (by omega) rfl (Nat.le_refl _)
end
end DL

set_option Elab.async false
set_option linter.all false
set_option maxRecDepth 100000
/-! data layer, part r: operators and calls of own instances -/
namespace DL
open PySem PySem.Spec PyProof.Rows L2
section
variable {X : Cx} {CX : CXT} {C f : Addr} {fd : FuncData} {ps : List Str} {sp : Sp} {E : XK} {k : Nat}
/-- a one-place operator of an own class -/
def rOwn1 (C : Addr) (sp : Sp) (E : XK) : V → Hp → VK → Prop := fun x H Q => ∃ a dx fs, x = .ref a ∧ H a = some (.ins C dx fs) ∧ sp [x] H Q E
theorem un_invOwn (hm : Meth X.K C "__invert__" f) (F : FnOk X.prog X.w X.K X.mg X.base CX k f fd ps sp) (hr : Room k X.A) (hb : Binds X.K fd ps []) (hx : Passes CX X E) : UnR X (unaryOp .Invert) (rOwn1 C sp E) := by
  intro pins s σ H x v Q I rx h
  obtain ⟨a, dx, fs, rfl, ea, q⟩ := h
  cases (show v = Value.ref a from rx)
  obtain ⟨mA, J, _⟩ := ins_get I.hok ea
  obtain ⟨od, J, _⟩ := J.look
  unfold unaryOp
  refine wpAny_holding (wpAny_bind (m := callSpecial? (.ref a) "__invert__" []) ?_)
  refine PySem.W.special_fn I.kIn J hm.at_ (beq_iff_eq.mp hm.fn) ?_
  exact wpAny_mono (run_fn F hr hb .nil hx I (.cons (show RelV (.ref a) (Value.ref a) from rfl) .nil) q) (fun v s' z => wpAny_pure z) fun _ _ z => z
/-- a two-place operator of an own class, both of it -/
def rOwn2 (C : Addr) (sp : Sp) (E : XK) : R2 := fun x y H Q => ∃ a dx fs b dy gs, x = .ref a ∧ y = .ref b ∧ H a = some (.ins C dx fs) ∧ H b = some (.ins C dy gs) ∧ sp [x, y] H (fun v H' => (∃ p, v = .ref p) ∧ Q v H') E
theorem op_addOwn (hm : Meth X.K C "__add__" f) (hc : PySem.W.selfFirst X.K C = true) (F : FnOk X.prog X.w X.K X.mg X.base CX k f fd ps sp) (hr : Room k X.A) (hb : Binds X.K fd ps []) (hx : Passes CX X E) : OpR X (binaryOp .Add) (rOwn2 C sp E) := by
  intro pins s σ H x y v u Q I rx ry h
  obtain ⟨a, dx, fs, b, dy, gs, rfl, rfl, ea, eb, q⟩ := h
  cases (show v = Value.ref a from rx)
  cases (show u = Value.ref b from ry)
  obtain ⟨mA, J, _⟩ := ins_get I.hok ea
  obtain ⟨od, J, _⟩ := J.look
  obtain ⟨mB, J2, _⟩ := ins_get I.hok eb
  obtain ⟨od2, J2, _⟩ := J2.look
  obtain ⟨m0, hF⟩ := I.fr
  refine PySem.W.binop_K (op := .Add) hF I.ok.mod.kin J J2.type hc hm.at_ hm.fn ?_
  refine wpAny_mono (run_fn F hr hb .nil hx I (.cons (show RelV (.ref a) (Value.ref a) from rfl) (.cons (show RelV (.ref b) (Value.ref b) from rfl) .nil)) q) (fun v s' z => ?_) fun _ _ z => z
  obtain ⟨v', H', I', rv, ⟨p, rfl⟩, q'⟩ := z
  cases (show v = Value.ref p from rv)
  exact ⟨.ref p, H', I', rfl, q'⟩
theorem fnR_at (F : FnOk X.prog X.w X.K X.mg X.base CX k f fd ps sp) (hb : Binds X.K fd ps []) : FnR X.prog X.w X.K X.mg X.base CX k f sp := (F.raw hb .nil).imp fun vs H Q E h => by rw [List.append_nil]; exact h
end
section
variable {T : Ks} {W : WX} {C : Addr} {E : XK} {k : Lq}
theorem Rep.insAt {E : Addr → Prop} {H : Hp} {v : V} {C : Addr} {ns : List Str} {ds : List D} (r : Rep T.K E H v (.ins C ns ds)) : ∃ p dx fs, v = .ref p ∧ H p = some (.ins C dx fs) := by
  cases r with
  | ins h _ _ _ => exact ⟨_, _, _, rfl, h⟩
def insOf (C : Addr) : D → Bool
  | .ins C' _ _ => decide (C' = C)
  | _ => false
theorem insOf_at {E : Addr → Prop} {H : Hp} {v : V} {d : D} (h : insOf C d = true) (r : Rep T.K E H v d) : ∃ p dx fs, v = .ref p ∧ H p = some (.ins C dx fs) := by
  cases d with
  | ins C' ns ds =>
    have := of_decide_eq_true h
    subst this
    exact r.insAt
  | _ => cases h
def okO : R Err D → Option D
  | .ok d => some d
  | _ => none
theorem okO_of {x : R Err D} {d : D} (h : okO x = some d) : x = .ok d := by
  cases x <;> first | (cases h; rfl) | cases h
def oOwn1 (C : Addr) (F : List D → R Err D) (x : D) : Option D := if insOf C x = true then okO (F [x]) else none
theorem ud_own {F : List D → R Err D} : UnD T (rOwn1 C (spP T 1 F) E) (oOwn1 C F) := fun E' H x dx z Q r e q => by
  unfold oOwn1 at e
  split at e
  · rename_i h
    obtain ⟨p, d, fs, rfl, hp⟩ := insOf_at h r
    refine ⟨p, d, fs, rfl, hp, [dx], rfl, .cons (r.weak fun _ z _ => z.elim) .nil, ?_⟩
    rw [okO_of e]
    exact q
  · cases e
def oOwn2 (C : Addr) (F : List D → R Err D) (x y : D) : Option D := if insOf C x = true ∧ insOf C y = true then (okO (F [x, y])).bind fun z => if insOf C z = true then some z else none else none
theorem opd_own {F : List D → R Err D} : OpD T (rOwn2 C (spP T 2 F) E) (oOwn2 C F) := fun E' H x y dx dy z Q r1 r2 e q => by
  unfold oOwn2 at e
  split at e
  · rename_i h
    obtain ⟨p, d, fs, rfl, hp⟩ := insOf_at h.1 r1
    obtain ⟨p2, d2, fs2, rfl, hp2⟩ := insOf_at h.2 r2
    obtain ⟨z', e1, e2⟩ := Option.bind_eq_some_iff.mp e
    split at e2
    · rename_i hz
      cases e2
      refine ⟨p, d, fs, p2, d2, fs2, rfl, rfl, hp, hp2, [dx, dy], rfl, .cons (r1.weak fun _ z _ => z.elim) (.cons (r2.weak fun _ z _ => z.elim) .nil), ?_⟩
      rw [okO_of e1]
      intro v H' s r
      obtain ⟨p', _, _, rfl, _⟩ := insOf_at hz r
      exact ⟨⟨_, rfl⟩, q _ _ s r⟩
    · cases e2
  · cases e
def dCallO_ (C : Addr) (F : List D → R Err D) (fe : EF D) (fs : EF (List D)) : EF D := fun Γ => (fe Γ).bind fun x => if insOf C x.1 = true then (fs x.2).bind fun y => match F (x.1 :: y.1) with | .ok d => .ok (d, y.2) | _ => .bad else .bad
theorem de_callO {X : Cx} {n : Nat} {F : List D → R Err D} {ta : TE} {fe : EF D} {ts : TA} {fs : EF (List D)} {ka kb : Lq} (a : DE T W ka ta fe) (b : DA T W kb ts fs) (hn : ∀ ds e, F ds = .ok e → ds.length = n) :
    DE T W k (StX.tCallO X C (spP T n F) E ta ts) (dCallO_ C F fe fs) := fun c g Γ σ H Q S p => by
  refine a c g Γ σ H _ S ?_
  unfold dCallO_ at p
  cases e : fe Γ with
  | bad => rw [e] at p; exact p
  | err x => rw [e] at p; exact p
  | ok x =>
    obtain ⟨dx, Γ1⟩ := x
    rw [e, R.bind_ok] at p
    intro v1 H1 S1 k1 r1
    dsimp only at p
    split at p
    · rename_i hi
      obtain ⟨q, d, fs', rfl, hq⟩ := insOf_at hi r1
      refine ⟨q, rfl, ?_⟩
      refine b c g Γ1 σ H1 _ S1 ?_
      cases e2 : fs Γ1 with
      | bad => rw [e2] at p; exact p
      | err y => rw [e2] at p; exact p
      | ok y =>
        obtain ⟨ys, Γ2⟩ := y
        rw [e2, R.bind_ok] at p
        intro vs H2 S2 k2 r2
        have r1' := S.toW (S1.stay (vs := []) k2 (fun b z => S.exW z) r1)
        have r2' : Reps T.K g.Dp H2 vs ys := r2.weak fun _ z _ => S1.exW z
        obtain ⟨q', d', fs2, e3, hq'⟩ := insOf_at hi r1'
        cases e3
        refine ⟨.inr ⟨d', fs2, hq'⟩, ?_⟩
        cases e4 : F (dx :: ys) with
        | bad => simp only [e4] at p; exact False.elim p
        | err z => simp only [e4] at p; exact False.elim p
        | ok z =>
          simp only [e4] at p
          refine ⟨dx :: ys, hn _ _ e4, .cons (r1'.weak fun _ z _ => z.elim) (r2'.weak fun _ z _ => z.elim), ?_⟩
          rw [e4]
          intro v H' s r
          refine p v H' (S2.grow s) (k1.trans (k2.trans (ofSame s))) (S.newq r ?_)
          exact fun b z => S1.grown S2 k2 b (S.grown S1 k1 b z)
    · exact False.elim p
/-- isinstance(x, C), x an instance of C -/
def oIsiO (C : Addr) (ds : List D) : Option D := match ds with
  | [x, .ref c] => if c = C ∧ insOf C x = true then some (.bl true) else none
  | _ => none
structure KO (K : PySem.W.Frag) (C : Addr) : Prop where
  cl : Cls K C
  ha : PySem.W.findIn K (.ref C) "__class__" = some (some (.builtin "object.__class__"))
  hn : PySem.W.specialIn K (.builtin "object.__class__") "__get__" = some (some (.builtin "getset_descriptor.__get__"))
  htk : PySem.W.takesIn K (.builtin "object.__class__") = some true
  hm : PySem.W.mroIn K C (.type "object") = some true
theorem cad_isiO (ko : KO T.K C) : CaD T (rIsi T.K) (oIsiO C) := fun E H xs ds z Q r e q => by
  unfold oIsiO at e
  split at e
  · split at e
    · rename_i h
      obtain ⟨rfl, h⟩ := h
      cases e
      cases r with
      | cons r1 r2 =>
        cases r2 with
        | cons r2 r3 =>
          cases r3
          obtain ⟨p, d, fs, rfl, hp⟩ := insOf_at h r1
          cases r2
          exact ⟨_, _, .ref _, .ref _, true, rfl, .own _, .base (.ins hp ko.cl ko.ha ko.hn ko.htk ko.hm), by unfold PySem.W.kitOne; rw [if_pos (by simp)], q _ _ (Same.refl _) (.bl true)⟩
    · cases e
  · cases e
end
end DL

set_option Elab.async false
set_option linter.all false
set_option maxRecDepth 100000
/-! data layer, part s: (x, *ys) = a tuple; (.., *ys) made; texts of a constant dict -/
namespace DL
open PySem PySem.Spec PyProof.Rows L2
section
variable {prog : Program} {w : World} {A : Around} {E : Value → Shared → Prop} {s : Shared}
theorem walks_tail (hh : A.handled = none) (I ax : Addr) (hne : ax ≠ I) (items : Array Value) (k : Nat) (hk : k ≤ items.size) :
    Walks prog w A I [I, ax] [I] (items.size - k) (fun i v => items[k + i]? = some v) (fun i h => h.IsTupleIter I ax (k + i) ∧ h.IsTuple ax items) where
  sub := fun b hb => by simp at hb; simp [hb]
  frame := fun _ _ _ st kp => ⟨st.1.at fun o e => kp I (by simp) o e, st.2.at fun o e => kp ax (by simp) o e⟩
  item := fun i s Q E hi st hQ => by
    have hlt : k + i < items.size := by omega
    refine wpAny_pyNext_tuple_item st.1 st.2 (x := items[k + i]) (by simp [hlt]) fun h' hit' hs' => ?_
    exact hQ _ h' s.toks (by simp [hlt]) ⟨hit', st.2.extBut hs'.extBut hne⟩ fun b o hb e => hs'.extBut b o (fun h => hb (by simp [h])) e
  done := fun s Q E st hQ => wpAny_pyNext_tuple_end hh st.1 st.2 (by rw [show k + (items.size - k) = items.size by omega]; simp) fun h' he' => hQ h' s.toks fun b o hb e => he' b o (fun h => hb (by simp [h])) e
  self := fun _ _ _ _ st hQ => wpAny_pyIter_tupleiter st.1 hQ
theorem unpack_star1 {t : Addr} {items : Array Value} {x : Value} {r : List Value} {Q : List Value → Shared → Prop} (hh : A.handled = none) (ht : s.heap.IsTuple t items) (hi : items.toList = x :: r) (hz : items.size ≤ sizeLine)
    (hQ : ∀ (h' : Heap) (tk : Nat), s.toks ≤ tk → (∀ b o, s.heap.get? b = some o → h'.get? b = some o) → Q [x, .ref h'.objs.size] { s with heap := h'.push { cls := .type "list", data := .seq r.toArray }, toks := tk }) :
    wpAny (model prog w) A (unpackItems (.ref t) 2 (some 1)) Q E s := by
  have hlt : t ≠ s.heap.objs.size := by obtain ⟨o, ho, _⟩ := ht; exact Nat.ne_of_lt (Heap.lt_size ho)
  have hsz : items.size = r.length + 1 := by have := congrArg List.length hi; simpa using this
  unfold unpackItems
  refine wpAny_bind ?_
  unfold notIterableAtAll
  refine wpAny_bind (wpAny_specialOf ht.typeIs F.slot_tuple_iter.lookup (wpAny_pure ?_))
  simp only [Bool.false_eq_true, if_false]
  refine wpAny_bind (wpAny_holding (wpAny_pyIter_tuple ht ?_))
  refine wpAny_bind (wpAny_holding (wpAny_draw_tuple hlt 1 0 _ _ ⟨_, Heap.get?_push_size _ rfl, rfl, rfl⟩ (ht.push _) (by omega) fun h₁ hit₁ hs₁ => ?_))
  have hall : List.take 1 (List.drop 0 items.toList) = [x] := by rw [hi]; rfl
  rw [hall]
  have ht₁ : h₁.IsTuple t items := (ht.push _).extBut hs₁.extBut hlt
  rw [if_neg (by simp)]
  refine wpAny_bind (wpAny_holding ?_)
  have W := (walks_tail (prog := prog) (w := w) (A := A.in1) hh s.heap.objs.size t hlt items 1 (by omega)).toS
  obtain ⟨oi, hoi, _⟩ := id hit₁
  obtain ⟨ot, hot, _⟩ := id ht₁
  refine wpAny_collect_iter (T := "tuple_iterator") (.inr (.inr (.inr rfl))) W (fun i s st => st.1.typeIs) (show _ ∧ _ from ⟨hit₁, ht₁⟩) (fun b hb => ?_) (by simp) (fun s' acc hm hacc => ?_) (by omega)
  · simp at hb
    rcases hb with rfl | rfl
    · exact Heap.lt_size hoi
    · exact Heap.lt_size hot
  · have hacc' : acc.toList = r := by
      refine List.ext_getElem? fun j => ?_
      have h1 : acc.size = r.length := by rw [hacc.1, hsz]; rfl
      by_cases hj : j < r.length
      · have h2 : items[1 + j]? = some (acc[j]'(by omega)) := hacc.2 j (acc[j]'(by omega)) (by simp [h1, hj])
        have h3 : items[1 + j]? = r[j]? := by
          rw [← Array.getElem?_toList, hi, show 1 + j = j + 1 by omega, List.getElem?_cons_succ]
        rw [h3] at h2
        rw [h2]
        simp [h1, hj]
      · rw [List.getElem?_eq_none (by simpa [h1] using hj), List.getElem?_eq_none (by omega)]
    rw [hacc']
    rw [if_neg (by omega)]
    rw [show r.length - (2 - 1 - 1) = r.length by omega, List.take_length, List.drop_length]
    refine wpAny_bind (wpAny_newObj_type (wpAny_pure ?_) (by show r.toArray.size ≤ sizeLine; simp; omega))
    obtain ⟨hp, hg, hd, hos, htk⟩ := hm
    obtain ⟨heap', gens', drawn', toks', os'⟩ := s'
    dsimp only at *
    subst hg hd hos
    exact hQ heap' toks' htk fun b o e => hp b o (by simp; exact fun z => by subst z; exact absurd (Heap.lt_size e) (Nat.lt_irrefl _)) (hs₁.extBut b o (fun z => by subst z; exact absurd (Heap.lt_size e) (Nat.lt_irrefl _)) (Heap.get?_push_of_some _ e))
end
/-- (x, *ys) = a tuple -/
def gStar2 (K : PySem.W.Frag) (t0 t1 : TG) : TG := fun v σ H Q => ∃ a x xs, v = .ref a ∧ SqT K H a (x :: xs) ∧ ∀ l, H l = none → t0 x σ (upd H l (.lst xs)) fun σ1 H1 => t1 (.ref l) σ1 H1 Q
theorem pg_star2 {X : Cx} {e0 e1 : Expr} {k : Nat} {p1 pos : Pos} {t0 t1 : TG} (hc : X.calm = true) (h0 : PG X e0 t0) (h1 : PG X e1 t1) (he : assignEach [e0, .Starred e1 p1] X.env = [(false, assign e0 X.env), (true, assign e1 X.env)] := by rfl) : PG X (.Tuple [e0, .Starred e1 p1] k pos) (gStar2 X.K t0 t1) := by
  refine ⟨fun pins s σ H v u Q I r hw => ?_⟩
  obtain ⟨a, x, xs, e1, hq, hw⟩ := hw
  subst e1
  cases (show u = Value.ref a from r)
  obtain ⟨its, rv, ht, hz⟩ := I.tuple hq
  cases rv with
  | @cons _ y _ ys ry rys =>
    rw [assign_Tuple, he]
    refine wpAny_bind (wpAny_standAt ?_)
    unfold unpack
    refine wpAny_bind (wpAny_holding ?_)
    show wpAny _ _ (unpackItems (.ref a) 2 (some 1)) _ _ _
    have hl := rys.length
    simp only [List.length_cons] at hz
    refine unpack_star1 (I.ok.hd hc) ht rfl (by simp; omega) fun h' tk htk hk => ?_
    have I1 : Inv X pins σ H { s with heap := h', toks := tk } := I.kept hk
    have I2 := I1.lnew (t' := tk) rys (by omega)
    refine assignInOrder_cons (thn (h0.run pins _ σ _ x y _ I2 ry (hw _ I1.fresh)) fun _ s1 ⟨σ1, H1, I3, q⟩ => ?_)
    refine assignInOrder_cons (thn (h1.run pins s1 σ1 H1 (.ref h'.objs.size) (.ref h'.objs.size) Q I3 rfl q) fun _ s2 z => ?_)
    exact assignInOrder_nil z
section
variable {T : Ks} {W : WX} {c : Ct} {g : Gh} {Γ Γ' : Nv} {σ : L2.St} {H : Hp} {k ka : Lq} {te tb : TE} {fe fb : EF D}
def starK (i j : Nat) (x : D × Nv) : R (Err × Nv) (Fl × Nv) := match x.1 with
  | .tup (d :: ds) => .ok (.nx, (x.2.set i (.im d)).set j (.im (.lst ds)))
  | _ => .bad
def dStar (i j : Nat) (fe : EF D) : SF := fun Γ => (fe Γ).bind (starK i j)
theorem ds_star {i j : Nat} (a : DE T W .S te fe) : DS T W (tAsg te (gStar2 T.K (gName i) (gName j))) (dStar i j fe) := fun c g Γ σ H D S p => by
  refine a c g Γ σ H _ S ?_
  unfold dStar at p
  cases e : fe Γ with
  | bad => rw [e] at p; exact p
  | err x => rw [e] at p; exact fun cls dd H' S' => p g cls dd σ H' Gle.refl S'
  | ok x =>
    obtain ⟨d, Γ1⟩ := x
    rw [e, R.bind_ok] at p
    intro v H' S' _ r
    unfold starK at p
    dsimp only at p
    split at p
    · rename_i d0 ds
      cases r with
      | @tup q vs _ hq rs =>
        cases rs with
        | @cons v0 ws _ _ r0 rs =>
          refine ⟨q, v0, ws, rfl, hq, fun l hl => ?_⟩
          have S2 := S'.grow (same_upd (o := .lst ws) hl)
          have r0' := r0.same (same_upd (o := .lst ws) hl)
          have rs' := rs.same (same_upd (o := .lst ws) hl)
          have S3 := S2.setIm i r0'
          have hne : ¬ (g.cut i).Ep l := fun z => (S'.some_of (k := .S) (Gh.cut_ep z)) hl
          have S4 := S3.setIm (v := .ref l) (d := .lst ds) j (.lst (by rw [upd_same]) hne (rs'.weak fun b z _ => Gh.cut_ep z))
          exact p _ _ _ (Gle.cut.trans Gle.cut) S4
    · exact False.elim p
/-- *xs among what is called or made of -/
def dStarA (fe : EF D) (fs : EF (List D)) : EF (List D) := fun Γ => (fe Γ).bind fun x => match seqOf x.1 with
  | some xs => if nolsts xs = true then (fs x.2).bind fun y => .ok (xs ++ y.1, y.2) else .bad
  | none => .bad
theorem da_star {ts : TA} {fs : EF (List D)} (a : DE T W ka te fe) (b : DA T W k ts fs) : DA T W k (StX.tStar T.K te ts) (dStarA fe fs) := fun c g Γ σ H Q S p => by
  refine a c g Γ σ H _ S ?_
  unfold dStarA at p
  cases e : fe Γ with
  | bad => rw [e] at p; exact p
  | err x => rw [e] at p; exact p
  | ok x =>
    obtain ⟨dx, Γ1⟩ := x
    rw [e, R.bind_ok] at p
    intro v1 H1 S1 k1 r1
    dsimp only at p
    cases e0 : seqOf dx with
    | none => rw [e0] at p; exact False.elim p
    | some xs =>
      rw [e0] at p
      dsimp only at p
      split at p
      · rename_i hn
        obtain ⟨q, vs, rfl, rs, hq⟩ := r1.seq e0
        refine ⟨q, vs, rfl, hq.symm, ?_⟩
        refine b c g Γ1 σ H1 _ S1 ?_
        cases e2 : fs Γ1 with
        | bad => rw [e2] at p; exact p
        | err y => rw [e2] at p; exact p
        | ok y =>
          obtain ⟨ys, Γ2⟩ := y
          rw [e2, R.bind_ok] at p
          intro v2 H2 S2 k2 r2
          refine p _ H2 S2 (k1.trans k2) ((rs.free k2 S1.listsD hn).append (r2.weak fun b' z _ => ?_))
          cases k with
          | W => exact z
          | S => exact z
          | F => exact z
          | N => exact S.grown S1 k1 b' z
      · exact False.elim p
/-- a text-keyed dict of the top, read -/
def oKd (kvs : List (Str × D)) (x : D) : Option D := match x with
  | .str z => kvs.lookup z
  | _ => none
theorem ud_kd {w : World} {a : Addr} {kvs : List (Str × D)} (hk : ∀ z d, kvs.lookup z = some d → ∃ v, KDct T.K w a z v ∧ ∀ (E : Addr → Prop) H, Rep T.K E H v d) : UnD T (fun y H Q => rIxD T.K w (.ref a) y H Q) (oKd kvs) := fun E H x dx z Q r e q => by
  cases dx with
  | str y =>
    cases r
    obtain ⟨v, h1, h2⟩ := hk y z e
    exact ⟨a, y, v, rfl, rfl, h1, q v H (Same.refl _) (h2 _ _)⟩
  | _ => cases e
theorem de_kd {w : World} {a : Addr} {kvs : List (Str × D)} (hk : ∀ z d, kvs.lookup z = some d → ∃ v, KDct T.K w a z v ∧ ∀ (E : Addr → Prop) H, Rep T.K E H v d) (b : DE T W ka tb fb) : DE T W k (tOp (rIxD T.K w) (tC (.ref a)) tb) (dUn (oKd kvs) fb) := de_un (ud_kd hk) b
end
section
variable {X : Cx} {CX : CXT} {C f : Addr} {fd : FuncData} {ps : List Str} {sp : Sp} {E : XK} {k : Nat}
/-- x == y by an own method -/
def rOwnE (C : Addr) (sp : Sp) (E : XK) : R2 := fun x y H Q => ∃ a dx fs b dy gs, x = .ref a ∧ y = .ref b ∧ H a = some (.ins C dx fs) ∧ H b = some (.ins C dy gs) ∧ sp [x, y] H (fun v H' => (∃ c, v = .bl c) ∧ Q v H') E
theorem op_eqOwn (hm : Meth X.K C "__eq__" f) (F : FnOk X.prog X.w X.K X.mg X.base CX k f fd ps sp) (hr : Room k X.A) (hb : Binds X.K fd ps []) (hx : Passes CX X E) : OpR X (compareOp .Eq) (rOwnE C sp E) := by
  intro pins s σ H x y v u Q I rx ry h
  obtain ⟨a, dx, fs, b, dy, gs, rfl, rfl, ea, eb, q⟩ := h
  cases (show v = Value.ref a from rx)
  cases (show u = Value.ref b from ry)
  obtain ⟨mA, J, _⟩ := ins_get I.hok ea
  obtain ⟨od, J, _⟩ := J.look
  obtain ⟨mB, J2, _⟩ := ins_get I.hok eb
  obtain ⟨od2, J2, _⟩ := J2.look
  obtain ⟨m0, hF⟩ := I.fr
  show wpAny (model X.prog X.w) X.A (richCompare .Eq (.ref a) (.ref b)) (EP X pins σ Q) X.xe s
  refine PySem.W.cmp_K (op := .Eq) (tb := .ref C) (by have := hr.units; omega) hF I.ok.mod.kin J J2.type (by unfold PySem.W.notFirst; simp) hm.at_ hm.fn ?_
  refine wpAny_mono (run_fn F hr hb .nil hx I (.cons (show RelV (.ref a) (Value.ref a) from rfl) (.cons (show RelV (.ref b) (Value.ref b) from rfl) .nil)) q) (fun v s' z => ?_) fun _ _ z => z
  obtain ⟨v', H', I', rv, ⟨p, rfl⟩, q'⟩ := z
  cases (show v = Value.bool p from rv)
  exact ⟨.bl p, H', I', rfl, q'⟩
end
section
variable {T : Ks} {C : Addr} {E : XK}
def blOf : D → Option D
  | .bl b => some (.bl b)
  | _ => none
def oOwnE (C : Addr) (F : List D → R Err D) (x y : D) : Option D := if insOf C x = true ∧ insOf C y = true then (okO (F [x, y])).bind blOf else none
theorem opd_eqOwn {F : List D → R Err D} : OpD T (rOwnE C (spP T 2 F) E) (oOwnE C F) := fun E' H x y dx dy z Q r1 r2 e q => by
  unfold oOwnE at e
  split at e
  · rename_i h
    obtain ⟨p, d, fs, rfl, hp⟩ := insOf_at h.1 r1
    obtain ⟨p2, d2, fs2, rfl, hp2⟩ := insOf_at h.2 r2
    obtain ⟨z', e1, e2⟩ := Option.bind_eq_some_iff.mp e
    cases z' with
    | bl b =>
      cases e2
      refine ⟨p, d, fs, p2, d2, fs2, rfl, rfl, hp, hp2, [dx, dy], rfl, .cons (r1.weak fun _ z _ => z.elim) (.cons (r2.weak fun _ z _ => z.elim) .nil), ?_⟩
      rw [okO_of e1]
      intro v H' s r
      cases r
      exact ⟨⟨_, rfl⟩, q _ _ s (.bl b)⟩
    | _ => cases e2
  · cases e
end
section
variable {K : PySem.W.Frag} {w : World} {a : Addr}
/-- what a text-keyed dict of the top holds -/
def KdAll (K : PySem.W.Frag) (a : Addr) (kvs : List (Str × D)) : Prop := ∀ p ∈ kvs, ∃ u v, PySem.W.nsIn K a p.1 = some (some u) ∧ RelV v u ∧ ∀ (E : Addr → Prop) H, Rep K E H v p.2
theorem kd_nil : KdAll K a [] := fun p h => nomatch h
theorem kd_cons {x : Str} {d : D} {u : Value} {v : V} {kvs : List (Str × D)} (h : PySem.W.nsIn K a x = some (some u)) (ru : RelV v u) (rp : ∀ (E : Addr → Prop) H, Rep K E H v d) (t : KdAll K a kvs) : KdAll K a ((x, d) :: kvs) := fun p hp => by
  rcases List.mem_cons.mp hp with rfl | hp
  · exact ⟨u, v, h, ru, rp⟩
  · exact t p hp
theorem lookup_mem {z : Str} {d : D} : ∀ {kvs : List (Str × D)}, kvs.lookup z = some d → (z, d) ∈ kvs
  | [], h => nomatch h
  | (x, e) :: r, h => by
    rw [List.lookup_cons] at h
    split at h
    · rename_i c
      cases h
      have : z = x := by simpa using c
      subst this
      exact List.mem_cons_self
    · exact List.mem_cons_of_mem _ (lookup_mem h)
theorem kd_of {es : Array DictEntry} {n : Nat} {kvs : List (Str × D)} (hl : K.lookup a = some ⟨.type "dict", none, .dict es n, #[]⟩) (hk : PySem.W.KeysLit w.params es.toList) (h : KdAll K a kvs) : ∀ z d, kvs.lookup z = some d → ∃ v, KDct K w a z v ∧ ∀ (E : Addr → Prop) H, Rep K E H v d := fun z d e => by
  obtain ⟨u, v, h1, h2, h3⟩ := h _ (lookup_mem e)
  exact ⟨v, ⟨es, n, u, hl, hk, h1, h2⟩, h3⟩
end
section
variable {T : Ks} {W : WX} {te : TE} {fe : EF D} {k : Lq}
theorem Reps.rev {E : Addr → Prop} {H : Hp} : ∀ {vs : List V} {ds : List D}, Reps T.K E H vs ds → Reps T.K E H vs.reverse ds.reverse
  | _, _, .nil => .nil
  | _, _, .cons (v := v) (vs := vs) (d := d) (ds := ds) r t => by
    rw [List.reverse_cons, List.reverse_cons]
    exact (Reps.rev t).append (.cons r .nil)
/-- xs[::-1] -/
def revK (x : D × Nv) : R (Err × Nv) (List D × Nv) := match lstOf x.1 with
  | some xs => if nolsts xs = true then .ok (xs.reverse, x.2) else .bad
  | none => .bad
def dRevO (fe : EF D) : EF (List D) := fun Γ => (fe Γ).bind revK
theorem do_rev (a : DE T W k te fe) : DO T W (tRevL T.K te) (dRevO fe) := fun c g Γ σ H Q S p => by
  refine a c g Γ σ H _ S ?_
  unfold dRevO at p
  cases e : fe Γ with
  | bad => rw [e] at p; exact p
  | err x => rw [e] at p; exact p
  | ok x =>
    obtain ⟨dx, Γ1⟩ := x
    rw [e, R.bind_ok] at p
    intro v1 H1 S1 k1 r1
    have r3 : Rep T.K g.Dp H1 v1 dx := S.toW r1
    unfold revK at p
    cases e4 : lstOf dx with
    | none => simp only [e4] at p; exact False.elim p
    | some ds =>
      simp only [e4] at p
      by_cases hn : nolsts ds = true
      · rw [if_pos hn] at p
        obtain ⟨q, vs, ev, rr, hs⟩ := Rep.sql r3 e4 S1.listsD
        subst ev
        refine ⟨q, vs, rfl, hs _ Keep.refl, fun a na => ?_⟩
        have s := same_upd (o := .lst vs.reverse) na
        exact p a _ _ (S1.more s na upd_same) (k1.trans (ofSame s)) (none_back (N := fun _ => False) (fun b z => S.grown S1 k1 b z) na) upd_same (((rr.loose hn).rev).same s)
      · rw [if_neg hn] at p; exact False.elim p
end
section
variable {X : Cx} {CL : CXT} {C fl : Addr} {fdL : FuncData} {psL : List Str} {E0 : XK} {n : Nat} {f : Str}
/-- len(o) by an own __len__ of a field's list -/
def rLenS (C : Addr) (f : Str) : List V → Hp → VK → Prop := fun xs H Q => ∃ a dx fs l zs, xs = [.ref a] ∧ H a = some (.ins C dx fs) ∧ fs.lookup f = some (.ref l) ∧ H l = some (.lst zs) ∧ Q (.int zs.length) H
theorem call_lenS (hm : Meth X.K C "__len__" fl) (FL : FnOk X.prog X.w X.K X.mg X.base CL n fl fdL psL (spLn C f)) (bL : Binds X.K fdL psL []) (xL : ∀ H s e s', CL X.stack H s E0 e s' → False) (hr : Room (n + 1) X.A) : CallR X (.builtin "len") (rLenS C f) := by
  intro pins s σ H xs us Q I rv h
  obtain ⟨a, dx, fs, l, zs, rfl, ha, hf, hl, hq⟩ := h
  obtain ⟨u, rfl, ru⟩ := rv.one
  cases (show u = Value.ref a from ru)
  have sb : Sub X n X.A.in1 := Sub.in1 (⟨hr, rfl⟩ : Sub X (n + 1) X.A)
  obtain ⟨mA, J, _⟩ := ins_get I.hok ha
  obtain ⟨od, J, _⟩ := J.look
  obtain ⟨m0, hF⟩ := I.fr
  obtain ⟨hz, _⟩ := I.lstM hl
  have e0 : Env0 X.prog X.w X.K X.mg X.base X.A.in1 X.stack s H :=
    ⟨by rw [sb.fr]; exact I.env0.frames, I.env0.mod, I.env0.bs, I.env0.bsz, I.env0.funs, I.env0.frf, I.env0.hok, I.env0.bare⟩
  have hsp : spLn C f [.ref a] H (fun v H' => v = .int zs.length ∧ H' = H) E0 := ⟨a, dx, fs, l, zs, rfl, ha, hf, hl, rfl, rfl⟩
  have hlen := FL.len _ _ _ _ hsp
  have r2 : Vals [V.ref a] [Value.ref a] := .cons rfl .nil
  refine PySem.W.len_K hF I.ok.mod.kin J hm.at_ hm.fn (wpAny_call (codeAny_mono (FL.run X.A.in1 X.stack s H ⟨[.ref a], []⟩ [.ref a] [.ref a] _ E0 sb.room e0 (by
    have := bL s [.ref a] I.kIn (by simpa using hlen)
    simpa using this) r2 hsp) fun r s' hr => ?_))
  cases r with
  | error e => exact (xL _ _ e s' hr).elim
  | ok fl' =>
    cases fl' with
    | next => exact False.elim hr
    | brk => exact False.elim hr
    | cont => exact False.elim hr
    | ret u =>
      obtain ⟨v, H', I', rv, ev, eH⟩ := I.after hr
      subst ev
      rw [eH] at I'
      obtain ⟨t, rfl⟩ := rv
      refine ⟨⟨by omega, by have : sizeLine = 16777216 := sizeLine_eq; omega⟩, ?_⟩
      exact ⟨.int zs.length, H, I'.tok _, ⟨_, rfl⟩, hq⟩
end
section
variable {T : Ks} {C : Addr}
def oLenO (C : Addr) (f : Str) (ds : List D) : Option D := match ds with
  | [.ins C' [n] [.lst zs]] => if C' = C ∧ n = f then some (.int zs.length) else none
  | _ => none
theorem cad_lenO {f : Str} : CaD T (rLenS C f) (oLenO C f) := fun E H xs ds z Q r e q => by
  unfold oLenO at e
  split at e
  · split at e
    · rename_i hc
      obtain ⟨h1, h2⟩ := hc
      subst h1; subst h2
      cases e
      cases r with
      | cons r1 r2 =>
        cases r2
        cases r1 with
        | @ins p _ dx _ ws _ hp np rw' hl =>
          cases rw' with
          | @cons w ws' _ _ r3 r4 =>
            cases r4
            cases r3 with
            | @lst l zv _ hl2 nl r5 =>
              refine ⟨p, dx, _, l, zv, rfl, hp, by simp [List.lookup], hl2, ?_⟩
              rw [r5.length]
              exact q _ _ (Same.refl _) (.int _)
    · cases e
  · cases e
end
end DL

set_option Elab.async false
set_option linter.all false
set_option maxRecDepth 100000
/-! data layer, part t: texts joined, a list made longer, o.m() -/
namespace DL
open PySem PySem.Spec PyProof.Rows L2
section
variable {T : Ks} {W : WX} {c : Ct} {g : Gh} {Γ Γ' : Nv} {σ : L2.St} {H : Hp} {k ka kb : Lq} {ta te : TE} {fa fe : EF D}
/-! ### s.join(xs) -/
def strsOf : List D → Option (List Str)
  | [] => some []
  | .str x :: r => (strsOf r).map fun y => x :: y
  | _ => none
theorem Reps.strs {E : Addr → Prop} {H : Hp} : ∀ {vs : List V} {ds : List D} {xs : List Str}, Reps T.K E H vs ds → strsOf ds = some xs → vs = xs.map V.str
  | _, _, _, .nil, e => by cases e; rfl
  | _, _, _, .cons (d := d) r t, e => by
    cases d with
    | str x =>
      obtain ⟨y, e1, e2⟩ := Option.map_eq_some_iff.mp (show (strsOf _).map (fun y => x :: y) = some _ from e)
      subst e2
      cases r
      rw [t.strs e1]; rfl
    | _ => cases e
def isStrD : D → Bool
  | .str _ => true
  | _ => false
def oJoin (x y : D) : Option D := match x with
  | .str a => (seqOf y).bind fun ds => (strsOf ds).bind fun ys => if (ys.map (·.length)).sum + ys.length * a.length ≤ 16777216 then some (.str (Str.join a ys)) else none
  | _ => none
def dJoin (fa fe : EF D) : EF D := fun Γ => (fa Γ).bind fun x => if isStrD x.1 = true then (fe x.2).bind fun y => liftO (oJoin x.1 y.1) y.2 else .bad
theorem de_join (a : DE T W ka ta fa) (b : DE T W kb te fe) : DE T W k (tM1 (fun x xs H Q => ∃ a p, ∃ ys : List Str, x = .str a ∧ xs = [.ref p] ∧ (SqL T.K H p (ys.map V.str) ∨ SqT T.K H p (ys.map V.str)) ∧ (ys.map (·.length)).sum + ys.length * a.length ≤ 16777216 ∧ Q (.str (Txt.join a ys)) H) ta te) (dJoin fa fe) := fun c g Γ σ H Q S p => by
  refine a c g Γ σ H _ S ?_
  unfold dJoin at p
  cases e : fa Γ with
  | bad => rw [e] at p; exact p
  | err x => rw [e] at p; exact p
  | ok x =>
    obtain ⟨dx, Γ1⟩ := x
    rw [e, R.bind_ok] at p
    intro v1 H1 S1 k1 r1
    dsimp only at p
    split at p
    · rename_i hs
      cases dx with
      | str s =>
        cases r1
        refine ⟨⟨s, rfl⟩, ?_⟩
        refine b c g Γ1 σ H1 _ S1 ?_
        cases e2 : fe Γ1 with
        | bad => rw [e2] at p; exact p
        | err y => rw [e2] at p; exact p
        | ok y =>
          obtain ⟨dy, Γ2⟩ := y
          simp only [e2, R.bind_ok] at p
          intro v2 H2 S2 k2 r2
          cases e3 : oJoin (.str s) dy with
          | none => rw [e3] at p; exact False.elim p
          | some z =>
            rw [e3] at p
            unfold oJoin at e3
            obtain ⟨ds, e4, e5⟩ := Option.bind_eq_some_iff.mp e3
            obtain ⟨ys, e6, e7⟩ := Option.bind_eq_some_iff.mp e5
            split at e7
            · rename_i hl
              cases e7
              obtain ⟨q, vs, rfl, rs, hq⟩ := r2.seq e4
              rw [rs.strs e6] at hq
              refine ⟨s, q, ys, rfl, rfl, hq, hl, ?_⟩
              have : Txt.join s ys = Str.join s ys := StrLaws.glued_eq_join s ys
              rw [this]
              exact p _ H2 S2 (k1.trans k2) (.str _)
            · cases e7
      | _ => cases hs
    · exact False.elim p
/-! ### name += a list -/
def dExt (i : Nat) (fe : EF D) : SF := fun Γ => if isRef Γ[i]? = true then (fe Γ).bind fun x => match x.2[i]?, x.1 with
  | some (.own ds), .lst es => if nolsts es = true ∧ ds.length + es.length ≤ sizeLine then .ok (.nx, x.2.set i (.own (ds ++ es))) else .bad
  | _, _ => .bad else .bad
theorem ds_ext {i : Nat} (a : DE T W k te fe) : DS T W (tAug i te rExt2) (dExt i fe) := fun c g Γ σ H D S p => by
  unfold dExt at p
  by_cases hr : isRef Γ[i]? = true
  · rw [if_pos hr] at p
    obtain ⟨a0, ea⟩ := S.isRef_at hr
    refine ⟨.ref a0, ea, a c g Γ σ H _ S ?_⟩
    cases e : fe Γ with
    | bad => rw [e] at p; exact p
    | err x => rw [e] at p; exact fun cls dd H' S' => p g cls dd σ H' Gle.refl S'
    | ok x =>
      obtain ⟨dx, Γ1⟩ := x
      rw [e, R.bind_ok] at p
      intro v1 H1 S1 k1 r1
      dsimp only at p
      split at p
      · rename_i ds es e4 
        obtain ⟨a1, vs, h1, h2, h3, h4, h5, h6⟩ := S1.slot i _ e4
        rw [ea] at h2; cases h2
        by_cases hc : nolsts es = true ∧ ds.length + es.length ≤ sizeLine
        · rw [if_pos hc] at p
          cases r1 with
          | @lst l2 ws _ hl2 _ rws =>
            refine ⟨a0, l2, vs, ws, rfl, rfl, h3, hl2, by rw [h6.length, rws.length]; exact hc.2, ?_⟩
            have hs : σ.set i (some (.ref a0)) = σ := by
              apply List.ext_getElem?
              intro j
              by_cases hj : j = i
              · subst hj
                have hlt : j < σ.length := (List.getElem?_eq_some_iff.mp ea).1
                rw [List.getElem?_set_self hlt, ea]
              · rw [List.getElem?_set_ne (Ne.symm hj)]
            show D.nx (σ.set i (some (.ref a0))) _
            rw [hs]
            exact p g σ _ Gle.refl (S1.setOwn e4 h1 h3 (nolsts_append h5 hc.1) ((h6.loose (E' := fun _ => False) h5).append (rws.loose hc.1)))
        · rw [if_neg hc] at p; exact False.elim p
      · exact False.elim p
  · rw [if_neg hr] at p; exact False.elim p
/-! ### o.m() -/
def methO (C : Addr) (m : Str) : D → Bool
  | .ins C' ns _ => decide (C' = C ∧ ¬ m ∈ ns)
  | _ => false
theorem zip_lookup {m : Str} : ∀ {ns : List Str} {vs : List V}, ¬ m ∈ ns → (ns.zip vs).lookup m = none
  | [], _, _ => rfl
  | _ :: _, [], _ => rfl
  | n :: ns, v :: vs, h => by
    rw [List.zip_cons_cons, List.lookup_cons]
    have h1 : (m == n) = false := by
      have : m ≠ n := fun z => h (by rw [z]; exact List.mem_cons_self)
      simpa using this
    rw [h1]
    exact zip_lookup fun z => h (List.mem_cons_of_mem _ z)
theorem methO_at {C : Addr} {m : Str} {E : Addr → Prop} {H : Hp} {v : V} {d : D} (h : methO C m d = true) (r : Rep T.K E H v d) : ∃ p dx fs, v = .ref p ∧ H p = some (.ins C dx fs) ∧ fs.lookup m = none := by
  cases d with
  | ins C' ns ds =>
    obtain ⟨h1, h2⟩ := of_decide_eq_true h
    subst h1
    cases r with
    | ins h _ _ _ => exact ⟨_, _, _, rfl, h, zip_lookup h2⟩
  | _ => cases h
def dMeth0 (C : Addr) (m : Str) (F : List D → R Err D) (fe : EF D) : EF D := fun Γ => (fe Γ).bind fun x => if methO C m x.1 = true then (match F [x.1] with | .ok d => .ok (d, x.2) | _ => .bad) else .bad
theorem de_meth0 {C : Addr} {m : Str} {F : List D → R Err D} {E : XK} (a : DE T W ka te fe) : DE T W k (tMeth C m (spP T 1 F) [] E te tNil) (dMeth0 C m F fe) := fun c g Γ σ H Q S p => by
  refine a c g Γ σ H _ S ?_
  unfold dMeth0 at p
  cases e : fe Γ with
  | bad => rw [e] at p; exact p
  | err x => rw [e] at p; exact p
  | ok x =>
    obtain ⟨dx, Γ1⟩ := x
    rw [e, R.bind_ok] at p
    intro v1 H1 S1 k1 r1
    dsimp only at p
    split at p
    · rename_i hm
      obtain ⟨q, d, fs, rfl, hq, hl⟩ := methO_at hm r1
      refine ⟨q, d, fs, rfl, hq, hl, ?_⟩
      show spP T 1 F [.ref q] H1 Q E
      cases e4 : F [dx] with
      | bad => simp only [e4] at p; exact False.elim p
      | err z => simp only [e4] at p; exact False.elim p
      | ok z =>
        simp only [e4] at p
        refine ⟨[dx], rfl, .cons (r1.weak fun _ z _ => z.elim) .nil, ?_⟩
        rw [e4]
        exact fun v H' s r => p v H' (S1.grow s) (k1.trans (ofSame s)) (S.newq r (S.grown S1 k1))
    · exact False.elim p
end
end DL

set_option Elab.async false
set_option linter.all false
set_option maxRecDepth 100000
/-! data layer, part u: a small dict with text keys; if (name := e) is not None -/
namespace DL
open PySem PySem.Spec PyProof.Rows L2
section
variable {T : Ks} {W : WX} {c : Ct} {g : Gh} {Γ Γ' : Nv} {σ : L2.St} {H : Hp} {k ka kb : Lq} {ta te : TE} {fa fe : EF D} {t u : TS} {p q : SF}
/-! ### {x: a, y: b} of names -/
def slotD : Option Slot → Option D
  | some (.im d) => some d
  | some (.fr d) => some d
  | _ => none
theorem Sim.slotD_at {i : Nat} {d : D} (S : Sim T c g Γ σ H) (h : slotD Γ[i]? = some d) (hn : nolst d = true) : ∃ v, σ[i]? = some (some v) ∧ ∀ E, Rep T.K E H v d := by
  cases e : Γ[i]? with
  | none => rw [e] at h; cases h
  | some s =>
    rw [e] at h
    have q := S.slot i s e
    cases s with
    | im d' =>
      cases h
      obtain ⟨_, v, h1, h2⟩ := q
      exact ⟨v, h1, fun E => h2.loose hn⟩
    | fr d' =>
      cases h
      obtain ⟨_, v, h1, h2⟩ := q
      exact ⟨v, h1, fun E => h2.loose hn⟩
    | _ => cases h
def dDct2 (a b : Str) (i j : Nat) : EF D := fun Γ => match slotD Γ[i]?, slotD Γ[j]? with
  | some d, some e => if nolst d = true ∧ nolst e = true ∧ a ≠ b then .ok (.dct [a, b] [d, e], Γ) else .bad
  | _, _ => .bad
theorem de_dct2 {a b : Str} {i j : Nat} : DE T W k (tDisp [(tC (.str a), tVar i), (tC (.str b), tVar j)]) (dDct2 a b i j) := fun c g Γ σ H Q S p => by
  unfold dDct2 at p
  split at p
  · rename_i d e h1 h2
    split at p
    · rename_i hn
      obtain ⟨v, hv, rv⟩ := S.slotD_at h1 hn.1
      obtain ⟨w, hw, rw'⟩ := S.slotD_at h2 hn.2.1
      intro l hl
      refine ⟨v, hv, w, hw, ?_⟩
      refine ⟨by rw [upd_same], [(Sum.inr a, v), (Sum.inr b, w)], rfl, (show 2 ≤ 15 by decide), ?_⟩
      have em : mergeK [] [((Sum.inr a : Key), v), (Sum.inr b, w)] = [(Sum.inr a, v), (Sum.inr b, w)] := by
        have hab : ¬ ((Sum.inr a : Key) = Sum.inr b) := fun z => hn.2.2 (Sum.inr.inj z)
        simp [mergeK, putK, hab]
      rw [em, upd_upd]
      have s := same_upd (o := .dK [((Sum.inr a : Key), v), (Sum.inr b, w)]) hl
      refine p _ _ (S.grow s) (ofSame s) ?_
      refine .dct (ks := [a, b]) (vs := [v, w]) (by rw [upd_same]; rfl) (fun z => (S.someq z) hl) ?_
      exact .cons ((rv _).same s) (.cons ((rw' _).same s) .nil)
    · exact False.elim p
  · exact False.elim p
theorem valV_zip {z : Str} : ∀ {ks : List Str} {vs : List V}, valV ((ks.zip vs).map fun q => ((Sum.inr q.1 : Key), q.2)) (Sum.inr z) = (ks.zip vs).lookup z
  | [], _ => rfl
  | _ :: _, [] => rfl
  | x :: ks, v :: vs => by
    rw [List.zip_cons_cons, List.map_cons, List.lookup_cons]
    by_cases h : x = z
    · subst h
      rw [valV_pos rfl]
      simp
    · rw [valV_neg fun q => h (Sum.inr.inj q), valV_zip]
      have : (z == x) = false := by simpa using fun q : z = x => h q.symm
      rw [this]
def oDGet (x y : D) : Option D := match x, y with
  | .dct ks ds, .str z => (ks.zip ds).lookup z
  | _, _ => none
def dDGet (fd fk : EF D) : EF D := fun Γ => (fd Γ).bind fun x => (fk x.2).bind fun y => match oDGet x.1 y.1 with
  | some d => if nolst d = true then .ok (d, y.2) else .bad
  | none => .bad
theorem de_dget (a : DE T W ka ta fa) (b : DE T W kb te fe) : DE T W k (tDGet ta te) (dDGet fa fe) := fun c g Γ σ H Q S p => by
  refine a c g Γ σ H _ S ?_
  unfold dDGet at p
  cases e : fa Γ with
  | bad => rw [e] at p; exact p
  | err x => rw [e] at p; exact p
  | ok x =>
    obtain ⟨dx, Γ1⟩ := x
    rw [e, R.bind_ok] at p
    intro v1 H1 S1 k1 r1
    refine b c g Γ1 σ H1 _ S1 ?_
    cases e2 : fe Γ1 with
    | bad => rw [e2] at p; exact p
    | err y => rw [e2] at p; exact p
    | ok y =>
      obtain ⟨dy, Γ2⟩ := y
      simp only [e2, R.bind_ok] at p
      intro v2 H2 S2 k2 r2
      have r1' := S.toW (S1.stay (vs := []) k2 (fun b z => S.exW z) r1)
      cases e3 : oDGet dx dy with
      | none => rw [e3] at p; exact False.elim p
      | some d =>
        rw [e3] at p
        dsimp only at p
        split at p
        · rename_i hn
          unfold oDGet at e3
          split at e3
          · cases r2
            cases r1' with
            | @dct q ks vs ds hq _ rs =>
              obtain ⟨v, h1, h2⟩ := lookup_reps rs e3
              refine ⟨q, v, rfl, .inl ⟨_, Sum.inr _, .inl hq, rfl, ?_⟩, ?_⟩
              · rw [valV_zip, h1]
              · exact p v H2 S2 (k1.trans k2) (h2.loose hn)
          · cases e3
        · exact False.elim p
/-! ### if (name := e) is not None -/
def rNotN : R2 := fun x y H Q => y = .non ∧ Q (.bl (!decide (x = .non))) H
def isNonD : D → Bool
  | .non => true
  | _ => false
theorem Rep.isNon {E : Addr → Prop} {v : V} {d : D} (r : Rep T.K E H v d) : decide (v = .non) = isNonD d := by
  cases r <;> first | rfl | exact decide_eq_false (fun z => nomatch z)
def ifNmK (i : Nat) (p q : SF) (x : D × Nv) : R (Err × Nv) (Fl × Nv) := (if isNonD x.1 = true then q else p) (x.2.set i (.fr x.1))
def dIfNm (i : Nat) (fe : EF D) (p q : SF) : SF := fun Γ => (fe Γ).bind (ifNmK i p q)
theorem PostS.le {g' : Gh} {D : Ends} {r : R (Err × Nv) (Fl × Nv)} (h : Gle g g') (p : PostS T c g D W r) : PostS T c g' D W r := by
  cases r with
  | bad => exact p
  | err x => exact fun g2 cls dd σ' H' l S o => p g2 cls dd σ' H' (h.trans l) S o
  | ok x =>
    obtain ⟨fl, Γ⟩ := x
    cases fl with
    | nx => exact fun g2 σ' H' l S => p g2 σ' H' (h.trans l) S
    | bk => exact fun g2 σ' H' l S => p g2 σ' H' (h.trans l) S
    | ct => exact fun g2 σ' H' l S => p g2 σ' H' (h.trans l) S
    | rt d => exact fun g2 v σ' H' l S r => p g2 v σ' H' (h.trans l) S r
theorem ds_ifNm {i : Nat} (a : DE T W .F te fe) (b : DS T W t p) (b' : DS T W u q) : DS T W (tIfW (wCmp rNotN (wNm (wE te) i) (tC .non)) t u) (dIfNm i fe p q) := fun c g Γ σ H D S P => by
  refine a c g Γ σ H _ S ?_
  unfold dIfNm at P
  cases e : fe Γ with
  | bad => rw [e] at P; exact P
  | err x => rw [e] at P; exact fun cls dd H' S' => P g cls dd σ H' Gle.refl S'
  | ok x =>
    obtain ⟨d, Γ1⟩ := x
    rw [e, R.bind_ok] at P
    intro v H1 S1 _ r
    have S2 := S1.setFr i r
    have P' := P.le (Gle.cut (i := i))
    refine ⟨rfl, _, rfl, ?_⟩
    rw [r.isNon]
    unfold ifNmK at P'
    dsimp only at P'
    cases hd : isNonD d with
    | true =>
      rw [hd, if_pos rfl] at P'
      show (if (!true) = true then t D _ H1 else u D _ H1)
      rw [if_neg (by decide)]
      exact b' c _ _ _ H1 D S2 P'
    | false =>
      rw [hd, if_neg (by decide)] at P'
      show (if (!false) = true then t D _ H1 else u D _ H1)
      rw [if_pos (by decide)]
      exact b c _ _ _ H1 D S2 P'
end
end DL

set_option Elab.async false
set_option linter.all false
set_option maxRecDepth 100000
/-! data layer, part v: tuples of ints compared -/
namespace DL
open PySem PySem.Spec PyProof.Rows L2
section
variable {T : Ks}
def oLtT (x y : D) : Option D := match x, y with
  | .tup a, .tup b => (intsOf a).bind fun ns => (intsOf b).map fun ms => .bl (HT.lexLt ns ms)
  | _, _ => none
theorem Reps.intsV {E : Addr → Prop} {H : Hp} : ∀ {vs : List V} {ds : List D} {ns : List Int}, Reps T.K E H vs ds → intsOf ds = some ns → vs = ns.map V.int
  | _, _, _, .nil, e => by cases e; rfl
  | _, _, _, .cons (d := d) r t, e => by
    cases d with
    | int i =>
      obtain ⟨y, e1, e2⟩ := Option.map_eq_some_iff.mp (show (intsOf _).map (fun y => i :: y) = some _ from e)
      subst e2
      cases r
      rw [t.intsV e1]; rfl
    | _ => cases e
theorem opd_ltT : OpD T (rLtT T.K) oLtT := fun E H x y dx dy z Q r1 r2 e q => by
  unfold oLtT at e
  split at e
  · obtain ⟨ns, e1, e2⟩ := Option.bind_eq_some_iff.mp e
    obtain ⟨ms, e3, e4⟩ := Option.map_eq_some_iff.mp e2
    subst e4
    cases r1 with
    | tup h1 s1 =>
      cases r2 with
      | tup h2 s2 =>
        rw [s1.intsV e1] at h1
        rw [s2.intsV e3] at h2
        exact ⟨_, _, ns, ms, rfl, rfl, h1, h2, q _ H (Same.refl _) (.bl _)⟩
  · cases e
end
end DL

set_option Elab.async false
set_option linter.all false
set_option maxRecDepth 100000
set_option maxHeartbeats 2000000
/-! data layer, part w: own < <= *, count * o, C(k = v) -/
namespace DL
open PySem PySem.Spec PyProof.Rows L2
section
variable {X : Cx} {CX : CXT} {C f : Addr} {fd : FuncData} {ps : List Str} {sp : Sp} {E : XK} {k : Nat}
theorem op_cmpOwn {op : CmpOp} (hop : ∀ a b, compareOp op a b = richCompare op a b) (hm : Meth X.K C (PySem.cmpInfo op).2.1 f) (F : FnOk X.prog X.w X.K X.mg X.base CX k f fd ps sp) (hr : Room k X.A) (hb : Binds X.K fd ps []) (hx : Passes CX X E) : OpR X (compareOp op) (rOwnE C sp E) := by
  intro pins s σ H x y v u Q I rx ry h
  obtain ⟨a, dx, fs, b, dy, gs, rfl, rfl, ea, eb, q⟩ := h
  cases (show v = Value.ref a from rx)
  cases (show u = Value.ref b from ry)
  obtain ⟨mA, J, _⟩ := ins_get I.hok ea
  obtain ⟨od, J, _⟩ := J.look
  obtain ⟨mB, J2, _⟩ := ins_get I.hok eb
  obtain ⟨od2, J2, _⟩ := J2.look
  obtain ⟨m0, hF⟩ := I.fr
  rw [hop]
  refine PySem.W.cmp_K (op := op) (tb := .ref C) (by have := hr.units; omega) hF I.ok.mod.kin J J2.type (by unfold PySem.W.notFirst; simp) hm.at_ hm.fn ?_
  refine wpAny_mono (run_fn F hr hb .nil hx I (.cons (show RelV (.ref a) (Value.ref a) from rfl) (.cons (show RelV (.ref b) (Value.ref b) from rfl) .nil)) q) (fun v s' z => ?_) fun _ _ z => z
  obtain ⟨v', H', I', rv, ⟨p, rfl⟩, q'⟩ := z
  cases (show v = Value.bool p from rv)
  exact ⟨.bl p, H', I', rfl, q'⟩
theorem op_ltOwn (hm : Meth X.K C "__lt__" f) (F : FnOk X.prog X.w X.K X.mg X.base CX k f fd ps sp) (hr : Room k X.A) (hb : Binds X.K fd ps []) (hx : Passes CX X E) : OpR X (compareOp .Lt) (rOwnE C sp E) := op_cmpOwn (op := .Lt) (fun _ _ => rfl) hm F hr hb hx
theorem op_leOwn (hm : Meth X.K C "__le__" f) (F : FnOk X.prog X.w X.K X.mg X.base CX k f fd ps sp) (hr : Room k X.A) (hb : Binds X.K fd ps []) (hx : Passes CX X E) : OpR X (compareOp .LtE) (rOwnE C sp E) := op_cmpOwn (op := .LtE) (fun _ _ => rfl) hm F hr hb hx
/-- o * i by an own method -/
def rOwnI (C : Addr) (sp : Sp) (E : XK) : R2 := fun x y H Q => ∃ a dx fs i, x = .ref a ∧ y = .int i ∧ H a = some (.ins C dx fs) ∧ sp [x, y] H (fun v H' => (∃ p, v = .ref p) ∧ Q v H') E
/-- what of the text the class must have for o * i -/
structure MulW (K : PySem.W.Frag) (C : Addr) where
  sf : PySem.W.selfFirst K C = true
  rc : Option Value
  hr : PySem.W.findIn K (.ref C) (dunderR "mul") = some rc
  hp : rc = none ∨ ∃ g : Addr, rc = some (.ref g)
  fo : Option Value
  h1 : PySem.W.findIn K (.type "int") (PySem.dunder "mul") = some fo
  ro : Option Value
  h2 : PySem.W.findIn K (.type "int") (dunderR "mul") = some ro
  hs : PySem.W.subIn K (.type "int") (.ref C) = some false
theorem op_mulOwn (M : MulW X.K C) (hm : Meth X.K C "__mul__" f) (F : FnOk X.prog X.w X.K X.mg X.base CX k f fd ps sp) (hr : Room k X.A) (hb : Binds X.K fd ps []) (hx : Passes CX X E) : OpR X (binaryOp .Mult) (rOwnI C sp E) := by
  intro pins s σ H x y v u Q I rx ry h
  obtain ⟨a, dx, fs, i, rfl, rfl, ea, q⟩ := h
  cases (show v = Value.ref a from rx)
  obtain ⟨t, rfl⟩ := ry
  obtain ⟨mA, J, _⟩ := ins_get I.hok ea
  obtain ⟨od, J, _⟩ := J.look
  obtain ⟨m0, hF⟩ := I.fr
  refine PySem.W.ksp_binT (op := .Mult) (T := "int") hF I.ok.mod.kin J rfl M.sf hm.at_ hm.fn M.hr M.hp M.h1 M.h2 M.hs ?_
  refine wpAny_mono (run_fn F hr hb .nil hx I (.cons (show RelV (.ref a) (Value.ref a) from rfl) (.cons (show RelV (.int i) (Value.int i t) from ⟨_, rfl⟩) .nil)) q) (fun v s' z => ?_) fun _ _ z => z
  obtain ⟨v', H', I', rv, ⟨p, rfl⟩, q'⟩ := z
  cases (show v = Value.ref p from rv)
  exact ⟨.ref p, H', I', rfl, q'⟩
end
section
open PySem.W
variable {prog : Program} {w : World} {M : Model} {A : Around} {E : Value → Shared → Prop} {s : Shared} {K : Frag} {x C dx f : Addr}
theorem int_mul_ref {i : Int} {t : Tok} {Q : Value → Shared → Prop} (hx : s.heap.get? x = some (instObj C dx)) (h : Q .notImplemented s) :
    wpAny (model prog w) A (call (.builtin "int.__mul__") [.int i t, .ref x]) Q E s := by
  refine wpAny_call_entry F.slot_int_mul (show s.TypeIs (.int i t) "int" from rfl) F.entry_int_mul ?_ (F.args_int_mul_2 _ _)
  show wpAny _ _ (Builtin.Int.intBinary "__mul__" _ _ _) _ _ _
  unfold Builtin.Int.intBinary
  refine wpAny_bind (wpAny_of_eq (a := (.int i t, [.ref x])) (by rfl) ?_)
  refine wpAny_bind (wpAny_of_eq (a := i) (by rfl) ?_)
  refine wpAny_bind (m := asInt? (.ref x)) ?_
  unfold asInt?
  refine wpAny_bind (wpAny_load hx ?_)
  refine wpAny_pure ?_
  exact wpAny_bind (wpAny_rule (wpAny_pure ⟨_, rfl, h⟩))
theorem int_declines {i : Int} {t : Tok} {Q : Option Value → Shared → Prop} (hx : s.heap.get? x = some (instObj C dx)) (q : Q none s) : wpAny (model prog w) A (tryMethod (.int i t) (PySem.dunder "mul") (.ref x)) Q E s := by
  have hT : s.TypeIs (.int i t) "int" := rfl
  refine wpAny_tryMethod_declines (id := "int.__mul__") (name := PySem.dunder "mul") hT F.slot_int_mul ?_
  exact int_mul_ref (Q := fun v s' => v = .notImplemented ∧ Q none s') hx ⟨rfl, q⟩
theorem binop_refl {op : Operator} {T : String} {od : Option Obj} {ox : Obj} {L : Addr} {h₀ : Heap} {m : Str → Option Value} {a : Value} {g : Addr} {Q : Value → Shared → Prop} (Fr0 : PyProof.Rows.Fr h₀ L s.heap m) (X₀ : K.In h₀) (I : InstAt s.heap x ox C od) (hc : selfFirst K C = true)
    (ha : typeOf a = pure (.type T)) (hfT : fillsNumberSlot (.type T) op.info.2 = pure true) (zero : ∀ {Q : Option Value → Shared → Prop}, Q none s → wpAny (model prog w) A (tryMethod a (PySem.dunder op.info.2) (.ref x)) Q E s)
    (hm : findIn K (.ref C) (PySem.dunder op.info.2) = some (some (.ref g))) (hs : findIn K (.ref C) (dunderR op.info.2) = some (some (.ref f))) (hf : isFn K (.ref f) = true) (hsub : subIn K (.ref C) (.type T) = some false)
    (h : wpAny (model prog w) A (call (.ref f) [.ref x, a]) (PySem.W.CmpBack Q) E s) : wpAny (model prog w) A (binaryOp op a (.ref x)) Q E s := by
  have X := X₀.keeps Fr0.keep
  obtain ⟨cd, rest, hcd, hmm⟩ := ksp_first hc
  rcases hi : op.info with ⟨sym, nm⟩
  rw [hi] at hfT zero hm hs
  dsimp only at hfT zero hm hs
  have one := ksp_try X I hs hf h
  obtain ⟨hh, g', d, tt, os⟩ := s
  have L1 : Looks (model prog w) hh (typeOf (.ref x)) (.ref C) := I.type
  have L3 : Looks (model prog w) hh (fillsNumberSlot (.ref C) nm) true := fills_K X hcd hmm hm
  have L5 : Looks (model prog w) hh (isSubtype (.ref C) (.type T)) false := looks_subIn X hsub
  have hpy : numberSlotInPython (.type T) nm = pure false := rfl
  have hne : (Value.type T == Value.ref C) = false := Bool.eq_false_iff.mpr fun q => by cases beq_iff_eq.mp q
  simp only [binaryOp, hi]
  refine wpAny_holding (wpAny_bind ?_)
  unfold binaryOp1
  refine wpAny_bind (wpAny_of_eq ha (wpAny_bind (L1.at (wpAny_bind (wpAny_of_eq hfT ?_)))))
  simp only [hne, Bool.false_eq_true, if_false]
  refine wpAny_bind (L3.at ?_)
  simp only [Bool.and_self, if_true]
  refine wpAny_bind (L5.at ?_)
  simp only [Bool.false_eq_true, if_false, pure_bind, Bool.not_false, Bool.and_self, if_true, hpy]
  refine wpAny_bind (zero ?_)
  refine wpAny_bind (wpAny_mono one (fun r s' z => ?_) fun _ _ e => e)
  obtain ⟨v, rfl, hq⟩ := z
  exact wpAny_bind (wpAny_rule (wpAny_pure (wpAny_pure hq)))
end
section
variable {X : Cx} {CX : CXT} {C f : Addr} {fd : FuncData} {ps : List Str} {sp : Sp} {E : XK} {k : Nat}
/-- i * o by an own method -/
def rOwnR (C : Addr) (sp : Sp) (E : XK) : R2 := fun x y H Q => ∃ a dx fs i, y = .ref a ∧ x = .int i ∧ H a = some (.ins C dx fs) ∧ sp [y, x] H (fun v H' => (∃ p, v = .ref p) ∧ Q v H') E
structure RmulW (K : PySem.W.Frag) (C : Addr) where
  sf : PySem.W.selfFirst K C = true
  g : Addr
  hm : PySem.W.findIn K (.ref C) (PySem.dunder "mul") = some (some (.ref g))
  hs : PySem.W.subIn K (.ref C) (.type "int") = some false
theorem op_rmulOwn (M : RmulW X.K C) (hm : Meth X.K C "__rmul__" f) (Fk : FnOk X.prog X.w X.K X.mg X.base CX k f fd ps sp) (hr : Room k X.A) (hb : Binds X.K fd ps []) (hx : Passes CX X E) : OpR X (binaryOp .Mult) (rOwnR C sp E) := by
  intro pins s σ H x y v u Q I rx ry h
  obtain ⟨a, dx, fs, i, rfl, rfl, ea, q⟩ := h
  cases (show u = Value.ref a from ry)
  obtain ⟨t, rfl⟩ := rx
  obtain ⟨mA, J, _⟩ := ins_get I.hok ea
  have hob := J.obj
  obtain ⟨od, J, _⟩ := J.look
  obtain ⟨m0, hF⟩ := I.fr
  refine binop_refl (op := .Mult) (T := "int") hF I.ok.mod.kin J M.sf rfl F.fills_int_mul (fun {Q} q => int_declines hob q) M.hm hm.at_ hm.fn M.hs ?_
  refine wpAny_mono (run_fn Fk hr hb .nil hx I (.cons (show RelV (.ref a) (Value.ref a) from rfl) (.cons (show RelV (.int i) (Value.int i t) from ⟨_, rfl⟩) .nil)) q) (fun v s' z => ?_) fun _ _ z => z
  obtain ⟨v', H', I', rv, ⟨p, rfl⟩, q'⟩ := z
  cases (show v = Value.ref p from rv)
  exact ⟨.ref p, H', I', rfl, q'⟩
end
section
variable {T : Ks} {W : WX} {C : Addr} {E : XK} {k : Lq}
def insO (C : Addr) (z : D) : Option D := if insOf C z = true then some z else none
def oOwnI (C : Addr) (F : List D → R Err D) (x y : D) : Option D := match y with
  | .int i => if insOf C x = true then (okO (F [x, .int i])).bind (insO C) else none
  | _ => none
def oOwnR (C : Addr) (F : List D → R Err D) (x y : D) : Option D := oOwnI C F y x
theorem opd_ownI {F : List D → R Err D} : OpD T (rOwnI C (spP T 2 F) E) (oOwnI C F) := fun E' H x y dx dy z Q r1 r2 e q => by
  unfold oOwnI at e
  split at e
  · split at e
    · rename_i h
      obtain ⟨p, d, fs, rfl, hp⟩ := insOf_at h r1
      obtain ⟨z', e1, e2⟩ := Option.bind_eq_some_iff.mp e
      unfold insO at e2
      split at e2
      · rename_i hz
        cases e2
        cases r2
        refine ⟨p, d, fs, _, rfl, rfl, hp, [dx, .int _], rfl, .cons (r1.weak fun _ z _ => z.elim) (.cons (.int _) .nil), ?_⟩
        rw [okO_of e1]
        intro v H' s r
        obtain ⟨p', _, _, rfl, _⟩ := insOf_at hz r
        exact ⟨⟨_, rfl⟩, q _ _ s r⟩
      · cases e2
    · cases e
  · cases e
theorem opd_ownR {F : List D → R Err D} : OpD T (rOwnR C (spP T 2 F) E) (oOwnR C F) := fun E' H x y dx dy z Q r1 r2 e q => by
  unfold oOwnR oOwnI at e
  split at e
  · split at e
    · rename_i h
      obtain ⟨p, d, fs, rfl, hp⟩ := insOf_at h r2
      obtain ⟨z', e1, e2⟩ := Option.bind_eq_some_iff.mp e
      unfold insO at e2
      split at e2
      · rename_i hz
        cases e2
        cases r1
        refine ⟨p, d, fs, _, rfl, rfl, hp, [dy, .int _], rfl, .cons (r2.weak fun _ z _ => z.elim) (.cons (.int _) .nil), ?_⟩
        rw [okO_of e1]
        intro v H' s r
        obtain ⟨p', _, _, rfl, _⟩ := insOf_at hz r
        exact ⟨⟨_, rfl⟩, q _ _ s r⟩
      · cases e2
    · cases e
  · cases e
/-- C(k = v), one keyword -/
theorem de_makeK0 {nf : List Str} {n m : Nat} {F : List D → R Err (List D)} {ts : TA} {fs : EF (List D)} {ka : Lq} (a : DA T W ka ts fs) (hm : m = n) (hn : ∀ ds e, F ds = .ok e → ds.length = n) :
    DE T W k (tMakeK C 0 m (spI T C nf n F) (fun us zs => us ++ zs) E tNil ts) (dMake C nf F [] fs) := fun c g Γ σ H Q S p => by
  show ts σ H _
  refine a c g Γ σ H _ S ?_
  unfold dMake at p
  cases e : fs Γ with
  | bad => rw [e] at p; exact p
  | err x => rw [e] at p; exact p
  | ok x =>
    obtain ⟨ds, Γ1⟩ := x
    rw [e, R.bind_ok] at p
    rw [List.append_nil] at p
    intro v1 H1 S1 k1 r1
    cases e2 : F ds with
    | bad => simp only [e2] at p; exact False.elim p
    | err z => simp only [e2] at p; exact False.elim p
    | ok es =>
      simp only [e2] at p
      have hl := hn _ _ e2
      refine ⟨rfl, by rw [hm, ← hl]; exact r1.length, fun x dx nx nd hne => ?_⟩
      refine ⟨x, dx, H1, v1, ds, rfl, nx, nd, hne, rfl, hl, r1.weak (fun _ z _ => z.elim), ?_⟩
      rw [e2]
      intro H' ws' s ex r hl
      refine ⟨rfl, p (.ref x) H' (S1.grow s) (k1.trans (ofSame s)) (S.newq (H1 := H1) ?_ (S.grown S1 k1))⟩
      exact .ins ex (fun z => z nx) r hl
/-- .. n of n, one of them by keyword -/
theorem fun_kb1 {K : PySem.W.Frag} {x qual : Str} {params : Arguments} {body : List Stmt} {scope : Scope} {dvs : List V} {f : Addr} {fd : FuncData} {ps : List Str} (F : FunD K x qual params body scope dvs [] f fd) {kw : Str} (hd : dvs ≠ [])
    (h : ∀ (T : Addr) (kV doc pm : Value) (an : Option Addr) (cdv ct : Value) (us its ws : List Value), us.length = 1 → its.length = dvs.length → ws.length = 1 →
      ∃ k, bindArgs (PySem.W.fnOf x qual params body scope (.ref T) kV doc pm an cdv ct) ⟨us, [kw].zip ws⟩ = seqItems? (.ref T) >>= k ∧ k (some its.toArray) = pure (ps.zip (us ++ ws))) :
    KBn K fd ps 1 [kw] (fun us ws => us ++ ws) (fun vs zs => vs ++ zs) := by
  obtain ⟨its, h'⟩ := F.kbindsD (n := 1) (ks := [kw]) (fun us _ ws => us ++ ws) hd (fun r1 _ r3 => r1.append r3) h
  exact h'
end
end DL
namespace DL
open PySem PySem.Spec PyProof.Rows L2
theorem binds_none {K : PySem.W.Frag} {x qual : Str} {params : Arguments} {body : List Stmt} {scope : Scope} {f : Addr} {fd : FuncData} {ps : List Str} (F : FunD K x qual params body scope [.non] [] f fd) (hl : ps.length = 2)
    (h : ∀ (T : Addr) (kV doc pm : Value) (an : Option Addr) (cdv ct : Value) (us its : List Value), us.length = 1 → its.length = 1 →
      ∃ k, bindArgs (PySem.W.fnOf x qual params body scope (.ref T) kV doc pm an cdv ct) ⟨us, []⟩ = seqItems? (.ref T) >>= k ∧ k (some its.toArray) = pure (ps.zip (us ++ its))) : Binds K fd ps [.none] := by
  obtain ⟨ds, h1, h2⟩ := F.binds1 1 0 (List.cons_ne_nil _ _) (by rw [hl]; rfl) (fun T kV doc pm an cdv ct us its l1 l2 => by
    obtain ⟨k, e1, e2⟩ := h T kV doc pm an cdv ct us its l1 l2
    exact ⟨k, e1, e2⟩)
  cases h1 with
  | cons r t =>
    cases t
    cases (show _ = Value.none from r)
    exact h2
end DL
namespace DL
open PySem PySem.Spec PyProof.Rows L2
section
variable {T : Ks}
def oLeT (x y : D) : Option D := match x, y with
  | .tup a, .tup b => (intsOf a).bind fun ns => (intsOf b).map fun ms => .bl (Ob.lexAt (fun j => decide (ns.getD j 0 = ms.getD j 0)) (fun j => decide (ns.getD j 0 ≤ ms.getD j 0)) (decide (ns.length ≤ ms.length)) 0 (min ns.length ms.length))
  | _, _ => none
theorem opd_leT : OpD T (rLeT T.K) oLeT := fun E H x y dx dy z Q r1 r2 e q => by
  unfold oLeT at e
  split at e
  · obtain ⟨ns, e1, e2⟩ := Option.bind_eq_some_iff.mp e
    obtain ⟨ms, e3, e4⟩ := Option.map_eq_some_iff.mp e2
    subst e4
    cases r1 with
    | tup h1 s1 =>
      cases r2 with
      | tup h2 s2 =>
        rw [s1.intsV e1] at h1
        rw [s2.intsV e3] at h2
        exact ⟨_, _, ns, ms, rfl, rfl, h1, h2, q _ H (Same.refl _) (.bl _)⟩
  · cases e
end
end DL
namespace DL
open PySem PySem.Spec PyProof.Rows L2
section
variable {T : Ks}
def wide128 (i : Int) : Prop := -340282366920938463463374607431768211456 < i ∧ i < 340282366920938463463374607431768211456
instance {i : Int} : Decidable (wide128 i) := inferInstanceAs (Decidable (_ ∧ _))
/-- i * j of wider ints -/
def oMulW : D → D → Option D
  | .int i, .int j => if wide128 i ∧ wide128 j then some (.int (i * j)) else none
  | _, _ => none
theorem wide128_abs {i : Int} (h : wide128 i) : i.natAbs < 2 ^ 128 := by
  have h1 := h.1
  have h2 := h.2
  have : (2 : Nat) ^ 128 = 340282366920938463463374607431768211456 := by decide
  rw [this]
  omega
theorem opd_mulW : OpD T (rI CMulW fun i j => .int (i * j)) oMulW := fun E H x y dx dy z Q r1 r2 e q => by
  unfold oMulW at e
  split at e
  · cases r1; cases r2
    split at e
    · rename_i h
      cases e
      exact ⟨_, _, rfl, rfl, wide_mul (wide128_abs h.1) (wide128_abs h.2) (by decide) (by decide) (by decide), q _ _ (Same.refl _) (.int _)⟩
    · cases e
  · cases e
end
end DL

set_option Elab.async false
set_option linter.all false
set_option maxRecDepth 100000
/-! data layer, part x: errors -/
namespace DL
open PySem PySem.Spec PyProof.Rows L2
section
variable {T : Ks} {W : WX} {c : Ct} {g g' : Gh} {Γ Γ' : Nv} {σ σ' : L2.St} {H H' : Hp} {v : V} {d : D} {k : Lq} {t u : TS} {te : TE} {f h : SF} {fe : EF D} {De : Ends} {a b : Addr} {vs ws : List V} {ds es : List D}
/-! ### a def that may raise -/
def resX : R (Err × Nv) (Fl × Nv) → R Err D
  | .ok (.nx, _) => .ok .non
  | .ok (.rt d, _) => .ok d
  | .err (e, _) => .err e
  | _ => .bad
def fnX (n m : Nat) (f : SF) (ds : List D) : R Err D := if ds.length = n then resX (f (ds.map Slot.im ++ List.replicate m .emp)) else .bad
theorem fnX_len {n m : Nat} {f : SF} (ds : List D) (h : fnX n m f ds ≠ .bad) : ds.length = n := by
  unfold fnX at h
  split at h
  · assumption
  · exact absurd rfl h
theorem body_X {N : List Str} {n m : Nat} {Q : VK} {E : XK} (a : DS T (fun cls dd _ H => E cls dd H) t f) (hN : N.length = n + m) (h : spP T n (fnX n m f) vs H Q E) : t { nx := fun _ H' => Q .non H', rt := Q } (L2.start N vs) H := by
  obtain ⟨ds, h1, h2, h3⟩ := h
  refine a _ _ _ _ _ _ (sim_start h2 h1 hN) ?_
  unfold fnX at h3
  rw [if_pos h1] at h3
  cases e : f (ds.map Slot.im ++ List.replicate m .emp) with
  | bad => rw [e] at h3; exact h3
  | err x =>
    obtain ⟨x, Γ⟩ := x
    rw [e] at h3
    exact fun g' cls dd σ' H' _ S' eo => h3 cls dd H' S'.frame eo
  | ok x =>
    obtain ⟨fl, Γ⟩ := x
    rw [e] at h3
    cases fl with
    | nx => exact fun g' σ' H' _ S' => h3 .non H' S'.frame .non
    | bk => exact False.elim h3
    | ct => exact False.elim h3
    | rt d => exact fun g' v σ' H' _ S' r => h3 v H' S'.frame r
theorem finX_P {X : Cx} {body : List Stmt} {N : List Str} {n m : Nat} {Q : VK} {E : XK} (ps : PSs X body t) (a : DS T (fun cls dd _ H => E cls dd H) t f) (hN : N.length = n + m) (h : spP T n (fnX n m f) vs H Q E) :
    ∃ t, PSs X body t ∧ t { nx := fun _ H' => Q .non H', rt := Q } (L2.start N vs) H := ⟨t, ps, body_X a hN h⟩
/-! ### a call whose error goes on -/
def callXK (F : List D → R Err D) (x : List D × Nv) : R (Err × Nv) (D × Nv) := match F x.1 with
  | .ok d => .ok (d, x.2)
  | .err e => .err (e, x.2)
  | .bad => .bad
def dCallX (F : List D → R Err D) (fs : EF (List D)) : EF D := fun Γ => (fs Γ).bind (callXK F)
theorem de_callX {n : Nat} {F : List D → R Err D} {ts : TA} {fs : EF (List D)} {ka : Lq} (a : DA T W ka ts fs) (hn : ∀ ds, F ds ≠ .bad → ds.length = n) : DE T W k (tCallS (spP T n F) (WE W) ts) (dCallX F fs) := fun c g Γ σ H Q S p => by
  refine a c g Γ σ H _ S ?_
  unfold dCallX at p
  cases e : fs Γ with
  | bad => rw [e] at p; exact p
  | err x => rw [e] at p; exact p
  | ok x =>
    obtain ⟨ds, Γ1⟩ := x
    rw [e, R.bind_ok] at p
    unfold callXK at p
    intro v1 H1 S1 k1 r1
    refine ⟨ds, hn _ (fun z => by simp only [z] at p; exact p), r1.weak fun _ z _ => z.elim, ?_⟩
    cases e2 : F ds with
    | bad => simp only [e2] at p; exact False.elim p
    | err z =>
      simp only [e2] at p
      exact fun cls dd H' s eo => p cls dd H' (S1.grow s) eo
    | ok d =>
      simp only [e2] at p
      exact fun v H' s r => p v H' (S1.grow s) (k1.trans (ofSame s)) (S.newq r (S.grown S1 k1))
@[simp] theorem ev_callX {F : List D → R Err D} {fs : EF (List D)} : dCallX F fs Γ = (fs Γ).bind (callXK F) := eq_of rfl
/-! ### raise C('..') -/
def dRaise (nm : Str) : SF := fun Γ => .err (⟨nm, none⟩, Γ)
theorem ds_raise {C : Addr} {nm : Str} (hC : T.cl nm = C) : DS T W (fun _ σ H => W (.ref C) none σ H) (dRaise nm) := fun c g Γ σ H D S p => p g _ none σ H Gle.refl S ⟨by rw [hC], (fun i e => (nomatch e)), fun _ => rfl⟩
end
/-! ### a def called in an except suite: p is what the suite holds -/
structure FnPin (P : Program) (w : World) (K : PySem.W.Frag) (mg : Str → Option Value) (base : Heap) (k : Nat) (f : Addr) (fd : FuncData) (ps : List Str) (sp : Sp) (p : Addr × Obj) : Prop where
  len : ∀ vs H Q E, sp vs H Q E → vs.length = ps.length
  run : ∀ (A : Around) (outer : List Env) (s : Shared) (H : Hp) (args : Args) (us : List Value) (vs : List V) (Q : VK) (E : XK), L2H.RoomH k A → L2H.PinOk outer H s p → Env0 P w K mg base A outer s H → BindsTo s fd args (ps.zip us) → Vals vs us → sp vs H Q E →
    codeAny (model P w) A (.call (.ref f) args) (CR CX0 outer P w H s Q E) s
theorem fn_pin {P : Program} {w : World} {K : PySem.W.Frag} {mg : Str → Option Value} {base : Heap} {k : Nat} {x qual : Str} {st : Stmt} {f : Addr} {fd : FuncData} {N ps : List Str} {sp : Sp} {p : Addr × Obj} (F : Fun K x qual st f fd) (S : FnScope N ps (defScope st))
    (len : ∀ vs H Q E, sp vs H Q E → vs.length = ps.length)
    (hbody : ∀ (cdv : Value) (A : Around) (outer : List Env) (s : Shared) (H : Hp) (vs : List V) (Q : VK) (E : XK), L2H.RoomH k (A.deeper (envOfC qual (defScope st) s.heap.objs.size f cdv)) → sp vs H Q E →
      ∃ t, PSs (L2H.cxH CX0 P w K mg base N qual (defScope st) f cdv A outer s H E p) (defBody st) t ∧ t { nx := fun _ H' => Q .non H', rt := Q } (L2.start N vs) H) :
    FnPin P w K mg base (k + 1) f fd ps sp p := by
  obtain ⟨oc, od, kV, doc, pm, an, cdv, ct, osl, rfl, lk, hcd⟩ := F.ex
  refine ⟨len, fun A outer s H args us vs Q E hr hpin e0 hb r hsp => ?_⟩
  have hl := len _ _ _ _ hsp
  have KX : K.In s.heap := e0.mod.kin.keeps fun b o e => (e0.bs b o e).1
  refine codeAny_call_function hr.depth (KX _ _ lk) rfl S.co S.gen rfl (PySem.W.codeRec_of KX hcd) (hb _ _ _ _ ?_)
  refine wpAny_newFunctionEnv_cells S.kind (fun y hy => ?_) fun env he s1 x => ?_
  · rcases S.par y.1 (List.of_mem_zip hy).1 with q | q
    · exact .inl q
    · exact .inr ⟨q, PySem.W.cellsFrom_some _ _ _ (.inl q)⟩
  subst he
  refine ⟨(e0.mod.nolimit.keeps fun b o e => (e0.bs b o e).1).keeps x.toInCall.keep, codeAny_func ?_⟩
  obtain ⟨t, ht, hq⟩ := hbody cdv A outer s H vs Q E (hr.deeper _) hsp
  refine wpAny_mono (ht.run [] s1 (L2.start N vs) H _ (L2H.inv_startH S hpin e0 hl r x) hq) (fun fl s' hs => ?_) fun e s' hs => hs
  cases fl with
  | ret u =>
    obtain ⟨v, σ', H', J, rv, q⟩ := hs
    exact ⟨v, H', J.os, J.bare, J.base, J.hok, rv, q⟩
  | next =>
    obtain ⟨σ', H', J, q⟩ := hs
    exact ⟨V.non, H', J.os, J.bare, J.base, J.hok, rfl, q⟩
  | brk => obtain ⟨_, _, _, q⟩ := hs; exact False.elim q
  | cont => obtain ⟨_, _, _, q⟩ := hs; exact False.elim q
end DL

set_option Elab.async false
set_option linter.all false
set_option maxRecDepth 100000
/-! data layer, part y: what an except suite gives -/
namespace DL
open PySem PySem.Spec PyProof.Rows L2
section
variable {X : Cx} {k : Nat} {f : Addr} {fd : FuncData} {ps : List Str} {sp : Sp} {x : Str} {q pos : Pos} {e : Expr} {es : List Expr} {t : TA} {p : Addr × Obj}
def tCallP (sp : Sp) (t : TA) : TE := fun σ H Q => t σ H fun vs H1 => sp vs H1 Q (fun _ _ _ => False)
theorem pe_callPin (F : FnPin X.prog X.w X.K X.mg X.base k f fd ps sp p) (hr : L2H.RoomH k X.A) (hp : p ∈ X.pn) (hg : Gl X x) (hm : X.mg x = some (.ref f)) (hk : PySem.W.keepIn X.K (.ref f) = true) (hb : Binds X.K fd ps [])
    (ha : PA X (e :: es) t) (hdb : (x == ("__debug__" : Str)) = false := by decide) (he : starEach (e :: es) X.env = (false, eval e X.env) :: starEach es X.env := by rfl) (hpl : (backTo pos (starEach es X.env)).any (·.1) = false := by rfl) :
    PE X (.Call (.Name x q) (e :: es) [] pos) (tCallP sp t) := by
  refine ⟨fun pins s σ H Q I h => ?_⟩
  refine wpAny_Call_Name_kw (ld_glob I hg hm ?_ hdb)
  refine PySem.W.callWith_K (h₀ := X.base) I.ok.mod.kin hk (thn (ha.run pos pins s σ H _ I h) fun us s1 ⟨vs, H1, I1, r, q⟩ => ⟨I1.kIn, ?_⟩) he hpl
  have hl : us.length = ps.length := by rw [← r.length]; exact F.len _ _ _ _ q
  have b := hb s1 us I1.kIn (by rw [List.append_nil]; exact hl)
  rw [List.append_nil] at b
  have P1 := I1.pin p (List.mem_append_left _ hp)
  have hpin : L2H.PinOk X.stack H1 s1 p := ⟨P1.1, P1.2.1, fun hm => (List.mem_cons.mp (I1.stkSub p.1 hm)).elim P1.2.2.1 P1.2.2.2.1, P1.2.2.2.2⟩
  refine wpAny_call (codeAny_mono (F.run X.A X.stack s1 H1 ⟨us, []⟩ us vs Q (fun _ _ _ => False) hr hpin I1.env0 b r q) fun r s' hq => ?_)
  cases r with
  | error e => exact False.elim hq
  | ok fl =>
    cases fl with
    | ret u => exact I1.after hq
    | next => exact False.elim hq
    | brk => exact False.elim hq
    | cont => exact False.elim hq
end
/-! ### isinstance of what the suite holds, in such a def -/
theorem call_isPin {X : Cx} {a D : Addr} {oe : Obj} (C : ExcC X.K D) (hz : Zc (.ref D) none oe) (hf : ∃ vs, oe.data = .fields vs) (hp : (a, oe) ∈ X.pn) : CallR X (.builtin "isinstance") (rIsE X.K D a) := by
  intro pins s σ H xs us Q I r h
  obtain ⟨c, cv, b, rfl, hcv, e, q⟩ := h
  cases r with
  | cons rx rr =>
    cases rr with
    | cons rt rr =>
      cases rr
      cases rx
      have ec := hcv _ rt
      subst ec
      obtain ⟨hget, _⟩ := I.pin (a, oe) (List.mem_append_left _ hp)
      obtain ⟨vs, hv⟩ := hf
      have J : PySem.W.InstAt s.heap a oe D none := by
        obtain ⟨oc, od, oda, osl⟩ := oe
        obtain ⟨h1, h2⟩ := hz
        dsimp only at h1 h2 hv
        subst h1 h2 hv
        exact ⟨hget, rfl, rfl, trivial⟩
      exact PySem.W.kia_one (PySem.W.handS_kitx_exc C.hg C.hk C.hs C.hd C.ha C.hn C.ht C.hm) I.kIn J e (fun z => nomatch z) fun tk => ⟨.bl b, H, I.kept (t' := tk) fun _ _ z => z, rfl, q⟩
end DL

set_option Elab.async false
set_option linter.all false
set_option maxRecDepth 100000
/-! data layer, part z: own operators and makings that may raise -/
namespace DL
open PySem PySem.Spec PyProof.Rows L2
/-- an operator at the slots σ -/
def OpAt (X : Cx) (σ : L2.St) (f : Value → Value → Sem Value) (r : R2) : Prop := ∀ (pins : List (Addr × Obj)) (s : Shared) (H : Hp) (x y : V) (v u : Value) (Q : VK), Inv X pins σ H s → RelV x v → RelV y u → r x y H Q → wpAny (model X.prog X.w) X.A (f v u) (EP X pins σ Q) X.xe s
def tOpS (r : L2.St → R2) (ta tb : TE) : TE := fun σ H Q => ta σ H fun x H1 => tb σ H1 fun y H2 => r σ x y H2 Q
section
variable {X : Cx} {a b : Expr} {ta tb : TE} {pos : Pos}
theorem pe_opS {op : Operator} {r : L2.St → R2} (ho : ∀ σ, OpAt X σ (binaryOp op) (r σ)) (ha : PE X a ta) (hb : PE X b tb) : PE X (.BinOp a op b pos) (tOpS r ta tb) := by
  refine ⟨fun pins s σ H Q I h => ?_⟩
  refine wpAny_BinOp (thn (ha.run pins s σ H _ I h) fun v s1 ⟨x, H1, I1, r1, q1⟩ => ?_)
  refine thn (hb.run pins s1 σ H1 _ I1 q1) fun u s2 ⟨y, H2, I2, r2, q2⟩ => ?_
  exact ho σ pins s2 H2 x y v u Q I2 r1 r2 q2
variable {W : WX} {CX : CXT} {C f : Addr} {fd : FuncData} {ps : List Str} {sp : Sp} {k : Nat}
theorem at_addOwn (hm : Meth X.K C "__add__" f) (hc : PySem.W.selfFirst X.K C = true) (F : FnOk X.prog X.w X.K X.mg X.base (L2.CX X.prog X.w) k f fd ps sp) (hr : Room k X.A) (hb : Binds X.K fd ps []) (tk : Takes X W) (σ : L2.St) : OpAt X σ (binaryOp .Add) (rOwn2 C sp (WE W σ)) := by
  intro pins s H x y v u Q I rx ry h
  obtain ⟨a, dx, fs, b, dy, gs, rfl, rfl, ea, eb, q⟩ := h
  cases (show v = Value.ref a from rx)
  cases (show u = Value.ref b from ry)
  obtain ⟨mA, J, _⟩ := ins_get I.hok ea
  obtain ⟨od, J, _⟩ := J.look
  obtain ⟨mB, J2, _⟩ := ins_get I.hok eb
  obtain ⟨od2, J2, _⟩ := J2.look
  obtain ⟨m0, hF⟩ := I.fr
  refine PySem.W.binop_K (op := .Add) hF I.ok.mod.kin J J2.type hc hm.at_ hm.fn ?_
  refine wpAny_mono (run_fnS (E := WE W) F hr hb (passAt tk σ) I (.cons (show RelV (.ref a) (Value.ref a) from rfl) (.cons (show RelV (.ref b) (Value.ref b) from rfl) .nil)) q) (fun v s' z => ?_) fun _ _ z => z
  obtain ⟨v', H', I', rv, ⟨p, rfl⟩, q'⟩ := z
  cases (show v = Value.ref p from rv)
  exact ⟨.ref p, H', I', rfl, q'⟩
theorem at_mulOwn (M : MulW X.K C) (hm : Meth X.K C "__mul__" f) (F : FnOk X.prog X.w X.K X.mg X.base (L2.CX X.prog X.w) k f fd ps sp) (hr : Room k X.A) (hb : Binds X.K fd ps []) (tk : Takes X W) (σ : L2.St) : OpAt X σ (binaryOp .Mult) (rOwnI C sp (WE W σ)) := by
  intro pins s H x y v u Q I rx ry h
  obtain ⟨a, dx, fs, i, rfl, rfl, ea, q⟩ := h
  cases (show v = Value.ref a from rx)
  obtain ⟨t, rfl⟩ := ry
  obtain ⟨mA, J, _⟩ := ins_get I.hok ea
  obtain ⟨od, J, _⟩ := J.look
  obtain ⟨m0, hF⟩ := I.fr
  refine PySem.W.ksp_binT (op := .Mult) (T := "int") hF I.ok.mod.kin J rfl M.sf hm.at_ hm.fn M.hr M.hp M.h1 M.h2 M.hs ?_
  refine wpAny_mono (run_fnS (E := WE W) F hr hb (passAt tk σ) I (.cons (show RelV (.ref a) (Value.ref a) from rfl) (.cons (show RelV (.int i) (Value.int i t) from ⟨_, rfl⟩) .nil)) q) (fun v s' z => ?_) fun _ _ z => z
  obtain ⟨v', H', I', rv, ⟨p, rfl⟩, q'⟩ := z
  cases (show v = Value.ref p from rv)
  exact ⟨.ref p, H', I', rfl, q'⟩
theorem at_rmulOwn (M : RmulW X.K C) (hm : Meth X.K C "__rmul__" f) (Fk : FnOk X.prog X.w X.K X.mg X.base (L2.CX X.prog X.w) k f fd ps sp) (hr : Room k X.A) (hb : Binds X.K fd ps []) (tk : Takes X W) (σ : L2.St) : OpAt X σ (binaryOp .Mult) (rOwnR C sp (WE W σ)) := by
  intro pins s H x y v u Q I rx ry h
  obtain ⟨a, dx, fs, i, rfl, rfl, ea, q⟩ := h
  cases (show u = Value.ref a from ry)
  obtain ⟨t, rfl⟩ := rx
  obtain ⟨mA, J, _⟩ := ins_get I.hok ea
  have hob := J.obj
  obtain ⟨od, J, _⟩ := J.look
  obtain ⟨m0, hF⟩ := I.fr
  refine binop_refl (op := .Mult) (T := "int") hF I.ok.mod.kin J M.sf rfl F.fills_int_mul (fun {Q} q => int_declines hob q) M.hm hm.at_ hm.fn M.hs ?_
  refine wpAny_mono (run_fnS (E := WE W) Fk hr hb (passAt tk σ) I (.cons (show RelV (.ref a) (Value.ref a) from rfl) (.cons (show RelV (.int i) (Value.int i t) from ⟨_, rfl⟩) .nil)) q) (fun v s' z => ?_) fun _ _ z => z
  obtain ⟨v', H', I', rv, ⟨p, rfl⟩, q'⟩ := z
  cases (show v = Value.ref p from rv)
  exact ⟨.ref p, H', I', rfl, q'⟩
end
section
variable {T : Ks} {W : WX} {C : Addr} {k ka kb : Lq} {ta tb : TE} {f h : EF D}
/-- what an own operator gives: the answer or its error -/
def oXK (o : D → D → R Err D) (x : D) (y : D × Nv) : R (Err × Nv) (D × Nv) := match o x y.1 with
  | .ok d => .ok (d, y.2)
  | .err e => .err (e, y.2)
  | .bad => .bad
def opXK (o : D → D → R Err D) (h : EF D) (x : D × Nv) : R (Err × Nv) (D × Nv) := (h x.2).bind (oXK o x.1)
def dOpX (o : D → D → R Err D) (f h : EF D) : EF D := fun Γ => (f Γ).bind (opXK o h)
def OpDX (T : Ks) (W : WX) (r : L2.St → R2) (o : D → D → R Err D) : Prop := ∀ (E : Addr → Prop) σ H x y dx dy (Q : VK), Rep T.K E H x dx → Rep T.K E H y dy →
  (match o dx dy with | .ok z => ∀ v H', Same H H' → Rep T.K (fun b => H b ≠ none) H' v z → Q v H' | .err e => ∀ cls dd H', Same H H' → ErrOk T e cls dd H' → W cls dd σ H' | .bad => False) → r σ x y H Q
theorem de_opX {r : L2.St → R2} {o : D → D → R Err D} (ho : OpDX T W r o) (a : DE T W ka ta f) (b : DE T W kb tb h) : DE T W k (tOpS r ta tb) (dOpX o f h) := fun c g Γ σ H Q S p => by
  refine a c g Γ σ H _ S ?_
  unfold dOpX at p
  cases e : f Γ with
  | bad => rw [e] at p; exact p
  | err x => rw [e] at p; exact p
  | ok x =>
    obtain ⟨dx, Γ1⟩ := x
    rw [e, R.bind_ok] at p
    unfold opXK at p
    intro v1 H1 S1 k1 r1
    refine b c g Γ1 σ H1 _ S1 ?_
    cases e2 : h Γ1 with
    | bad => simp only [e2] at p; exact p
    | err y => simp only [e2] at p; exact p
    | ok y =>
      obtain ⟨dy, Γ2⟩ := y
      simp only [e2, R.bind_ok] at p
      unfold oXK at p
      intro v2 H2 S2 k2 r2
      have r1' := S.toW (S1.stay (vs := []) k2 (fun b z => S.exW z) r1)
      have r2' := S1.toW r2
      refine ho g.Dp σ H2 v1 v2 dx dy Q r1' r2' ?_
      cases e3 : o dx dy with
      | bad => simp only [e3] at p; exact p
      | err z =>
        simp only [e3] at p
        exact fun cls dd H' s eo => p cls dd H' (S2.grow s) eo
      | ok z =>
        simp only [e3] at p
        intro v H' s r
        refine p v H' (S2.grow s) (k1.trans (k2.trans (ofSame s))) (S.newq r ?_)
        exact fun b z => S1.grown S2 k2 b (S.grown S1 k1 b z)
def insR (C : Addr) : R Err D → R Err D
  | .ok z => if insOf C z = true then .ok z else .bad
  | r => r
def oOwn2X (C : Addr) (F : List D → R Err D) (x y : D) : R Err D := if insOf C x = true ∧ insOf C y = true then insR C (F [x, y]) else .bad
theorem opdx_own {F : List D → R Err D} : OpDX T W (fun σ => rOwn2 C (spP T 2 F) (WE W σ)) (oOwn2X C F) := fun E' σ H x y dx dy Q r1 r2 q => by
  unfold oOwn2X at q
  split at q
  · rename_i z0 z hz
    split at hz
    · rename_i h
      obtain ⟨p, d, fs, rfl, hp⟩ := insOf_at h.1 r1
      obtain ⟨p2, d2, fs2, rfl, hp2⟩ := insOf_at h.2 r2
      refine ⟨p, d, fs, p2, d2, fs2, rfl, rfl, hp, hp2, [dx, dy], rfl, .cons (r1.weak fun _ z _ => z.elim) (.cons (r2.weak fun _ z _ => z.elim) .nil), ?_⟩
      cases e : F [dx, dy] with
      | ok w =>
        rw [e] at hz
        unfold insR at hz
        dsimp only at hz
        split at hz
        · rename_i hw
          cases hz
          intro v H' s r
          obtain ⟨p', _, _, rfl, _⟩ := insOf_at hw r
          exact ⟨⟨_, rfl⟩, q _ _ s r⟩
        · cases hz
      | err w => rw [e] at hz; cases hz
      | bad => rw [e] at hz; cases hz
    · cases hz
  · rename_i z0 z hz
    split at hz
    · rename_i h
      obtain ⟨p, d, fs, rfl, hp⟩ := insOf_at h.1 r1
      obtain ⟨p2, d2, fs2, rfl, hp2⟩ := insOf_at h.2 r2
      refine ⟨p, d, fs, p2, d2, fs2, rfl, rfl, hp, hp2, [dx, dy], rfl, .cons (r1.weak fun _ z _ => z.elim) (.cons (r2.weak fun _ z _ => z.elim) .nil), ?_⟩
      cases e : F [dx, dy] with
      | ok w =>
        rw [e] at hz
        unfold insR at hz
        dsimp only at hz
        split at hz <;> cases hz
      | err w =>
        rw [e] at hz
        cases hz
        exact fun cls dd H' s eo => q cls dd H' s eo
      | bad => rw [e] at hz; cases hz
    · cases hz
  · exact q.elim
theorem insR_post {σ : L2.St} {H : Hp} {Q : VK} {r : R Err D} (q : match insR C r with | .ok z => ∀ v H', Same H H' → Rep T.K (fun b => H b ≠ none) H' v z → Q v H' | .err e => ∀ cls dd H', Same H H' → ErrOk T e cls dd H' → W cls dd σ H' | .bad => False) :
    PostC T H (fun v H' => (∃ p, v = .ref p) ∧ Q v H') (WE W σ) r := by
  cases r with
  | ok w =>
    unfold insR at q
    dsimp only at q
    by_cases hw : insOf C w = true
    · rw [if_pos hw] at q
      dsimp only at q
      intro v H' s r
      obtain ⟨p', _, _, rfl, _⟩ := insOf_at hw r
      exact ⟨⟨_, rfl⟩, q _ _ s r⟩
    · rw [if_neg hw] at q
      exact q.elim
  | err w => exact fun cls dd H' s eo => q cls dd H' s eo
  | bad => exact q.elim
def oOwnIX (C : Addr) (F : List D → R Err D) (x y : D) : R Err D := match y with
  | .int i => if insOf C x = true then insR C (F [x, .int i]) else .bad
  | _ => .bad
def oOwnRX (C : Addr) (F : List D → R Err D) (x y : D) : R Err D := oOwnIX C F y x
theorem opdx_ownI {F : List D → R Err D} : OpDX T W (fun σ => rOwnI C (spP T 2 F) (WE W σ)) (oOwnIX C F) := fun E' σ H x y dx dy Q r1 r2 q => by
  cases dy with
  | int i =>
    unfold oOwnIX at q
    dsimp only at q
    by_cases h : insOf C dx = true
    · rw [if_pos h] at q
      obtain ⟨p, d, fs, rfl, hp⟩ := insOf_at h r1
      cases r2
      exact ⟨p, d, fs, i, rfl, rfl, hp, [dx, .int i], rfl, .cons (r1.weak fun _ z _ => z.elim) (.cons (.int _) .nil), insR_post q⟩
    · rw [if_neg h] at q; exact q.elim
  | _ => exact q.elim
theorem opdx_ownR {F : List D → R Err D} : OpDX T W (fun σ => rOwnR C (spP T 2 F) (WE W σ)) (oOwnRX C F) := fun E' σ H x y dx dy Q r1 r2 q => by
  cases dx with
  | int i =>
    unfold oOwnRX oOwnIX at q
    dsimp only at q
    by_cases h : insOf C dy = true
    · rw [if_pos h] at q
      obtain ⟨p, d, fs, rfl, hp⟩ := insOf_at h r2
      cases r1
      exact ⟨p, d, fs, i, rfl, rfl, hp, [dy, .int i], rfl, .cons (r2.weak fun _ z _ => z.elim) (.cons (.int _) .nil), insR_post q⟩
    · rw [if_neg h] at q; exact q.elim
  | _ => unfold oOwnRX oOwnIX at q; exact q.elim
/-! ### C(..), an __init__ that may raise; the wish does not read the slots -/
def mkXK (C : Addr) (nf : List Str) (F : List D → R Err (List D)) (dds : List D) (x : List D × Nv) : R (Err × Nv) (D × Nv) := match F (x.1 ++ dds) with
  | .ok es => .ok (.ins C nf es, x.2)
  | .err e => .err (e, x.2)
  | .bad => .bad
def dMakeX (C : Addr) (nf : List Str) (F : List D → R Err (List D)) (dds : List D) (fs : EF (List D)) : EF D := fun Γ => (fs Γ).bind (mkXK C nf F dds)
theorem de_makeX {E : XK} {nf : List Str} {n : Nat} {F : List D → R Err (List D)} {dvs : List V} {dds : List D} {ts : TA} {fs : EF (List D)} (a : DA T (fun cls dd _ H => E cls dd H) ka ts fs) (q : ∀ H, Reps T.K (fun _ => False) H dvs dds) (hn : ∀ ds, F ds ≠ .bad → ds.length = n) :
    DE T (fun cls dd _ H => E cls dd H) k (tMake C (spI T C nf n F) dvs E ts) (dMakeX C nf F dds fs) := fun c g Γ σ H Q S p => by
  refine a c g Γ σ H _ S ?_
  unfold dMakeX at p
  cases e : fs Γ with
  | bad => rw [e] at p; exact p
  | err x => rw [e] at p; exact p
  | ok x =>
    obtain ⟨ds, Γ1⟩ := x
    rw [e, R.bind_ok] at p
    unfold mkXK at p
    intro v1 H1 S1 k1 r1 x dx nx nd hne
    refine ⟨x, dx, H1, v1 ++ dvs, ds ++ dds, rfl, nx, nd, hne, rfl, hn _ (fun z => by simp only [z] at p; exact p), reps_app (E := fun _ => False) r1 q, ?_⟩
    cases e2 : F (ds ++ dds) with
    | bad => simp only [e2] at p; exact False.elim p
    | err z =>
      simp only [e2] at p
      exact fun cls dd H' s eo => p cls dd H' (S1.grow s) eo
    | ok es =>
      simp only [e2] at p
      intro H' ws' s ex r hl
      refine ⟨rfl, p (.ref x) H' (S1.grow s) (k1.trans (ofSame s)) (S.newq (H1 := H1) ?_ (S.grown S1 k1))⟩
      exact .ins ex (fun z => z nx) r hl
end
end DL

set_option Elab.async false
set_option linter.all false
set_option maxRecDepth 100000
/-! data layer, part za: try .. except C as e: return .. -/
namespace DL
open PySem PySem.Spec PyProof.Rows L2
section
variable {T : Ks} {W Wout : WX} {f : SF} {i : Nat} {m : List (Str × Bool)} {hv : Err → Option D} {ts : Addr → Value → Option Addr → TS} {tb : WX → TS} {cv : Value}
def tryK (i : Nat) (m : List (Str × Bool)) (hv : Err → Option D) : R (Err × Nv) (Fl × Nv) → R (Err × Nv) (Fl × Nv)
  | .err (e, Γ) => match m.lookup e.name with
    | some true => match hv e with
      | some d => if i < List.length (Γ : Nv) then .ok (.rt d, Γ) else .bad
      | none => .bad
    | some false => .err (e, Γ)
    | none => .bad
  | r => r
def dTry (i : Nat) (m : List (Str × Bool)) (hv : Err → Option D) (f : SF) : SF := fun Γ => tryK i m hv (f Γ)
/-- the suite, e at slot i, gives back hv -/
def SuiteR (T : Ks) (i : Nat) (ts : Addr → Value → Option Addr → TS) (hv : Err → Option D) : Prop := ∀ (e : Err) (d : D) (a : Addr) (cls : Value) (dd : Option Addr) (σ : L2.St) (H : Hp) (De : Ends), hv e = some d → ErrOk T e cls dd H → H a = none → σ[i]? = some (some (.ref a)) →
  (∀ v H', Same H H' → Rep T.K (fun b => H b ≠ none) H' v d → De.rt v H') → ts a cls dd De σ H
theorem ds_try (hb : ∀ W, DS T W (tb W) f) (hm : ∀ nm b, m.lookup nm = some b → PySem.W.exmOne T.K (.ref (T.cl nm)) cv = some b) (hs : SuiteR T i ts hv) :
    DS T Wout (fun D σ H => tb (wAs T.K cv i ts Wout D) D σ H) (dTry i m hv f) := fun c g Γ σ H De S p => by
  refine hb (wAs T.K cv i ts Wout De) c g Γ σ H De S ?_
  unfold dTry at p
  cases e : f Γ with
  | bad => rw [e] at p; exact p
  | ok x =>
    obtain ⟨fl, Γ1⟩ := x
    rw [e] at p
    cases fl <;> exact p
  | err x =>
    obtain ⟨x, Γ1⟩ := x
    rw [e] at p
    unfold tryK at p
    intro g' cls dd σ' H' q S' eo
    cases hl : m.lookup x.name with
    | none => simp only [hl] at p; exact False.elim p
    | some b =>
      have hcls := eo.1
      refine ⟨b, by rw [hcls]; exact hm _ _ hl, fun hb1 a na => ?_, fun hb0 => ?_⟩
      · subst hb1
        simp only [hl] at p
        cases hv1 : hv x with
        | none => simp only [hv1] at p; exact False.elim p
        | some d =>
          simp only [hv1] at p
          by_cases hi : i < Γ1.length
          · rw [if_pos hi] at p
            refine hs x d a cls dd _ H' _ hv1 eo na (List.getElem?_set_self (by rw [S'.len]; exact hi)) fun v H2 s r => ?_
            exact p g' v σ' H2 q (S'.grow s) (r.weak fun b z _ => S'.old b z)
          · rw [if_neg hi] at p; exact False.elim p
      · subst hb0
        simp only [hl] at p
        exact p g' cls dd σ' H' q S' eo
end
/-! ### return ('wrong', kinds(e)) -/
section
variable {T : Ks} {i : Nat}
/-- the suite's term, F what kinds gives for the class -/
def tWrong (T : Ks) (i : Nat) (F : List D → R Err D) : TS := tRet (tTup (tCons (tC (.str "wrong")) (tCons (tCallP (spP T 1 F) (tCons (tVar i) tNil)) tNil)))
/-- .. for a class of whose instances the names are known -/
def tWrongs (T : Ks) (i : Nat) (F : Str → Addr → List D → R Err D) (ok : Str → Bool) : Addr → Value → Option Addr → TS := fun a cls dd D σ H => ∃ nm, ok nm = true ∧ cls = .ref (T.cl nm) ∧ dd = none ∧ tWrong T i (F nm a) D σ H
theorem suite_wrong {F : Str → Addr → List D → R Err D} {ok : Str → Bool} {kinds : Str → Option (List Str)} (hF : ∀ nm a ks, ok nm = true → kinds nm = some ks → F nm a [.ref a] = .ok (.lst (ks.map D.str))) :
    SuiteR T i (tWrongs T i F ok) (fun e => if ok e.name = true ∧ e.idx = none then (kinds e.name).map fun ks => .tup [.str "wrong", .lst (ks.map D.str)] else none) := fun e d a cls dd σ H De he eo na hσ q => by
  dsimp only at he
  by_cases hc : ok e.name = true ∧ e.idx = none
  · rw [if_pos hc] at he
    obtain ⟨ks, hk, rfl⟩ := Option.map_eq_some_iff.mp he
    refine ⟨e.name, hc.1, eo.1, eo.2.2 hc.2, ?_⟩
    refine ⟨_, hσ, [.ref a], rfl, .cons (.ref a) .nil, ?_⟩
    rw [hF _ a ks hc.1 hk]
    intro v H1 s1 r1
    refine ⟨by show 2 ≤ sizeLine; decide, fun p np => ?_⟩
    have s2 := same_upd (o := .tup [.str "wrong", v]) np
    refine q (.ref p) _ (s1.trans s2) (.tup (.inl (.inl upd_same)) (.cons (.str _) (.cons (r1.same s2) .nil)))
  · rw [if_neg hc] at he; cases he
end
end DL

set_option Elab.async false
set_option linter.all false
set_option maxRecDepth 100000
/-! data layer, part zb: isinstance of what the suite holds; the suite's text -/
namespace DL
open PySem PySem.Spec PyProof.Rows L2
section
variable {T : Ks} {W : WX} {k : Lq} {D' a : Addr} {b : Bool} {c : V} {cv : Value}
def dIsP (a : Addr) (b : Bool) : EF D := fun Γ => match (Γ : List Slot)[0]? with
  | some (Slot.im (D.ref a')) => if a' = a then .ok (.bl b, Γ) else .bad
  | _ => .bad
theorem de_isP (hcv : ∀ u, RelV c u → u = cv) (hk : PySem.W.kitOne T.K (.ref D') cv = some b) : DE T W k (tCB (rIsE T.K D' a) (tCons (tVar 0) (tCons (tC c) tNil))) (dIsP a b) := fun ct g Γ σ H Q S p => by
  unfold dIsP at p
  cases e : (Γ : List Slot)[0]? with
  | none => simp only [e] at p; exact False.elim p
  | some s =>
    have q := S.slot 0 s e
    cases s with
    | im d =>
      cases d with
      | ref a' =>
        simp only [e] at p
        by_cases ha : a' = a
        · rw [if_pos ha] at p
          subst ha
          obtain ⟨_, v, h1, h2⟩ := q
          cases h2
          exact ⟨_, h1, c, cv, b, rfl, hcv, hk, p (.bl b) H S Keep.refl (.bl b)⟩
        · rw [if_neg ha] at p; exact False.elim p
      | _ => simp only [e] at p; exact False.elim p
    | _ => simp only [e] at p; exact False.elim p
end
section
variable {X : Cx} {T : Ks} {i k : Nat} {F : Str → Addr → List D → R Err D} {ok : Str → Bool} {f : Addr} {fd : FuncData} {ps : List Str} {b₀ : Stmt} {suite : List Stmt}
theorem pss_wrong (h : ∀ (nm : Str) (a : Addr) (oe : Obj) (pn : List (Addr × Obj)), ok nm = true → Zc (.ref (T.cl nm)) none oe → (∃ vs, oe.data = .fields vs) → PSs (X.suite a ((a, oe) :: pn)) (b₀ :: suite) (tWrong T i (F nm a))) :
    ∀ (a : Addr) (oe : Obj) (cls : Value) (d : Option Addr) (pn : List (Addr × Obj)), Zc cls d oe → (∃ vs, oe.data = .fields vs) → PSs (X.suite a ((a, oe) :: pn)) (b₀ :: suite) (tWrongs T i F ok a cls d) :=
  fun a oe cls d pn hz hf => ⟨fun pins s σ H De I ⟨nm, ho, hc, hd, hq⟩ => by
    subst hc hd
    exact (h nm a oe pn ho hz hf).run pins s σ H De I hq⟩
theorem roomH_suite (hr : Room k X.A) (a : Addr) (pn : List (Addr × Obj)) : L2H.RoomH k (X.suite a pn).A := ⟨hr.dp, hr.un⟩
end
end DL
namespace DL
open PySem PySem.Spec PyProof.Rows L2
theorem binds_ref {K : PySem.W.Frag} {x qual : Str} {params : Arguments} {body : List Stmt} {scope : Scope} {f a : Addr} {fd : FuncData} {ps : List Str} (F : FunD K x qual params body scope [.ref a] [] f fd) (hl : ps.length = 2)
    (h : ∀ (T : Addr) (kV doc pm : Value) (an : Option Addr) (cdv ct : Value) (us its : List Value), us.length = 1 → its.length = 1 →
      ∃ k, bindArgs (PySem.W.fnOf x qual params body scope (.ref T) kV doc pm an cdv ct) ⟨us, []⟩ = seqItems? (.ref T) >>= k ∧ k (some its.toArray) = pure (ps.zip (us ++ its))) : Binds K fd ps [.ref a] := by
  obtain ⟨ds, h1, h2⟩ := F.binds1 1 0 (List.cons_ne_nil _ _) (by rw [hl]; rfl) (fun T kV doc pm an cdv ct us its l1 l2 => by
    obtain ⟨k, e1, e2⟩ := h T kV doc pm an cdv ct us its l1 l2
    exact ⟨k, e1, e2⟩)
  cases h1 with
  | cons r t =>
    cases t
    cases (show _ = Value.ref a from r)
    exact h2
end DL

namespace DL
open PySem PySem.Spec PyProof.Rows L2
theorem kit_ref {K : PySem.W.Frag} {x c : Addr} {b : Bool} (hd : PySem.W.hasDictIn K c = true) (ht : PySem.W.typeIn K (.ref c) = some (.type "type")) (hs : PySem.W.subIn K (.ref x) (.ref c) = some b) (h1 : PySem.W.subIn K (.ref x) (.ref x) = some true) :
    PySem.W.kitOne K (.ref x) (.ref c) = some b := by
  obtain ⟨cd, hc, _⟩ := PySem.W.any_some hd
  have e2 : ((PySem.W.clsIn K c).isSome && PySem.W.typeIn K (.ref c) == some (.type "type")) = true := by rw [hc, ht] <;> rfl
  unfold PySem.W.kitOne
  by_cases e : ((Value.ref x) == (Value.ref c)) = true
  · rw [if_pos e]
    have : x = c := Value.ref.inj (beq_iff_eq.mp e)
    subst this
    rw [h1] at hs
    exact hs
  · rw [if_neg e]
    show (if ((PySem.W.clsIn K c).isSome && PySem.W.typeIn K (.ref c) == some (.type "type")) = true then PySem.W.subIn K (.ref x) (.ref c) else none) = some b
    rw [if_pos e2]
    exact hs
theorem kit_ty {K : PySem.W.Frag} {x : Addr} {n : String} {b : Bool} (hm : PySem.W.kitMeta n = true) (hs : PySem.W.subIn K (.ref x) (.type n) = some b) : PySem.W.kitOne K (.ref x) (.type n) = some b := by
  unfold PySem.W.kitOne
  rw [if_neg (fun e => by cases beq_iff_eq.mp e)]
  show (if PySem.W.kitMeta n = true then PySem.W.subIn K (.ref x) (.type n) else none) = some b
  rw [if_pos hm]
  exact hs
end DL

set_option Elab.async false
set_option linter.all false
set_option maxRecDepth 100000
/-! data layer, part zc: enumerate of a list or a tuple -/
namespace L2
open PySem PySem.Spec PyProof.Rows
/-- the list at a as it stands at each turn, each item in a new pair, counted from k -/
def IteT (K : PySem.W.Frag) (a : Addr) (k : Int) : It :=
  ⟨fun i H => ∃ (xs : List V) (x : V), SqT K H a xs ∧ xs[i]? = some x, fun i H v H' => ∃ T x, v = .ref T ∧ H T = none ∧ H' = upd H T (.tup [.int (k + (i : Nat)), x]) ∧ ∀ xs, SqT K H a xs → xs[i]? = some x, fun i H => ∃ xs : List V, SqT K H a xs ∧ i = xs.length⟩
theorem turn_enumT {P : Program} {w : World} {K : PySem.W.Frag} {elts : List Expr} {kk : Nat} {tpos : Pos} (a e it : Addr) (k : Int) :
    Turn P w K (.Tuple elts kk tpos) (IteT K a k) [e, it] e (fun i h => (∃ old, IsEnum h e it (k + ((i : Nat) : Int)) old) ∧ h.IsTupleIter it a i ∧ e ≠ it) where
  mem := by simp
  obj := fun i h st b hb => by
    obtain ⟨⟨old, he⟩, ⟨o, ho, hc, hd⟩, _⟩ := st
    have e' : b = e ∨ b = it := by simpa using hb
    rcases e' with z | z
    · rw [z]; exact ⟨_, he, fun v q => nomatch q⟩
    · rw [z]; exact ⟨o, ho, fun v q => by rw [hd] at q; cases q⟩
  keep := fun i h h' st q => let ⟨⟨old, he⟩, hi, hne⟩ := st; ⟨⟨old, q e (by simp) _ he⟩, hi.at fun o z => q it (by simp) o z, hne⟩
  item := by
    intro X hP hw hK hc i pins s σ H E I hf st hg
    subst hP hw hK
    obtain ⟨⟨old, he⟩, hit, hne⟩ := st
    obtain ⟨xs, x, hq, hx⟩ := hg
    obtain ⟨its, rv, p, hz⟩ := I.tuple hq
    obtain ⟨u, hu, ru⟩ := rv.get hx
    have hel : e < s.heap.objs.size := Heap.lt_size he
    have hil : it < s.heap.objs.size := by obtain ⟨_, q, _⟩ := hit; exact Heap.lt_size q
    have hal : a < s.heap.objs.size := by obtain ⟨o, q, _⟩ := (show s.heap.IsTuple a its.toArray from p); exact Heap.lt_size q
    have hai : a ≠ it := fun z => by
      obtain ⟨o, q, hcl, _⟩ := (show s.heap.IsTuple a its.toArray from p)
      obtain ⟨o', q', hc', _⟩ := hit
      rw [z, q'] at q
      cases q
      rw [hc'] at hcl
      exact absurd hcl (by decide)
    have hae : e ≠ a := fun z => by
      obtain ⟨o, q, hcl, _⟩ := (show s.heap.IsTuple a its.toArray from p)
      have he' : s.heap.get? e = some _ := he
      rw [z, q] at he'
      cases he'
      exact absurd (show Value.type "enumerate" = Value.type "tuple" from hcl) (by decide)
    have hlt : i < its.toArray.size := by
      have h1 := (List.getElem?_eq_some_iff.mp hu).1
      simpa using h1
    refine wpAny_pyNext_enum_itemC (Draws.tuple (prog := X.prog) (w := X.w) (A := X.A.in1) (I.ok.hd hc) it a hai its.toArray) he (i := i) ?st hlt hne ?nf fun x' h' tk hx' ho hst' hT hsz hk => ?_
    case st => exact ⟨hit, (show s.heap.IsTuple a its.toArray from p)⟩
    case nf => simp [hne, hae]
    have ex : x' = u := by
      have h2 : its.toArray[i]? = some x' := hx'
      rw [List.getElem?_toArray, hu] at h2
      exact (Option.some.inj h2).symm
    subst ex
    refine ⟨_, rfl, wpAny_letOwnedTupleGo_enum (s := { s with heap := h', toks := tk + 1 }) ho fun h'' he' sb => ?_⟩
    have hT2 : h''.get? s.heap.objs.size = some { cls := .type "tuple", data := .seq #[.int (k + (i : Int)) tk, x'] } := (sb.2 _ (Nat.ne_of_gt hel)).trans hT
    have new : ObjOk X.prog X.w (upd H s.heap.objs.size (.tup [.int (k + (i : Nat)), x])) h'' s.heap.objs.size (.tup [.int (k + (i : Nat)), x]) :=
      ⟨by show 2 ≤ sizeLine; decide, [.int (k + (i : Int)) tk, x'], .cons ⟨_, rfl⟩ (.cons ru .nil), ⟨_, hT2, rfl, _, rfl⟩⟩
    have I1 : Inv X pins σ (upd H s.heap.objs.size (.tup [.int (k + (i : Nat)), x])) { s with heap := h'', toks := tk + 1 } :=
      I.turnedNew (ch := [e, it]) (fun b ob hb q => (sb.2 b (fun z => hb (by simp [z]))).trans (hk b ob (fun z => hb (by simp [z])) (fun z => hb (by simp [z])) q)) hf (Nat.le_refl _) new
    refine ⟨.ref s.heap.objs.size, _, I1, rfl, ⟨_, x, rfl, I.hok.fresh (Nat.le_refl _), rfl, fun ys hy => by rw [I.tuple_inj hy hq]; exact hx⟩, ⟨⟨x', ?_⟩, hst'.1.at fun o q => (sb.2 it (Ne.symm hne)).trans q, hne⟩, fun b hb => ?_⟩
    · have e1 : k + ((i + 1 : Nat) : Int) = k + (i : Int) + 1 := by omega
      rw [e1]; exact he'
    · have hb' : b < s.heap.objs.size := by
        have e' : b = e ∨ b = it := by simpa using hb
        rcases e' with z | z
        · rw [z]; exact hel
        · rw [z]; exact hil
      rw [upd_ne (Nat.ne_of_lt hb')]
      exact (hf b hb).1
  done := by
    intro X hP hw hK hc i pins s σ H E I hf st hg
    subst hP hw hK
    obtain ⟨⟨old, he⟩, hit, hne⟩ := st
    obtain ⟨xs, hq, hx⟩ := hg
    obtain ⟨its, rv, p, hz⟩ := I.tuple hq
    obtain ⟨f0, f1, f2, f3, f4, f5⟩ := hf it (by simp)
    have hl := rv.length
    have hai : a ≠ it := fun z => by
      obtain ⟨o, q, hcl, _⟩ := (show s.heap.IsTuple a its.toArray from p)
      obtain ⟨o', q', hc', _⟩ := hit
      rw [z, q'] at q
      cases q
      rw [hc'] at hcl
      exact absurd hcl (by decide)
    have hi : i = its.toArray.size := by simp; omega
    refine wpAny_pyNext_enum_endD (Draws.tuple (prog := X.prog) (w := X.w) (A := X.A.in1) (I.ok.hd hc) it a hai its.toArray) he ⟨by rw [← hi]; exact hit, (show s.heap.IsTuple a its.toArray from p)⟩ fun h' eb => ⟨rfl, I.turned (t' := s.toks) (fun b o hb q => eb b o hb q) f0 f1 f3 f4 f5⟩
  self := fun A i s Q E st h => let ⟨⟨_, he⟩, _⟩ := st; wpAny_pyIter_enum he h
end L2
namespace PySem
open Sem (wp)
set_option maxHeartbeats 1000000 in
theorem meets_enumerate_newB1 {v : Value} {o : Obj} {H : Heap → Prop} (B : Begins v o H) :
    Meets (Builtin.«enumerate.__new__» ⟨[.type "enumerate", v], []⟩) (fun _ R s => H s.heap ∧
      R (.ok (.ret (.ref (s.heap.push o).objs.size))) { s with heap := (s.heap.push o).push { cls := .type "enumerate", data := .fields #[.none, .bool false, .ref s.heap.objs.size, rawInt 0, .none, .none] } }) :=
  .of_wp fun prog w A R s h => by
    obtain ⟨hp, g, d, tk, os⟩ := s; obtain ⟨h1, h⟩ := h
    have hsub := sub_enumerate
    have q1 : ∀ {A' : Around} {E : Value → Shared → Prop} {Q : Value → Shared → Prop}, Q (.ref hp.objs.size) ⟨hp.push o, g, d, tk, os⟩ → wpAny (model prog w) A' (pyIter v) Q E ⟨hp, g, d, tk, os⟩ :=
      fun q => B.iter prog w _ _ ⟨hp, g, d, tk, os⟩ _ h1 q
    wp_walk using q1
    refine wpAny_stack_any fun st => wpAny_pure ?_
    split
    · rename_i c _ _ _ _ _
      cases (c == Value.type "enumerate")
      · wp_walk using q1
        exact ⟨_, rfl, h⟩
      · wp_walk using q1
        exact ⟨_, rfl, h⟩
    · wp_walk using q1
      exact ⟨_, rfl, h⟩
section
variable {prog : Program} {w : World} {A : Around} {E : Value → Shared → Prop} {s : Shared}
theorem enum_begins1 {v : Value} {o : Obj} {H : Heap → Prop} {Q : Value → Shared → Prop} (B : Begins v o H) (h1 : H s.heap)
    (h : ∀ h', IsEnum h' (s.heap.objs.size + 1) s.heap.objs.size 0 .none → h'.get? s.heap.objs.size = some o → h'.objs.size = s.heap.objs.size + 2 →
      (∀ b o, s.heap.get? b = some o → h'.get? b = some o) → Q (.ref (s.heap.objs.size + 1)) { s with heap := h' }) :
    wpAny (model prog w) A (call (.type "enumerate") [v]) Q E s := by
  refine callType_new F.called_enumerate (by decide) (F.typeCall_enumerate_1 _) (F.newCall_enumerate_1 _) (fun obj => F.args_object_init_2 obj _) F.entry_enumerate_new
    (meets_enumerate_newB1 B) ⟨h1, ?_⟩
  have hz : (s.heap.push o).objs.size = s.heap.objs.size + 1 := Heap.size_push ..
  show _ ∧ _
  rw [hz]
  have he : IsEnum ((s.heap.push o).push { cls := .type "enumerate", data := .fields #[.none, .bool false, .ref s.heap.objs.size, rawInt 0, .none, .none] }) (s.heap.objs.size + 1) s.heap.objs.size 0 .none := by
    have := Heap.get?_push_size (s.heap.push o) (o := { cls := .type "enumerate", data := .fields #[.none, .bool false, .ref s.heap.objs.size, rawInt 0, .none, .none] }) rfl
    rw [hz] at this; exact this
  refine ⟨⟨_, he, rfl⟩, h _ he (Heap.get?_push_of_some _ (Heap.get?_push_size _ B.free)) (by rw [Heap.size_push, hz]) fun b o x => Heap.get?_push_of_some _ (Heap.get?_push_of_some _ x)⟩
end
end PySem
namespace L2
open PySem PySem.Spec PyProof.Rows
def iEnumA (K : PySem.W.Frag) (ta : TA) : TI := fun σ H R => ta σ H fun vs H1 => ∃ a, vs = [.ref a] ∧ (((∃ xs, SqL K H1 a xs) ∧ R (IteK K a 0) H1) ∨ ((∃ xs, SqT K H1 a xs) ∧ R (IteT K a 0) H1))
theorem pi_enumA {X : Cx} {e : Expr} {ta : TA} {p pos tpos : Pos} {elts : List Expr} {kk : Nat} (hg : Gl X "enumerate") (hm : X.mg "enumerate" = none) (ha : PA X [e] ta) (hs : starEach [e] X.env = [(false, eval e X.env)] := by rfl) :
    PI X (.Tuple elts kk tpos) (.Call (.Name "enumerate" p) [e] [] pos) (iEnumA X.K ta) := by
  refine ⟨fun pins s σ H R I h => ?_⟩
  refine Call_ (ld_blt I hg hm boot_enumerate (PyProof.Rows.callWith_type1 (thn (ha.run pos pins s σ H _ I h) fun us s1 ⟨vs, H1, I1, r1, q1⟩ => ?_) hs rfl))
  obtain ⟨a, ex, q1⟩ := q1
  subst ex
  cases r1 with
  | cons r rr =>
    cases rr
    cases r
    rcases q1 with ⟨⟨xs, hq⟩, q⟩ | ⟨⟨xs, hq⟩, q⟩
    · obtain ⟨its, rv, p', hz⟩ := I1.list hq
      refine enum_begins1 (begins_list a its.toArray) p'.isList fun h' he hit hsz hk => wpAny_pyIter_enum he ?_
      have I2 : Inv X pins σ H1 { s1 with heap := h' } := I1.kept (t' := s1.toks) hk
      refine ⟨s1.heap.objs.size + 1, [s1.heap.objs.size + 1, s1.heap.objs.size], _, _, H1, rfl, I2, turn_enumK a (s1.heap.objs.size + 1) s1.heap.objs.size 0, ⟨⟨.none, by rw [show (0 : Int) + ((0 : Nat) : Int) = 0 by omega]; exact he⟩, ⟨_, hit, rfl, rfl⟩, Nat.succ_ne_self _⟩, fun b hb => ?_, q⟩
      have e' : b = s1.heap.objs.size + 1 ∨ b = s1.heap.objs.size := by simpa using hb
      have hle : s1.heap.objs.size ≤ b := by
        rcases e' with z | z
        · rw [z]; exact Nat.le_add_right _ _
        · rw [z]; exact Nat.le_refl _
      exact I1.fpOk hle (I1.hok.fresh hle)
    · obtain ⟨its, rv, p', hz⟩ := I1.tuple hq
      refine enum_begins1 (begins_tuple a its.toArray) (show s1.heap.IsTuple a its.toArray from p') fun h' he hit hsz hk => wpAny_pyIter_enum he ?_
      have I2 : Inv X pins σ H1 { s1 with heap := h' } := I1.kept (t' := s1.toks) hk
      refine ⟨s1.heap.objs.size + 1, [s1.heap.objs.size + 1, s1.heap.objs.size], _, _, H1, rfl, I2, turn_enumT a (s1.heap.objs.size + 1) s1.heap.objs.size 0, ⟨⟨.none, by rw [show (0 : Int) + ((0 : Nat) : Int) = 0 by omega]; exact he⟩, ⟨_, hit, rfl, rfl⟩, Nat.succ_ne_self _⟩, fun b hb => ?_, q⟩
      have e' : b = s1.heap.objs.size + 1 ∨ b = s1.heap.objs.size := by simpa using hb
      have hle : s1.heap.objs.size ≤ b := by
        rcases e' with z | z
        · rw [z]; exact Nat.le_add_right _ _
        · rw [z]; exact Nat.le_refl _
      exact I1.fpOk hle (I1.hok.fresh hle)
end L2
namespace DL
open PySem PySem.Spec PyProof.Rows L2
section
variable {T : Ks} {W : WX} {H H' : Hp} {a b : Addr} {vs ws : List V} {ds es : List D} {k : Lq} {te : TE} {fe : EF D}
theorem walk_enumT {kk : Int} {Hz : Hp} (e : SqT T.K Hz a vs) (r : Reps T.K (fun _ => False) Hz vs ds) : WalkOk T (IteT T.K a kk) (enumK kk ds) Hz where
  go := fun i H s h => by
    have h : i < (enumK kk ds).length := h
    rw [enumK, List.length_mapIdx] at h
    obtain ⟨v, q⟩ := getV r h
    exact ⟨vs, v, SqT.same e s, q⟩
  yld := fun i H x H' s y => by
    obtain ⟨p, z, e1, np, e2, y⟩ := y
    subst e1; subst e2
    have s' := same_upd (o := .tup [V.int (kk + (i : Nat)), z]) np
    refine ⟨s', fun d hd E hE => ?_⟩
    rw [enumK, List.getElem?_mapIdx] at hd
    obtain ⟨d', hd', e3⟩ := Option.map_eq_some_iff.mp hd
    subst e3
    obtain ⟨v, q1, q2⟩ := r.get hd'
    have : z = v := Option.some.inj ((y vs (SqT.same e s)).symm.trans q1)
    subst this
    exact .tup (.inl (.inl upd_same)) (.cons (.int _) (.cons ((q2.lift s hE).same s') .nil))
  stop := fun i H s h => by
    have h : i = (enumK kk ds).length := h
    rw [enumK, List.length_mapIdx] at h
    exact ⟨vs, SqT.same e s, by rw [r.length]; exact h⟩
theorem enumK_zero (ds : List D) : enumK 0 ds = enumD ds := by
  unfold enumK enumD
  congr 1
  funext i d
  rw [Int.zero_add]
def enA : List D → Option (List D)
  | [d] => (seqOf d).map enumD
  | _ => none
theorem di_enumA {ts : TA} {fs : EF (List D)} (a : DA T W .S ts fs) : DI T W (iEnumA T.K ts) (dRg enA fs) := fun c g Γ σ H R' S p => by
  refine a c g Γ σ H _ S ?_
  unfold dRg at p
  cases e : fs Γ with
  | bad => rw [e] at p; exact p
  | err x => rw [e] at p; exact p
  | ok x =>
    obtain ⟨ds, Γ1⟩ := x
    rw [e, R.bind_ok] at p
    intro v1 H1 S1 k1 r1
    cases e2 : enA ds with
    | none => simp only [e2] at p; exact False.elim p
    | some zs =>
      simp only [e2] at p
      match ds, e2, r1 with
      | [d], e2, .cons r .nil =>
        obtain ⟨xs, hx, rfl⟩ := Option.map_eq_some_iff.mp e2
        have lst : ∀ {v : V}, Rep T.K (exq c g H .S) H1 v d → lstOf d = some xs → ∃ a, [v] = [V.ref a] ∧ ((∃ ys, SqL T.K H1 a ys) ∧ R' (IteK T.K a 0) H1 ∨ (∃ ys, SqT T.K H1 a ys) ∧ R' (IteT T.K a 0) H1) := fun r hl => by
          obtain ⟨p0, vs, rfl, rs, hq⟩ := r.sql hl S1.lists
          refine ⟨p0, rfl, .inl ⟨⟨vs, hq H1 Keep.refl⟩, p _ H1 S1 k1 ?_⟩⟩
          rw [← enumK_zero]
          exact walk_enumK (fun H' s => hq H' (keepHz s)) (rs.hz S1)
        cases r with
        | @tup q vs ds' hq rs =>
          cases hx
          refine ⟨q, rfl, .inr ⟨⟨vs, hq⟩, p _ H1 S1 k1 ?_⟩⟩
          rw [← enumK_zero]
          have hz : SqT T.K (hzOf g H1) q vs := by
            rcases hq with h | h
            · refine .inl ?_
              have : ¬ g.Ep q := fun z => S1.lists.tup h z
              rcases h with h | ⟨o, h⟩
              · exact .inl (by rw [hz_out this]; exact h)
              · exact .inr ⟨o, by rw [hz_out this]; exact h⟩
            · exact .inr h
          exact walk_enumT hz (rs.hz S1)
        | lst h n r => exact lst (.lst h n r) hx
        | fz h r => exact lst (.fz h r) hx
        | fl h n r => exact lst (.fl h n r) hx
        | fk h r => exact lst (.fk h r) hx
        | _ => cases hx
end
end DL

set_option Elab.async false
set_option linter.all false
set_option maxRecDepth 100000
set_option maxHeartbeats 4000000
/-! data layer, part zd: an exception whose __init__ says super().__init__('..'), then self.index = index -/
namespace DL
open PySem PySem.Spec PyProof.Rows L2 PySem.Calls PySem.W
section
variable {prog : Program} {w : World} {A : Around} {E : Value → Shared → Prop} {h : Heap} {g : Array GenState} {d : Drawn} {t : Nat} {os : OsState} {K : Frag}
/-- ValueError.__init__ bound to an exception that is being made, called -/
theorem call_mw {u e C : Addr} {t0 : Addr} {rest : List Value} {Q : Value → Shared → Prop} (T : OexC K C) (X : K.In h)
    (he : h.get? e = some (excRec (.ref C) t0 none .none .none (.bool false))) (hu : h.get? u = some (kxs_mw "ValueError.__init__" e)) (hrest : rest.length ≤ sizeLine)
    (hq : ∀ h' t1, (∀ b o, b ≠ e → h.get? b = some o → h'.get? b = some o) → h'.get? e = some (excRec (.ref C) t1 none .none .none (.bool false)) → Q .none ⟨h', g, d, t, os⟩) :
    wpAny (model prog w) A (call (.ref u) rest) Q E ⟨h, g, d, t, os⟩ := by
  obtain ⟨nm, q, N, bs, bm, sn, sub, ab, col, dd, k0, k1, k2, k3, k5, hC, hbm⟩ := T.cls
  refine wpAny_call (codeAny_of_tree ?_)
  show wpAny _ A.in1 (callAny (.ref u) ⟨rest, []⟩) _ _ _
  simp only [callAny]
  refine wpAny_bind (wpAny_load hu ?_)
  simp only [kxs_mw, show (Value.type "method-wrapper" == Value.type "method" || Value.type "method-wrapper" == Value.type "builtin_function_or_method" || Value.type "method-wrapper" == Value.type "method-wrapper") = true by decide, if_true]
  refine KFB.if_so (by decide) ?_
  refine wpAny_bind (check_bound_init F.excBase_ValueError.toExcCallFacts (X _ _ hC) he rfl ?_)
  refine wpAny_bind (wpAny_pure (wpAny_pure ?_))
  refine ⟨plainId_quiet F.excBase_ValueError.init.plain _, codeAny_builtin F.excBase_ValueError.initEntry ?_⟩
  exact exc_init_tree (cls := .ref C) (t0 := t0) (dv := none) (c2 := .none) (c3 := .none) (b4 := .bool false) he hrest fun h' k e1 _ => hq h' _ k e1
end
/-- the def that says super().__init__('..'): what its text and the written part say -/
structure SupAt (X : Cx) (f cda cc D : Addr) (fd : FuncData) (a0 : Str) : Prop where
  ks : X.env.kindOf "super" = some .globalImplicit
  kc : X.env.kindOf "__class__" = some .free
  fu : X.env.func = some f
  f_ : ∃ oc od osl, X.K.lookup f = some ⟨oc, od, .func fd, osl⟩
  hp : ∃ ar, (fd.params.posonlyargs ++ fd.params.args).head? = some ar ∧ ar.arg = a0
  co : X.env.code = .ref cda
  cd : ∃ ccl cdd vs ccs file tf, X.K.lookup cda = some ⟨ccl, cdd, .fields vs, ccs⟩ ∧ vs[2]? = some (.str file tf) ∧ ((X.prog.main.file : Str) == file) = true
  top : (X.prog.main.scope.names.lookup ("super" : Str)).isSome = false
  mgs : X.mg "super" = none
  ce : X.env.cells.lookup ("__class__" : Str) = some cc
  cl : ∃ cl cld csl, X.K.lookup cc = some ⟨cl, cld, .cell (some (.ref D)), csl⟩
  D_ : ∃ cdD, clsIn X.K D = some cdD
  a0 : X.env.kindOf a0 = some .local
  ho : nsIn X.K cStatics "thirdparty.any" = some none
  ne : interactive X.env = false
/-- .. and of the exception's own class -/
structure SupC (K : Frag) (C D : Addr) : Prop where
  oex : OexC K C
  sub : mroIn K C (.ref D) = some true
  ini : ks_superIn K C D "__init__" = some (some (.builtin "ValueError.__init__"))
  ve : subIn K (.ref C) (.type "ValueError") = some true
section
variable {X : Cx} {f cda cc D C x : Addr} {fd : FuncData} {a0 : Str} {pins : List (Addr × Obj)} {σ : L2.St} {H : Hp} {s : Shared}
theorem sup_run {body : List Stmt} {msg : Str} {p0 p1 p2 p3 p4 p5 : Pos} {kd : Nat} {pl : Sem Bool} {Q : Flow → Shared → Prop} (S : SupAt X f cda cc D fd a0) (SC : SupC X.K C D)
    (I : Inv X pins σ H s) (hN : X.N[0]? = some a0) (hσ : σ[0]? = some (some (.ref x))) (hx : H x = some (exo x C none))
    (h : ∀ s', Inv X pins σ H s' → Q .next s')
    (he : eval (.Call (.Attribute (.Call (.Name "super" p0) [] [] p1) "__init__" p2) [.Constant (.str msg) kd p5] [] p3) X.env = (do
      let ov ← attributeBase (.Call (.Name "super" p0) [] [] p1) "__init__" X.env (eval (.Call (.Name "super" p0) [] [] p1) X.env)
      standAt p2.atName
      let (f, first) ← holding [ov] (getMethod ov "__init__" pl)
      callWith p3 f first (backTo p3 (starEach [.Constant (.str msg) kd p5] X.env)) []))
    (hs : swapsWith (.Call (.Attribute (.Call (.Name "super" p0) [] [] p1) "__init__" p2) [.Constant (.str msg) kd p5] [] p3) none p4.line X.env = pure false) :
    _root_.PySem.wpAt (model X.prog X.w) X.A (.func body X.env) (exec (.Expr (.Call (.Attribute (.Call (.Name "super" p0) [] [] p1) "__init__" p2) [.Constant (.str msg) kd p5] [] p3) p4) X.env) Q X.xe s := by
  obtain ⟨oc, od, osl, hf⟩ := S.f_
  obtain ⟨ar, hp, ha0⟩ := S.hp
  obtain ⟨ccl, cdd, vs, ccs, file, tf, hcode, hvs, hfile⟩ := S.cd
  obtain ⟨cl, cld, csl, hcell⟩ := S.cl
  obtain ⟨cdD, hD⟩ := S.D_
  obtain ⟨t0, hox⟩ := exo_at I.hok hx
  obtain ⟨mb, hb1, hb2⟩ := I.mod.blt
  obtain ⟨m, hn, hl⟩ := I.loc
  obtain ⟨u, ru, hu⟩ := hl 0 a0 (.ref x) hN hσ (.inl S.a0)
  obtain rfl : u = Value.ref x := ru
  have hm0 : m a0 = some (.ref x) := by
    rcases hu with ⟨_, z⟩ | ⟨z, _⟩
    · exact z
    · rw [S.a0] at z; rcases z with z | z <;> cases z
  have KX := I.kIn
  have IA : InstAt s.heap x (excRec (.ref C) t0 none .none .none (.bool false)) C none := ⟨hox, rfl, rfl, trivial⟩
  obtain ⟨oD, hD1, hD2⟩ : ∃ oD, s.heap.get? D = some oD ∧ oD.data = .cls cdD := by
    unfold clsIn at hD
    split at hD
    · rename_i c d cd' sl ho
      cases hD
      exact ⟨_, KX _ _ ho, rfl⟩
    · cases hD
  cases hc : clsIn X.K C with
  | none => have q := SC.ini; unfold ks_superIn at q; rw [hc] at q; cases q
  | some cdC =>
  have hini := SC.ini
  unfold ks_superIn at hini
  rw [hc] at hini
  refine ks_wpAt_Expr_any ?_ S.ne hs
  refine ks_wpAt_MethodCall ?_ he
  refine ks_wpAt_super_base S.ks S.kc (by decide) S.fu (KX _ _ hf) rfl hp S.co (KX _ _ hcode) rfl hvs hfile S.top ?_
  rw [ha0]
  refine ks_loadName_global I.ok.kind S.ks (loadGlobal_builtin (by rw [I.ok.glob]; exact I.mod.glob.keeps I.bk) S.mgs (by rw [I.ok.blt]; exact hb1.keeps I.bk) ((hb2 _ (by decide)).trans (by decide +kernel : bootBuiltins "super" = some (.type "super"))) ⟨rfl, ?_⟩)
  refine wpAny_loadName_free I.ok.kind S.kc S.ce ⟨_, KX _ _ hcell, rfl⟩ ?_
  refine wpAny_loadName_local I.ok.kind S.a0 hn hm0 ?_
  refine ks_wpAny_isType_cls hD1 hD2 ⟨rfl, ?_⟩
  obtain ⟨hp1, g1, d1, t1, os1⟩ := s
  refine ks_wpAny_call_super hD1 hD2 IA.at_ IA.cls (fun c e => by cases e) (looks_mroIn KX SC.sub) (fun h1 e1 k1 => ?_)
  have I1 : Inv X pins σ H ⟨h1, g1, d1, t1, os1⟩ := I.kept (t' := t1) k1
  have KX1 := I1.kIn
  have IA1 : InstAt h1 x (excRec (.ref C) t0 none .none .none (.bool false)) C none := ⟨k1 _ _ hox, rfl, rfl, trivial⟩
  refine kxs_getMethod kxs_ValueError e1 (looks_opaque KX1 S.ho) (l₀ := cdC.mro) (fun A Q E s k q => wpAny_bind ((looks_clsIn KX1 hc) A _ E s k (wpAny_pure q))) rfl KX1 hini (IA1.type.andThen (looks_subIn KX1 SC.ve)) (ks_ne KX1 IA1 hc) (by decide) ?_
  have I2 : Inv X pins σ H ⟨h1.push (kxs_mw "ValueError.__init__" x), g1, d1, t1 + 1, os1⟩ := I1.kept (t' := t1 + 1) fun b o z => Heap.get?_push_of_some _ z
  have hu2 : (h1.push (kxs_mw "ValueError.__init__" x)).get? h1.objs.size = some (kxs_mw "ValueError.__init__" x) := Heap.get?_push_at rfl rfl
  have hx2 : (h1.push (kxs_mw "ValueError.__init__" x)).get? x = some (excRec (.ref C) t0 none .none .none (.bool false)) := Heap.get?_push_of_some _ (k1 _ _ hox)
  have I3 : Inv X ((h1.objs.size, kxs_mw "ValueError.__init__" x) :: pins) σ H ⟨h1.push (kxs_mw "ValueError.__init__" x), g1, d1, t1 + 1, os1⟩ := I2.pins_of fun p hp => by
    rcases List.mem_cons.mp hp with rfl | hp
    · exact ⟨hu2, I1.hok.fresh (Nat.le_refl _), Nat.ne_of_gt (I1.lt), I1.nofs (Nat.le_refl _), fun v e => by cases e⟩
    · exact I2.pin p (List.mem_append_right _ hp)
  have hst : starEach [.Constant (.str msg) kd p5] X.env = (false, eval (.Constant (.str msg) kd p5) X.env) :: starEach [] X.env := by rfl
  have hrun := (pa_cons (pe_str (x := msg) (j := kd) (pos := p5)) pa_nil hst).run p3 _ _ σ H (fun vs H1 => vs = [.str msg] ∧ H1 = H) I3 ⟨rfl, rfl⟩
  refine kxs_callWith (i := "ValueError.__init__") (x := x) rfl ?_
  rw [hst] at hrun ⊢
  refine evalArgs_plain (wpAny_mono hrun (fun us s4 ⟨vs4, H4, I4, r4, ev4, eH4⟩ => ?_) fun e s' z => z)
  · subst eH4; subst ev4
    have hu4 := (I4.pin _ (List.mem_append_right _ List.mem_cons_self)).1
    refine ⟨hu4, ?_⟩
    obtain ⟨t4, ho4⟩ := exo_at I4.hok hx
    obtain ⟨hp4, g4, d4, tk4, os4⟩ := s4
    have hl4 : us.length ≤ sizeLine := by
      rw [← Paired.length r4, sizeLine_eq]
      show 1 ≤ _
      omega
    refine call_mw (t0 := t4) SC.oex I4.kIn ho4 hu4 hl4 fun h5 t5 k5 e5 => ?_
    have J := I4.write (t' := tk4) (x := x) (e := x) (o := exo x C none) (by rw [hx]; exact True.intro) (.inl rfl) k5 ⟨_, e5⟩ (exo_ok e5)
    have eu : upd H4 x (exo x C none) = H4 := by
      funext b
      by_cases hb : b = x
      · rw [hb, upd_same, hx]
      · rw [upd_ne hb]
    rw [eu] at J
    exact h _ (J.pins_of fun p hp => J.pin p (List.mem_append_right _ (List.mem_cons_of_mem _ hp)))
end
/-! ### the def keeps its promise -/
/-- what the making of an exception with an index asks of its __init__ -/
def spEI (K : Frag) (D : Addr) : Sp := fun vs H Q _ => ∃ x C i, vs = [.ref x, .int i] ∧ SupC K C D ∧ findIn K (.ref C) "index" = some none ∧ H x = some (exo x C none) ∧ ∀ dx, H dx = none → dx ≠ x → Q .non (upd (upd H dx (exd dx [("index", .int i)])) x (exo x C (some dx)))
def cxS (P : Program) (w : World) (K : Frag) (mg : Str → Option Value) (base : Heap) (N : List Str) (qual : Str) (scope : Scope) (f cc : Addr) (cd : Value) (A : Around) (outer : List Env) (s : Shared) (H : Hp) (E : XK) : Cx where
  prog := P
  w := w
  K := K
  mg := mg
  base := base
  A := A.deeper (ksEnv qual scope s.heap.objs.size f cd cc)
  N := N
  s_0 := s
  H_0 := H
  env := ksEnv qual scope s.heap.objs.size f cd cc
  outer := outer
  stack := ksEnv qual scope s.heap.objs.size f cd cc :: outer
  ex := []
  calm := true
  fn := fun _ => false
  pn := []
  xe := fun e s' => wpAny (model P w) (A.deeper (ksEnv qual scope s.heap.objs.size f cd cc)) (leaving (ksEnv qual scope s.heap.objs.size f cd cc) e) (fun _ s'' => CX0 outer H s E e s'') (fun e' s'' => CX0 outer H s E e' s'') s'
/-- what the given text and the written part say of the def at f -/
structure SupDef (P : Program) (K : Frag) (mg : Str → Option Value) (f cda cc D : Addr) (a0 a1 : Str) (scope : Scope) (params : Arguments) : Prop where
  ks : scope.names.lookup ("super" : Str) = some .globalImplicit
  kc : scope.names.lookup ("__class__" : Str) = some .free
  hp : ∃ ar, (params.posonlyargs ++ params.args).head? = some ar ∧ ar.arg = a0
  cd : ∃ ccl cdd vs ccs file tf, K.lookup cda = some ⟨ccl, cdd, .fields vs, ccs⟩ ∧ vs[2]? = some (.str file tf) ∧ ((P.main.file : Str) == file) = true
  top : (P.main.scope.names.lookup ("super" : Str)).isSome = false
  mgs : mg "super" = none
  cl : ∃ cl cld csl, K.lookup cc = some ⟨cl, cld, .cell (some (.ref D)), csl⟩
  D_ : ∃ cdD, clsIn K D = some cdD
  l0 : scope.names.lookup a0 = some .local
  l1 : scope.names.lookup a1 = some .local
  ne : (a0 == a1) = false
  ho : nsIn K cStatics "thirdparty.any" = some none
  kind : scope.kind = .function
  co : scope.isCoroutine = false
  gen : scope.isGenerator = false
  nocell : ∀ y ∈ scope.names, y.2 ≠ .cell
  free : ∀ y ∈ scope.names, y.2 = .free → y.1 = ("__class__" : Str)
theorem fn_sup {P : Program} {w : World} {K : Frag} {mg : Str → Option Value} {base : Heap} {k : Nat} {f cda cc D : Addr} {name qual a0 a1 : Str} {params : Arguments} {scope : Scope} {dV kV doc pm ct oc : Value} {an od : Option Addr} {osl : Array (Option Value)}
    {msg : Str} {p0 p1 p2 p3 p4 p5 q0 q1 q2 q3 : Pos} {kd : Nat}
    (S : SupDef P K mg f cda cc D a0 a1 scope params)
    (lk : K.lookup f = some ⟨oc, od, .func (ksFn name qual params [.Expr (.Call (.Attribute (.Call (.Name "super" p0) [] [] p1) "__init__" p2) [.Constant (.str msg) kd p5] [] p3) p4, .Assign [.Attribute (.Name a0 q0) "index" q1] (.Name a1 q2) q3] scope dV kV doc pm an (.ref cda) ct cc), osl⟩)
    (hcd : codeIn K (.ref cda) qual = true) (d0 : (a0 == ("__debug__" : Str)) = false) (d1 : (a1 == ("__debug__" : Str)) = false) (e0 : (a0 == ("__classdict__" : Str)) = false) (e1 : (a1 == ("__classdict__" : Str)) = false)
    (he : ∀ L, ∃ pl, eval (.Call (.Attribute (.Call (.Name "super" p0) [] [] p1) "__init__" p2) [.Constant (.str msg) kd p5] [] p3) (ksEnv qual scope L f (.ref cda) cc) = (do
      let ov ← attributeBase (.Call (.Name "super" p0) [] [] p1) "__init__" (ksEnv qual scope L f (.ref cda) cc) (eval (.Call (.Name "super" p0) [] [] p1) (ksEnv qual scope L f (.ref cda) cc))
      standAt p2.atName
      let (fv, first) ← holding [ov] (getMethod ov "__init__" pl)
      callWith p3 fv first (backTo p3 (starEach [.Constant (.str msg) kd p5] (ksEnv qual scope L f (.ref cda) cc))) []))
    (hs : ∀ L, swapsWith (.Call (.Attribute (.Call (.Name "super" p0) [] [] p1) "__init__" p2) [.Constant (.str msg) kd p5] [] p3) none p4.line (ksEnv qual scope L f (.ref cda) cc) = pure false) :
    FnOk P w K mg base CX0 (k + 1) f (ksFn name qual params [.Expr (.Call (.Attribute (.Call (.Name "super" p0) [] [] p1) "__init__" p2) [.Constant (.str msg) kd p5] [] p3) p4, .Assign [.Attribute (.Name a0 q0) "index" q1] (.Name a1 q2) q3] scope dV kV doc pm an (.ref cda) ct cc) [a0, a1] (spEI K D) := by
  refine ⟨fun vs H Q E ⟨x, C, i, e, _⟩ => by rw [e]; rfl, fun A outer s H args us vs Q E hr en hb r hsp => ?_⟩
  obtain ⟨x, C, i, rfl, SC, hno, hx, hq⟩ := hsp
  have KX : K.In s.heap := en.mod.kin.keeps fun b o e => (en.bs b o e).1
  have lim : s.heap.NoLimit := en.mod.nolimit.keeps fun b o e => (en.bs b o e).1
  cases r with
  | @cons _ u0 _ ur ra rw' =>
  cases rw' with
  | @cons _ u1 _ ur ra1 rw2 =>
  cases rw2
  obtain rfl : u0 = Value.ref x := ra
  refine ks_codeAny_call_defAt (binds := [(a0, .ref x), (a1, u1)]) hr.depth (KX _ _ lk) rfl lim (codeRec_of KX hcd) rfl hb S.nocell ?_ (fun h₁ hns hk₁ => ?_) S.co S.gen S.kind
  · intro y hy
    rcases List.mem_cons.mp hy with rfl | hy
    · exact S.l0
    · rcases List.mem_cons.mp hy with rfl | hy
      · exact S.l1
      · cases hy
  have lkc : ∀ (y : Str) (c : Addr), List.lookup y [(("__class__" : Str), cc)] = some c → y = ("__class__" : Str) ∧ c = cc := fun y c z => by
    rw [List.lookup_cons] at z
    split at z
    · rename_i q; exact ⟨by simpa using q, (Option.some.inj z).symm⟩
    · cases z
  obtain ⟨ccl, ccd, ccs, hcell⟩ := S.cl
  have noA : ∀ b : Addr, b ∉ (cxS P w K mg base [a0, a1] qual scope f cc (.ref cda) A outer s H E).ex := fun b z => absurd (show b ∈ ([] : List Addr) from z) (by simp)
  have I : Inv (cxS P w K mg base [a0, a1] qual scope f cc (.ref cda) A outer s H E) [] [some (.ref x), some (.int i)] H { s with heap := h₁, toks := s.toks + 2 } := by
    refine ⟨⟨en.mod, S.kind, rfl, rfl, Nat.le_refl _, fun y z c h1 h2 => ?_, fun y hy => ?_, fun y c z _ => Bool.noConfusion z, fun _ => hr.hd, Around.frames_deeper en.frames, .inr ⟨rfl, rfl⟩, fun b z => absurd z (noA b), en.bs, en.bsz, fun b _ _ => noA b, fun b z => absurd z (noA b), en.funs, en.frf⟩,
      rfl, en.bare, Un.kept hk₁, ⟨_, hns, fun j y v h1 h2 h3 => ?_⟩, fun y c h => ?_, en.hok.fresh (Nat.le_refl _), fun y c h => ?_, fun p hp => absurd (show p ∈ ([] : List (Addr × Obj)) from hp) (by simp), en.hok.kept hk₁, rfl⟩
    · exact (lkc y c h1).1.trans (lkc z c h2).1.symm
    · have hy : scope.names.lookup y = some .cell ∨ scope.names.lookup y = some .free := hy
      have hy2 : y = ("__class__" : Str) := by
        rcases hy with hy | hy
        · exact absurd rfl (S.nocell _ (PySem.mem_of_lookup hy))
        · exact S.free _ (PySem.mem_of_lookup hy) rfl
      exact ⟨cc, by rw [hy2]; show List.lookup ("__class__" : Str) [(("__class__" : Str), cc)] = some cc; rw [List.lookup_cons]; simp⟩
    · match j, h1, h2 with
      | 0, h1, h2 =>
        cases h1; cases h2
        refine ⟨.ref x, rfl, .inl ⟨S.l0, ?_⟩⟩
        show List.lookup a0 [(a1, u1), (a0, .ref x)] = _
        rw [List.lookup_cons, S.ne]
        simp
      | 1, h1, h2 =>
        cases h1; cases h2
        refine ⟨u1, ra1, .inl ⟨S.l1, ?_⟩⟩
        show List.lookup a1 [(a1, u1), (a0, .ref x)] = _
        rw [List.lookup_cons]
        simp
      | j + 2, h1, h2 => cases h1
    · rw [(lkc y c h).2]
      exact ⟨_, _, hk₁ _ _ (KX _ _ hcell), rfl⟩
    · rw [(lkc y c h).2]
      exact (en.bs _ _ (en.mod.kin _ _ hcell)).2
  have SA : SupAt (cxS P w K mg base [a0, a1] qual scope f cc (.ref cda) A outer s H E) f cda cc D _ a0 := ⟨S.ks, S.kc, rfl, ⟨_, _, _, lk⟩, S.hp, rfl, S.cd, S.top, S.mgs, by show List.lookup ("__class__" : Str) [(("__class__" : Str), cc)] = some cc; rw [List.lookup_cons]; simp, ⟨_, _, _, hcell⟩, S.D_, S.l0, S.ho, by (first | rfl | (unfold interactive; show (_ && _) = false; simp [cxS, S.kind]) | (simp [interactive, cxS, S.kind]))⟩
  obtain ⟨pl, hpl⟩ := he s.heap.objs.size
  refine ks_wpAt_execs_cons (sup_run (X := cxS P w K mg base [a0, a1] qual scope f cc (.ref cda) A outer s H E) SA SC I rfl rfl hx (fun s' J => ?_) hpl (hs _))
  refine wpAt_of_wpAny (wpAny_mono ((pss_cons (ps_ost (X := cxS P w K mg base [a0, a1] qual scope f cc (.ref cda) A outer s H E) (pe_var (i := 0) rfl (.inl S.l0) d0 e0) (pe_var (i := 1) rfl (.inl S.l1) d1 e1)) pss_nil).run [] s' _ H { nx := fun _ H' => Q .non H', rt := Q } J ?_) (fun fl s2 hs => ?_) fun e s2 z => z)
  · refine ⟨_, rfl, _, rfl, x, C, rfl, SC.oex, hno, .inl ⟨hx, fun dx n1 n2 => hq dx n1 n2⟩⟩
  · cases fl with
    | ret u => obtain ⟨v, σ', H', J2, rv, q⟩ := hs; exact ⟨v, H', J2.os, J2.bare, J2.base, J2.hok, rv, q⟩
    | next => obtain ⟨σ', H', J2, q⟩ := hs; exact ⟨V.non, H', J2.os, J2.bare, J2.base, J2.hok, rfl, q⟩
    | brk => obtain ⟨_, _, _, q⟩ := hs; exact False.elim q
    | cont => obtain ⟨_, _, _, q⟩ := hs; exact False.elim q
end DL

set_option Elab.async false
set_option linter.all false
set_option maxRecDepth 100000
/-! data layer, part ze: errors with an index: raised, told apart, read -/
namespace DL
open PySem PySem.Spec PyProof.Rows L2
section
variable {T : Ks} {W : WX} {c : Ct} {g g' : Gh} {Γ Γ' : Nv} {σ σ' : L2.St} {H H' : Hp} {v : V} {d : D} {k : Lq} {t u : TS} {te : TE} {f h : SF} {fe : EF D}
/-! ### raise C(e) -/
def raiseIK (nm : Str) (x : D × Nv) : R (Err × Nv) (Fl × Nv) := match x.1 with | .int i => .err (⟨nm, some i⟩, x.2) | _ => .bad
def dRaiseI (nm : Str) (fe : EF D) : SF := fun Γ => (fe Γ).bind (raiseIK nm)
theorem ds_raiseI {C D' : Addr} {nm : Str} (a : DE T W k te fe) (hC : T.cl nm = C) (SC : SupC T.K C D') (hno : PySem.W.findIn T.K (.ref C) "index" = some none) :
    DS T W (fun _ σ H => tMkO C (spEI T.K D') [] (tCons te tNil) σ H fun cls d H' => W cls d σ H') (dRaiseI nm fe) := fun c g Γ σ H De S p => by
  refine a c g Γ σ H _ S ?_
  unfold dRaiseI at p
  cases e : fe Γ with
  | bad => rw [e] at p; exact p
  | err x => rw [e] at p; exact fun cls dd H' S' eo => p g cls dd σ H' Gle.refl S' eo
  | ok x =>
    obtain ⟨d, Γ1⟩ := x
    rw [e, R.bind_ok] at p
    intro v H1 S1 k1 r1
    unfold raiseIK at p
    cases d with
    | int i =>
      cases r1
      refine ⟨by show 1 ≤ 1000; decide, fun a na => ⟨a, C, i, rfl, SC, hno, upd_same, fun dx n1 n2 => ⟨rfl, dx, [("index", .int i)], upd_same, ?_, ?_, ?_⟩⟩⟩
      · rw [upd_ne n2, upd_same]
      · rw [upd_ne n2] at n1; exact n1
      · rw [upd_ne n2] at n1
        have eH : upd (L2.del (upd (upd (upd H1 a (exo a C none)) dx (exd dx [("index", .int i)])) a (exo a C (some dx))) a) dx (.xd [("index", .int i)]) = upd H1 dx (.xd [("index", .int i)]) := by
          funext b
          by_cases hb : b = dx
          · rw [hb, upd_same, upd_same]
          · rw [upd_ne hb, upd_ne hb]
            by_cases ha : b = a
            · rw [ha, del_same]; exact na.symm
            · rw [del_ne ha, upd_ne ha, upd_ne hb, upd_ne ha]
        show W (.ref C) (some dx) σ _
        rw [eH]
        exact p g _ _ σ _ Gle.refl (S1.grow (same_upd n1)) ⟨by rw [hC], fun j ej => by cases ej; exact ⟨dx, rfl, upd_same⟩, fun z => by cases z⟩
    | _ => exact False.elim p
@[simp] theorem ev_raiseI {nm : Str} {fe : EF D} : dRaiseI nm fe Γ = (fe Γ).bind (raiseIK nm) := eq_of rfl
@[simp] theorem ev_raiseIK (nm : Str) {i : Int} : raiseIK nm (.int i, Γ) = .err (⟨nm, some i⟩, Γ) := eq_of rfl
end
/-! ### isinstance of what the suite holds, with a dict -/
def rIsI (K : PySem.W.Frag) (D a dd : Addr) : List V → Hp → VK → Prop := fun xs H Q => (∃ fs, H dd = some (.xd fs)) ∧ rIsE K D a xs H Q
theorem call_isPinI {X : Cx} {a D dd : Addr} {oe : Obj} (C : ExcC X.K D) (hz : Zc (.ref D) (some dd) oe) (hf : ∃ vs, oe.data = .fields vs) (hp : (a, oe) ∈ X.pn) : CallR X (.builtin "isinstance") (rIsI X.K D a dd) := by
  intro pins s σ H xs us Q I r h
  obtain ⟨⟨fs, hd⟩, ct, cv, b, rfl, hcv, e, q⟩ := h
  have hobj : ∃ od, s.heap.get? dd = some od := by
    obtain ⟨mA, ⟨od, es, ep, ho, _⟩, _⟩ := (show ObjOk X.prog X.w H s.heap dd (.xd fs) from I.hok dd _ hd)
    exact ⟨od, ho⟩
  obtain ⟨od, hod⟩ := hobj
  cases r with
  | cons rx rr =>
    cases rr with
    | cons rt rr =>
      cases rr
      cases rx
      have ec := hcv _ rt
      subst ec
      obtain ⟨hget, _⟩ := I.pin (a, oe) (List.mem_append_left _ hp)
      obtain ⟨vs, hv⟩ := hf
      have J : PySem.W.InstAt s.heap a oe D (some od) := by
        obtain ⟨oc, odd, oda, osl⟩ := oe
        obtain ⟨h1, h2⟩ := hz
        dsimp only at h1 h2 hv
        subst h1 h2 hv
        exact ⟨hget, rfl, rfl, hod⟩
      have hcl : (PySem.W.clsIn X.K D).isSome = true := by
        obtain ⟨cd, hc, _⟩ := PySem.W.any_some C.hd
        rw [hc]; rfl
      exact PySem.W.kia_one (PySem.W.kitx_exc hcl C.hg C.hk C.hs C.ha C.hn C.ht C.hm) I.kIn J e (fun z => nomatch z) fun tk => ⟨.bl b, H, I.kept (t' := tk) fun _ _ z => z, rfl, q⟩
section
variable {T : Ks} {W : WX} {k : Lq} {D' a dd : Addr} {b : Bool} {c : V} {cv : Value}
def dIsPI (a dd : Addr) (b : Bool) : EF D := fun Γ => match (Γ : List Slot)[0]? with
  | some (Slot.im (D.exc a' dd' i)) => if a' = a ∧ dd' = dd then .ok (.bl b, Γ) else .bad
  | _ => .bad
theorem de_isPI (hcv : ∀ u, RelV c u → u = cv) (hk : PySem.W.kitOne T.K (.ref D') cv = some b) : DE T W k (tCB (rIsI T.K D' a dd) (tCons (tVar 0) (tCons (tC c) tNil))) (dIsPI a dd b) := fun ct g Γ σ H Q S p => by
  unfold dIsPI at p
  cases e : (Γ : List Slot)[0]? with
  | none => simp only [e] at p; exact False.elim p
  | some s =>
    have q := S.slot 0 s e
    cases s with
    | im d =>
      cases d with
      | exc a' dd' i =>
        simp only [e] at p
        by_cases ha : a' = a ∧ dd' = dd
        · rw [if_pos ha] at p
          obtain ⟨ha, hb⟩ := ha
          subst ha
          subst hb
          obtain ⟨_, v, h1, h2⟩ := q
          cases h2 with
          | exc hx => exact ⟨_, h1, ⟨_, hx⟩, c, cv, b, rfl, hcv, hk, p (.bl b) H S Keep.refl (.bl b)⟩
        · rw [if_neg ha] at p; exact False.elim p
      | _ => simp only [e] at p; exact False.elim p
    | _ => simp only [e] at p; exact False.elim p
end
/-! ### return ('wrong', kinds(e), e.index) -/
section
variable {T : Ks} {i : Nat}
def tWrongI (T : Ks) (i : Nat) (F : List D → R Err D) (a : Addr) (cls : Value) (dd : Option Addr) (C : Addr) : TS :=
  tRet (tTup (tCons (tC (.str "wrong")) (tCons (tCallP (spP T 1 F) (tCons (tVar i) tNil)) (tCons (tXf a cls dd C "index" (tVar i)) tNil))))
def tWrongsI (T : Ks) (i : Nat) (F : Str → Addr → Addr → List D → R Err D) (ok : Str → Bool) : Addr → Value → Option Addr → TS := fun a cls dd D σ H =>
  ∃ nm d, ok nm = true ∧ cls = .ref (T.cl nm) ∧ dd = some d ∧ tWrongI T i (F nm a d) a cls dd (T.cl nm) D σ H
theorem suite_wrongI {F : Str → Addr → Addr → List D → R Err D} {ok : Str → Bool} {kinds : Str → Option (List Str)} (hF : ∀ nm a d j ks, ok nm = true → kinds nm = some ks → F nm a d [.exc a d j] = .ok (.lst (ks.map D.str))) :
    SuiteR T i (tWrongsI T i F ok) (fun e => if ok e.name = true then (match e.idx with | some j => (kinds e.name).map fun ks => .tup [.str "wrong", .lst (ks.map D.str), .int j] | none => none) else none) := fun e d a cls dd σ H De he eo na hσ q => by
  dsimp only at he
  by_cases hc : ok e.name = true
  · rw [if_pos hc] at he
    cases hj : e.idx with
    | none => rw [hj] at he; cases he
    | some j =>
      rw [hj] at he
      dsimp only at he
      obtain ⟨ks, hk, rfl⟩ := Option.map_eq_some_iff.mp he
      obtain ⟨x, hx, hxd⟩ := eo.2.1 j hj
      refine ⟨e.name, x, hc, eo.1, hx, ?_⟩
      refine ⟨_, hσ, [.exc a x j], rfl, .cons (.exc hxd) .nil, ?_⟩
      rw [hF _ a x j ks hc hk]
      intro v H1 s1 r1
      refine ⟨_, hσ, rfl, eo.1, x, _, .int j, hx, s1 _ _ hxd, rfl, ?_⟩
      refine ⟨by show 3 ≤ sizeLine; decide, fun p np => ?_⟩
      have s2 := same_upd (o := .tup [.str "wrong", v, .int j]) np
      refine q (.ref p) _ (s1.trans s2) (.tup (.inl (.inl upd_same)) (.cons (.str _) (.cons (r1.same s2) (.cons (.int _) .nil))))
  · rw [if_neg hc] at he; cases he
end
section
variable {X : Cx} {T : Ks} {i k : Nat} {F : Str → Addr → Addr → List D → R Err D} {ok : Str → Bool} {b₀ : Stmt} {suite : List Stmt}
theorem pss_wrongI (h : ∀ (nm : Str) (a d : Addr) (oe : Obj) (pn : List (Addr × Obj)), ok nm = true → Zc (.ref (T.cl nm)) (some d) oe → (∃ vs, oe.data = .fields vs) → PSs (X.suite a ((a, oe) :: pn)) (b₀ :: suite) (tWrongI T i (F nm a d) a (.ref (T.cl nm)) (some d) (T.cl nm))) :
    ∀ (a : Addr) (oe : Obj) (cls : Value) (d : Option Addr) (pn : List (Addr × Obj)), Zc cls d oe → (∃ vs, oe.data = .fields vs) → PSs (X.suite a ((a, oe) :: pn)) (b₀ :: suite) (tWrongsI T i F ok a cls d) :=
  fun a oe cls d pn hz hf => ⟨fun pins s σ H De I ⟨nm, x, ho, hc, hd, hq⟩ => by
    subst hc hd
    exact (h nm a x oe pn ho hz hf).run pins s σ H De I hq⟩
end
end DL

set_option Elab.async false
set_option linter.all false
set_option maxRecDepth 100000
/-! data layer, part zf: a call with keywords that may raise; where the errors' __init__ stands -/
namespace L2
open PySem PySem.Spec PyProof.Rows
def tCallNS (n m : Nat) (sp : Sp) (gV : List V → List V → List V) (E : St → XK) (t tk : TA) : TE := fun σ H Q => t σ H fun vs H1 => tk σ H1 fun zs H2 => vs.length = n ∧ zs.length = m ∧ sp (gV vs zs) H2 Q (E σ)
section
variable {X : Cx} {CX : CXT} {k n : Nat} {f : Addr} {fd : FuncData} {ps ks : List Str} {sp : Sp} {E : St → XK} {x : Str} {p pos : Pos} {e : Expr} {es : List Expr} {kws : List Keyword} {t tk : TA} {g : List Value → List Value → List Value} {gV : List V → List V → List V}
theorem pe_callNS (F : FnOk X.prog X.w X.K X.mg X.base CX k f fd ps sp) (hr : Room k X.A) (hg : Gl X x) (hm : X.mg x = some (.ref f)) (hk : PySem.W.keepIn X.K (.ref f) = true) (hb : KBn X.K fd ps n ks g gV) (hx : ∀ σ, PassesAt CX X σ (E σ))
    (ha : PA X (e :: es) t) (hkw : PK X kws tk) (hall : (backToKw pos (keywordEach kws X.env)).all (·.1.isSome) = true := by rfl) (hks : (backToKw pos (keywordEach kws X.env)).filterMap (·.1) = ks := by rfl)
    (hdb : (x == ("__debug__" : Str)) = false := by decide) (he : starEach (e :: es) X.env = (false, eval e X.env) :: starEach es X.env := by rfl)
    (hpl : ((backTo pos (starEach (e :: es) X.env)).any (·.1) || (backToKw pos (keywordEach kws X.env)).any (·.1.isNone)) = false := by rfl) :
    PE X (.Call (.Name x p) (e :: es) kws pos) (tCallNS n ks.length sp gV E t tk) := by
  refine ⟨fun pins s σ H Q I h => ?_⟩
  refine wpAny_Call_Name_kw (ld_glob I hg hm ?_ hdb)
  refine PySem.W.callWith_KW (h₀ := X.base) I.ok.mod.kin hk hall (thn (ha.run pos pins s σ H _ I h) fun us s1 ⟨vs, H1, I1, r, q⟩ => ?_) hpl he
  refine thn (hkw.run pos pins s1 σ H1 _ I1 q) fun ws s2 ⟨zs, H2, I2, rz, l1, l2, q2⟩ => ⟨I2.kIn, ?_⟩
  rw [hks]
  refine wpAny_call (codeAny_mono (F.run X.A X.stack s2 H2 ⟨us, ks.zip ws⟩ (g us ws) (gV vs zs) Q (E σ) hr I2.env0 (hb.to s2 us ws I2.kIn (r.length.symm.trans l1) (rz.length.symm.trans l2)) (hb.rel r rz) q2) fun r s' hq => ?_)
  cases r with
  | error e => exact hx σ pins H2 s2 e s' I2 hq
  | ok fl =>
    cases fl with
    | ret u => exact I2.after hq
    | next => exact False.elim hq
    | brk => exact False.elim hq
    | cont => exact False.elim hq
end
end L2
namespace DL
open PySem PySem.Spec PyProof.Rows L2
section
variable {T : Ks} {W : WX} {Γ : Nv} {k ka kb : Lq}
def callN2 (F : List D → R Err D) (gD : List D → List D → List D) (m : Nat) (ds : List D) (y : List D × Nv) : R (Err × Nv) (D × Nv) := if y.1.length = m then callXK F (gD ds y.1, y.2) else .bad
def callN1 (F : List D → R Err D) (gD : List D → List D → List D) (n m : Nat) (fk : EF (List D)) (x : List D × Nv) : R (Err × Nv) (D × Nv) := if nolsts x.1 = true ∧ x.1.length = n then (fk x.2).bind (callN2 F gD m x.1) else .bad
def dCallXN (F : List D → R Err D) (gD : List D → List D → List D) (n m : Nat) (fs fk : EF (List D)) : EF D := fun Γ => (fs Γ).bind (callN1 F gD n m fk)
theorem de_callXN {N n m : Nat} {F : List D → R Err D} {gV : List V → List V → List V} {gD : List D → List D → List D} {ts tk : TA} {fs fk : EF (List D)} (a : DA T W ka ts fs) (b : DA T W kb tk fk)
    (hg : ∀ (E : Addr → Prop) (H : Hp) (vs zs : List V) (ds es : List D), ds.length = n → es.length = m → Reps T.K E H vs ds → Reps T.K E H zs es → Reps T.K E H (gV vs zs) (gD ds es)) (hn : ∀ ds, F ds ≠ .bad → ds.length = N) :
    DE T W k (tCallNS n m (spP T N F) gV (WE W) ts tk) (dCallXN F gD n m fs fk) := fun c g Γ σ H Q S p => by
  refine a c g Γ σ H _ S ?_
  unfold dCallXN at p
  cases e : fs Γ with
  | bad => rw [e] at p; exact p
  | err x => rw [e] at p; exact p
  | ok x =>
    obtain ⟨ds, Γ1⟩ := x
    rw [e, R.bind_ok] at p
    unfold callN1 at p
    intro v1 H1 S1 k1 r1
    by_cases hc : nolsts ds = true ∧ ds.length = n
    · rw [if_pos hc] at p
      refine b c g Γ1 σ H1 _ S1 ?_
      cases e2 : fk Γ1 with
      | bad => rw [show fk (ds, Γ1).2 = .bad from e2] at p; exact p
      | err x => rw [show fk (ds, Γ1).2 = .err x from e2] at p; exact p
      | ok y =>
        obtain ⟨es, Γ2⟩ := y
        rw [show fk (ds, Γ1).2 = .ok (es, Γ2) from e2, R.bind_ok] at p
        unfold callN2 at p
        intro v2 H2 S2 k2 r2
        by_cases hm : es.length = m
        · rw [if_pos hm] at p
          unfold callXK at p
          have r1' : Reps T.K (fun _ => False) H2 v1 ds := r1.free k2 S1.listsD hc.1
          refine ⟨r1.length.trans hc.2, r2.length.trans hm, gD ds es, hn _ (fun z => by simp only [z] at p; exact p), hg _ _ _ _ _ _ hc.2 hm r1' (r2.weak fun _ z _ => z.elim), ?_⟩
          cases e3 : F (gD ds es) with
          | bad => simp only [e3] at p; exact False.elim p
          | err z =>
            simp only [e3] at p
            exact fun cls dd H' s eo => p cls dd H' (S2.grow s) eo
          | ok d =>
            simp only [e3] at p
            exact fun v H' s r => p v H' (S2.grow s) ((k1.trans k2).trans (ofSame s)) (S.newq r (S.grown S2 (k1.trans k2)))
        · rw [if_neg hm] at p; exact False.elim p
    · rw [if_neg hc] at p; exact False.elim p
@[simp] theorem ev_callXN {F : List D → R Err D} {gD : List D → List D → List D} {n m : Nat} {fs fk : EF (List D)} : dCallXN F gD n m fs fk Γ = (fs Γ).bind (callN1 F gD n m fk) := eq_of rfl
@[simp] theorem ev_callN1 {F : List D → R Err D} {gD : List D → List D → List D} {n m : Nat} {fk : EF (List D)} {ds : List D} : callN1 F gD n m fk (ds, Γ) = if nolsts ds = true ∧ ds.length = n then (fk Γ).bind (callN2 F gD m ds) else .bad := eq_of rfl
@[simp] theorem ev_callN2 {F : List D → R Err D} {gD : List D → List D → List D} {m : Nat} {ds es : List D} : callN2 F gD m ds (es, Γ) = if es.length = m then callXK F (gD ds es, Γ) else .bad := eq_of rfl
end
/-! ### where the errors' __init__ stands -/
structure InitAt (P : Program) (K : PySem.W.Frag) (mg : Str → Option Value) where
  f : Addr
  D : Addr
  fd : FuncData
  ps : List Str
  ok : ∀ w base, FnOk P w K mg base CX0 1 f fd ps (spEI K D)
  ty : PySem.W.typeIn K (.ref f) = some (.type "function")
  b : Binds K fd ps []
structure ErrAt (K : PySem.W.Frag) (f D C : Addr) : Prop where
  sc : SupC K C D
  no : PySem.W.findIn K (.ref C) "index" = some none
  ini : PySem.W.findIn K (.ref C) "__init__" = some (some (.ref f))
theorem pmk_err {X : Cx} {x : Str} {C f D : Addr} {fd : FuncData} {ps : List Str} {e : Expr} {p pos : Pos} {te : TE} (F : ∀ w base, FnOk X.prog w X.K X.mg base CX0 1 f fd ps (spEI X.K D)) (ty : PySem.W.typeIn X.K (.ref f) = some (.type "function")) (b : Binds X.K fd ps []) (Er : ErrAt X.K f D C)
    (hr : Room 2 X.A) (hg : Gl X x) (hm : X.mg x = some (.ref C)) (ha : PE X e te)
    (hdb : (x == ("__debug__" : Str)) = false := by decide) (he : starEach [e] X.env = (false, eval e X.env) :: starEach [] X.env := by rfl) :
    PMk X (.Call (.Name x p) [e] [] pos) (tMkO C (spEI X.K D) [] (tCons te tNil)) :=
  pmk_oex Er.sc.oex Er.ini ty (F X.w X.base) hr b .nil (fun _ _ _ _ _ _ _ z => z.elim) hg hm (pa_cons ha pa_nil he) hdb he (by rfl)
end DL
namespace DL
open PySem PySem.Spec PyProof.Rows L2
/-- a def with keyword-only parameters -/
structure DefAtK (K : PySem.W.Frag) (mg : Str → Option Value) (x : Str) (st : Stmt) (ps : List Str) where
  f : Addr
  fd : FuncData
  F : Fun K x x st f fd
  m : mg x = some (.ref f)
/-- how a call with keywords binds: mv the values of the keyword-only parameters that lack -/
theorem kbn_mk {K : PySem.W.Frag} {D : Addr} {fd : FuncData} {ps ks names : List Str} {n : Nat} {mz : List V} (mv : List Value) (g : {α : Type} → List α → List α → List α → List α) (hks : ∀ q ∈ names.zip mv, PySem.W.nsIn K D q.1 = some (some q.2)) (rk : Vals mz mv)
    (hrel : ∀ {vs mz zs : List V} {us mv ws : List Value}, Vals vs us → Vals mz mv → Vals zs ws → Vals (g vs mz zs) (g us mv ws))
    (h : ∀ us ws : List Value, us.length = n → ws.length = ks.length → KwChain D (names.zip mv) (bindArgs fd ⟨us, ks.zip ws⟩) (ps.zip (g us mv ws))) :
    KBn K fd ps n ks (fun us ws => g us mv ws) (fun vs zs => g vs mz zs) :=
  ⟨fun s us ws X l1 l2 => BindsTo.of_looks fun M => KwChain.looks X hks (h us ws l1 l2), fun r1 r2 => hrel r1 rk r2⟩
theorem vals_take : ∀ {vs : List V} {us : List Value} (n : Nat), Vals vs us → Vals (vs.take n) (us.take n)
  | _, _, 0, _ => .nil
  | _, _, _ + 1, .nil => .nil
  | _, _, n + 1, .cons r t => .cons r (vals_take n t)
theorem vals_drop : ∀ {vs : List V} {us : List Value} (n : Nat), Vals vs us → Vals (vs.drop n) (us.drop n)
  | _, _, 0, r => r
  | _, _, _ + 1, .nil => .nil
  | _, _, n + 1, .cons _ t => vals_drop n t
theorem vals_app {vs ws : List V} {us xs : List Value} (a : Vals vs us) (b : Vals ws xs) : Vals (vs ++ ws) (us ++ xs) := a.append b
end DL

set_option Elab.async false
set_option linter.all false
set_option maxRecDepth 100000
set_option maxHeartbeats 4000000
/-! data layer, part zg: several clauses 'except C as e' -/
namespace L2
open PySem PySem.Spec PyProof.Rows
abbrev Clause := Value × Nat × (Addr → Value → Option Addr → TS)
/-- the ends behind a suite: the name is gone -/
def Ends.gone (D : Ends) (i : Nat) : Ends := { nx := fun σ' H' => D.nx (σ'.set i none) H', rt := D.rt, bk := fun σ' H' => D.bk (σ'.set i none) H', ct := fun σ' H' => D.ct (σ'.set i none) H' }
def wManyA (K : PySem.W.Frag) (Wout : WX) (D : Ends) : List Clause → WX
  | [] => Wout
  | (c, i, ts) :: r => fun cls d σ H => ∃ b, PySem.W.exmOne K cls c = some b ∧ (b = true → ∀ a, H a = none → ts a cls d (D.gone i) (σ.set i (some (.ref a))) H) ∧ (b = false → wManyA K Wout D r cls d σ H)
inductive HdsAs (X : Cx) : List ExceptHandler → List Clause → Prop
  | nil : HdsAs X [] []
  | cons {x n : Str} {c : Value} {i : Nat} {ts : Addr → Value → Option Addr → TS} {b₀ : Stmt} {suite : List Stmt} {np pos' : Pos} {hds : List ExceptHandler} {l : List Clause} (hc : Names X x c) (hi : X.N[i]? = some n) (hln : X.env.kindOf n = some .local)
      (hsu : ∀ (a : Addr) (oe : Obj) (cls : Value) (d : Option Addr) (pn : List (Addr × Obj)), Zc cls d oe → (∃ vs, oe.data = .fields vs) → PSs (X.suite a ((a, oe) :: pn)) (b₀ :: suite) (ts a cls d)) (r : HdsAs X hds l) :
      HdsAs X (.ExceptHandler (some (.Name x np)) (some n) (b₀ :: suite) pos' :: hds) ((c, i, ts) :: l)
section
variable {X : Cx} {body : List Stmt} {h₀ : ExceptHandler} {hds : List ExceptHandler} {l : List Clause} {pos : Pos} {tb : WX → TS} {Wout : WX}
theorem ps_try_manyAs (hs : X.stack = X.env :: X.outer) (hf : X.env.frame = some X.env.locals) (hN : X.N.Nodup) (tk : Takes X Wout)
    (hb : ∀ (W : WX) (pn : List (Addr × Obj)) (xe : Value → Shared → Prop), Takes (X.tr pn xe) W → PassesOwn (model X.prog X.w) X.A X.env xe → PSs (X.tr pn xe) body (tb W))
    (hh : HdsAs X (h₀ :: hds) l) : PS X (.Try body (h₀ :: hds) [] [] pos) (fun D σ H => tb (wManyA X.K Wout D l) D σ H) := by
  refine ⟨fun pins s σ H D I h => ?_⟩
  have ok := I.ok
  have hfr : X.A.frames = some (X.env :: X.outer) := by rw [ok.frames, hs]
  refine wpAny_Try_except ?_
  refine wpAny_mono ((hb (wManyA X.K Wout D l) (X.pn ++ pins) (fun e s₁ => wpAny (model X.prog X.w) X.A (noteFrame e X.env) (fun _ s₂ => wpAny (model X.prog X.w) X.A (setFlight e none) (fun _ s₃ =>
    wpAny (model X.prog X.w) X.A (handleBy e X.env (h₀ :: hds)) (SP X pins D) X.xe s₃) X.xe s₂) X.xe s₁) (fun u s' xx => ?_) PassesOwn.looking).run [] s σ H D (I.toTry _) h) (fun f s1 hsp => ?_) (fun e s1 he => he)
  · obtain ⟨a, B, sI, pins', σ', H', cls, d, rfl, J', nb, up, sky, na, os, ag, w⟩ := xx
    have J : Inv X pins σ' H' sI := J'.ofTry ok
    have sky' : Sky B (X.env :: X.outer) a (Zc cls d) X.env.locals s'.heap := by rw [← hs]; exact sky
    show wpAny (model X.prog X.w) X.A (noteFrame (.ref a) X.env) _ _ _
    refine Sky.land Zc.steady hfr hf sky' fun h3 fl3 up3 => ?_
    have J3 : Inv X pins σ' H' { s' with heap := h3 } := J.landed nb fl3.1 (up.trans up3) os ag
    obtain ⟨oe3, vs3, he3, hz3, hd3⟩ := fl3.there
    have nfr : a ∉ frs (X.env :: X.outer) := fun hm => by
      obtain ⟨_, o', e', hnf⟩ := fl3.2.2.1.mem hm
      rw [he3] at e'; cases e'
      exact hnf _ hd3
    have nL : a ≠ X.env.locals := fun z => nfr (List.mem_filterMap.mpr ⟨X.env, List.mem_cons_self, by rw [hf, z]⟩)
    have nF : a ∉ X.fs := fun hm => by
      obtain ⟨e, he, q⟩ := List.mem_filterMap.mp hm
      exact nfr (List.mem_filterMap.mpr ⟨e, List.mem_cons_of_mem _ he, q⟩)
    have S3 := J3.suite he3 hd3 na nL nF
    have LT : PySem.W.Looks (model X.prog X.w) h3 (typeOf (.ref a)) cls := fun A Q E s k q => wpAny_typeOf_ref (k _ _ he3) (by rw [hz3.1]; exact q)
    have go : ∀ {hds' : List ExceptHandler} {l' : List Clause}, HdsAs X hds' l' → wManyA X.K Wout D l' cls d σ' H' →
        wpAny (model X.prog X.w) X.A (handleBy (.ref a) X.env hds') (SP X pins D) X.xe { s' with heap := h3 } := by
      intro hds' l' hk
      induction hk with
      | nil =>
        intro w
        refine wpAny_handleBy_nil ?_
        obtain ⟨k1, k2, k3, oe, vs, T, oT, ts', he, hz, hd, h1, hr⟩ := id fl3
        unfold PySem.passOn
        refine wpAny_bind (wpAny_field he hd h1 ?_)
        rw [if_neg (show ¬ ((Value.ref T == Value.none) = true) from by simp)]
        have fin : wpAny (model X.prog X.w) X.A (setFlight (.ref a) X.env.frame) (fun _ s4 => wpAny (model X.prog X.w) X.A (throw (.ref a) : Sem Flow) (SP X pins D) X.xe s4) X.xe { s' with heap := h3 } := by
          rw [hf]
          refine HandSPX.setFlight_upZ fl3 fun h4 hh4 up4 => wpAny_throw (tk _ _ ?_)
          exact ⟨a, B, sI, pins, σ', H', cls, d, rfl, J, nb, (up.trans up3).trans up4, .inr (.inr (by rw [hs]; exact hh4)), na, os, ag, w⟩
        first
          | exact wpAny_bind (wpAny_pure (wpAny_bind fin))
          | exact wpAny_bind fin
      | @cons x n c i ts b₀ suite np pos' hds2 l2 hc hi hln hsu r ih =>
        intro w
        obtain ⟨b, hb1, hyes, hno⟩ := w
        refine wpAny_handleBy_cons (codeAny_handlers_test ?_) (by intro q; cases q)
        have LM := PySem.W.exm_one (M := model X.prog X.w) (J3.kIn) LT hb1
        have test : ∀ {Q : Value → Shared → Prop} {E : Value → Shared → Prop}, Q c { s' with heap := h3 } → wpAny (model X.prog X.w) (X.A.mark (some (.ref a))) (eval (.Name x np) X.env) Q E { s' with heap := h3 } := fun {Q E} q => by
          obtain ⟨hg, hdbg, hm | ⟨hm, hv, hnn⟩⟩ := hc
          · exact ld_glob (X := X.suite a ((a, oe3) :: (X.pn ++ pins))) S3 hg hm q hdbg
          · exact ld_blt (X := X.suite a ((a, oe3) :: (X.pn ++ pins))) S3 hg hm hv q hnn hdbg
        refine test (LM.here ?_)
        cases b with
        | true =>
          refine codeAny_handlers_suite_as ?_
          refine HandSPX.lands_againZ fl3 fun h4 fl4 up4 => ?_
          have J4 : Inv X pins σ' H' { s' with heap := h4 } := J.landed nb fl4.1 ((up.trans up3).trans up4) os ag
          obtain ⟨oe4, vs4, he4, hz4, hd4⟩ := fl4.there
          have S4 := J4.suite he4 hd4 na nL nF
          refine store_ok (X := X.suite a ((a, oe4) :: (X.pn ++ pins))) (v := .ref a) S4 hN hi (.inl hln) rfl (fun s5 S5 => ?_) (.inr hln)
          refine wpAny_mono ((hsu a oe4 cls d (X.pn ++ pins) hz4 ⟨_, hd4⟩).run [] s5 _ H' _ S5 (hyes rfl a na)) (fun f s6 hsp => ?_) (fun _ _ z => False.elim z)
          have end_ : ∀ {σ6 : St} {H6 : Hp} {Q : Shared → Prop}, Inv (X.suite a ((a, oe4) :: (X.pn ++ pins))) [] σ6 H6 s6 → (∀ s7, Inv X pins (σ6.set i none) H6 s7 → Q s7) →
              wpAny (model X.prog X.w) X.A (do bindName X.env n .none; unbindBehindTheSuite X.env n pos') (fun _ s7 => Q s7) X.xe s6 := fun {σ6 H6 Q} S6 hq => gone_ok (S6.unsuite ok) hN hi hln hq
          cases f with
          | next =>
            obtain ⟨σ6, H6, S6, q6⟩ := hsp
            exact end_ S6 fun s7 J7 => ⟨_, _, J7, q6⟩
          | brk =>
            obtain ⟨σ6, H6, S6, q6⟩ := hsp
            exact end_ S6 fun s7 J7 => ⟨_, _, J7, q6⟩
          | cont =>
            obtain ⟨σ6, H6, S6, q6⟩ := hsp
            exact end_ S6 fun s7 J7 => ⟨_, _, J7, q6⟩
          | ret u =>
            obtain ⟨v6, σ6, H6, S6, r6, q6⟩ := hsp
            exact end_ S6 fun s7 J7 => ⟨_, _, _, J7, r6, q6⟩
        | false =>
          show wpAny _ X.A (handleBy (.ref a) X.env hds2) _ _ _
          exact ih (hno rfl)
    exact go hh w
  · cases f with
    | next =>
      obtain ⟨σ', H', J', q⟩ := hsp
      exact wpAny_execs_nil ⟨σ', H', J'.ofTry ok, q⟩
    | brk =>
      obtain ⟨σ', H', J', q⟩ := hsp
      exact ⟨σ', H', J'.ofTry ok, q⟩
    | cont =>
      obtain ⟨σ', H', J', q⟩ := hsp
      exact ⟨σ', H', J'.ofTry ok, q⟩
    | ret u =>
      obtain ⟨v, σ', H', J', r, q⟩ := hsp
      exact ⟨v, σ', H', J'.ofTry ok, r, q⟩
end
end L2
namespace DL
open PySem PySem.Spec PyProof.Rows L2
section
variable {T : Ks} {W Wout : WX} {f : SF} {tb : WX → TS}
/-- a clause's plain side: e's slot, what the clause catches, what its suite gives back -/
abbrev PCl := Nat × List (Str × Bool) × (Err → Option D)
def tryKs : List PCl → Err → Nv → R (Err × Nv) (Fl × Nv)
  | [], e, Γ => .err (e, Γ)
  | (i, m, hv) :: r, e, Γ => match m.lookup e.name with
    | some true => match hv e with
      | some d => if i < List.length (Γ : Nv) then .ok (.rt d, Γ) else .bad
      | none => .bad
    | some false => tryKs r e Γ
    | none => .bad
def tryM (l : List PCl) : R (Err × Nv) (Fl × Nv) → R (Err × Nv) (Fl × Nv)
  | .err (e, Γ) => tryKs l e Γ
  | r => r
def dTryM (l : List PCl) (f : SF) : SF := fun Γ => tryM l (f Γ)
inductive ClsOk (T : Ks) : List PCl → List Clause → Prop
  | nil : ClsOk T [] []
  | cons {i : Nat} {m : List (Str × Bool)} {hv : Err → Option D} {c : Value} {ts : Addr → Value → Option Addr → TS} {l : List PCl} {r : List Clause}
      (hm : ∀ nm b, m.lookup nm = some b → PySem.W.exmOne T.K (.ref (T.cl nm)) c = some b) (hs : SuiteR T i ts hv) (t : ClsOk T l r) : ClsOk T ((i, m, hv) :: l) ((c, i, ts) :: r)
theorem ds_tryM {l : List PCl} {r : List Clause} (hb : ∀ W, DS T W (tb W) f) (h : ClsOk T l r) : DS T Wout (fun D σ H => tb (wManyA T.K Wout D r) D σ H) (dTryM l f) := fun c g Γ σ H De S p => by
  refine hb (wManyA T.K Wout De r) c g Γ σ H De S ?_
  unfold dTryM at p
  cases e : f Γ with
  | bad => rw [e] at p; exact p
  | ok x =>
    obtain ⟨fl, Γ1⟩ := x
    rw [e] at p
    cases fl <;> exact p
  | err x =>
    obtain ⟨x, Γ1⟩ := x
    rw [e] at p
    change PostS T c g De Wout (tryKs l x Γ1) at p
    intro g' cls dd σ' H' q S' eo
    induction h with
    | nil => exact p g' cls dd σ' H' q S' eo
    | @cons i m hv cv ts l r hm hs t ih =>
      unfold tryKs at p
      have hcls := eo.1
      cases hl : m.lookup x.name with
      | none => simp only [hl] at p; exact False.elim p
      | some b =>
        refine ⟨b, by rw [hcls]; exact hm _ _ hl, fun hb1 a na => ?_, fun hb0 => ?_⟩
        · subst hb1
          simp only [hl] at p
          cases hv1 : hv x with
          | none => simp only [hv1] at p; exact False.elim p
          | some d =>
            simp only [hv1] at p
            by_cases hi : i < Γ1.length
            · rw [if_pos hi] at p
              refine hs x d a cls dd _ H' _ hv1 eo na (List.getElem?_set_self (by rw [S'.len]; exact hi)) fun v H2 s r => ?_
              exact p g' v σ' H2 q (S'.grow s) (r.weak fun b z _ => S'.old b z)
            · rw [if_neg hi] at p; exact False.elim p
        · subst hb0
          simp only [hl] at p
          exact ih p
end
end DL
namespace L2
open PySem PySem.Spec PyProof.Rows
/-- C(..), the wish may read the slots -/
def tMakeS (C : Addr) (sp : Sp) (dvs : List V) (E : St → XK) (t : TA) : TE := fun σ H Q => t σ H fun vs H1 => ∀ x dx, H1 x = none → H1 dx = none → dx ≠ x →
  sp (.ref x :: (vs ++ dvs)) (upd (upd H1 dx (.own x)) x (.ins C dx [])) (fun v H2 => v = .non ∧ Q (.ref x) H2) (E σ)
section
variable {X : Cx} {CX : CXT} {k : Nat} {f C : Addr} {fd : FuncData} {ps : List Str} {sp : Sp} {E : St → XK} {x : Str} {p pos : Pos} {e : Expr} {es : List Expr} {t : TA} {ds : List Value} {dvs : List V}
theorem run_makeS {pins : List (Addr × Obj)} {σ : St} {H : Hp} {s : Shared} {Q : VK} {us : List Value} {vs : List V} (M : Mk X.K C f) (F : FnOk X.prog X.w X.K X.mg X.base CX k f fd ps sp) (hr : Room (k + 1) X.A) (hb : Binds X.K fd ps ds) (hd : Vals dvs ds)
    (hx : PassesAt CX X σ (E σ)) (I : Inv X pins σ H s) (r : Vals vs us)
    (h : ∀ x dx, H x = none → H dx = none → dx ≠ x → sp (.ref x :: (vs ++ dvs)) (upd (upd H dx (.own x)) x (.ins C dx [])) (fun v H2 => v = .non ∧ Q (.ref x) H2) (E σ)) :
    wpAny (model X.prog X.w) X.A (call (.ref C) us) (EP X pins σ Q) X.xe s := by
  have hq := h (s.heap.objs.size + 1) s.heap.objs.size (I.hok.fresh (Nat.le_succ _)) (I.hok.fresh (Nat.le_refl _)) (Nat.ne_of_lt (Nat.lt_succ_self _))
  have I2 := Inv.made (C := C) I
  have r2 : Vals (V.ref (s.heap.objs.size + 1) :: (vs ++ dvs)) (Value.ref (s.heap.objs.size + 1) :: (us ++ ds)) := .cons rfl (r.append hd)
  have hl : (Value.ref (s.heap.objs.size + 1) :: us ++ ds).length = ps.length := by
    have e := r2.length
    rw [F.len _ _ _ _ hq] at e
    exact e.symm
  refine wpAny_call (make_map (f := f) I.kIn M.makes M.init (beq_iff_eq.mp M.fn) (codeAny_mono (F.run _ X.stack _ _ ⟨Value.ref (s.heap.objs.size + 1) :: us, []⟩ (Value.ref (s.heap.objs.size + 1) :: (us ++ ds)) _ _ (E σ) (hr.make C us [])
    (I2.env0.make C us []) (hb _ (Value.ref (s.heap.objs.size + 1) :: us) I2.kIn hl) r2 hq) fun r s' hq' => ?_))
  cases r with
  | error e => exact hx pins _ _ e s' I2 hq'
  | ok fl =>
    cases fl with
    | ret u =>
      obtain ⟨v, H', I3, rv, ev, q3⟩ := I2.after hq'
      subst ev
      exact ⟨rv, ⟨V.ref (s.heap.objs.size + 1), H', I3, rfl, q3⟩⟩
    | next => exact False.elim hq'
    | brk => exact False.elim hq'
    | cont => exact False.elim hq'
theorem pe_makeS (M : Mk X.K C f) (F : FnOk X.prog X.w X.K X.mg X.base CX k f fd ps sp) (hr : Room (k + 1) X.A) (hg : Gl X x) (hm : X.mg x = some (.ref C)) (hb : Binds X.K fd ps ds) (hd : Vals dvs ds) (hx : ∀ σ, PassesAt CX X σ (E σ))
    (ha : PA X (e :: es) t) (hdb : (x == ("__debug__" : Str)) = false := by decide) (he : starEach (e :: es) X.env = (false, eval e X.env) :: starEach es X.env := by rfl) (hpl : (backTo pos (starEach es X.env)).any (·.1) = false := by rfl) :
    PE X (.Call (.Name x p) (e :: es) [] pos) (tMakeS C sp dvs E t) := by
  refine ⟨fun pins s σ H Q I h => ?_⟩
  refine wpAny_Call_Name_kw (ld_glob I hg hm ?_ hdb)
  refine PySem.W.callWith_K (h₀ := X.base) I.ok.mod.kin M.kp (thn (ha.run pos pins s σ H _ I h) fun us s1 ⟨vs, H1, I1, r, q⟩ => ⟨I1.kIn, ?_⟩) he hpl
  exact run_makeS M F hr hb hd (hx σ) I1 r q
end
end L2
namespace DL
open PySem PySem.Spec PyProof.Rows L2
section
variable {T : Ks} {W : WX} {k ka : Lq}
theorem de_makeXS {C : Addr} {nf : List Str} {n : Nat} {F : List D → R Err (List D)} {dvs : List V} {dds : List D} {ts : TA} {fs : EF (List D)} (a : DA T W ka ts fs) (q : ∀ H, Reps T.K (fun _ => False) H dvs dds) (hn : ∀ ds, F ds ≠ .bad → ds.length = n) :
    DE T W k (tMakeS C (spI T C nf n F) dvs (WE W) ts) (dMakeX C nf F dds fs) := fun c g Γ σ H Q S p => by
  refine a c g Γ σ H _ S ?_
  unfold dMakeX at p
  cases e : fs Γ with
  | bad => rw [e] at p; exact p
  | err x => rw [e] at p; exact p
  | ok x =>
    obtain ⟨ds, Γ1⟩ := x
    rw [e, R.bind_ok] at p
    unfold mkXK at p
    intro v1 H1 S1 k1 r1 x dx nx nd hne
    refine ⟨x, dx, H1, v1 ++ dvs, ds ++ dds, rfl, nx, nd, hne, rfl, hn _ (fun z => by simp only [z] at p; exact p), reps_app (E := fun _ => False) r1 q, ?_⟩
    cases e2 : F (ds ++ dds) with
    | bad => simp only [e2] at p; exact False.elim p
    | err z =>
      simp only [e2] at p
      exact fun cls dd H' s eo => p cls dd H' (S1.grow s) eo
    | ok es =>
      simp only [e2] at p
      intro H' ws' s ex r hl
      refine ⟨rfl, p (.ref x) H' (S1.grow s) (k1.trans (ofSame s)) (S.newq (H1 := H1) ?_ (S.grown S1 k1))⟩
      exact .ins ex (fun z => z nx) r hl
end
end DL

set_option Elab.async false
set_option linter.all false
set_option maxRecDepth 100000
set_option maxHeartbeats 2000000
/-! data layer, part zh: for x in o, o of an own class whose __iter__ gives iter(self.f) -/
namespace L2
open PySem PySem.Spec PyProof.Rows
def iOwn (K : PySem.W.Frag) (C : Addr) (f : Str) (te : TE) : TI := fun σ H R => te σ H fun x H1 => ∃ a dx fs l zs, x = .ref a ∧ H1 a = some (.ins C dx fs) ∧ fs.lookup f = some (.ref l) ∧ H1 l = some (.lst zs) ∧ R (Itl K l) H1
/-- the run of such an __iter__: the iterator is younger than the call -/
structure ItRun (P : Program) (w : World) (K : PySem.W.Frag) (mg : Str → Option Value) (base : Heap) (n : Nat) (fi C : Addr) (f : Str) : Prop where
  run : ∀ (A : Around) (outer : List Env) (s : Shared) (H : Hp) (a dx l : Addr) (fs : List (Str × V)) (zs : List V) (R : Result → Shared → Prop), Room n A → Env0 P w K mg base A outer s H → H a = some (.ins C dx fs) → fs.lookup f = some (.ref l) → H l = some (.lst zs) →
    (∀ it s', s.heap.objs.size ≤ it → CE outer P w H s (fun v H' => v = .ref it ∧ H it = none ∧ H' = upd H it (ItO l it 0)) (.ref it) s' → R (.ok (.ret (.ref it))) s') →
    codeAny (model P w) A (.call (.ref fi) ⟨[.ref a], []⟩) R s
theorem it_run {P : Program} {w : World} {K : PySem.W.Frag} {mg : Str → Option Value} {base : Heap} {k : Nat} {x qual fld : Str} {st : Stmt} {f C : Addr} {fd : FuncData} {p1 p2 p3 p4 p5 : Pos} (F : Fun K x qual st f fd) (S : FnScope ["self"] ["self"] (defScope st)) (hC : Cls K C) (hA : NoAttr K C fld)
    (hbody : defBody st = [.Return (some (.Call (.Name "iter" p1) [.Attribute (.Name "self" p2) fld p3] [] p4)) p5]) (hsl : (defScope st).names.lookup ("self" : Str) = some .local) (hit : (defScope st).names.lookup ("iter" : Str) = some .globalImplicit) (hm : mg "iter" = none) (b : Binds K fd ["self"] []) :
    ItRun P w K mg base (k + 1) f C fld := by
  refine ⟨fun A outer s H a dx l fs zs R hr e0 ha hf hl hq => ?_⟩
  obtain ⟨oc, od, kV, doc, pm, an, cdv, ct, osl, rfl, lk, hcd⟩ := F.ex
  have KX : K.In s.heap := e0.mod.kin.keeps fun b o e => (e0.bs b o e).1
  have lim : s.heap.NoLimit := e0.mod.nolimit.keeps fun b o e => (e0.bs b o e).1
  have r : Vals [V.ref a] [Value.ref a] := .cons rfl .nil
  have hb : BindsTo s (PySem.W.fnOf x qual (defArgs st) (defBody st) (defScope st) .none kV doc pm an cdv ct) ⟨[.ref a], []⟩ ((["self"] : List Str).zip [.ref a]) := by
    have := b s [.ref a] KX rfl
    simpa using this
  have hkind : ∀ y ∈ (["self"] : List Str).zip [Value.ref a], (defScope st).names.lookup y.1 = some .local ∨ ((defScope st).names.lookup y.1 = some .cell ∧ ((cellsFrom (s.heap.objs.size + 1) (defScope st).names []).lookup y.1).isSome = true) := fun ⟨n, v⟩ hy => by
    rcases S.par n (List.of_mem_zip hy).1 with q | q
    · exact .inl q
    · exact .inr ⟨q, PySem.W.cellsFrom_some _ _ _ (.inl q)⟩
  refine codeAny_call_function hr.depth (KX _ _ lk) rfl S.co S.gen rfl (PySem.W.codeRec_of KX hcd) (hb _ _ _ _ ?_)
  refine wpAny_newFunctionEnv_cells S.kind hkind fun env he s1 x => ?_
  subst he
  refine ⟨lim.keeps x.toInCall.keep, codeAny_func ?_⟩
  let X : Cx := cxOf CX0 P w K mg base ["self"] qual (defScope st) f cdv A outer s H (fun _ _ _ => False)
  have I : Inv X [] (start ["self"] [.ref a]) H s1 := inv_start S hr.hd e0 rfl r x
  have hpe : PE X (.Attribute (.Name "self" p2) fld p3) (tFld X.K (tVar 0) fld) := pe_fld (pe_var (i := 0) rfl (.inl hsl)) (by rfl)
  have hst : starEach [.Attribute (.Name "self" p2) fld p3] X.env = (false, eval (.Attribute (.Name "self" p2) fld p3) X.env) :: starEach [] X.env := by rfl
  have hargs := (pa_cons hpe pa_nil hst).run p4 [] s1 (start ["self"] [.ref a]) H (fun vs H1 => vs = [.ref l] ∧ H1 = H) I ⟨_, rfl, a, C, dx, fs, _, rfl, ha, hC, hA, hf, rfl, rfl⟩
  have hrun : wpAny (model P w) X.A (execs [.Return (some (.Call (.Name "iter" p1) [.Attribute (.Name "self" p2) fld p3] [] p4)) p5] X.env)
      (fun fl s' => ∃ it, fl = .ret (.ref it) ∧ s.heap.objs.size ≤ it ∧ CE outer P w H s (fun v H' => v = .ref it ∧ H it = none ∧ H' = upd H it (ItO l it 0)) (.ref it) s') X.xe s1 := by
    refine wpAny_execs_cons (thn (wpAny_Return_some (Q := fun fl s' => ∃ it, fl = .ret (.ref it) ∧ s.heap.objs.size ≤ it ∧ CE outer P w H s (fun v H' => v = .ref it ∧ H it = none ∧ H' = upd H it (ItO l it 0)) (.ref it) s') ?_) fun fl s' ⟨it, e, q⟩ => by subst e; exact ⟨it, rfl, q⟩)
    refine wpAny_Call_Name_kw (ld_blt I hit hm (by decide +kernel : bootBuiltins "iter" = some (.builtin "iter")) ?_)
    refine PyProof.Rows.callWith_builtin1 (thn hargs fun us s2 ⟨vs, H1, I2, r1, ev, eH⟩ => ?_) hst (by rfl)
    subst ev
    subst eH
    obtain rfl := Vals.ref1 r1
    obtain ⟨its, rv, pl, hz⟩ := I2.list (SqL.of hl)
    refine GNX.call_iter pl.isList ?_
    have nit : H1 s2.heap.objs.size = none := I2.hok.fresh (Nat.le_refl _)
    have I3 := I2.laid (t' := s2.toks) (a := s2.heap.objs.size) (o := ItO l s2.heap.objs.size 0) (fun b u e => Heap.get?_push_of_some _ e) (Nat.le_refl _) (itO_ok (Heap.get?_push_size _ rfl))
    exact ⟨s2.heap.objs.size, rfl, I2.sz, .ref s2.heap.objs.size, _, I3.os, I3.bare, I3.base, I3.hok, rfl, rfl, nit, rfl⟩
  rw [← hbody] at hrun
  refine wpAny_mono hrun (fun fl s' ⟨it, e, h1, h2⟩ => ?_) fun e s' hs => ?_
  · subst e
    exact hq it s' h1 h2
  · exact (wpAny_mono hs (fun _ _ z => z.elim) fun _ _ z => z.elim)
section
variable {X : Cx} {C fi fl : Addr} {n : Nat}
theorem pi_own {f : Str} {tg e : Expr} {te : TE} (he : PE X e te) (h1 : PySem.W.findIn X.K (.ref C) "__iter__" = some (some (.ref fi))) (h2 : PySem.W.isFn X.K (.ref fi) = true) (F : ItRun X.prog X.w X.K X.mg X.base n fi C f) (hr : Room n X.A) : PI X tg e (iOwn X.K C f te) := by
  refine ⟨fun pins s σ H R I h => ?_⟩
  refine thn (he.run pins s σ H _ I h) fun v s1 ⟨x, H1, I1, r1, a, dx, fs, l, zs, ex, ha, hf, hl, q⟩ => ?_
  subst ex
  obtain rfl : v = Value.ref a := r1
  obtain ⟨mA, J, _⟩ := ins_get I1.hok ha
  obtain ⟨od, J, _⟩ := J.look
  obtain ⟨m0, hF⟩ := I1.fr
  refine PySem.W.owit_iter hF I1.ok.mod.kin J h1 h2 ?_
  refine wpAny_call (F.run X.A X.stack s1 H1 a dx l fs zs _ hr I1.env0 ha hf hl fun it s' hle hce => ?_)
  obtain ⟨v, H', I', rv', ev, nit, eH⟩ := I1.after hce
  subst ev
  subst eH
  have eit := itO_get I' upd_same
  show PySem.W.OwitIt _ _ _ _ _ _
  unfold PySem.W.OwitIt
  refine wpAny_specialOf (name := Str.ofString "__next__") (T := "list_iterator") ⟨_, eit, rfl⟩ slot_listiter_next.lookup ?_
  exact ⟨it, [it], _, _, H1, rfl, inv_drop' I' nit, turn_list l it, ⟨_, eit, rfl, rfl⟩, fun b hb => by
    have e : b = it := by simpa using hb
    subst e
    exact I1.fpOk hle nit, q⟩
end
end L2
namespace DL
open PySem PySem.Spec PyProof.Rows L2
section
variable {T : Ks} {W : WX} {te : TE} {fe : EF D}
/-- the items of an own instance's list -/
def ownItems (C : Addr) (f : Str) : D → Option (List D)
  | .ins C' [n] [.lst zs] => if C' = C ∧ n = f then some zs else none
  | _ => none
def dWalkO (C : Addr) (f : Str) (fe : EF D) : EF (List D) := fun Γ => (fe Γ).bind fun x => liftL (ownItems C f x.1) x.2
theorem di_own {C : Addr} {f : Str} (a : DE T W .S te fe) : DI T W (iOwn T.K C f te) (dWalkO C f fe) := fun c g Γ σ H R' S p => by
  refine a c g Γ σ H _ S ?_
  unfold dWalkO at p
  cases e : fe Γ with
  | bad => rw [e] at p; exact p
  | err x => rw [e] at p; exact p
  | ok x =>
    obtain ⟨d, Γ1⟩ := x
    rw [e, R.bind_ok] at p
    intro v1 H1 S1 k1 r1
    cases e2 : ownItems C f d with
    | none => simp only [e2] at p; exact False.elim p
    | some ds =>
      simp only [e2] at p
      unfold ownItems at e2
      split at e2
      · rename_i C' n zs
        split at e2
        · rename_i hc
          obtain ⟨rfl, rfl⟩ := hc
          cases e2
          cases r1 with
          | ins h nE rs hl =>
            cases rs with
            | cons r t =>
              cases t
              cases r with
              | lst hL nL rr =>
                refine ⟨_, _, _, _, _, rfl, h, ?_, hL, p _ H1 S1 k1 (walk_lst (fun H s => SqL.of ((keepHz s) _ _ nL hL)) (rr.hz S1))⟩
                show List.lookup _ [(_, _)] = _
                simp [List.lookup_cons]
        · cases e2
      · cases e2
def walkOK (C : Addr) (f : Str) (x : D × Nv) : R (Err × Nv) (List D × Nv) := liftL (ownItems C f x.1) x.2
@[simp] theorem ev_WalkO {C : Addr} {f : Str} {Γ : Nv} : dWalkO C f fe Γ = (fe Γ).bind (walkOK C f) := eq_of rfl
@[simp] theorem ev_walkOK (C : Addr) (f : Str) {Γ : Nv} {zs : List D} : walkOK C f (.ins C [f] [.lst zs], Γ) = .ok (zs, Γ) := by
  unfold walkOK ownItems
  dsimp only
  rw [if_pos ⟨rfl, rfl⟩]
  rfl
end
end DL

set_option Elab.async false
set_option linter.all false
set_option maxRecDepth 100000
/-! data layer, part zi: texts: split, isdigit, isascii, int(text) -/
namespace DL
open PySem PySem.Spec PyProof.Rows L2
section
variable {T : Ks} {W : WX} {k ka kb : Lq} {ta te : TE} {fa fe : EF D} {t : TA} {fs : EF (List D)}
theorem reps_strs {E : Addr → Prop} {K : PySem.W.Frag} {H : Hp} : ∀ ys : List Str, Reps K E H (ys.map V.str) (ys.map D.str)
  | [] => .nil
  | y :: r => .cons (.str y) (reps_strs r)
/-- a.split(b) -/
def oSplit : D → D → Option (List D)
  | .str a, .str b => if (b.length == 0) = false ∧ a.length + 2 ≤ sizeLine then some ((Txt.split a b).map D.str) else none
  | _, _ => none
def splitL (c : D) (y : D × Nv) : R (Err × Nv) (List D × Nv) := liftL (oSplit c y.1) y.2
def splitK (fe : EF D) (x : D × Nv) : R (Err × Nv) (List D × Nv) := if isStrD x.1 = true then (fe x.2).bind (splitL x.1) else .bad
def dSplit (fa fe : EF D) : EF (List D) := fun Γ => (fa Γ).bind (splitK fe)
theorem do_split (a : DE T W ka ta fa) (b : DE T W kb te fe) :
    DO T W (tM1 (fun x xs H Q => ∃ a b, x = .str a ∧ xs = [.str b] ∧ (b.length == 0) = false ∧ a.length + 2 ≤ sizeLine ∧ rNewStrs (Txt.split a b) H Q) ta te) (dSplit fa fe) := fun c g Γ σ H Q S p => by
  refine a c g Γ σ H _ S ?_
  unfold dSplit at p
  cases e : fa Γ with
  | bad => rw [e] at p; exact p
  | err x => rw [e] at p; exact p
  | ok x =>
    obtain ⟨dx, Γ1⟩ := x
    rw [e, R.bind_ok] at p
    intro v1 H1 S1 k1 r1
    unfold splitK at p
    dsimp only at p
    split at p
    · rename_i hs
      cases dx with
      | str s =>
        cases r1
        refine ⟨⟨s, rfl⟩, ?_⟩
        refine b c g Γ1 σ H1 _ S1 ?_
        cases e2 : fe Γ1 with
        | bad => rw [e2] at p; exact p
        | err y => rw [e2] at p; exact p
        | ok y =>
          obtain ⟨dy, Γ2⟩ := y
          rw [e2, R.bind_ok] at p
          intro v2 H2 S2 k2 r2
          unfold splitL at p
          cases dy with
          | str z =>
            cases r2
            unfold oSplit at p
            dsimp only at p
            by_cases hc : (z.length == 0) = false ∧ s.length + 2 ≤ sizeLine
            · rw [if_pos hc] at p
              refine ⟨s, z, rfl, rfl, hc.1, hc.2, fun q nq => ?_⟩
              have sm := same_upd (o := .lst ((Txt.split s z).map V.str)) nq
              have kk := k1.trans k2
              exact p q _ _ (S2.more sm nq upd_same) (kk.trans (ofSame sm)) (none_back (N := fun _ => False) (fun b z => S.grown S2 kk b z) nq) upd_same (reps_strs _)
            · rw [if_neg hc] at p; exact False.elim p
          | _ => exact False.elim p
      | _ => exact absurd hs (fun z => by cases z)
    · exact False.elim p
@[simp] theorem ev_Split {Γ : Nv} : dSplit fa fe Γ = (fa Γ).bind (splitK fe) := eq_of rfl
@[simp] theorem ev_splitK {Γ : Nv} {s : Str} : splitK fe (.str s, Γ) = (fe Γ).bind (splitL (.str s)) := eq_of rfl
@[simp] theorem ev_splitL {Γ : Nv} {c d : D} : splitL c (d, Γ) = liftL (oSplit c d) Γ := eq_of rfl
end
/-! ### int(text) -/
def oIntS : List D → Option D
  | [.str a] => match PySem.intText? a with
    | some n => if a.length ≤ 640 then some (.int n) else none
    | none => none
  | _ => none
theorem cad_intS {T : Ks} : CaD T (fun xs H Q => ∃ a n, xs = [.str a] ∧ PySem.intText? a = some n ∧ a.length ≤ 640 ∧ Q (.int n) H) oIntS := fun E H xs ds z Q r e q => by
  unfold oIntS at e
  split at e
  · split at e
    · rename_i a n hn
      split at e
      · rename_i hl
        cases e
        cases r with
        | cons r1 r2 =>
          cases r2
          cases r1
          exact ⟨_, _, rfl, hn, hl, q _ _ (Same.refl _) (.int _)⟩
      · cases e
    · cases e
  · cases e
end DL

set_option Elab.async false
set_option linter.all false
set_option maxRecDepth 100000
set_option maxHeartbeats 2000000
/-! data layer, part zj: slices of a list by steps of two -/
namespace L2
open PySem PySem.Spec PyProof.Rows
/-- the items that xs[l::2] picks -/
def step2 {α : Type} (xs : List α) (l : Option Int) : List α :=
  (match sliceBounds l none (some 2) xs.length with | (a, b, c) => sliceRange a b c).filterMap fun i => xs[i]?
theorem vals_pick {xs : List V} {its : List Value} (r : Vals xs its) : ∀ ks : List Nat, Vals (ks.filterMap fun i => xs[i]?) (ks.filterMap fun i => its[i]?)
  | [] => .nil
  | k :: ks => by
    rw [List.filterMap_cons, List.filterMap_cons]
    cases e : xs[k]? with
    | none =>
      have : its[k]? = none := by
        rw [List.getElem?_eq_none_iff] at e ⊢
        rw [← r.length]; exact e
      rw [this]
      exact vals_pick r ks
    | some v =>
      obtain ⟨u, hu, ru⟩ := r.get e
      rw [hu]
      exact .cons ru (vals_pick r ks)
theorem pick_step2 (items : Array Value) (l : Option Int) : slicePick items l none (some 2) = (step2 items.toList l).toArray := by
  unfold slicePick step2
  rw [Array.length_toList]
  rcases sliceBounds l none (some 2) items.size with ⟨a, b, c⟩
  simp
def tStep2 (K : PySem.W.Frag) (l : Option Int) (te : TE) : TE := fun σ H Q => te σ H fun x H1 => ∃ a xs, x = .ref a ∧ SqL K H1 a xs ∧ (step2 xs l).length ≤ sizeLine ∧ ∀ p, H1 p = none → Q (.ref p) (upd H1 p (.lst (step2 xs l)))
theorem pe_step2 {X : Cx} {e : Expr} {te : TE} {lo : Option Expr} {l : Option Int} {tl : TO} {k : Nat} {p1 p3 pos : Pos} (he : PE X e te) (hl : PO X lo tl) (hv : ∀ σ H, tl σ H (fun o H2 => o = l ∧ H2 = H))
    (hs : ∀ a b, subscripted (.Slice lo none (some (.Constant (.int 2) k p1)) p3) false (.ref a) (.ref b) = operate [.ref a, .ref b] (getItem (.ref a) (.ref b)) := by intro a b; with_unfolding_all rfl) :
    PE X (.Subscript e (.Slice lo none (some (.Constant (.int 2) k p1)) p3) pos) (tStep2 X.K l te) := by
  refine ⟨fun pins s σ H Q I h => ?_⟩
  refine Subscript_ (thn (he.run pins s σ H _ I h) fun v s1 ⟨x, H1, I1, r1, q1⟩ => ?_)
  obtain ⟨a, xs, ex, hx, hsz, q⟩ := q1
  subst ex
  cases r1
  have hst : PO X (some (.Constant (.int 2) k p1)) (tPart (tC (.int 2))) := po_some pe_int
  refine wpAny_Slice (thn (hl.run pins s1 σ H1 (fun o H2 => o = l ∧ H2 = H1) I1 (hv σ H1)) fun vl s2 ⟨l', H2, I2, pl, el, e2⟩ => ?_)
  subst el e2
  refine thn (po_none.run pins s2 σ H2 (fun o H3 => o = none ∧ H3 = H2) I2 ⟨rfl, rfl⟩) fun vu s3 ⟨u, H3, I3, pu, eu, e3⟩ => ?_
  subst eu e3
  refine thn (hst.run pins s3 σ H3 (fun o H4 => o = some 2 ∧ H4 = H3) I3 ⟨2, rfl, rfl, rfl⟩) fun vs s4 ⟨o, H4, I4, ps, eo, e4⟩ => ?_
  subst eo e4
  have I5 : Inv X pins σ H4 { s4 with heap := s4.heap.push { cls := .type "slice", data := .fields #[vl, vu, vs] } } := I4.kept (t' := s4.toks) fun b ob q => Heap.get?_push_of_some _ q
  obtain ⟨its, r, ht, hz⟩ := I5.list hx
  have hlen := r.length
  show wpAny (model X.prog X.w) X.A (subscriptTail e (.Slice lo none (some (.Constant (.int 2) k p1)) p3) (.ref a) (.ref s4.heap.objs.size)) (EP X pins σ Q) X.xe { s4 with heap := s4.heap.push { cls := .type "slice", data := .fields #[vl, vu, vs] } }
  refine tail_any (ops := [.ref a, .ref s4.heap.objs.size]) ht.isList.typeIs (PySem.slot_list_getitem.lookup) ?_ (hs _ _)
  refine wpAny_getItem_list_slice ht.isList (Heap.IsSliceOf.new _ vl vu vs) pl pu ps (by decide) ?_ (by rw [List.size_toArray]; omega)
  rw [pick_step2]
  have rr : Vals (step2 xs l') (step2 its l') := by
    unfold step2
    rw [hlen]
    exact vals_pick r _
  refine ⟨.ref _, _, I5.laid (t' := s4.toks) (o := .lst (step2 xs l')) (fun b ob q => Heap.get?_push_of_some _ q) (Nat.le_refl _) ?_, rfl, q _ (I5.hok.fresh (Nat.le_refl _))⟩
  exact ⟨hsz, _, 0, rr, Heap.get?_push_size _ rfl⟩
end L2
namespace DL
open PySem PySem.Spec PyProof.Rows L2
section
variable {T : Ks} {W : WX} {k : Lq} {te : TE} {fe : EF D}
theorem reps_pick {E : Addr → Prop} {H : Hp} {K : PySem.W.Frag} {xs : List V} {ds : List D} (r : Reps K E H xs ds) : ∀ ks : List Nat, Reps K E H (ks.filterMap fun i => xs[i]?) (ks.filterMap fun i => ds[i]?)
  | [] => .nil
  | k :: ks => by
    rw [List.filterMap_cons, List.filterMap_cons]
    cases e : ds[k]? with
    | none =>
      have : xs[k]? = none := by
        rw [List.getElem?_eq_none_iff] at e ⊢
        rw [r.length]; exact e
      rw [this]
      exact reps_pick r ks
    | some d =>
      obtain ⟨v, hv, rv⟩ := r.get e
      rw [hv]
      exact .cons rv (reps_pick r ks)
theorem reps_step2 {E : Addr → Prop} {H : Hp} {K : PySem.W.Frag} {xs : List V} {ds : List D} (r : Reps K E H xs ds) (l : Option Int) : Reps K E H (step2 xs l) (step2 ds l) := by
  unfold step2
  rw [r.length]
  exact reps_pick r _
theorem pick_len {α β : Type} {xs : List α} {ys : List β} (h : xs.length = ys.length) : ∀ ks : List Nat, (ks.filterMap fun i => xs[i]?).length = (ks.filterMap fun i => ys[i]?).length
  | [] => rfl
  | k :: ks => by
    rw [List.filterMap_cons, List.filterMap_cons]
    cases e : xs[k]? with
    | none =>
      have : ys[k]? = none := by
        rw [List.getElem?_eq_none_iff] at e ⊢
        rw [← h]; exact e
      rw [this]
      exact pick_len h ks
    | some d =>
      have hk : k < ys.length := by rw [← h]; exact (List.getElem?_eq_some_iff.mp e).1
      rw [List.getElem?_eq_getElem hk]
      simp only [List.length_cons]
      rw [pick_len h ks]
def step2K (l : Option Int) (x : D × Nv) : R (Err × Nv) (List D × Nv) := match lstOf x.1 with
  | some xs => if nolsts xs = true ∧ (step2 xs l).length ≤ sizeLine then .ok (step2 xs l, x.2) else .bad
  | none => .bad
def dStep2 (l : Option Int) (fe : EF D) : EF (List D) := fun Γ => (fe Γ).bind (step2K l)
theorem do_step2 {l : Option Int} (a : DE T W k te fe) : DO T W (tStep2 T.K l te) (dStep2 l fe) := fun c g Γ σ H Q S p => by
  refine a c g Γ σ H _ S ?_
  unfold dStep2 at p
  cases e : fe Γ with
  | bad => rw [e] at p; exact p
  | err x => rw [e] at p; exact p
  | ok x =>
    obtain ⟨dx, Γ1⟩ := x
    rw [e, R.bind_ok] at p
    intro v1 H1 S1 k1 r1
    have r3 : Rep T.K g.Dp H1 v1 dx := S.toW r1
    unfold step2K at p
    cases e4 : lstOf dx with
    | none => simp only [e4] at p; exact False.elim p
    | some ds =>
      simp only [e4] at p
      by_cases hn : nolsts ds = true ∧ (step2 ds l).length ≤ sizeLine
      · rw [if_pos hn] at p
        obtain ⟨q, vs, ev, rr, hs⟩ := Rep.sql r3 e4 S1.listsD
        subst ev
        have hlen : (step2 vs l).length = (step2 ds l).length := by
          unfold step2
          rw [rr.length]
          exact pick_len rr.length _
        refine ⟨q, vs, rfl, hs _ Keep.refl, by rw [hlen]; exact hn.2, fun a na => ?_⟩
        have s := same_upd (o := .lst (step2 vs l)) na
        exact p a _ _ (S1.more s na upd_same) (k1.trans (ofSame s)) (none_back (N := fun _ => False) (fun b z => S.grown S1 k1 b z) na) upd_same ((reps_step2 (rr.loose hn.1) l).same s)
      · rw [if_neg hn] at p; exact False.elim p
@[simp] theorem ev_Step2 {l : Option Int} {Γ : Nv} : dStep2 l fe Γ = (fe Γ).bind (step2K l) := eq_of rfl
end
end DL

set_option Elab.async false
set_option linter.all false
set_option maxRecDepth 100000
set_option maxHeartbeats 2000000
/-! data layer, part zk: cls(..), cls a parameter -/
namespace L2
open PySem PySem.Spec PyProof.Rows
def tMakeV (i : Nat) (C : Addr) (sp : Sp) (dvs : List V) (E : St → XK) (t : TA) : TE := fun σ H Q => σ[i]? = some (some (.ref C)) ∧ tMakeS C sp dvs E t σ H Q
section
variable {X : Cx} {CX : CXT} {k i : Nat} {f C : Addr} {fd : FuncData} {ps : List Str} {sp : Sp} {E : St → XK} {x : Str} {p pos : Pos} {e : Expr} {es : List Expr} {t : TA} {ds : List Value} {dvs : List V}
theorem pe_makeV (M : Mk X.K C f) (F : FnOk X.prog X.w X.K X.mg X.base CX k f fd ps sp) (hr : Room (k + 1) X.A) (hN : X.N[i]? = some x) (hv : Vis X.env.scope x) (hb : Binds X.K fd ps ds) (hd : Vals dvs ds) (hx : ∀ σ, PassesAt CX X σ (E σ))
    (ha : PA X (e :: es) t) (hdb : (x == ("__debug__" : Str)) = false := by decide) (hcd : (x == ("__classdict__" : Str)) = false := by decide) (he : starEach (e :: es) X.env = (false, eval e X.env) :: starEach es X.env := by rfl) (hpl : (backTo pos (starEach es X.env)).any (·.1) = false := by rfl) :
    PE X (.Call (.Name x p) (e :: es) [] pos) (tMakeV i C sp dvs E t) := by
  refine ⟨fun pins s σ H Q I ⟨hσ, h⟩ => ?_⟩
  refine wpAny_Call_Name_kw (thn ((pe_var (pos := p) hN hv hdb hcd).run pins s σ H (fun v H1 => v = .ref C ∧ H1 = H) I ⟨.ref C, hσ, rfl, rfl⟩) fun u s0 ⟨v, H0, I0, r0, ev, eH⟩ => ?_)
  subst ev
  subst eH
  obtain rfl : u = Value.ref C := r0
  refine PySem.W.callWith_K (h₀ := X.base) I0.ok.mod.kin M.kp (thn (ha.run pos pins s0 σ H0 _ I0 h) fun us s1 ⟨vs, H1, I1, r, q⟩ => ⟨I1.kIn, ?_⟩) he hpl
  exact run_makeS M F hr hb hd (hx σ) I1 r q
end
end L2
namespace DL
open PySem PySem.Spec PyProof.Rows L2
section
variable {T : Ks} {W : WX} {k ka : Lq}
def dMakeV (i : Nat) (C : Addr) (nf : List Str) (F : List D → R Err (List D)) (dds : List D) (fs : EF (List D)) : EF D := fun Γ => match (Γ : List Slot)[i]? with
  | some (Slot.im (D.ref C')) => if C' = C then dMakeX C nf F dds fs Γ else .bad
  | _ => .bad
theorem de_makeV {i : Nat} {C : Addr} {nf : List Str} {n : Nat} {F : List D → R Err (List D)} {dvs : List V} {dds : List D} {ts : TA} {fs : EF (List D)} (a : DA T W ka ts fs) (q : ∀ H, Reps T.K (fun _ => False) H dvs dds) (hn : ∀ ds, F ds ≠ .bad → ds.length = n) :
    DE T W k (tMakeV i C (spI T C nf n F) dvs (WE W) ts) (dMakeV i C nf F dds fs) := fun c g Γ σ H Q S p => by
  unfold dMakeV at p
  cases e : (Γ : List Slot)[i]? with
  | none => simp only [e] at p; exact False.elim p
  | some s =>
    have qs := S.slot i s e
    cases s with
    | im d =>
      cases d with
      | ref C' =>
        simp only [e] at p
        by_cases hC : C' = C
        · rw [if_pos hC] at p
          subst hC
          obtain ⟨_, v, h1, h2⟩ := qs
          cases h2
          exact ⟨h1, de_makeXS (k := k) a q hn c g Γ σ H Q S p⟩
        · rw [if_neg hC] at p; exact False.elim p
      | _ => simp only [e] at p; exact False.elim p
    | _ => simp only [e] at p; exact False.elim p
end
end DL
namespace DL
open PySem PySem.Spec PyProof.Rows L2
section
variable {T : Ks} {W : WX} {k ka : Lq} {te : TE} {fe : EF D}
/-- a.isdigit(), a.isascii() -/
def m0K (f : Str → Bool) (x : D × Nv) : R (Err × Nv) (D × Nv) := match x.1 with | .str a => .ok (.bl (f a), x.2) | _ => .bad
def dM0 (f : Str → Bool) (fe : EF D) : EF D := fun Γ => (fe Γ).bind (m0K f)
theorem de_m0 {f : Str → Bool} (a : DE T W ka te fe) : DE T W k (tBM0 T.K "str" (fun x xs H Q => ∃ a, x = .str a ∧ xs = [] ∧ True ∧ Q (.bl (f a)) H) te) (dM0 f fe) := fun c g Γ σ H Q S p => by
  refine a c g Γ σ H _ S ?_
  unfold dM0 at p
  cases e : fe Γ with
  | bad => rw [e] at p; exact p
  | err x => rw [e] at p; exact p
  | ok x =>
    obtain ⟨d, Γ1⟩ := x
    rw [e, R.bind_ok] at p
    intro v H1 S1 k1 r1
    unfold m0K at p
    cases d with
    | str z =>
      cases r1
      exact ⟨rfl, z, rfl, rfl, True.intro, p (.bl (f z)) H1 S1 k1 (.bl _)⟩
    | _ => exact False.elim p
@[simp] theorem ev_M0 {f : Str → Bool} {Γ : Nv} : dM0 f fe Γ = (fe Γ).bind (m0K f) := eq_of rfl
@[simp] theorem ev_m0K (f : Str → Bool) {Γ : Nv} {a : Str} : m0K f (.str a, Γ) = .ok (.bl (f a), Γ) := eq_of rfl
end
end DL

set_option Elab.async false
set_option linter.all false
set_option maxRecDepth 100000
set_option maxHeartbeats 4000000
/-! data layer, part zl: such an __init__ called while an exception is handled -/
namespace DL
open PySem PySem.Spec PyProof.Rows L2 PySem.Calls PySem.W
def cxSH (P : Program) (w : World) (K : Frag) (mg : Str → Option Value) (base : Heap) (N : List Str) (qual : Str) (scope : Scope) (f cc : Addr) (cd : Value) (A : Around) (outer : List Env) (s : Shared) (H : Hp) (E : XK) : Cx where
  prog := P
  w := w
  K := K
  mg := mg
  base := base
  A := A.deeper (ksEnv qual scope s.heap.objs.size f cd cc)
  N := N
  s_0 := s
  H_0 := H
  env := ksEnv qual scope s.heap.objs.size f cd cc
  outer := outer
  stack := ksEnv qual scope s.heap.objs.size f cd cc :: outer
  ex := []
  calm := false
  fn := fun _ => false
  pn := []
  xe := fun e s' => wpAny (model P w) (A.deeper (ksEnv qual scope s.heap.objs.size f cd cc)) (leaving (ksEnv qual scope s.heap.objs.size f cd cc) e) (fun _ s'' => CX0 outer H s E e s'') (fun e' s'' => CX0 outer H s E e' s'') s'
theorem fn_supH {P : Program} {w : World} {K : Frag} {mg : Str → Option Value} {base : Heap} {k : Nat} {f cda cc D : Addr} {name qual a0 a1 : Str} {params : Arguments} {scope : Scope} {dV kV doc pm ct oc : Value} {an od : Option Addr} {osl : Array (Option Value)}
    {msg : Str} {p0 p1 p2 p3 p4 p5 q0 q1 q2 q3 : Pos} {kd : Nat}
    (S : SupDef P K mg f cda cc D a0 a1 scope params)
    (lk : K.lookup f = some ⟨oc, od, .func (ksFn name qual params [.Expr (.Call (.Attribute (.Call (.Name "super" p0) [] [] p1) "__init__" p2) [.Constant (.str msg) kd p5] [] p3) p4, .Assign [.Attribute (.Name a0 q0) "index" q1] (.Name a1 q2) q3] scope dV kV doc pm an (.ref cda) ct cc), osl⟩)
    (hcd : codeIn K (.ref cda) qual = true) (d0 : (a0 == ("__debug__" : Str)) = false) (d1 : (a1 == ("__debug__" : Str)) = false) (e0 : (a0 == ("__classdict__" : Str)) = false) (e1 : (a1 == ("__classdict__" : Str)) = false)
    (he : ∀ L, ∃ pl, eval (.Call (.Attribute (.Call (.Name "super" p0) [] [] p1) "__init__" p2) [.Constant (.str msg) kd p5] [] p3) (ksEnv qual scope L f (.ref cda) cc) = (do
      let ov ← attributeBase (.Call (.Name "super" p0) [] [] p1) "__init__" (ksEnv qual scope L f (.ref cda) cc) (eval (.Call (.Name "super" p0) [] [] p1) (ksEnv qual scope L f (.ref cda) cc))
      standAt p2.atName
      let (fv, first) ← holding [ov] (getMethod ov "__init__" pl)
      callWith p3 fv first (backTo p3 (starEach [.Constant (.str msg) kd p5] (ksEnv qual scope L f (.ref cda) cc))) []))
    (hs : ∀ L, swapsWith (.Call (.Attribute (.Call (.Name "super" p0) [] [] p1) "__init__" p2) [.Constant (.str msg) kd p5] [] p3) none p4.line (ksEnv qual scope L f (.ref cda) cc) = pure false) :
    L2H.FnH P w K mg base CX0 (k + 1) f (ksFn name qual params [.Expr (.Call (.Attribute (.Call (.Name "super" p0) [] [] p1) "__init__" p2) [.Constant (.str msg) kd p5] [] p3) p4, .Assign [.Attribute (.Name a0 q0) "index" q1] (.Name a1 q2) q3] scope dV kV doc pm an (.ref cda) ct cc) [a0, a1] (spEI K D) := by
  refine ⟨fun vs H Q E ⟨x, C, i, e, _⟩ => by rw [e]; rfl, fun A outer s H args us vs Q E p hr _ _ en hb r hsp => ?_⟩
  obtain ⟨x, C, i, rfl, SC, hno, hx, hq⟩ := hsp
  have KX : K.In s.heap := en.mod.kin.keeps fun b o e => (en.bs b o e).1
  have lim : s.heap.NoLimit := en.mod.nolimit.keeps fun b o e => (en.bs b o e).1
  cases r with
  | @cons _ u0 _ ur ra rw' =>
  cases rw' with
  | @cons _ u1 _ ur ra1 rw2 =>
  cases rw2
  obtain rfl : u0 = Value.ref x := ra
  refine ks_codeAny_call_defAt (binds := [(a0, .ref x), (a1, u1)]) hr.depth (KX _ _ lk) rfl lim (codeRec_of KX hcd) rfl hb S.nocell ?_ (fun h₁ hns hk₁ => ?_) S.co S.gen S.kind
  · intro y hy
    rcases List.mem_cons.mp hy with rfl | hy
    · exact S.l0
    · rcases List.mem_cons.mp hy with rfl | hy
      · exact S.l1
      · cases hy
  have lkc : ∀ (y : Str) (c : Addr), List.lookup y [(("__class__" : Str), cc)] = some c → y = ("__class__" : Str) ∧ c = cc := fun y c z => by
    rw [List.lookup_cons] at z
    split at z
    · rename_i q; exact ⟨by simpa using q, (Option.some.inj z).symm⟩
    · cases z
  obtain ⟨ccl, ccd, ccs, hcell⟩ := S.cl
  have noA : ∀ b : Addr, b ∉ (cxSH P w K mg base [a0, a1] qual scope f cc (.ref cda) A outer s H E).ex := fun b z => absurd (show b ∈ ([] : List Addr) from z) (by simp)
  have I : Inv (cxSH P w K mg base [a0, a1] qual scope f cc (.ref cda) A outer s H E) [] [some (.ref x), some (.int i)] H { s with heap := h₁, toks := s.toks + 2 } := by
    refine ⟨⟨en.mod, S.kind, rfl, rfl, Nat.le_refl _, fun y z c h1 h2 => ?_, fun y hy => ?_, fun y c z _ => Bool.noConfusion z, (fun z => Bool.noConfusion (show false = true from z)), Around.frames_deeper en.frames, .inr ⟨rfl, rfl⟩, fun b z => absurd z (noA b), en.bs, en.bsz, fun b _ _ => noA b, fun b z => absurd z (noA b), en.funs, en.frf⟩,
      rfl, en.bare, Un.kept hk₁, ⟨_, hns, fun j y v h1 h2 h3 => ?_⟩, fun y c h => ?_, en.hok.fresh (Nat.le_refl _), fun y c h => ?_, fun p hp => absurd (show p ∈ ([] : List (Addr × Obj)) from hp) (by simp), en.hok.kept hk₁, rfl⟩
    · exact (lkc y c h1).1.trans (lkc z c h2).1.symm
    · have hy : scope.names.lookup y = some .cell ∨ scope.names.lookup y = some .free := hy
      have hy2 : y = ("__class__" : Str) := by
        rcases hy with hy | hy
        · exact absurd rfl (S.nocell _ (PySem.mem_of_lookup hy))
        · exact S.free _ (PySem.mem_of_lookup hy) rfl
      exact ⟨cc, by rw [hy2]; show List.lookup ("__class__" : Str) [(("__class__" : Str), cc)] = some cc; rw [List.lookup_cons]; simp⟩
    · match j, h1, h2 with
      | 0, h1, h2 =>
        cases h1; cases h2
        refine ⟨.ref x, rfl, .inl ⟨S.l0, ?_⟩⟩
        show List.lookup a0 [(a1, u1), (a0, .ref x)] = _
        rw [List.lookup_cons, S.ne]
        simp
      | 1, h1, h2 =>
        cases h1; cases h2
        refine ⟨u1, ra1, .inl ⟨S.l1, ?_⟩⟩
        show List.lookup a1 [(a1, u1), (a0, .ref x)] = _
        rw [List.lookup_cons]
        simp
      | j + 2, h1, h2 => cases h1
    · rw [(lkc y c h).2]
      exact ⟨_, _, hk₁ _ _ (KX _ _ hcell), rfl⟩
    · rw [(lkc y c h).2]
      exact (en.bs _ _ (en.mod.kin _ _ hcell)).2
  have SA : SupAt (cxSH P w K mg base [a0, a1] qual scope f cc (.ref cda) A outer s H E) f cda cc D _ a0 := ⟨S.ks, S.kc, rfl, ⟨_, _, _, lk⟩, S.hp, rfl, S.cd, S.top, S.mgs, by show List.lookup ("__class__" : Str) [(("__class__" : Str), cc)] = some cc; rw [List.lookup_cons]; simp, ⟨_, _, _, hcell⟩, S.D_, S.l0, S.ho, by (first | rfl | (unfold interactive; show (_ && _) = false; simp [cxSH, S.kind]) | (simp [interactive, cxSH, S.kind]))⟩
  obtain ⟨pl, hpl⟩ := he s.heap.objs.size
  refine ks_wpAt_execs_cons (sup_run (X := cxSH P w K mg base [a0, a1] qual scope f cc (.ref cda) A outer s H E) SA SC I rfl rfl hx (fun s' J => ?_) hpl (hs _))
  refine wpAt_of_wpAny (wpAny_mono ((pss_cons (ps_ost (X := cxSH P w K mg base [a0, a1] qual scope f cc (.ref cda) A outer s H E) (pe_var (i := 0) rfl (.inl S.l0) d0 e0) (pe_var (i := 1) rfl (.inl S.l1) d1 e1)) pss_nil).run [] s' _ H { nx := fun _ H' => Q .non H', rt := Q } J ?_) (fun fl s2 hs => ?_) fun e s2 z => z)
  · refine ⟨_, rfl, _, rfl, x, C, rfl, SC.oex, hno, .inl ⟨hx, fun dx n1 n2 => hq dx n1 n2⟩⟩
  · cases fl with
    | ret u => obtain ⟨v, σ', H', J2, rv, q⟩ := hs; exact ⟨v, H', J2.os, J2.bare, J2.base, J2.hok, rv, q⟩
    | next => obtain ⟨σ', H', J2, q⟩ := hs; exact ⟨V.non, H', J2.os, J2.bare, J2.base, J2.hok, rfl, q⟩
    | brk => obtain ⟨_, _, _, q⟩ := hs; exact False.elim q
    | cont => obtain ⟨_, _, _, q⟩ := hs; exact False.elim q
end DL
namespace DL
open PySem PySem.Spec PyProof.Rows L2
/-- C(e) while an exception is handled: the term is that of pmk_err, so ds_raiseI serves `raise C(e) from None` (ps_raiseHN) too -/
theorem pmk_errH {X : Cx} {x : Str} {C f D : Addr} {fd : FuncData} {ps : List Str} {e : Expr} {p pos : Pos} {te : TE} (F : ∀ w base, L2H.FnH X.prog w X.K X.mg base CX0 1 f fd ps (spEI X.K D)) (ty : PySem.W.typeIn X.K (.ref f) = some (.type "function")) (b : Binds X.K fd ps []) (Er : ErrAt X.K f D C)
    (hr : L2H.RoomH 2 X.A) (hc : L2H.HotC X) (hg : Gl X x) (hm : X.mg x = some (.ref C)) (ha : PE X e te)
    (hdb : (x == ("__debug__" : Str)) = false := by decide) (he : starEach [e] X.env = (false, eval e X.env) :: starEach [] X.env := by rfl) :
    L2H.PMk5 X (.Call (.Name x p) [e] [] pos) (tMkO C (spEI X.K D) [] (tCons te tNil)) :=
  L2H.pmk5_oexH Er.sc.oex Er.ini ty (F X.w X.base) hr hc b (fun _ _ _ _ _ _ _ z => z.elim) hg hm (pa_cons ha pa_nil he) hdb he (by rfl)
end DL

set_option Elab.async false
set_option linter.all false
set_option maxRecDepth 100000
set_option maxHeartbeats 2000000
/-! data layer, part zm: a = b = e; min, max; defs with defaults, called with one argument less or by keyword -/
namespace L2
open PySem PySem.Spec PyProof.Rows
section
variable {X : Cx} {CX : CXT} {k : Nat} {f : Addr} {fd : FuncData} {ps : List Str} {sp : Sp} {E : XK} {x : Str} {p pos : Pos} {e : Expr} {es : List Expr} {t : TA} {dvs : List V}
theorem pe_callE (F : FnOk X.prog X.w X.K X.mg X.base CX k f fd ps sp) (hr : Room k X.A) (hg : Gl X x) (hm : X.mg x = some (.ref f)) (hk : PySem.W.keepIn X.K (.ref f) = true) (hb : ∃ ds, Vals dvs ds ∧ Binds X.K fd ps ds) (hx : Passes CX X E)
    (ha : PA X (e :: es) t) (hdb : (x == ("__debug__" : Str)) = false := by decide) (he : starEach (e :: es) X.env = (false, eval e X.env) :: starEach es X.env := by rfl) (hpl : (backTo pos (starEach es X.env)).any (·.1) = false := by rfl) :
    PE X (.Call (.Name x p) (e :: es) [] pos) (tCall sp dvs E t) := by
  obtain ⟨ds, hd, hb⟩ := hb
  exact pe_call F hr hg hm hk hb hd hx ha hdb he hpl
end
end L2
namespace DL
open PySem PySem.Spec PyProof.Rows L2
section
variable {T : Ks} {W : WX} {Γ : Nv} {k ka : Lq}
/-- a = b = e -/
def dAsg2 (i j : Nat) (fe : EF D) : SF := fun Γ => (fe Γ).bind fun x => .ok (.nx, (x.2.set i (.fr x.1)).set j (.fr x.1))
theorem ds_asg2 {i j : Nat} {te : TE} {fe : EF D} (a : DE T W .F te fe) : DS T W (tAsg2 te (gName i) (gName j)) (dAsg2 i j fe) := fun c g Γ σ H D S p => by
  refine a c g Γ σ H _ S ?_
  unfold dAsg2 at p
  cases e : fe Γ with
  | bad => rw [e] at p; exact p
  | err x => rw [e] at p; exact fun cls dd H' S' => p g cls dd σ H' Gle.refl S'
  | ok x =>
    rw [e, R.bind_ok] at p
    exact fun v H' S' _ r => p _ _ H' (Gle.cut.trans Gle.cut) ((S'.setFr i r).setFr j (r.weak fun b z _ => z.imp Gh.cut_ep id))
@[simp] theorem ev_asg2 {i j : Nat} {fe : EF D} : dAsg2 i j fe Γ = (fe Γ).bind fun x => .ok (.nx, (x.2.set i (.fr x.1)).set j (.fr x.1)) := eq_of rfl
def oMin2 : List D → Option D
  | [.int i, .int j] => some (.int (if j < i then j else i))
  | _ => none
def oMax2 : List D → Option D
  | [.int i, .int j] => some (.int (if j > i then j else i))
  | _ => none
theorem cad_min2 : CaD T (fun xs H Q => ∃ i j, xs = [.int i, .int j] ∧ Q (.int (if j < i then j else i)) H) oMin2 := fun E H xs ds z Q r e q => by
  unfold oMin2 at e
  split at e
  · cases e
    cases r with
    | cons r1 r2 =>
      cases r2 with
      | cons r2 r3 =>
        cases r3; cases r1; cases r2
        exact ⟨_, _, rfl, q _ _ (Same.refl _) (.int _)⟩
  · cases e
theorem cad_max2 : CaD T (fun xs H Q => ∃ i j, xs = [.int i, .int j] ∧ Q (.int (if j > i then j else i)) H) oMax2 := fun E H xs ds z Q r e q => by
  unfold oMax2 at e
  split at e
  · cases e
    cases r with
    | cons r1 r2 =>
      cases r2 with
      | cons r2 r3 =>
        cases r3; cases r1; cases r2
        exact ⟨_, _, rfl, q _ _ (Same.refl _) (.int _)⟩
  · cases e
@[simp] theorem ev_min2 {i j : Int} : oMin2 [.int i, .int j] = some (.int (if j < i then j else i)) := eq_of rfl
@[simp] theorem ev_max2 {i j : Int} : oMax2 [.int i, .int j] = some (.int (if j > i then j else i)) := eq_of rfl
/-- f(e, k = v) -/
def callNf (F : List D → R Err D) (n m : Nat) (ds : List D) (y : List D × Nv) : R (Err × Nv) (D × Nv) := if ds.length = n ∧ y.1.length = m then (match F (ds ++ y.1) with | .ok d => .ok (d, y.2) | _ => .bad) else .bad
def dCallN (F : List D → R Err D) (n m : Nat) (fs fk : EF (List D)) : EF D := fun Γ => (fs Γ).bind fun x => (fk x.2).bind (callNf F n m x.1)
theorem de_callN {N n m : Nat} {F : List D → R Err D} {ts tk : TA} {fs fk : EF (List D)} {E : XK} (a : DA T W .W ts fs) (b : DA T W .W tk fk) (hn : ∀ ds e, F ds = .ok e → ds.length = N) :
    DE T W k (tCallN n m (spP T N F) (fun vs zs => vs ++ zs) E ts tk) (dCallN F n m fs fk) := fun c g Γ σ H Q S p => by
  refine a c g Γ σ H _ S ?_
  unfold dCallN at p
  cases e : fs Γ with
  | bad => rw [e] at p; exact p
  | err x => rw [e] at p; exact p
  | ok x =>
    obtain ⟨ds, Γ1⟩ := x
    rw [e, R.bind_ok] at p
    intro v1 H1 S1 k1 r1
    refine b c g Γ1 σ H1 _ S1 ?_
    cases e2 : fk Γ1 with
    | bad => rw [show fk (ds, Γ1).2 = .bad from e2] at p; exact p
    | err x => rw [show fk (ds, Γ1).2 = .err x from e2] at p; exact p
    | ok y =>
      obtain ⟨es, Γ2⟩ := y
      rw [show fk (ds, Γ1).2 = .ok (es, Γ2) from e2, R.bind_ok] at p
      unfold callNf at p
      intro v2 H2 S2 k2 r2
      by_cases hc : ds.length = n ∧ es.length = m
      · simp only [hc.1, hc.2, and_self, if_true] at p
        have r1' : Reps T.K (fun _ => False) H2 v1 ds := (Reps.keep k2 S1.listsD (fun _ z => z) (fun _ z _ => z) r1).weak fun _ z _ => z.elim
        refine ⟨r1.length.trans hc.1, r2.length.trans hc.2, ?_⟩
        cases e3 : F (ds ++ es) with
        | bad => simp only [e3] at p; exact False.elim p
        | err z => simp only [e3] at p; exact False.elim p
        | ok d =>
          simp only [e3] at p
          refine ⟨ds ++ es, hn _ _ e3, r1'.append (r2.weak fun _ z _ => z.elim), ?_⟩
          rw [e3]
          exact fun v H' s r => p v H' (S2.grow s) ((k1.trans k2).trans (ofSame s)) (S.newq r (S.grown S2 (k1.trans k2)))
      · rw [if_neg (fun z => hc z)] at p; exact False.elim p
@[simp] theorem ev_callN {F : List D → R Err D} {n m : Nat} {fs fk : EF (List D)} : dCallN F n m fs fk Γ = (fs Γ).bind fun x => (fk x.2).bind (callNf F n m x.1) := eq_of rfl
@[simp] theorem ev_callNf {F : List D → R Err D} {n m : Nat} {ds es : List D} : callNf F n m ds (es, Γ) = if ds.length = n ∧ es.length = m then (match F (ds ++ es) with | .ok d => .ok (d, Γ) | _ => .bad) else .bad := eq_of rfl
end
/-- a def of the text whose last parameters have defaults -/
structure DefAtD (K : PySem.W.Frag) (mg : Str → Option Value) (x : Str) (st : Stmt) (ps : List Str) where
  f : Addr
  fd : FuncData
  dvs : List V
  F : FunD K x x (defArgs st) (defBody st) (defScope st) dvs [] f fd
  m : mg x = some (.ref f)
  b : Binds K fd ps []
/-- as lc_rule, of longer lists -/
theorem lc_rule2 {g : D → Nv → Option Nv} {own : List Nat} {a : EF Bool} {f : EF D} (out : Nat → Option D) {items : List D} {Γ0 : Nv} (hstep : ∀ i d, items[i]? = some d → ∃ Γ1 Γ2, g d Γ0 = some Γ1 ∧ ((∃ y Γ3, a Γ1 = .ok (true, Γ2) ∧ f Γ2 = .ok (y, Γ3) ∧ out i = some y ∧ wipeN Γ3 own = Γ0) ∨ (a Γ1 = .ok (false, Γ2) ∧ out i = none ∧ wipeN Γ2 own = Γ0)))
    (hs : items.length ≤ 2000) : lcLoop g a f own items Γ0 [] = .ok ((List.range items.length).filterMap out, Γ0) := by
  have key : ∀ (rest : List D) (i : Nat) (acc : List D), (∀ j, rest[j]? = items[i + j]?) → i + rest.length = items.length → acc = (List.range i).filterMap out → acc.length ≤ i → lcLoop g a f own rest Γ0 acc = .ok ((List.range items.length).filterMap out, Γ0) := by
    intro rest
    induction rest with
    | nil =>
      intro i acc _ hl hacc _
      unfold lcLoop
      rw [hacc, ← hl]; rfl
    | cons d r ih =>
      intro i acc hr hl hacc hle
      obtain ⟨Γ1, Γ2, e1, e2⟩ := hstep i d (by rw [← Nat.add_zero i, ← hr 0]; rfl)
      have hr' : ∀ j, r[j]? = items[i + 1 + j]? := fun j => by
        have := hr (j + 1)
        rw [List.getElem?_cons_succ] at this
        rw [this]; congr 1; omega
      have hl' : i + 1 + r.length = items.length := by rw [List.length_cons] at hl; omega
      unfold lcLoop
      rw [e1]
      rcases e2 with ⟨y, Γ3, e2, e3, e4, e5⟩ | ⟨e2, e4, e5⟩
      · simp only [e2, e3]
        rw [if_pos (Nat.lt_of_le_of_lt hle (Nat.lt_of_lt_of_le (show i < 2001 by omega) (by decide))), e5]
        exact ih (i + 1) _ hr' hl' (by rw [List.range_succ, List.filterMap_append, ← hacc, List.filterMap_cons_some e4, List.filterMap_nil]) (by rw [List.length_append, List.length_singleton]; omega)
      · simp only [e2, e5]
        exact ih (i + 1) _ hr' hl' (by rw [List.range_succ, List.filterMap_append, ← hacc, List.filterMap_cons_none e4, List.filterMap_nil, List.append_nil]) (by omega)
  exact key items 0 [] (fun j => by rw [Nat.zero_add]) (by omega) rfl (Nat.le_refl _)
theorem natSize2 {n : Nat} (h : n ≤ 2000) : n ≤ sizeLine := Nat.le_trans h (by decide)
end DL

set_option Elab.async false
set_option linter.all false
set_option maxRecDepth 100000
set_option maxHeartbeats 2000000
/-! data layer, part zn: a dict of text keys that is changed in place; classmethods -/
namespace DL
open PySem PySem.Spec PyProof.Rows L2
section
variable {T : Ks} {W : WX} {c : Ct} {g : Gh} {Γ Γ' : Nv} {σ : L2.St} {H H' : Hp} {a : Addr} {k ka kb : Lq} {ta te : TE} {fa fe : EF D} {t u : TS} {v : V} {d : D} {vs : List V} {ds : List D}
abbrev kvO (ks : List Str) (vs : List V) : List (Key × V) := (ks.zip vs).map fun q => (Sum.inr q.1, q.2)
/-- a new thing in slot i -/
theorem Sim.newO {i : Nat} {s : Slot} {o : HO} (S : Sim T c g Γ σ H) (na : H a = none) (hi : i < Γ.length) (hnd : ∀ x, s ≠ .dr x)
    (hs : c.H0 a = none → SlotOk T c (g.own i a) (σ.set i (some (.ref a))) (upd H a o) i s) : Sim T c (g.own i a) (Γ.set i s) (σ.set i (some (.ref a))) (upd H a o) := by
  have sm := same_upd (o := o) na
  have S1 := S.grow sm
  have h0 : c.H0 a = none := by
    cases q : c.H0 a with
    | none => rfl
    | some o => exact absurd na (S.old a (by rw [q]; exact Option.some_ne_none _))
  have w : ∀ b, (g.own i a).Ep b → H b ≠ none → g.Ep b := fun b z n => (Gh.more_ep (Gh.own_ep z)).resolve_left fun e => n (by rw [e]; exact na)
  have nad : ∀ j, g.ad j ≠ some a := fun j z => by
    obtain ⟨_, q, _⟩ := S.own_at z
    rw [na] at q; cases q
  refine ⟨by rw [List.length_set, List.length_set]; exact S.len, fun j sl q => ?_, fun j hj => ?_, fun j l b h1 h2 => ?_, fun j l x y h1 h2 => ?_, S1.frame, S1.old, fun a' p q => ?_, fun b hb => ?_, fun b hb => ?_, fun b o h => S1.pin b o h⟩
  · by_cases hj : j = i
    · subst hj
      rw [List.getElem?_set_self hi] at q
      cases q
      exact hs h0
    · rw [List.getElem?_set_ne (Ne.symm hj)] at q
      have hσ : (σ.set i (some (.ref a)))[j]? = σ[j]? := List.getElem?_set_ne (Ne.symm hj)
      have q1 : SlotOk T c (g.own i a) σ (upd H a o) j sl := (S.slot j sl q).turn (Gh.own_ne g a hj) rfl (fun v d r => (r.weak w).same sm) (fun v d r => (r.weak fun b z n => z.imp (fun z => w b z n) id).same sm) (fun vs ds _ r => (r.weak w).same sm) (fun a xs _ h => sm _ _ h) (fun a p x _ _ h1 h2 => ⟨sm _ _ h1, sm _ _ h2⟩)
      unfold SlotOk at q1 ⊢
      rw [hσ]
      exact q1
  · rw [List.length_set] at hj
    rw [Gh.own_ne g a (by omega)]
    exact S.out j hj
  · rcases Gh.own_some h1 with ⟨e1, e2⟩ | ⟨e1, e2⟩
    · rcases Gh.own_some h2 with ⟨e3, e4⟩ | ⟨e3, e4⟩
      · rw [e1, e3]
      · rw [e2] at e4; exact absurd e4 (nad l)
    · rcases Gh.own_some h2 with ⟨e3, e4⟩ | ⟨e3, e4⟩
      · rw [e4] at e2; exact absurd e2 (nad j)
      · exact S.inj j l b e2 e4
  · have nd : ∀ (m : Nat) (z : Dr), (Γ.set i s)[m]? = some (Slot.dr z) → Γ[m]? = some (Slot.dr z) := fun m z q => by
      by_cases hm : m = i
      · subst hm
        rw [List.getElem?_set_self hi] at q
        exact absurd (Option.some.inj q) (hnd z)
      · rwa [List.getElem?_set_ne (Ne.symm hm)] at q
    exact S.one j l x y (nd _ _ h1) (nd _ _ h2)
  · obtain ⟨h1, h2, h3, h4, h5, h6⟩ := S1.da a' p q
    obtain ⟨_, _, _, _, ⟨xs, h5'⟩, h6'⟩ := S.da a' p q
    refine ⟨h1, fun j => ⟨fun z => ?_, fun z => ?_⟩, h3, h4, h5, h6⟩
    · rcases Gh.own_some z with ⟨_, e2⟩ | ⟨_, e2⟩
      · rw [e2, na] at h5'; cases h5'
      · exact (h2 j).1 e2
    · rcases Gh.own_some z with ⟨_, e2⟩ | ⟨_, e2⟩
      · rw [e2] at h6'; exact h6' na
      · exact (h2 j).2 e2
  · obtain ⟨h1, h2, h3⟩ := S1.xt b hb
    obtain ⟨_, _, xs, h3', _⟩ := S.xt b hb
    refine ⟨fun j z => ?_, h2, h3⟩
    rcases Gh.own_some z with ⟨e1, e2⟩ | ⟨_, e2⟩
    · rw [e2, na] at h3'; cases h3'
    · exact h1 j e2
  · rcases Gh.more_ep (Gh.own_ep hb) with z | z
    · subst z
      cases q : c.Hz b with
      | none => rfl
      | some o => rw [S.frame b o q] at na; cases na
    · exact S.hz b z
/-- an own dict takes another content -/
theorem Sim.setOd {i : Nat} {ws : List V} {ks ks0 : List Str} {es ds0 : List D} {E : Addr → Prop} (S : Sim T c g Γ σ H) (hi : Γ[i]? = some (.od ks0 ds0)) (had : g.ad i = some a) (hn : nolsts es = true) (r : Reps T.K E H ws es) :
    Sim T c g (Γ.set i (.od ks es)) σ (upd H a (.dK (kvO ks ws))) := by
  have hl : i < Γ.length := (List.getElem?_eq_some_iff.mp hi).1
  obtain ⟨a1, vs', e1, e2, e3, e4, e5, e6⟩ := S.slot _ _ hi
  rw [had] at e1; cases e1
  have kp : Keep (fun b => b = a) H (upd H a (.dK (kvO ks ws))) := fun b x n e => by rw [upd_ne n]; exact e
  have lp : Lists (fun b => b = a) H := fun b e => ⟨.dK (kvO ks0 vs'), (by rw [e]; exact e3), rfl⟩
  have hep : g.Ep a := .inr (.inl ⟨i, had⟩)
  have hN : ∀ b, b = a → g.Ep b := fun b e => by rw [e]; exact hep
  have nda : ∀ a' p, g.da = some (a', p) → a' ≠ a ∧ p ≠ a := fun a' p q => by
    obtain ⟨_, h2, _⟩ := S.da a' p q
    exact ⟨fun z => (h2 i).1 (by rw [z]; exact had), fun z => (h2 i).2 (by rw [z]; exact had)⟩
  refine ⟨by rw [List.length_set]; exact S.len, fun j s q => ?_, fun j hj => S.out j (by rw [List.length_set] at hj; exact hj), S.inj, fun j l x y h1 h2 => ?_, fun b o e => ?_, fun b h => ?_, fun a' p q => ?_, fun b hb => ?_, S.hz, fun b o h => ⟨kp _ _ (fun z => ?_) (S.pin b o h).1, (S.pin b o h).2⟩⟩
  · by_cases hj : j = i
    · subst hj
      rw [List.getElem?_set_self hl] at q
      cases q
      exact ⟨a, ws, had, e2, upd_same, e4, hn, r.free kp lp hn⟩
    · rw [List.getElem?_set_ne (Ne.symm hj)] at q
      exact (S.slot j s q).turn rfl rfl (fun v d r => r.keep kp lp hN fun _ z _ => z) (fun v d r => r.keep kp lp (fun b e => .inl (hN b e)) fun _ z _ => z)
        (fun vs ds _ r => r.keep kp lp hN fun _ z _ => z) (fun a' xs e1 e2 => kp _ _ (fun e => hj (S.inj _ _ _ (by rw [← e]; exact e1) had)) e2) (fun a' p x e0 e1 e2 e3 => ⟨kp _ _ (nda a' p e1).1 e2, kp _ _ (nda a' p e1).2 e3⟩)
  · have nd : ∀ (m : Nat) (z : Dr), (Γ.set i (.od ks es))[m]? = some (Slot.dr z) → Γ[m]? = some (Slot.dr z) := fun m z q => by
      by_cases hm : m = i
      · subst hm
        rw [List.getElem?_set_self hl] at q
        cases q
      · rwa [List.getElem?_set_ne (Ne.symm hm)] at q
    exact S.one j l x y (nd _ _ h1) (nd _ _ h2)
  · refine kp _ _ (fun z => ?_) (S.frame b o e)
    rw [z, S.hz a hep] at e; cases e
  · by_cases z : b = a
    · rw [z, upd_same]; exact Option.some_ne_none _
    · rw [upd_ne z]; exact S.old b h
  · obtain ⟨h1, h2, h3, h4, ⟨xs, h5⟩, h6⟩ := S.da a' p q
    obtain ⟨n1, n2⟩ := nda a' p q
    exact ⟨h1, h2, h3, h4, ⟨xs, by rw [upd_ne n1]; exact h5⟩, by rw [upd_ne n2]; exact h6⟩
  · obtain ⟨h1, h2, xs, h3, h4⟩ := S.xt b hb
    refine ⟨h1, h2, ?_⟩
    by_cases z : b = a
    · rw [z]; exact ⟨_, upd_same, rfl⟩
    · exact ⟨xs, by rw [upd_ne z]; exact h3, h4⟩
  · rw [z] at h
    obtain ⟨h1, _⟩ := S.xt a (S.pin a o h).2
    exact h1 i had
/-! ### a display of constants -/
theorem pairs_c {σ : L2.St} : ∀ (l : List (V × V)) {H : Hp} {Q : List (V × V) → Hp → Prop}, Q l H → tPairs (l.map fun q => (tC q.1, tC q.2)) σ H Q
  | [], _, _, h => h
  | q :: l, _, _, h => pairs_c l h
theorem merge_new : ∀ (kvs acc : List (Key × V)), (kvs.map (·.1)).Nodup → (∀ p ∈ kvs, ∀ q ∈ acc, q.1 ≠ p.1) → mergeK acc kvs = acc ++ kvs
  | [], acc, _, _ => (List.append_nil _).symm
  | p :: kvs, acc, hn, h => by
    rw [List.map_cons, List.nodup_cons] at hn
    have e : putK acc p.1 p.2 = acc ++ [p] := by
      unfold putK
      rw [if_neg]
      intro z
      obtain ⟨q, hq, e⟩ := List.any_eq_true.mp z
      exact h p List.mem_cons_self q hq (of_decide_eq_true e)
    show mergeK (putK acc p.1 p.2) kvs = _
    rw [e, merge_new kvs (acc ++ [p]) hn.2 (fun x hx q hq => ?_), List.append_assoc]; rfl
    rcases List.mem_append.mp hq with z | z
    · exact h x (List.mem_cons_of_mem _ hx) q z
    · rw [List.mem_singleton.mp z]
      exact fun e => hn.1 (List.mem_map.mpr ⟨x, hx, e.symm⟩)
/-- name = {"a": x, ..}, to be changed -/
def dNewD (i : Nat) (ks : List Str) (ds : List D) : SF := fun Γ => if i < Γ.length then .ok (.nx, Γ.set i (.od ks ds)) else .bad
theorem ds_newd {i : Nat} {ks : List Str} {trs : List (TE × TE)} (hk : ks.Nodup) (hl : ks.length = vs.length) (h15 : ks.length ≤ 15) (hn : nolsts ds = true) (r : ∀ E H, Reps T.K E H vs ds) (ht : trs = ((ks.zip vs).map fun q => (V.str q.1, q.2)).map fun q => (tC q.1, tC q.2)) :
    DS T W (tAsg (tDisp trs) (gName i)) (dNewD i ks ds) := fun c g Γ σ H D S p => by
  subst ht
  intro l hl0
  refine pairs_c _ ?_
  have ek : (ks.zip vs).map (·.1) = ks := by rw [List.map_fst_zip (by omega)]
  refine ⟨upd_same, kvO ks vs, ?_, ?_, ?_⟩
  · unfold kvO
    rw [List.map_map]
    rfl
  · unfold kvO
    rw [List.length_map, List.length_zip]
    omega
  · rw [upd_upd, merge_new (kvO ks vs) [] ?_ (fun _ _ _ h => nomatch h), List.nil_append]
    · unfold dNewD at p
      by_cases hi : i < Γ.length
      · rw [if_pos hi] at p
        refine p _ _ _ Gle.own (S.newO hl0 hi (fun _ z => nomatch z) fun h0 => ⟨l, vs, Gh.own_at g i l, S.in_len hi, upd_same, h0, hn, r _ _⟩)
      · rw [if_neg hi] at p; exact False.elim p
    · have e2 : (kvO ks vs).map (·.1) = ks.map Sum.inr := by
        unfold kvO
        rw [List.map_map, ← congrArg (List.map Sum.inr) ek, List.map_map]
        rfl
      rw [e2]
      exact List.Pairwise.map _ (fun _ _ h z => h (Sum.inr.inj z)) hk
/-! ### d[y] = v -/
def setKey {α : Type} (ks : List Str) (ds : List α) (z : Str) (d : α) : List α := (ks.zip ds).map fun q => if q.1 = z then d else q.2
theorem zip_self {α β : Type} (f : Str × α → β) : ∀ (ks : List Str) (vs : List α), ks.zip ((ks.zip vs).map f) = (ks.zip vs).map fun q => (q.1, f q)
  | [], _ => rfl
  | _ :: _, [] => rfl
  | k :: ks, v :: vs => by
    rw [List.zip_cons_cons, List.map_cons, List.map_cons, List.zip_cons_cons, zip_self f ks vs]
theorem putK_kv {ks : List Str} {vs : List V} {z : Str} {v : V} (hz : z ∈ ks) (hl : ks.length = vs.length) : putK (kvO ks vs) (Sum.inr z) v = kvO ks (setKey ks vs z v) := by
  unfold putK
  rw [if_pos]
  · unfold kvO setKey
    rw [zip_self, List.map_map, List.map_map]
    refine List.map_congr_left fun q _ => ?_
    show (if (Sum.inr q.1 : Key) = Sum.inr z then ((Sum.inr q.1 : Key), v) else (Sum.inr q.1, q.2)) = (Sum.inr q.1, if q.1 = z then v else q.2)
    by_cases h : q.1 = z
    · rw [if_pos h, if_pos (by rw [h])]
    · rw [if_neg h, if_neg (fun e => h (Sum.inr.inj e))]
  · rw [List.any_eq_true]
    have ek : (ks.zip vs).map (·.1) = ks := by rw [List.map_fst_zip (by omega)]
    rw [← ek] at hz
    obtain ⟨q, hq, e⟩ := List.mem_map.mp hz
    exact ⟨_, List.mem_map.mpr ⟨q, hq, rfl⟩, decide_eq_true (by show (Sum.inr q.1 : Key) = Sum.inr z; rw [← e])⟩
theorem Reps.setKey {E : Addr → Prop} {z : Str} (r : Rep T.K E H v d) : ∀ {ks : List Str} {vs : List V} {ds : List D}, Reps T.K E H vs ds → Reps T.K E H (DL.setKey ks vs z v) (DL.setKey ks ds z d)
  | [], _, _, _ => .nil
  | _ :: _, _, _, .nil => .nil
  | k :: ks, _, _, .cons q t => by
    refine .cons ?_ (Reps.setKey r t)
    show Rep T.K E H (if k = z then v else _) (if k = z then d else _)
    by_cases h : k = z
    · rw [if_pos h, if_pos h]; exact r
    · rw [if_neg h, if_neg h]; exact q
theorem nolsts_setKey {z : Str} (hd : nolst d = true) : ∀ {ks : List Str} {ds : List D}, nolsts ds = true → nolsts (setKey ks ds z d) = true
  | [], _, _ => rfl
  | _ :: _, [], _ => rfl
  | k :: ks, x :: ds, h => by
    rw [nolsts, Bool.and_eq_true] at h
    show (nolst (if k = z then d else x) && nolsts (setKey ks ds z d)) = true
    rw [nolsts_setKey hd h.2, Bool.and_true]
    split
    · exact hd
    · exact h.1
def odOf (s : Option Slot) : Option (List Str × List D) := match s with | some (.od ks ds) => some (ks, ds) | _ => none
theorem odOf_some {s : Option Slot} {ks : List Str} {ds : List D} (h : odOf s = some (ks, ds)) : s = some (.od ks ds) := by
  unfold odOf at h
  split at h
  · cases h; rfl
  · cases h
def strOf (d : D) : Option Str := match d with | .str z => some z | _ => none
theorem strOf_some {z : Str} (h : strOf d = some z) : d = .str z := by
  unfold strOf at h
  split at h
  · cases h; rfl
  · cases h
def dput2 (i : Nat) (d : D) (y : D × Nv) : R (Err × Nv) (Fl × Nv) := match odOf (y.2 : List Slot)[i]?, strOf y.1 with
  | some q, some z => if nolst d = true ∧ z ∈ q.1 ∧ q.1.length = q.2.length ∧ q.1.length ≤ 15 then .ok (.nx, y.2.set i (.od q.1 (setKey q.1 q.2 z d))) else .bad
  | _, _ => .bad
def dput1 (i : Nat) (fk : EF D) (x : D × Nv) : R (Err × Nv) (Fl × Nv) := if (odOf (x.2 : List Slot)[i]?).isSome = true then (fk x.2).bind (dput2 i x.1) else .bad
def dDPut (i : Nat) (fk fe : EF D) : SF := fun Γ => (fe Γ).bind (dput1 i fk)
theorem ds_dput {i : Nat} {ty : TE} {fk : EF D} (b : DE T W kb ty fk) (a : DE T W k te fe) : DS T W (sDPut (tVar i) ty te) (dDPut i fk fe) := fun c g Γ σ H D S p => by
  refine a c g Γ σ H _ S ?_
  unfold dDPut at p
  cases e : fe Γ with
  | bad => rw [e] at p; exact p
  | err x => rw [e] at p; exact fun cls dd H' S' => p g cls dd σ H' Gle.refl S'
  | ok x =>
    obtain ⟨dx, Γ1⟩ := x
    rw [e, R.bind_ok] at p
    unfold dput1 at p
    intro v1 H1 S1 k1 r1
    by_cases hr : (odOf (Γ1 : List Slot)[i]?).isSome = true
    · rw [if_pos hr] at p
      obtain ⟨⟨ks0, ds0⟩, e0⟩ := Option.isSome_iff_exists.mp hr
      obtain ⟨a0, vs0, h1, ea, _⟩ := S1.slot i _ (odOf_some e0)
      refine ⟨.ref a0, ea, b c g Γ1 σ H1 _ S1 ?_⟩
      dsimp only at p
      cases e2 : fk Γ1 with
      | bad => rw [e2] at p; exact p
      | err y => rw [e2] at p; exact fun cls dd H' S' => p g cls dd σ H' Gle.refl S'
      | ok y =>
        obtain ⟨dy, Γ2⟩ := y
        rw [e2, R.bind_ok] at p
        intro v2 H2 S2 k2 r2
        have r1' := S.toW (S1.stay (vs := []) k2 (fun b z => S.exW z) r1)
        unfold dput2 at p
        dsimp only at p
        cases e3 : odOf (Γ2 : List Slot)[i]? with
        | none => rw [e3] at p; exact False.elim p
        | some q =>
          obtain ⟨ks, ds⟩ := q
          cases e4 : strOf dy with
          | none => rw [e3, e4] at p; exact False.elim p
          | some z =>
            rw [e3, e4] at p
            dsimp only at p
            by_cases hc : nolst dx = true ∧ z ∈ ks ∧ ks.length = ds.length ∧ ks.length ≤ 15
            · rw [if_pos hc] at p
              obtain ⟨c1, c2, c3, c4⟩ := hc
              have es := odOf_some e3
              obtain ⟨a1, vs, h1', h2, h3, h4, h5, h6⟩ := S2.slot i _ es
              rw [ea] at h2; cases h2
              obtain rfl := strOf_some e4
              cases r2
              have hl : ks.length = vs.length := c3.trans h6.length.symm
              refine ⟨a0, _, rfl, DPut.k (k := Sum.inr z) h3 ?_, ?_⟩
              · rw [List.length_map, List.length_zip]
                exact Nat.lt_of_le_of_lt (show min ks.length vs.length ≤ 15 by omega) (by decide)
              · show D.nx σ (upd H2 a0 (.dK (putK (kvO ks vs) (Sum.inr z) v1)))
                rw [putK_kv c2 hl]
                exact p g σ _ Gle.refl (S2.setOd es h1' (nolsts_setKey c1 h5) (Reps.setKey (r1'.loose (E' := fun _ => False) c1) (h6.loose (E' := fun _ => False) h5)))
            · rw [if_neg hc] at p; exact False.elim p
    · rw [if_neg hr] at p; exact False.elim p
/-! ### y in d -/
theorem lookup_isSome {E : Addr → Prop} {z : Str} : ∀ {ks : List Str} {vs : List V} {ds : List D}, Reps T.K E H vs ds → ((ks.zip vs).lookup z).isSome = ((ks.zip ds).lookup z).isSome
  | [], _, _, _ => rfl
  | _ :: _, _, _, .nil => rfl
  | k :: ks, _, _, .cons q t => by
    rw [List.zip_cons_cons, List.zip_cons_cons, List.lookup_cons, List.lookup_cons]
    cases h : z == k with
    | true => rfl
    | false => exact lookup_isSome t
def din2 (y : D) (x : D × Nv) : R (Err × Nv) (D × Nv) := match x.1, y with
  | .dct ks ds, .str z => .ok (.bl ((ks.zip ds).lookup z).isSome, x.2)
  | _, _ => .bad
def din1 (fd : EF D) (y : D × Nv) : R (Err × Nv) (D × Nv) := (fd y.2).bind (din2 y.1)
def dDIn (fk fd : EF D) : EF D := fun Γ => (fk Γ).bind (din1 fd)
theorem de_din (b : DE T W kb ta fa) (a : DE T W ka te fe) : DE T W k (tDIn ta te) (dDIn fa fe) := fun c g Γ σ H Q S p => by
  refine b c g Γ σ H _ S ?_
  unfold dDIn at p
  cases e : fa Γ with
  | bad => rw [e] at p; exact p
  | err x => rw [e] at p; exact p
  | ok x =>
    obtain ⟨dy, Γ1⟩ := x
    rw [e, R.bind_ok] at p
    unfold din1 at p
    intro v1 H1 S1 k1 r1
    refine a c g Γ1 σ H1 _ S1 ?_
    dsimp only at p
    cases e2 : fe Γ1 with
    | bad => rw [e2] at p; exact p
    | err y => rw [e2] at p; exact p
    | ok y =>
      obtain ⟨dx, Γ2⟩ := y
      rw [e2, R.bind_ok] at p
      unfold din2 at p
      intro v2 H2 S2 k2 r2
      dsimp only at p
      split at p
      · cases r1
        cases r2 with
        | @dct q ks vs ds hq _ rs =>
          refine ⟨q, _, rfl, DGet.k (k := Sum.inr _) hq, ?_⟩
          rw [valV_zip, lookup_isSome rs]
          exact p _ H2 S2 (k1.trans k2) (.bl _)
      · exact False.elim p
@[simp] theorem ev_NewD {i : Nat} {ks : List Str} {ds : List D} : dNewD i ks ds Γ = if i < Γ.length then .ok (.nx, Γ.set i (.od ks ds)) else .bad := eq_of rfl
@[simp] theorem ev_DPut {i : Nat} {fk fe : EF D} : dDPut i fk fe Γ = (fe Γ).bind (dput1 i fk) := eq_of rfl
@[simp] theorem ev_dput1 (i : Nat) (fk : EF D) : dput1 i fk (d, Γ) = if (odOf (Γ : List Slot)[i]?).isSome = true then (fk Γ).bind (dput2 i d) else .bad := eq_of rfl
@[simp] theorem ev_odOf {ks : List Str} {ds : List D} : odOf (some (.od ks ds)) = some (ks, ds) := eq_of rfl
theorem ev_dput2 {i : Nat} {z : Str} {ks : List Str} {ds : List D} (h : (Γ : List Slot)[i]? = some (.od ks ds)) : dput2 i d (.str z, Γ) = if nolst d = true ∧ z ∈ ks ∧ ks.length = ds.length ∧ ks.length ≤ 15 then .ok (.nx, Γ.set i (.od ks (setKey ks ds z d))) else .bad := by
  unfold dput2
  rw [h]
  rfl
@[simp] theorem ev_DIn {fk fd : EF D} : dDIn fk fd Γ = (fk Γ).bind (din1 fd) := eq_of rfl
@[simp] theorem ev_din1 (fd : EF D) : din1 fd (d, Γ) = (fd Γ).bind (din2 d) := eq_of rfl
@[simp] theorem ev_din2 {z : Str} {ks : List Str} {ds : List D} : din2 (.str z) (.dct ks ds, Γ) = .ok (.bl ((ks.zip ds).lookup z).isSome, Γ) := eq_of rfl
end
/-! ### classmethods -/
section
variable {T : Ks} {W : WX} {c : Ct} {g : Gh} {Γ : Nv} {k ka : Lq}
def cmK (C : Addr) (F : List D → R Err D) (x : List D × Nv) : R (Err × Nv) (D × Nv) := match F (.ref C :: x.1) with | .ok d => .ok (d, x.2) | _ => .bad
def dCMeth (C : Addr) (F : List D → R Err D) (fs : EF (List D)) : EF D := fun Γ => (fs Γ).bind (cmK C F)
theorem de_cmeth {n : Nat} {C : Addr} {F : List D → R Err D} {ts : TA} {fs : EF (List D)} {E : XK} (a : DA T W ka ts fs) (hn : ∀ ds e, F ds = .ok e → ds.length = n) : DE T W k (ClX.tCMeth C (spP T n F) E (tC (.ref C)) ts) (dCMeth C F fs) := fun c g Γ σ H Q S p => by
  refine ⟨rfl, a c g Γ σ H _ S ?_⟩
  unfold dCMeth at p
  cases e : fs Γ with
  | bad => rw [e] at p; exact p
  | err x => rw [e] at p; exact p
  | ok x =>
    obtain ⟨ds, Γ1⟩ := x
    rw [e, R.bind_ok] at p
    unfold cmK at p
    intro v1 H1 S1 k1 r1
    cases e2 : F (.ref C :: ds) with
    | bad => simp only [e2] at p; exact False.elim p
    | err z => simp only [e2] at p; exact False.elim p
    | ok d =>
      simp only [e2] at p
      refine ⟨.ref C :: ds, hn _ _ e2, .cons (.ref C) (r1.weak fun _ z _ => z.elim), ?_⟩
      rw [e2]
      exact fun v H' s r => p v H' (S1.grow s) (k1.trans (ofSame s)) (S.newq r (S.grown S1 k1))
@[simp] theorem ev_CMeth {C : Addr} {F : List D → R Err D} {fs : EF (List D)} : dCMeth C F fs Γ = (fs Γ).bind (cmK C F) := eq_of rfl
@[simp] theorem ev_cmK (C : Addr) (F : List D → R Err D) {ds : List D} : cmK C F (ds, Γ) = match F (.ref C :: ds) with | .ok d => .ok (d, Γ) | _ => .bad := eq_of rfl
/-- cls.f, cls a parameter -/
def dCVal (i : Nat) (C : Addr) (z : D) : EF D := fun Γ => match (Γ : List Slot)[i]? with
  | some (Slot.im (D.ref C')) => if C' = C then .ok (z, Γ) else .bad
  | _ => .bad
theorem de_cvalV {i : Nat} {C : Addr} {mc : Value} {f : Str} {w : V} {z : D} {uv : Value} (r : ClX.CRead T.K C mc) (q : ClX.CVal T.K C mc f w uv) (hz : ∀ (E : Addr → Prop) H, Rep T.K E H w z) : DE T W k (ClX.tCVal T.K (tVar i) f) (dCVal i C z) := fun c g Γ σ H Q S p => by
  unfold dCVal at p
  cases e : (Γ : List Slot)[i]? with
  | none => simp only [e] at p; exact False.elim p
  | some s =>
    have qs := S.slot i s e
    cases s with
    | im d =>
      cases d with
      | ref C' =>
        simp only [e] at p
        by_cases hC : C' = C
        · rw [if_pos hC] at p
          subst hC
          obtain ⟨_, v, h1, h2⟩ := qs
          cases h2
          exact ⟨_, h1, _, mc, w, uv, rfl, r, q, p w H S Keep.refl (hz _ _)⟩
        · rw [if_neg hC] at p; exact False.elim p
      | _ => simp only [e] at p; exact False.elim p
    | _ => simp only [e] at p; exact False.elim p
/-- cls(..) that does not raise -/
def tMakeV0 (i : Nat) (C : Addr) (sp : Sp) (dvs : List V) (E : XK) (t : TA) : TE := fun σ H Q => σ[i]? = some (some (.ref C)) ∧ tMake C sp dvs E t σ H Q
def dMakeV0 (i : Nat) (C : Addr) (nf : List Str) (F : List D → R Err (List D)) (dds : List D) (fs : EF (List D)) : EF D := fun Γ => match (Γ : List Slot)[i]? with
  | some (Slot.im (D.ref C')) => if C' = C then dMake C nf F dds fs Γ else .bad
  | _ => .bad
theorem de_makeV0 {i : Nat} {C : Addr} {nf : List Str} {n : Nat} {F : List D → R Err (List D)} {dvs : List V} {dds : List D} {ts : TA} {fs : EF (List D)} {E : XK} (a : DA T W ka ts fs) (q : ∀ H, Reps T.K (fun _ => False) H dvs dds) (hn : ∀ ds e, F ds = .ok e → ds.length = n) :
    DE T W k (tMakeV0 i C (spI T C nf n F) dvs E ts) (dMakeV0 i C nf F dds fs) := fun c g Γ σ H Q S p => by
  unfold dMakeV0 at p
  cases e : (Γ : List Slot)[i]? with
  | none => simp only [e] at p; exact False.elim p
  | some s =>
    have qs := S.slot i s e
    cases s with
    | im d =>
      cases d with
      | ref C' =>
        simp only [e] at p
        by_cases hC : C' = C
        · rw [if_pos hC] at p
          subst hC
          obtain ⟨_, v, h1, h2⟩ := qs
          cases h2
          exact ⟨h1, de_make (k := k) a q hn c g Γ σ H Q S p⟩
        · rw [if_neg hC] at p; exact False.elim p
      | _ => simp only [e] at p; exact False.elim p
    | _ => simp only [e] at p; exact False.elim p
@[simp] theorem ev_CVal {i : Nat} {C : Addr} {z : D} : dCVal i C z Γ = match (Γ : List Slot)[i]? with | some (Slot.im (D.ref C')) => (if C' = C then .ok (z, Γ) else .bad) | _ => .bad := eq_of rfl
@[simp] theorem ev_MakeV0 {i : Nat} {C : Addr} {nf : List Str} {F : List D → R Err (List D)} {dds : List D} {fs : EF (List D)} : dMakeV0 i C nf F dds fs Γ = match (Γ : List Slot)[i]? with | some (Slot.im (D.ref C')) => (if C' = C then dMake C nf F dds fs Γ else .bad) | _ => .bad := eq_of rfl
end
section
variable {X : Cx} {CX : CXT} {k i : Nat} {f C : Addr} {fd : FuncData} {ps : List Str} {sp : Sp} {E : XK} {x : Str} {p pos : Pos} {e : Expr} {es : List Expr} {t : TA} {ds : List Value} {dvs : List V}
theorem pe_makeV0 (M : Mk X.K C f) (F : FnOk X.prog X.w X.K X.mg X.base CX k f fd ps sp) (hr : Room (k + 1) X.A) (hN : X.N[i]? = some x) (hv : Vis X.env.scope x) (hb : Binds X.K fd ps ds) (hd : Vals dvs ds) (hx : Passes CX X E)
    (ha : PA X (e :: es) t) (hdb : (x == ("__debug__" : Str)) = false := by decide) (hcd : (x == ("__classdict__" : Str)) = false := by decide) (he : starEach (e :: es) X.env = (false, eval e X.env) :: starEach es X.env := by rfl) (hpl : (backTo pos (starEach es X.env)).any (·.1) = false := by rfl) :
    PE X (.Call (.Name x p) (e :: es) [] pos) (tMakeV0 i C sp dvs E t) := by
  refine ⟨fun pins s σ H Q I ⟨hσ, h⟩ => ?_⟩
  refine wpAny_Call_Name_kw (thn ((pe_var (pos := p) hN hv hdb hcd).run pins s σ H (fun v H1 => v = .ref C ∧ H1 = H) I ⟨.ref C, hσ, rfl, rfl⟩) fun u s0 ⟨v, H0, I0, r0, ev, eH⟩ => ?_)
  subst ev
  subst eH
  obtain rfl : u = Value.ref C := r0
  refine PySem.W.callWith_K (h₀ := X.base) I0.ok.mod.kin M.kp (thn (ha.run pos pins s0 σ H0 _ I0 h) fun us s1 ⟨vs, H1, I1, r, q⟩ => ⟨I1.kIn, ?_⟩) he hpl
  exact run_make M F hr hb hd hx I1 r q
end
/-- a classmethod of the text as it stands behind the top -/
structure ClsAt (K : PySem.W.Frag) (C : Addr) (mc : Value) (m q : Str) (st : Stmt) (ps : List Str) where
  f : Addr
  p : Addr
  fd : FuncData
  F : Fun K m q st f fd
  cm : ClX.CMet K C mc m p f
  b : Binds K fd ps []
section
variable {T : Ks} {W : WX} {c : Ct} {g : Gh} {Γ : Nv} {k ka : Lq} {C : Addr}
/-- o(..) that gives a new list -/
def callOO2 (F : List D → R Err D) (d : D) (y : List D × Nv) : R (Err × Nv) (List D × Nv) := match F (d :: y.1) with | .ok (.lst es) => .ok (es, y.2) | _ => .bad
def callOO1 (C : Addr) (F : List D → R Err D) (fs : EF (List D)) (x : D × Nv) : R (Err × Nv) (List D × Nv) := if insOf C x.1 = true then (fs x.2).bind (callOO2 F x.1) else .bad
def dCallOO (C : Addr) (F : List D → R Err D) (fe : EF D) (fs : EF (List D)) : EF (List D) := fun Γ => (fe Γ).bind (callOO1 C F fs)
theorem do_callOO {X : Cx} {n : Nat} {F : List D → R Err D} {ta : TE} {fe : EF D} {ts : TA} {fs : EF (List D)} {E : XK} {ka kb : Lq} (a : DE T W ka ta fe) (b : DA T W kb ts fs) (hn : ∀ ds e, F ds = .ok e → ds.length = n) :
    DO T W (StX.tCallO X C (spP T n F) E ta ts) (dCallOO C F fe fs) := fun c g Γ σ H Q S p => by
  refine a c g Γ σ H _ S ?_
  unfold dCallOO at p
  cases e : fe Γ with
  | bad => rw [e] at p; exact p
  | err x => rw [e] at p; exact p
  | ok x =>
    obtain ⟨dx, Γ1⟩ := x
    rw [e, R.bind_ok] at p
    intro v1 H1 S1 k1 r1
    unfold callOO1 at p
    dsimp only at p
    split at p
    · rename_i hi
      obtain ⟨q, d, fs', rfl, hq⟩ := insOf_at hi r1
      refine ⟨q, rfl, ?_⟩
      refine b c g Γ1 σ H1 _ S1 ?_
      cases e2 : fs Γ1 with
      | bad => rw [e2] at p; exact p
      | err y => rw [e2] at p; exact p
      | ok y =>
        obtain ⟨ys, Γ2⟩ := y
        rw [e2, R.bind_ok] at p
        intro vs H2 S2 k2 r2
        have r1' := S.toW (S1.stay (vs := []) k2 (fun b z => S.exW z) r1)
        have r2' : Reps T.K g.Dp H2 vs ys := r2.weak fun _ z _ => S1.exW z
        obtain ⟨q', d', fs2, e3, hq'⟩ := insOf_at hi r1'
        cases e3
        refine ⟨.inr ⟨d', fs2, hq'⟩, ?_⟩
        unfold callOO2 at p
        cases e4 : F (dx :: ys) with
        | bad => simp only [e4] at p; exact False.elim p
        | err z => simp only [e4] at p; exact False.elim p
        | ok z =>
          simp only [e4] at p
          refine ⟨dx :: ys, hn _ _ e4, .cons (r1'.weak fun _ z _ => z.elim) (r2'.weak fun _ z _ => z.elim), ?_⟩
          rw [e4]
          intro v H' s r
          cases r with
          | @lst a2 vs2 es h2 n2 r3 =>
            have na : H2 a2 = none := by
              cases z : H2 a2 with
              | none => rfl
              | some o => exact absurd (show H2 a2 ≠ none by rw [z]; exact Option.some_ne_none _) n2
            exact p a2 vs2 H' (S2.more s na h2) ((k1.trans k2).trans (ofSame s)) (none_back (N := fun _ => False) (S.grown S2 (k1.trans k2)) na) h2 (r3.weak fun b z _ => S.grown S2 (k1.trans k2) b z)
          | _ => exact False.elim p
    · exact False.elim p
@[simp] theorem ev_CallOO {F : List D → R Err D} {fe : EF D} {fs : EF (List D)} : dCallOO C F fe fs Γ = (fe Γ).bind (callOO1 C F fs) := eq_of rfl
@[simp] theorem ev_callOO1 {F : List D → R Err D} {fs : EF (List D)} {d : D} : callOO1 C F fs (d, Γ) = if insOf C d = true then (fs Γ).bind (callOO2 F d) else .bad := eq_of rfl
@[simp] theorem ev_callOO2 {F : List D → R Err D} {d : D} {ds : List D} : callOO2 F d (ds, Γ) = match F (d :: ds) with | .ok (.lst es) => .ok (es, Γ) | _ => .bad := eq_of rfl
end
end DL

set_option Elab.async false
set_option linter.all false
set_option maxRecDepth 100000
set_option maxHeartbeats 2000000
/-! data layer, part zo: (x, *ys) = a list -/
namespace DL
open PySem PySem.Spec PyProof.Rows L2
section
variable {prog : Program} {w : World} {A : Around} {E : Value → Shared → Prop} {s : Shared}
theorem walks_tailL (hh : A.handled = none) (I ax : Addr) (hne : ax ≠ I) (items : Array Value) (k : Nat) (hk : k ≤ items.size) :
    Walks prog w A I [I, ax] [I] (items.size - k) (fun i v => items[k + i]? = some v) (fun i h => h.IsListIter I ax (k + i) ∧ h.IsList ax items) where
  sub := fun b hb => by simp at hb; simp [hb]
  frame := fun _ _ _ st kp => ⟨st.1.at fun o e => kp I (by simp) o e, st.2.at fun o e => kp ax (by simp) o e⟩
  item := fun i s Q E hi st hQ => by
    have hlt : k + i < items.size := by omega
    refine wpAny_pyNext_list_item st.1 st.2 (x := items[k + i]) (by simp [hlt]) fun h' hit' hs' => ?_
    exact hQ _ h' s.toks (by simp [hlt]) ⟨hit', st.2.extBut hs'.extBut hne⟩ fun b o hb e => hs'.extBut b o (fun h => hb (by simp [h])) e
  done := fun s Q E st hQ => wpAny_pyNext_list_end hh st.1 st.2 (by rw [show k + (items.size - k) = items.size by omega]; simp) fun h' he' => hQ h' s.toks fun b o hb e => he' b o (fun h => hb (by simp [h])) e
  self := fun _ _ _ _ st hQ => wpAny_pyIter_listiter st.1 hQ
theorem unpack_star1L {t : Addr} {items : Array Value} {x : Value} {r : List Value} {Q : List Value → Shared → Prop} (hh : A.handled = none) (ht : s.heap.IsList t items) (hi : items.toList = x :: r) (hz : items.size ≤ sizeLine)
    (hQ : ∀ (h' : Heap) (tk : Nat), s.toks ≤ tk → (∀ b o, s.heap.get? b = some o → h'.get? b = some o) → Q [x, .ref h'.objs.size] { s with heap := h'.push { cls := .type "list", data := .seq r.toArray }, toks := tk }) :
    wpAny (model prog w) A (unpackItems (.ref t) 2 (some 1)) Q E s := by
  have hlt : t ≠ s.heap.objs.size := by obtain ⟨o, ho, _⟩ := ht; exact Nat.ne_of_lt (Heap.lt_size ho)
  have hsz : items.size = r.length + 1 := by have := congrArg List.length hi; simpa using this
  unfold unpackItems
  refine wpAny_bind ?_
  unfold notIterableAtAll
  refine wpAny_bind (wpAny_specialOf ht.typeIs slot_list_iter.lookup (wpAny_pure ?_))
  simp only [Bool.false_eq_true, if_false]
  refine wpAny_bind (wpAny_holding (wpAny_pyIter_list ht ?_))
  have hx0 : items[0]? = some x := by rw [← Array.getElem?_toList, hi]; rfl
  refine wpAny_bind (wpAny_holding (wpAny_bind (wpAny_pyNext_list_item (i := 0) ⟨_, Heap.get?_push_size _ rfl, rfl, rfl⟩ (ht.push _) hx0 fun h₁ hit₁ hs₁ => ?_)))
  refine wpAny_bind (wpAny_holding (wpAny_pure (wpAny_pure ?_)))
  have ht₁ : h₁.IsList t items := (ht.push _).extBut hs₁.extBut hlt
  rw [if_neg (by simp)]
  refine wpAny_bind (wpAny_holding ?_)
  have W := (walks_tailL (prog := prog) (w := w) (A := A.in1) hh s.heap.objs.size t hlt items 1 (by omega)).toS
  obtain ⟨oi, hoi, _⟩ := id hit₁
  obtain ⟨ot, hot, _⟩ := id ht₁
  refine wpAny_collect_iter (T := "list_iterator") (.inr (.inr (.inl rfl))) W (fun i s st => st.1.typeIs) (show _ ∧ _ from ⟨hit₁, ht₁⟩) (fun b hb => ?_) (by simp) (fun s' acc hm hacc => ?_) (by omega)
  · simp at hb
    rcases hb with rfl | rfl
    · exact Heap.lt_size hoi
    · exact Heap.lt_size hot
  · have hacc' : acc.toList = r := by
      refine List.ext_getElem? fun j => ?_
      have h1 : acc.size = r.length := by rw [hacc.1, hsz]; rfl
      by_cases hj : j < r.length
      · have h2 : items[1 + j]? = some (acc[j]'(by omega)) := hacc.2 j (acc[j]'(by omega)) (by simp [h1, hj])
        have h3 : items[1 + j]? = r[j]? := by
          rw [← Array.getElem?_toList, hi, show 1 + j = j + 1 by omega, List.getElem?_cons_succ]
        rw [h3] at h2
        rw [h2]
        simp [h1, hj]
      · rw [List.getElem?_eq_none (by simpa [h1] using hj), List.getElem?_eq_none (by omega)]
    rw [hacc']
    rw [if_neg (by omega)]
    rw [show r.length - (2 - 1 - 1) = r.length by omega, List.take_length, List.drop_length]
    refine wpAny_bind (wpAny_newObj_type (wpAny_pure ?_) (by show r.toArray.size ≤ sizeLine; simp; omega))
    obtain ⟨hp, hg, hd, hos, htk⟩ := hm
    obtain ⟨heap', gens', drawn', toks', os'⟩ := s'
    dsimp only at *
    subst hg hd hos
    exact hQ heap' toks' htk fun b o e => hp b o (by simp; exact fun z => by subst z; exact absurd (Heap.lt_size e) (Nat.lt_irrefl _)) (hs₁.extBut b o (fun z => by subst z; exact absurd (Heap.lt_size e) (Nat.lt_irrefl _)) (Heap.get?_push_of_some _ e))
end
/-- (x, *ys) = a list -/
def gStar2L (K : PySem.W.Frag) (t0 t1 : TG) : TG := fun v σ H Q => ∃ a x xs, v = .ref a ∧ SqL K H a (x :: xs) ∧ ∀ l, H l = none → t0 x σ (upd H l (.lst xs)) fun σ1 H1 => t1 (.ref l) σ1 H1 Q
theorem pg_star2L {X : Cx} {e0 e1 : Expr} {k : Nat} {p1 pos : Pos} {t0 t1 : TG} (hc : X.calm = true) (h0 : PG X e0 t0) (h1 : PG X e1 t1) (he : assignEach [e0, .Starred e1 p1] X.env = [(false, assign e0 X.env), (true, assign e1 X.env)] := by rfl) : PG X (.Tuple [e0, .Starred e1 p1] k pos) (gStar2L X.K t0 t1) := by
  refine ⟨fun pins s σ H v u Q I r hw => ?_⟩
  obtain ⟨a, x, xs, e1, hq, hw⟩ := hw
  subst e1
  cases (show u = Value.ref a from r)
  obtain ⟨its, rv, pl, hz⟩ := I.list hq
  cases rv with
  | @cons _ y _ ys ry rys =>
    rw [assign_Tuple, he]
    refine wpAny_bind (wpAny_standAt ?_)
    unfold unpack
    refine wpAny_bind (wpAny_holding ?_)
    show wpAny _ _ (unpackItems (.ref a) 2 (some 1)) _ _ _
    have hl := rys.length
    simp only [List.length_cons] at hz
    refine unpack_star1L (I.ok.hd hc) pl.isList rfl (by simp; omega) fun h' tk htk hk => ?_
    have I1 : Inv X pins σ H { s with heap := h', toks := tk } := I.kept hk
    have I2 := I1.lnew (t' := tk) rys (by omega)
    refine assignInOrder_cons (thn (h0.run pins _ σ _ x y _ I2 ry (hw _ I1.fresh)) fun _ s1 ⟨σ1, H1, I3, q⟩ => ?_)
    refine assignInOrder_cons (thn (h1.run pins s1 σ1 H1 (.ref h'.objs.size) (.ref h'.objs.size) Q I3 rfl q) fun _ s2 z => ?_)
    exact assignInOrder_nil z
section
variable {T : Ks} {W : WX} {c : Ct} {g : Gh} {Γ Γ' : Nv} {σ : L2.St} {H : Hp} {k ka : Lq} {te tb : TE} {fe fb : EF D}
def starLK (i j : Nat) (x : D × Nv) : R (Err × Nv) (Fl × Nv) := match x.1 with
  | .lst (d :: ds) => if nolsts (d :: ds) = true then .ok (.nx, (x.2.set i (.im d)).set j (.im (.lst ds))) else .bad
  | _ => .bad
def dStarL (i j : Nat) (fe : EF D) : SF := fun Γ => (fe Γ).bind (starLK i j)
theorem ds_starL {i j : Nat} (a : DE T W .S te fe) : DS T W (tAsg te (gStar2L T.K (gName i) (gName j))) (dStarL i j fe) := fun c g Γ σ H D S p => by
  refine a c g Γ σ H _ S ?_
  unfold dStarL at p
  cases e : fe Γ with
  | bad => rw [e] at p; exact p
  | err x => rw [e] at p; exact fun cls dd H' S' => p g cls dd σ H' Gle.refl S'
  | ok x =>
    obtain ⟨d, Γ1⟩ := x
    rw [e, R.bind_ok] at p
    intro v H' S' _ r
    unfold starLK at p
    dsimp only at p
    split at p
    · rename_i d0 ds
      split at p
      · cases r with
        | @lst q vs _ hq nq rs =>
          cases rs with
          | @cons v0 ws _ _ r0 rs =>
            refine ⟨q, v0, ws, rfl, SqL.of hq, fun l hl => ?_⟩
            have S2 := S'.grow (same_upd (o := .lst ws) hl)
            have r0' := r0.same (same_upd (o := .lst ws) hl)
            have rs' := rs.same (same_upd (o := .lst ws) hl)
            have S3 := S2.setIm i r0'
            have hne : ¬ (g.cut i).Ep l := fun z => (S'.some_of (k := .S) (Gh.cut_ep z)) hl
            have S4 := S3.setIm (v := .ref l) (d := .lst ds) j (.lst (by rw [upd_same]) hne (rs'.weak fun b z _ => Gh.cut_ep z))
            exact p _ _ _ (Gle.cut.trans Gle.cut) S4
      · exact False.elim p
    · exact False.elim p
@[simp] theorem ev_StarL {i j : Nat} : dStarL i j fe Γ = (fe Γ).bind (starLK i j) := eq_of rfl
@[simp] theorem ev_starLK (i j : Nat) {d : D} {ds : List D} : starLK i j (.lst (d :: ds), Γ) = if nolsts (d :: ds) = true then .ok (.nx, (Γ.set i (.im d)).set j (.im (.lst ds))) else .bad := eq_of rfl
end
end DL

set_option Elab.async false
set_option linter.all false
set_option maxRecDepth 100000
set_option maxHeartbeats 4000000
namespace L
open PySem PySem.Spec PyProof.Rows L2 DL
def topS (i : Nat) : Stmt := PySem.Challenge.pw_fillrace_k10_left_table.main.body.getD i (.Pass ⟨0, 0, 0, 0⟩)
def kd_OPPOSITE : List (Str × D) := [("down", (.str "up")), ("up", (.str "down")), ("near_above", (.str "near_below")), ("near_below", (.str "near_above")), ("drop", (.str "drop"))]
abbrev s_Script___iter__ : Stmt := inClass (topS 35) 3
abbrev n_Script___iter__ : List Str := ["self"]
theorem sc_Script___iter__ : FnScope n_Script___iter__ ["self"] (defScope s_Script___iter__) := ⟨rfl, rfl, rfl, by decide +kernel, rfl, by decide +kernel, by decide +kernel⟩
abbrev s_Script___len__ : Stmt := inClass (topS 35) 2
abbrev n_Script___len__ : List Str := ["self"]
theorem sc_Script___len__ : FnScope n_Script___len__ ["self"] (defScope s_Script___len__) := ⟨rfl, rfl, rfl, by decide +kernel, rfl, by decide +kernel, by decide +kernel⟩
abbrev s_check_value : Stmt := topS 11
abbrev n_check_value : List Str := ["value", "index"]
theorem sc_check_value : FnScope n_check_value ["value", "index"] (defScope s_check_value) := ⟨rfl, rfl, rfl, by decide +kernel, rfl, by decide +kernel, by decide +kernel⟩
def b_check_value : SF :=
  (dIfS (dAnd (dBool (dOp oNotN (dV 0) (dC .non))) (dNot (dBool (dChain oLe oLe (dUn oNeg (dC (.int 1000000000000))) (dV 0) (dC (.int 1000000000000)))))) dBad dNx)
def d_check_value : List D → R Err D := fnP 2 0 b_check_value
theorem len_check_value (ds : List D) (e : D) (h : d_check_value ds = .ok e) : ds.length = 2 := fnP_len ds e h
abbrev s_check_rows : Stmt := topS 12
abbrev n_check_rows : List Str := ["rows", "day", "start", "index", "next_day", "level", "value"]
theorem sc_check_rows : FnScope n_check_rows ["rows", "day", "start"] (defScope s_check_rows) := ⟨rfl, rfl, rfl, by decide +kernel, rfl, by decide +kernel, by decide +kernel⟩
def lb_check_rows_1 : SF :=
  (dSeq (dIfS (dOr (dNot (dBool (dChain oLe oLe (dV 1) (dV 4) (dC (.int 1000000000000))))) (dNot (dBool (dChain oLe oLe (dC (.int 0)) (dV 5) (dC (.int 2)))))) dBad dNx)
      (dSeq (dDrop (dCall L.d_check_value [] (dCons (dV 6) (dCons (dV 3) dNil))))
      (dAsg 1 (dN (dV 4)))))
def lt_check_rows_1 : D → Nv → Option Nv := (dgT (dgsCons (dgN 3) (dgsCons (dgT (dgsCons (dgN 4) (dgsCons (dgN 5) (dgsCons (dgN 6) dgsNil)))) dgsNil)))
def b_check_rows : SF :=
  (dFor (dRg en2 (dCons (dVS 0) (dCons (dVS 2) dNil))) lt_check_rows_1 lb_check_rows_1)
def d_check_rows : List D → R Err D := fnP 3 4 b_check_rows
theorem len_check_rows (ds : List D) (e : D) (h : d_check_rows ds = .ok e) : ds.length = 3 := fnP_len ds e h
abbrev s_in_time : Stmt := topS 14
abbrev n_in_time : List Str := ["table", "source", "near", "index", "days"]
theorem sc_in_time : FnScope n_in_time ["table", "source", "near", "index", "days"] (defScope s_in_time) := ⟨rfl, rfl, rfl, by decide +kernel, rfl, by decide +kernel, by decide +kernel⟩
def b_in_time : SF :=
  (dRet (dOrV (dOp oIsN (dV 4) (dC .non)) (dOp oLe (dCB oAbs (dCons (dOp oSub (dOp oIx (dOp oIx (dV 0) (dV 3)) (dC (.int 0))) (dOp oIx (dOp oIx (dV 0) (dOp oIx (dV 1) (dV 2))) (dC (.int 0)))) dNil)) (dV 4))))
def d_in_time : List D → R Err D := fnP 5 0 b_in_time
theorem len_in_time (ds : List D) (e : D) (h : d_in_time ds = .ok e) : ds.length = 5 := fnP_len ds e h
abbrev s_from_above : Stmt := topS 15
abbrev n_from_above : List Str := ["table", "source", "step", "rows", "days", "reach", "found", "near", "high", "index", "row"]
theorem sc_from_above : FnScope n_from_above ["table", "source", "step"] (defScope s_from_above) := ⟨rfl, rfl, rfl, by decide +kernel, rfl, by decide +kernel, by decide +kernel⟩
def lb_from_above_1 : SF :=
  (dIfS (dBool (dOp oNotN (dOp oIx (dV 1) (dV 9)) (dC .non))) (dSeq (dAsg 7 (dN (dV 9)))
      (dAsg 8 (dC (.int 0)))) (dIfS (dBool (dOp oNotN (dV 7) (dC .non))) (dSeq (dAsg 8 (dIf (dBool (dOp oGt (dOp oIx (dV 10) (dC (.int 1))) (dV 8))) (dN (dOp oIx (dV 10) (dC (.int 1)))) (dN (dV 8))))
      (dIfS (dAnd (dBool (dOp oLe (dV 8) (dV 5))) (dOr (dBool (dOp oIsN (dV 3) (dC .non))) (dBool (dOp oLe (dOp oSub (dV 9) (dV 7)) (dV 3))))) (dSetI 6 (dV 9) (dIf (dTru (dCall L.d_in_time [] (dCons (dV 0) (dCons (dV 1) (dCons (dV 7) (dCons (dV 9) (dCons (dV 4) dNil))))))) (dV 7) (dC .non))) dNx)) dNx))
def lt_from_above_1 : D → Nv → Option Nv := (dgT (dgsCons (dgN 9) (dgsCons (dgN 10) dgsNil)))
def b_from_above : SF :=
  (dSeq (dAsgG (dgT (dgsCons (dgN 3) (dgsCons (dgN 4) (dgsCons (dgN 5) dgsNil)))) (dSl (dV 2) (dP (dC (.int 1))) dNoP))
      (dSeq (dOwn 6 (dOpO oRep (dLst (dCons (dC .non) dNil)) (dCB oLen (dCons (dV 0) dNil))))
      (dSeq (dAsg 7 (dC .non))
      (dSeq (dAsg 8 (dC (.int 0)))
      (dSeq (dFor (dRg en1 (dCons (dVS 0) dNil)) lt_from_above_1 lb_from_above_1)
      (dFrz 6 (dRet (dVF 6))))))))
def d_from_above : List D → R Err D := fnP 3 8 b_from_above
theorem len_from_above (ds : List D) (e : D) (h : d_from_above ds = .ok e) : ds.length = 3 := fnP_len ds e h
abbrev s_from_below : Stmt := topS 16
abbrev n_from_below : List Str := ["table", "source", "step", "rows", "days", "reach", "found", "near", "high", "index"]
theorem sc_from_below : FnScope n_from_below ["table", "source", "step"] (defScope s_from_below) := ⟨rfl, rfl, rfl, by decide +kernel, rfl, by decide +kernel, by decide +kernel⟩
def lb_from_below_1 : SF :=
  (dIfS (dBool (dOp oNotN (dOp oIx (dV 1) (dV 9)) (dC .non))) (dSeq (dAsg 7 (dN (dV 9)))
      (dAsg 8 (dN (dOp oIx (dOp oIx (dV 0) (dV 9)) (dC (.int 1)))))) (dIfS (dBool (dOp oNotN (dV 7) (dC .non))) (dSeq (dIfS (dAnd (dBool (dOp oLe (dV 8) (dV 5))) (dOr (dBool (dOp oIsN (dV 3) (dC .non))) (dBool (dOp oLe (dOp oSub (dV 7) (dV 9)) (dV 3))))) (dSetI 6 (dV 9) (dIf (dTru (dCall L.d_in_time [] (dCons (dV 0) (dCons (dV 1) (dCons (dV 7) (dCons (dV 9) (dCons (dV 4) dNil))))))) (dV 7) (dC .non))) dNx)
      (dAsg 8 (dIf (dBool (dOp oGt (dOp oIx (dOp oIx (dV 0) (dV 9)) (dC (.int 1))) (dV 8))) (dN (dOp oIx (dOp oIx (dV 0) (dV 9)) (dC (.int 1)))) (dN (dV 8))))) dNx))
def lt_from_below_1 : D → Nv → Option Nv := (dgN 9)
def b_from_below : SF :=
  (dSeq (dAsgG (dgT (dgsCons (dgN 3) (dgsCons (dgN 4) (dgsCons (dgN 5) dgsNil)))) (dSl (dV 2) (dP (dC (.int 1))) dNoP))
      (dSeq (dOwn 6 (dOpO oRep (dLst (dCons (dC .non) dNil)) (dCB oLen (dCons (dV 0) dNil))))
      (dSeq (dAsg 7 (dC .non))
      (dSeq (dAsg 8 (dC (.int 0)))
      (dSeq (dFor (dRev1 (dCB oLen (dCons (dV 0) dNil))) lt_from_below_1 lb_from_below_1)
      (dFrz 6 (dRet (dVF 6))))))))
def d_from_below : List D → R Err D := fnP 3 7 b_from_below
theorem len_from_below (ds : List D) (e : D) (h : d_from_below ds = .ok e) : ds.length = 3 := fnP_len ds e h
abbrev s_chosen : Stmt := topS 17
abbrev n_chosen : List Str := ["way", "index", "above", "below", "upward", "downward"]
theorem sc_chosen : FnScope n_chosen ["way", "index", "above", "below"] (defScope s_chosen) := ⟨rfl, rfl, rfl, by decide +kernel, rfl, by decide +kernel, by decide +kernel⟩
def b_chosen : SF :=
  (dSeq (dIfS (dOr (dBool (dOp oEq (dV 0) (dC (.str "down")))) (dAnd (dBool (dOp oIsN (dV 3) (dC .non))) (dBool (dOp oNe (dV 0) (dC (.str "up")))))) (dRet (dN (dV 2))) dNx)
      (dSeq (dIfS (dOr (dBool (dOp oEq (dV 0) (dC (.str "up")))) (dBool (dOp oIsN (dV 2) (dC .non)))) (dRet (dN (dV 3))) dNx)
      (dSeq (dAsg 4 (dOp oSub (dV 1) (dV 2)))
      (dSeq (dAsg 5 (dOp oSub (dV 3) (dV 1)))
      (dSeq (dIfS (dBool (dOp oEq (dV 4) (dV 5))) (dRet (dIf (dBool (dOp oEq (dV 0) (dC (.str "near_above")))) (dN (dV 2)) (dN (dV 3)))) dNx)
      (dRet (dIf (dBool (dOp oLt (dV 4) (dV 5))) (dN (dV 2)) (dN (dV 3)))))))))
def d_chosen : List D → R Err D := fnP 4 2 b_chosen
theorem len_chosen (ds : List D) (e : D) (h : d_chosen ds = .ok e) : ds.length = 4 := fnP_len ds e h
abbrev s_run_steps : Stmt := topS 18
abbrev n_run_steps : List Str := ["steps", "table", "source", "index", "row", "filled_by", "number", "step", "above", "below", "near"]
theorem sc_run_steps : FnScope n_run_steps ["steps", "table"] (defScope s_run_steps) := ⟨rfl, rfl, rfl, by decide +kernel, rfl, by decide +kernel, by decide +kernel⟩
def lc_run_steps_1 : EF (List D) := (dLc (dRg en1 (dCons (dVS 1) dNil)) (dgT (dgsCons (dgN 3) (dgsCons (dgN 4) dgsNil))) dYes (dIf (dBool (dOp oIsN (dOp oIx (dV 4) (dC (.int 2))) (dC .non))) (dC .non) (dN (dV 3))) [3, 4])
def lb_run_steps_1 : SF :=
  (dSeq (dAsg 10 (dCall L.d_chosen [] (dCons (dOp oIx (dV 7) (dC (.int 0))) (dCons (dV 3) (dCons (dOp oIx (dV 8) (dV 3)) (dCons (dOp oIx (dV 9) (dV 3)) dNil))))))
      (dIfS (dAnd (dBool (dOp oIsN (dOp oIx (dV 2) (dV 3)) (dC .non))) (dBool (dOp oNotN (dV 10) (dC .non)))) (dSeq (dSetI 2 (dV 3) (dOp oIx (dV 2) (dV 10)))
      (dSetI 5 (dV 3) (dV 6))) dNx))
def lt_run_steps_1 : D → Nv → Option Nv := (dgN 3)
def lb_run_steps_2 : SF :=
  (dSeq (dIfS (dBool (dOp oEq (dOp oIx (dV 7) (dC (.int 0))) (dC (.str "drop")))) (dFrz 5 (dFrz 2 (dRet (dTup (dCons (dVF 2) (dCons (dVF 5) (dCons (dN (dV 6)) dNil))))))) dNx)
      (dSeq (dAsg 8 (dCall L.d_from_above [] (dCons (dV 1) (dCons (dV 2) (dCons (dV 7) dNil)))))
      (dSeq (dAsg 9 (dCall L.d_from_below [] (dCons (dV 1) (dCons (dV 2) (dCons (dV 7) dNil)))))
      (dFor (dRg rg1 (dCons (dCB oLen (dCons (dV 1) dNil)) dNil)) lt_run_steps_1 lb_run_steps_1))))
def lt_run_steps_2 : D → Nv → Option Nv := (dgT (dgsCons (dgN 6) (dgsCons (dgN 7) dgsNil)))
def b_run_steps : SF :=
  (dSeq (dOwn 2 lc_run_steps_1)
      (dSeq (dOwn 5 (dOpO oRep (dLst (dCons (dC .non) dNil)) (dCB oLen (dCons (dV 1) dNil))))
      (dSeq (dFor (dRg en1 (dCons (dVS 0) dNil)) lt_run_steps_2 lb_run_steps_2)
      (dFrz 5 (dFrz 2 (dRet (dTup (dCons (dVF 2) (dCons (dVF 5) (dCons (dC .non) dNil))))))))))
def d_run_steps : List D → R Err D := fnP 2 9 b_run_steps
theorem len_run_steps (ds : List D) (e : D) (h : d_run_steps ds = .ok e) : ds.length = 2 := fnP_len ds e h
abbrev s_cells : Stmt := topS 19
abbrev n_cells : List Str := ["script", "table", "source", "filled_by", "drop", "empty", "at"]
theorem sc_cells : FnScope n_cells ["script", "table"] (defScope s_cells) := ⟨rfl, rfl, rfl, by decide +kernel, rfl, by decide +kernel, by decide +kernel⟩
def lc_cells_1 : EF (List D) := (dLc (dWalk (dVS 2)) (dgN 6) dYes (dIf (dBool (dOp oIsN (dV 6) (dC .non))) (dN (dV 5)) (dN (dOp oIx (dOp oIx (dV 1) (dV 6)) (dC (.int 2))))) [6])
def b_cells (C : Addr) : SF :=
  (dSeq (dDrop (dCall L.d_check_rows [] (dCons (dV 1) (dCons (dC (.int 0)) (dCons (dC (.int 0)) dNil)))))
      (dSeq (dAsgG (dgT (dgsCons (dgN 2) (dgsCons (dgN 3) (dgsCons (dgN 4) dgsNil)))) (dCall L.d_run_steps [] (dCons (dL (dCBO (oListP C "parts") (dCons (dV 0) dNil))) (dCons (dV 1) dNil))))
      (dSeq (dAsg 5 (dIf (dBool (dOp oIsN (dV 4) (dC .non))) (dC .non) (dC (.str "dropped"))))
      (dRet (dL lc_cells_1)))))
def d_cells (C : Addr) : List D → R Err D := fnP 2 5 (b_cells C)
theorem len_cells (C : Addr) (ds : List D) (e : D) (h : d_cells C ds = .ok e) : ds.length = 2 := fnP_len ds e h
abbrev s_left_table : Stmt := topS 20
abbrev n_left_table : List Str := ["script", "table", "left", "high", "row", "value"]
theorem sc_left_table : FnScope n_left_table ["script", "table"] (defScope s_left_table) := ⟨rfl, rfl, rfl, by decide +kernel, rfl, by decide +kernel, by decide +kernel⟩
def lb_left_table_1 : SF :=
  (dSeq (dAsg 3 (dIf (dBool (dOp oGt (dOp oIx (dV 4) (dC (.int 1))) (dV 3))) (dN (dOp oIx (dV 4) (dC (.int 1)))) (dN (dV 3))))
      (dIfS (dBool (dOp oNe (dV 5) (dC (.str "dropped")))) (dSeq (dApp 2 (dTup (dCons (dOp oIx (dV 4) (dC (.int 0))) (dCons (dV 3) (dCons (dV 5) dNil)))))
      (dAsg 3 (dC (.int 0)))) dNx))
def lt_left_table_1 : D → Nv → Option Nv := (dgT (dgsCons (dgN 4) (dgsCons (dgN 5) dgsNil)))
def b_left_table (C : Addr) : SF :=
  (dSeq (dOwn 2 (dLstO dNil))
      (dSeq (dAsg 3 (dC (.int 0)))
      (dSeq (dFor (dRg zp2 (dCons (dVS 1) (dCons (dCall (L.d_cells C) [] (dCons (dV 0) (dCons (dV 1) dNil))) dNil))) lt_left_table_1 lb_left_table_1)
      (dFrz 2 (dRet (dVF 2))))))
def d_left_table (C : Addr) : List D → R Err D := fnP 2 4 (b_left_table C)
theorem len_left_table (C : Addr) (ds : List D) (e : D) (h : d_left_table C ds = .ok e) : ds.length = 2 := fnP_len ds e h
abbrev s_Script___call__ : Stmt := inClass (topS 35) 9
abbrev n_Script___call__ : List Str := ["self", "table"]
theorem sc_Script___call__ : FnScope n_Script___call__ ["self", "table"] (defScope s_Script___call__) := ⟨rfl, rfl, rfl, by decide +kernel, rfl, by decide +kernel, by decide +kernel⟩
def b_Script___call__ (C : Addr) : SF :=
  (dRet (dCall (L.d_left_table C) [] (dCons (dFld C "parts" (dV 0)) (dCons (dV 1) dNil))))
def d_Script___call__ (C : Addr) : List D → R Err D := fnP 2 0 (b_Script___call__ C)
theorem len_Script___call__ (C : Addr) (ds : List D) (e : D) (h : d_Script___call__ C ds = .ok e) : ds.length = 2 := fnP_len ds e h
abbrev s_l_pool : Stmt := topS 37
abbrev n_l_pool : List Str := ["_law_script", "_law_pool_here", "_law_base", "_law_cell", "_law_rest", "_law_turn", "_law_seed"]
theorem sc_l_pool : FnScope n_l_pool ["_law_script"] (defScope s_l_pool) := ⟨rfl, rfl, rfl, by decide +kernel, rfl, by decide +kernel, by decide +kernel⟩
def lb_l_pool_1 : SF :=
  (dIfS (dBool (dOp oGt (dV 4) (dC (.int 0)))) (dSeq (dApp 1 (dOp oMod (dCB oInt (dCons (dV 4) dNil)) (dC (.int 1000000))))
      (dAsg 4 (dOp oDiv (dV 4) (dC (.int 1000000))))) dNx)
def lt_l_pool_1 : D → Nv → Option Nv := (dgN 5)
def lb_l_pool_2 : SF :=
  (dSeq (dAsg 6 (dOp oMod (dCB oInt (dCons (dOp oAdd (dOp oMul (dV 6) (dC (.int 48271))) (dC (.int 11))) dNil)) (dC (.int 2147483647))))
      (dApp 1 (dOp oMod (dCB oInt (dCons (dOp oAdd (dOp oDiv (dOp oMul (dV 6) (dV 6)) (dC (.int 32768))) (dV 6)) dNil)) (dC (.int 999983)))))
def lt_l_pool_2 : D → Nv → Option Nv := (dgN 5)
def lb_l_pool_3 : SF :=
  (dSeq (dAsg 4 (dCB oAbs (dCons (dCB oInt (dCons (dV 3) dNil)) dNil)))
      (dSeq (dAsg 2 (dOp oMod (dCB oInt (dCons (dOp oAdd (dOp oMul (dV 2) (dC (.int 7))) (dV 4)) dNil)) (dC (.int 1009))))
      (dIfS (dBool (dOp oGe (dV 4) (dOp oPow (dC (.int 10)) (dC (.int 18))))) (dFor (dRg rg1 (dCons (dC (.int 60)) dNil)) lt_l_pool_1 lb_l_pool_1) (dSeq (dAsg 6 (dOp oMod (dCB oInt (dCons (dOp oAdd (dV 4) (dC (.int 17))) dNil)) (dC (.int 2147483647))))
      (dFor (dRg rg1 (dCons (dC (.int 12)) dNil)) lt_l_pool_2 lb_l_pool_2)))))
def lt_l_pool_3 : D → Nv → Option Nv := (dgN 3)
def b_l_pool : SF :=
  (dSeq (dOwn 1 (dLstO dNil))
      (dSeq (dAsg 2 (dC (.int 0)))
      (dSeq (dFor (dWalk (dVS 0)) lt_l_pool_3 lb_l_pool_3)
      (dFrz 1 (dRet (dLst (dCons (dVF 1) (dCons (dC (.int 0)) (dCons (dN (dV 2)) dNil)))))))))
def d_l_pool : List D → R Err D := fnP 1 6 b_l_pool
theorem len_l_pool (ds : List D) (e : D) (h : d_l_pool ds = .ok e) : ds.length = 1 := fnP_len ds e h
abbrev s_l_take : Stmt := topS 38
abbrev n_l_take : List Str := ["_law_draws", "_law_many", "_law_at"]
theorem sc_l_take : FnScope n_l_take ["_law_draws", "_law_many"] (defScope s_l_take) := ⟨rfl, rfl, rfl, by decide +kernel, rfl, by decide +kernel, by decide +kernel⟩
def b_l_take : SF :=
  (dSeq (dAsg 2 (dN (dDr 0 1)))
      (dSeq (dSetI 0 (dC (.int 1)) (dOp oAdd (dV 2) (dC (.int 1))))
      (dSeq (dIfS (dBool (dOp oLt (dV 2) (dCB oLen (dCons (dDr 0 0) dNil)))) (dRet (dOp oMod (dCB oInt (dCons (dOp oIx (dDr 0 0) (dV 2)) dNil)) (dV 1))) dNx)
      (dRet (dOp oMod (dCB oInt (dCons (dOp oAdd (dOp oAdd (dOp oAdd (dOp oMul (dV 2) (dC (.int 11))) (dOp oDiv (dV 2) (dC (.int 4)))) (dC (.int 3))) (dDr 0 2)) dNil)) (dV 1))))))
def d_l_take : Dr → List D → R Err (D × Dr) := fnD 1 1 b_l_take
theorem len_l_take (x : Dr) (ds : List D) (e : D × Dr) (h : d_l_take x ds = .ok e) : ds.length = 1 := fnD_len x ds e h
abbrev s_l_span : Stmt := topS 39
abbrev n_l_span : List Str := ["_law_draws", "_law_kind"]
theorem sc_l_span : FnScope n_l_span ["_law_draws"] (defScope s_l_span) := ⟨rfl, rfl, rfl, by decide +kernel, rfl, by decide +kernel, by decide +kernel⟩
def b_l_span : SF :=
  (dSeq (dAsg 1 (dCallD 0 L.d_l_take (dCons (dC (.int 8)) dNil)))
      (dSeq (dIfS (dBool (dOp oLt (dV 1) (dC (.int 3)))) (dRet (dC .non)) dNx)
      (dSeq (dIfS (dBool (dOp oLt (dV 1) (dC (.int 6)))) (dRet (dCallD 0 L.d_l_take (dCons (dC (.int 5)) dNil))) dNx)
      (dSeq (dIfS (dBool (dOp oEq (dV 1) (dC (.int 6)))) (dRet (dCallD 0 L.d_l_take (dCons (dC (.int 1000)) dNil))) dNx)
      (dRet (dOp oAdd (dOp oAdd (dOp oMul (dCallD 0 L.d_l_take (dCons (dC (.int 1000000)) dNil)) (dC (.int 1000))) (dCallD 0 L.d_l_take (dCons (dC (.int 1000)) dNil))) (dC (.int 1))))))))
def d_l_span : Dr → List D → R Err (D × Dr) := fnD 0 1 b_l_span
theorem len_l_span (x : Dr) (ds : List D) (e : D × Dr) (h : d_l_span x ds = .ok e) : ds.length = 0 := fnD_len x ds e h
abbrev s_l_step : Stmt := topS 40
abbrev n_l_step : List Str := ["_law_draws", "_law_kind", "_law_many", "_law_span_here", "_law_way"]
theorem sc_l_step : FnScope n_l_step ["_law_draws"] (defScope s_l_step) := ⟨rfl, rfl, rfl, by decide +kernel, rfl, by decide +kernel, by decide +kernel⟩
def b_l_step : SF :=
  (dSeq (dAsg 1 (dCallD 0 L.d_l_take (dCons (dC (.int 9)) dNil)))
      (dSeq (dIfS (dBool (dOp oEq (dV 1) (dC (.int 8)))) (dRet (dTup (dCons (dC (.str "drop")) (dCons (dC .non) (dCons (dC .non) (dCons (dC (.int 2)) dNil)))))) dNx)
      (dSeq (dAsg 2 (dCallD 0 L.d_l_take (dCons (dC (.int 9)) dNil)))
      (dSeq (dAsg 3 (dCallD 0 L.d_l_span dNil))
      (dSeq (dAsg 4 (dN (dOp oIx (dLst (dCons (dC (.str "down")) (dCons (dC (.str "up")) (dCons (dC (.str "near_above")) (dCons (dC (.str "near_below")) dNil))))) (dOp oMod (dCB oInt (dCons (dV 1) dNil)) (dC (.int 4))))))
      (dRet (dTup (dCons (dN (dV 4)) (dCons (dIf (dBool (dOp oGt (dV 2) (dC (.int 2)))) (dOp oSub (dV 2) (dC (.int 2))) (dC .non)) (dCons (dN (dV 3)) (dCons (dCallD 0 L.d_l_take (dCons (dC (.int 3)) dNil)) dNil)))))))))))
def d_l_step : Dr → List D → R Err (D × Dr) := fnD 0 4 b_l_step
theorem len_l_step (x : Dr) (ds : List D) (e : D × Dr) (h : d_l_step x ds = .ok e) : ds.length = 0 := fnD_len x ds e h
abbrev s_l_steps : Stmt := topS 41
abbrev n_l_steps : List Str := ["_law_draws", "_law_least", "_law_most", "_law_many", "_law_k"]
theorem sc_l_steps : FnScope n_l_steps ["_law_draws", "_law_least", "_law_most"] (defScope s_l_steps) := ⟨rfl, rfl, rfl, by decide +kernel, rfl, by decide +kernel, by decide +kernel⟩
def lc_l_steps_1 : EF (List D) := (dLc (dRg rg1 (dCons (dV 3) dNil)) (dgN 4) dYes (dCallD 0 L.d_l_step dNil) [4])
def b_l_steps : SF :=
  (dSeq (dAsg 3 (dOp oAdd (dV 1) (dCallD 0 L.d_l_take (dCons (dOp oAdd (dOp oSub (dV 2) (dV 1)) (dC (.int 1))) dNil))))
      (dRet (dL lc_l_steps_1)))
def d_l_steps : Dr → List D → R Err (D × Dr) := fnD 2 2 b_l_steps
theorem len_l_steps (x : Dr) (ds : List D) (e : D × Dr) (h : d_l_steps x ds = .ok e) : ds.length = 2 := fnD_len x ds e h
abbrev s_l_pause : Stmt := topS 43
abbrev n_l_pause : List Str := ["_law_draws", "_law_kind"]
theorem sc_l_pause : FnScope n_l_pause ["_law_draws"] (defScope s_l_pause) := ⟨rfl, rfl, rfl, by decide +kernel, rfl, by decide +kernel, by decide +kernel⟩
def b_l_pause : SF :=
  (dSeq (dAsg 1 (dCallD 0 L.d_l_take (dCons (dC (.int 8)) dNil)))
      (dSeq (dIfS (dBool (dOp oLt (dV 1) (dC (.int 3)))) (dRet (dC (.int 0))) dNx)
      (dSeq (dIfS (dBool (dOp oLt (dV 1) (dC (.int 6)))) (dRet (dCallD 0 L.d_l_take (dCons (dC (.int 4)) dNil))) dNx)
      (dSeq (dIfS (dBool (dOp oEq (dV 1) (dC (.int 6)))) (dRet (dCallD 0 L.d_l_take (dCons (dC (.int 1000)) dNil))) dNx)
      (dRet (dOp oMod (dCB oInt (dCons (dOp oAdd (dOp oMul (dCallD 0 L.d_l_take (dCons (dC (.int 1000000)) dNil)) (dC (.int 1000))) (dCallD 0 L.d_l_take (dCons (dC (.int 1000)) dNil))) dNil)) (dOp oAdd (dOp oPow (dC (.int 10)) (dC (.int 9))) (dC (.int 1)))))))))
def d_l_pause : Dr → List D → R Err (D × Dr) := fnD 0 1 b_l_pause
theorem len_l_pause (x : Dr) (ds : List D) (e : D × Dr) (h : d_l_pause x ds = .ok e) : ds.length = 0 := fnD_len x ds e h
abbrev s_l_value : Stmt := topS 42
abbrev n_l_value : List Str := ["_law_draws", "_law_k", "_law_kind", "_law_large"]
theorem sc_l_value : FnScope n_l_value ["_law_draws", "_law_k"] (defScope s_l_value) := ⟨rfl, rfl, rfl, by decide +kernel, rfl, by decide +kernel, by decide +kernel⟩
def b_l_value : SF :=
  (dSeq (dAsg 2 (dCallD 0 L.d_l_take (dCons (dC (.int 6)) dNil)))
      (dSeq (dIfS (dBool (dOp oLt (dV 2) (dC (.int 3)))) (dRet (dOp oAdd (dC (.int 100)) (dV 1))) dNx)
      (dSeq (dIfS (dBool (dOp oEq (dV 2) (dC (.int 3)))) (dRet (dOp oMul (dC (.int 5)) (dCallD 0 L.d_l_take (dCons (dC (.int 2)) dNil)))) dNx)
      (dSeq (dIfS (dBool (dOp oEq (dV 2) (dC (.int 4)))) (dRet (dOp oSub (dC (.int 0)) (dV 1))) dNx)
      (dSeq (dAsg 3 (dOp oAdd (dOp oMul (dCallD 0 L.d_l_take (dCons (dC (.int 1000000)) dNil)) (dC (.int 1000000))) (dCallD 0 L.d_l_take (dCons (dC (.int 1000000)) dNil))))
      (dRet (dOp oSub (dOp oAdd (dOp oMul (dV 3) (dC (.int 2))) (dCallD 0 L.d_l_take (dCons (dC (.int 3)) dNil))) (dOp oPow (dC (.int 10)) (dC (.int 12))))))))))
def d_l_value : Dr → List D → R Err (D × Dr) := fnD 1 2 b_l_value
theorem len_l_value (x : Dr) (ds : List D) (e : D × Dr) (h : d_l_value x ds = .ok e) : ds.length = 1 := fnD_len x ds e h
abbrev s_l_table : Stmt := topS 44
abbrev n_l_table : List Str := ["_law_draws", "_law_most", "_law_size", "_law_thin", "_law_day", "_law_table_here", "_law_k", "_law_value_here"]
theorem sc_l_table : FnScope n_l_table ["_law_draws", "_law_most"] (defScope s_l_table) := ⟨rfl, rfl, rfl, by decide +kernel, rfl, by decide +kernel, by decide +kernel⟩
def lb_l_table_1 : SF :=
  (dSeq (dAsg 4 (dOp oAdd (dV 4) (dCallD 0 L.d_l_pause dNil)))
      (dSeq (dAsg 7 (dC .non))
      (dSeq (dIfS (dBool (dOp oEq (dCallD 0 L.d_l_take (dCons (dV 3) dNil)) (dC (.int 0)))) (dAsg 7 (dCallD 0 L.d_l_value (dCons (dV 6) dNil))) dNx)
      (dApp 5 (dTup (dCons (dV 4) (dCons (dOp oIx (dLst (dCons (dC (.int 0)) (dCons (dC (.int 0)) (dCons (dC (.int 0)) (dCons (dC (.int 1)) (dCons (dC (.int 1)) (dCons (dC (.int 2)) dNil))))))) (dCallD 0 L.d_l_take (dCons (dC (.int 6)) dNil))) (dCons (dV 7) dNil))))))))
def lt_l_table_1 : D → Nv → Option Nv := (dgN 6)
def b_l_table : SF :=
  (dSeq (dAsg 2 (dCallD 0 L.d_l_take (dCons (dC (.int 13)) dNil)))
      (dSeq (dIfS (dBool (dOp oEq (dCallD 0 L.d_l_take (dCons (dC (.int 4)) dNil)) (dC (.int 3)))) (dAsg 2 (dCallD 0 L.d_l_take (dCons (dOp oAdd (dV 1) (dC (.int 1))) dNil))) dNx)
      (dSeq (dAsg 3 (dOp oAdd (dC (.int 2)) (dCallD 0 L.d_l_take (dCons (dC (.int 5)) dNil))))
      (dSeq (dAsg 4 (dC (.int 0)))
      (dSeq (dOwn 5 (dLstO dNil))
      (dSeq (dFor (dRg rg1 (dCons (dV 2) dNil)) lt_l_table_1 lb_l_table_1)
      (dFrz 5 (dRet (dVF 5)))))))))
def d_l_table : Dr → List D → R Err (D × Dr) := fnD 1 6 b_l_table
theorem len_l_table (x : Dr) (ds : List D) (e : D × Dr) (h : d_l_table x ds = .ok e) : ds.length = 1 := fnD_len x ds e h
abbrev s_is_limit : Stmt := topS 28
abbrev n_is_limit : List Str := ["number", "least", "most"]
theorem sc_is_limit : FnScope n_is_limit ["number", "least", "most"] (defScope s_is_limit) := ⟨rfl, rfl, rfl, by decide +kernel, rfl, by decide +kernel, by decide +kernel⟩
def b_is_limit : SF :=
  (dRet (dOrV (dOp oIsN (dV 0) (dC .non)) (dChain oLe oLe (dV 1) (dV 0) (dV 2))))
def d_is_limit : List D → R Err D := fnP 3 0 b_is_limit
theorem len_is_limit (ds : List D) (e : D) (h : d_is_limit ds = .ok e) : ds.length = 3 := fnP_len ds e h
abbrev s_check_step : Stmt := topS 29
abbrev n_check_step : List Str := ["step", "index", "way", "rows", "days", "reach"]
theorem sc_check_step : FnScope n_check_step ["step", "index"] (defScope s_check_step) := ⟨rfl, rfl, rfl, by decide +kernel, rfl, by decide +kernel, by decide +kernel⟩
def b_check_step : SF :=
  (dSeq (dAsgG (dgT (dgsCons (dgN 2) (dgsCons (dgN 3) (dgsCons (dgN 4) (dgsCons (dgN 5) dgsNil))))) (dVS 0))
      (dSeq (dIfS (dBool (dOp oEq (dV 0) (dC (.tup [(.str "drop"), .non, .non, (.int 2)])))) dRetN dNx)
      (dSeq (dIfS (dOr (dBool (dOp oNotIn (dV 2) (dC (.tup [(.str "down"), (.str "up"), (.str "near_above"), (.str "near_below")])))) (dNot (dBool (dChain oLe oLe (dC (.int 0)) (dV 5) (dC (.int 2)))))) dBad dNx)
      (dIfS (dOr (dNot (dTru (dCall L.d_is_limit [] (dCons (dV 3) (dCons (dC (.int 1)) (dCons (dC (.int 6)) dNil)))))) (dNot (dTru (dCall L.d_is_limit [] (dCons (dV 4) (dCons (dC (.int 0)) (dCons (dC (.int 1000000000)) dNil))))))) dBad dNx))))
def d_check_step : List D → R Err D := fnP 2 4 b_check_step
theorem len_check_step (ds : List D) (e : D) (h : d_check_step ds = .ok e) : ds.length = 2 := fnP_len ds e h
abbrev s_Script___init__ : Stmt := inClass (topS 35) 1
abbrev n_Script___init__ : List Str := ["self", "steps", "index", "step"]
theorem sc_Script___init__ : FnScope n_Script___init__ ["self", "steps"] (defScope s_Script___init__) := ⟨rfl, rfl, rfl, by decide +kernel, rfl, by decide +kernel, by decide +kernel⟩
def lb_Script___init___1 : SF :=
  (dDrop (dCall L.d_check_step [] (dCons (dV 3) (dCons (dV 2) dNil))))
def lt_Script___init___1 : D → Nv → Option Nv := (dgT (dgsCons (dgN 2) (dgsCons (dgN 3) dgsNil)))
def b_Script___init__ : Nv → List D → R Err (List D) :=
  (dPre (dIfS (dBool (dOp oGt (dCB oLen (dCons (dV 1) dNil)) (dC (.int 6)))) dBad dNx)
      (dPre (dFor (dRg enA (dCons (dVS 1) dNil)) lt_Script___init___1 lb_Script___init___1)
      (dFld1 (dL (dCBO oList (dCons (dV 1) dNil))) (fun _ ds => .ok ds))))
def isNonB (d : D) : Bool := match d with | .non => true | _ => false
def limB (d : D) (lo hi : Int) : Bool := match d with | .non => true | .int i => decide (lo ≤ i ∧ i ≤ hi) | _ => false
def wayB (w : Str) : Bool := decide (w = "down") || decide (w = "up") || decide (w = "near_above") || decide (w = "near_below")
/-- a valid step -/
def stepB (d : D) : Bool := match d with
  | .tup [.str w, r, y, .int c] => (decide (w = "drop") && isNonB r && isNonB y && decide (c = 2)) || (wayB w && limB r 1 6 && limB y 0 1000000000 && decide (0 ≤ c ∧ c ≤ 2))
  | _ => false
/-- what Script(steps) keeps -/
def scriptI : List D → R Err (List D)
  | [.lst zs] => if zs.length ≤ 6 ∧ zs.all stepB = true then .ok [.lst zs] else .bad
  | [.tup []] => .ok [.lst []]
  | _ => .bad
theorem len_Script___init__ (ds : List D) (e : List D) (h : scriptI ds = .ok e) : ds.length = 1 := by
  unfold scriptI at h
  split at h
  · rfl
  · rfl
  · cases h

abbrev s_turned_step : Stmt := topS 30
abbrev n_turned_step : List Str := ["step", "way", "limits"]
theorem sc_turned_step : FnScope n_turned_step ["step"] (defScope s_turned_step) := ⟨rfl, rfl, rfl, by decide +kernel, rfl, by decide +kernel, by decide +kernel⟩
def b_turned_step : SF :=
  (dSeq (dStar 1 2 (dVS 0))
      (dRet (dTup (dCons (dUn (oKd L.kd_OPPOSITE) (dV 1)) (dStarA (dV 2) dNil)))))
def d_turned_step : List D → R Err D := fnP 1 2 b_turned_step
theorem len_turned_step (ds : List D) (e : D) (h : d_turned_step ds = .ok e) : ds.length = 1 := fnP_len ds e h
abbrev s_Script___invert__ : Stmt := inClass (topS 35) 8
abbrev n_Script___invert__ : List Str := ["self", "step"]
theorem sc_Script___invert__ : FnScope n_Script___invert__ ["self"] (defScope s_Script___invert__) := ⟨rfl, rfl, rfl, by decide +kernel, rfl, by decide +kernel, by decide +kernel⟩
def lc_Script___invert___1 (C : Addr) : EF (List D) := (dLc (dWalk (dFld C "parts" (dVS 0))) (dgN 1) dYes (dCall L.d_turned_step [] (dCons (dV 1) dNil)) [1])
def b_Script___invert__ (C : Addr) : SF :=
  (dRet (dMake C ["parts"] L.scriptI [] (dCons (dL (lc_Script___invert___1 C)) dNil)))
def d_Script___invert__ (C : Addr) : List D → R Err D := fnP 1 1 (b_Script___invert__ C)
theorem len_Script___invert__ (C : Addr) (ds : List D) (e : D) (h : d_Script___invert__ C ds = .ok e) : ds.length = 1 := fnP_len ds e h
abbrev s_Script___mul__ : Stmt := inClass (topS 35) 6
abbrev n_Script___mul__ : List Str := ["self", "count"]
theorem sc_Script___mul__ : FnScope n_Script___mul__ ["self", "count"] (defScope s_Script___mul__) := ⟨rfl, rfl, rfl, by decide +kernel, rfl, by decide +kernel, by decide +kernel⟩
def b_Script___mul__ (C : Addr) : SF :=
  (dSeq (dIfS (dBool (dOp oGt (dOp oMul (dCB oLen (dCons (dFld C "parts" (dV 0)) dNil)) (dV 1)) (dC (.int 6)))) dBad dNx)
      (dRet (dMake C ["parts"] L.scriptI [] (dCons (dIf (dTru (dFld C "parts" (dV 0))) (dL (dOpO oRep (dFld C "parts" (dV 0)) (dV 1))) (dTup dNil)) dNil))))
def d_Script___mul__ (C : Addr) : List D → R Err D := fnP 2 0 (b_Script___mul__ C)
theorem len_Script___mul__ (C : Addr) (ds : List D) (e : D) (h : d_Script___mul__ C ds = .ok e) : ds.length = 2 := fnP_len ds e h
abbrev s_Script___add__ : Stmt := inClass (topS 35) 5
abbrev n_Script___add__ : List Str := ["self", "other"]
theorem sc_Script___add__ : FnScope n_Script___add__ ["self", "other"] (defScope s_Script___add__) := ⟨rfl, rfl, rfl, by decide +kernel, rfl, by decide +kernel, by decide +kernel⟩
def b_Script___add__ (C : Addr) : SF :=
  (dSeq (dIfS (dNot (dTru (dCB (oIsiO C) (dCons (dV 1) (dCons (dC (.ref C)) dNil))))) dBad dNx)
      (dRet (dMake C ["parts"] L.scriptI [] (dCons (dL (dOpO oCat (dFld C "parts" (dV 0)) (dFld C "parts" (dV 1)))) dNil))))
def d_Script___add__ (C : Addr) : List D → R Err D := fnP 2 0 (b_Script___add__ C)
theorem len_Script___add__ (C : Addr) (ds : List D) (e : D) (h : d_Script___add__ C ds = .ok e) : ds.length = 2 := fnP_len ds e h
abbrev s_written_step : Stmt := topS 31
abbrev n_written_step : List Str := ["step", "way", "rows", "days", "reach", "words"]
theorem sc_written_step : FnScope n_written_step ["step"] (defScope s_written_step) := ⟨rfl, rfl, rfl, by decide +kernel, rfl, by decide +kernel, by decide +kernel⟩
def b_written_step : SF :=
  (dSeq (dAsgG (dgT (dgsCons (dgN 1) (dgsCons (dgN 2) (dgsCons (dgN 3) (dgsCons (dgN 4) dgsNil))))) (dVS 0))
      (dSeq (dOwn 5 (dLstO (dCons (dN (dV 1)) dNil)))
      (dSeq (dIfS (dBool (dOp oNotN (dV 2) (dC .non))) (dExt 5 (dLst (dCons (dC (.str "rows")) (dCons (dCB oStr (dCons (dV 2) dNil)) dNil)))) dNx)
      (dSeq (dIfS (dBool (dOp oNotN (dV 3) (dC .non))) (dExt 5 (dLst (dCons (dC (.str "days")) (dCons (dCB oStr (dCons (dV 3) dNil)) dNil)))) dNx)
      (dSeq (dIfS (dBool (dOp oNe (dV 4) (dC (.int 2)))) (dExt 5 (dLst (dCons (dC (.str "reach")) (dCons (dCB oStr (dCons (dV 4) dNil)) dNil)))) dNx)
      (dRet (dJoin (dC (.str " ")) (dV 5))))))))
def d_written_step : List D → R Err D := fnP 1 5 b_written_step
theorem len_written_step (ds : List D) (e : D) (h : d_written_step ds = .ok e) : ds.length = 1 := fnP_len ds e h
abbrev s_Script_written : Stmt := inClass (topS 35) 10
abbrev n_Script_written : List Str := ["self", "step"]
theorem sc_Script_written : FnScope n_Script_written ["self"] (defScope s_Script_written) := ⟨rfl, rfl, rfl, by decide +kernel, rfl, by decide +kernel, by decide +kernel⟩
def lc_Script_written_1 (C : Addr) : EF (List D) := (dLc (dWalk (dFld C "parts" (dVS 0))) (dgN 1) dYes (dCall L.d_written_step [] (dCons (dV 1) dNil)) [1])
def b_Script_written (C : Addr) : SF :=
  (dRet (dJoin (dC (.str "\n")) (dL (lc_Script_written_1 C))))
def d_Script_written (C : Addr) : List D → R Err D := fnP 1 1 (b_Script_written C)
theorem len_Script_written (C : Addr) (ds : List D) (e : D) (h : d_Script_written C ds = .ok e) : ds.length = 1 := fnP_len ds e h
abbrev s_read_number : Stmt := topS 32
abbrev n_read_number : List Str := ["word"]
theorem sc_read_number : FnScope n_read_number ["word"] (defScope s_read_number) := ⟨rfl, rfl, rfl, by decide +kernel, rfl, by decide +kernel, by decide +kernel⟩
def b_read_number : SF :=
  (dSeq (dIfS (dAnd (dTru (dM0 Txt.isascii (dV 0))) (dAnd (dTru (dM0 Txt.isdigit (dV 0))) (dBool (dOp oLe (dCB oLen (dCons (dV 0) dNil)) (dC (.int 10)))))) (dRet (dCB oIntS (dCons (dV 0) dNil))) dNx)
      (dRet (dUn oNeg (dC (.int 1)))))
def d_read_number : List D → R Err D := fnP 1 0 b_read_number
theorem len_read_number (ds : List D) (e : D) (h : d_read_number ds = .ok e) : ds.length = 1 := fnP_len ds e h
abbrev s_read_step : Stmt := topS 33
abbrev n_read_step : List Str := ["line", "index", "way", "words", "limits", "name", "word", "step"]
theorem sc_read_step : FnScope n_read_step ["line", "index"] (defScope s_read_step) := ⟨rfl, rfl, rfl, by decide +kernel, rfl, by decide +kernel, by decide +kernel⟩
def lb_read_step_1 : SF :=
  (dIfS (dBool (dDIn (dV 5) (dV 4))) (dDPut 4 (dV 5) (dCall L.d_read_number [] (dCons (dV 6) dNil))) dNx)
def lt_read_step_1 : D → Nv → Option Nv := (dgT (dgsCons (dgN 5) (dgsCons (dgN 6) dgsNil)))
def b_read_step : SF :=
  (dSeq (dStarL 2 3 (dL (dSplit (dV 0) (dC (.str " ")))))
      (dSeq (dNewD 4 ["rows", "days", "reach"] [.non, .non, .int 2])
      (dSeq (dFor (dRg zp2 (dCons (dL (dStep2 none (dV 3))) (dCons (dL (dStep2 (some 1) (dV 3))) dNil))) lt_read_step_1 lb_read_step_1)
      (dSeq (dAsg 7 (dTup (dCons (dN (dV 2)) (dCons (dDGet (dV 4) (dC (.str "rows"))) (dCons (dDGet (dV 4) (dC (.str "days"))) (dCons (dDGet (dV 4) (dC (.str "reach"))) dNil))))))
      (dSeq (dDrop (dCall L.d_check_step [] (dCons (dV 7) (dCons (dV 1) dNil))))
      (dSeq (dIfS (dBool (dOp oNe (dCall L.d_written_step [] (dCons (dV 7) dNil)) (dV 0))) dBad dNx)
      (dRet (dN (dV 7)))))))))
def d_read_step : List D → R Err D := fnP 2 6 b_read_step
theorem len_read_step (ds : List D) (e : D) (h : d_read_step ds = .ok e) : ds.length = 2 := fnP_len ds e h
abbrev s_Script_read : Stmt := inClass (topS 35) 11
abbrev n_Script_read : List Str := ["cls", "text", "lines", "index", "line"]
theorem sc_Script_read : FnScope n_Script_read ["cls", "text"] (defScope s_Script_read) := ⟨rfl, rfl, rfl, by decide +kernel, rfl, by decide +kernel, by decide +kernel⟩
def lc_Script_read_1 : EF (List D) := (dLc (dRg en1 (dCons (dVS 2) dNil)) (dgT (dgsCons (dgN 3) (dgsCons (dgN 4) dgsNil))) dYes (dCall L.d_read_step [] (dCons (dV 4) (dCons (dV 3) dNil))) [3, 4])
def b_Script_read (C : Addr) : SF :=
  (dSeq (dAsg 2 (dIf (dTru (dV 1)) (dL (dSplit (dV 1) (dC (.str "\n")))) (dLst dNil)))
      (dSeq (dIfS (dBool (dOp oGt (dCB oLen (dCons (dV 2) dNil)) (dCVal 0 C (.int 6)))) dBad dNx)
      (dRet (dMakeV0 0 C ["parts"] L.scriptI [] (dCons (dL lc_Script_read_1) dNil)))))
def d_Script_read (C : Addr) : List D → R Err D := fnP 2 3 (b_Script_read C)
theorem len_Script_read (C : Addr) (ds : List D) (e : D) (h : d_Script_read C ds = .ok e) : ds.length = 2 := fnP_len ds e h
abbrev s_l_made : Stmt := topS 52
abbrev n_l_made : List Str := ["_law_draws", "_law_steps_here", "_law_made_here", "_law_kind"]
theorem sc_l_made : FnScope n_l_made ["_law_draws", "_law_steps_here"] (defScope s_l_made) := ⟨rfl, rfl, rfl, by decide +kernel, rfl, by decide +kernel, by decide +kernel⟩
def b_l_made (C : Addr) : SF :=
  (dSeq (dAsg 2 (dMake C ["parts"] L.scriptI [] (dCons (dV 1) dNil)))
      (dSeq (dAsg 3 (dCallD 0 L.d_l_take (dCons (dC (.int 6)) dNil)))
      (dSeq (dIfS (dBool (dOp oEq (dV 3) (dC (.int 1)))) (dRet (dCMeth C (L.d_Script_read C) (dCons (dMeth0 C "written" (L.d_Script_written C) (dV 2)) dNil))) dNx)
      (dSeq (dIfS (dBool (dOp oEq (dV 3) (dC (.int 2)))) (dRet (dUn (oOwn1 C (L.d_Script___invert__ C)) (dUn (oOwn1 C (L.d_Script___invert__ C)) (dV 2)))) dNx)
      (dSeq (dIfS (dBool (dOp oEq (dV 3) (dC (.int 3)))) (dRet (dOp (oOwnI C (L.d_Script___mul__ C)) (dV 2) (dC (.int 1)))) dNx)
      (dSeq (dIfS (dBool (dOp oEq (dV 3) (dC (.int 4)))) (dRet (dOp (oOwn2 C (L.d_Script___add__ C)) (dMake C ["parts"] L.scriptI [.tup []] dNil) (dV 2))) dNx)
      (dRet (dVF 2))))))))
def d_l_made (C : Addr) : Dr → List D → R Err (D × Dr) := fnD 1 2 (b_l_made C)
theorem len_l_made (C : Addr) (x : Dr) (ds : List D) (e : D × Dr) (h : d_l_made C x ds = .ok e) : ds.length = 1 := fnD_len x ds e h
abbrev s_l_above : Stmt := topS 45
abbrev n_l_above : List Str := ["_law_table_here", "_law_source", "_law_k", "_law_step_here", "_law_high", "_law_j", "_law_near", "_law_young"]
theorem sc_l_above : FnScope n_l_above ["_law_table_here", "_law_source", "_law_k", "_law_step_here"] (defScope s_l_above) := ⟨rfl, rfl, rfl, by decide +kernel, rfl, by decide +kernel, by decide +kernel⟩
def lb_l_above_1 : SF :=
  (dSeq (dIfS (dBool (dOp oGe (dOp oIx (dV 1) (dV 5)) (dC (.int 0)))) (dSeq (dAsg 6 (dOrV (dOp oIsN (dOp oIx (dV 3) (dC (.int 1))) (dC .non)) (dOp oLe (dOp oSub (dV 2) (dV 5)) (dOp oIx (dV 3) (dC (.int 1))))))
      (dSeq (dAsg 7 (dOrV (dOp oIsN (dOp oIx (dV 3) (dC (.int 2))) (dC .non)) (dOp oLe (dOp oSub (dOp oIx (dOp oIx (dV 0) (dV 2)) (dC (.int 0))) (dOp oIx (dOp oIx (dV 0) (dOp oIx (dV 1) (dV 5))) (dC (.int 0)))) (dOp oIx (dV 3) (dC (.int 2))))))
      (dRet (dIf (dAnd (dTru (dV 6)) (dAnd (dTru (dV 7)) (dBool (dOp oLe (dV 4) (dOp oIx (dV 3) (dC (.int 3))))))) (dN (dV 5)) (dUn oNeg (dC (.int 1))))))) dNx)
      (dIfS (dBool (dOp oGt (dOp oIx (dOp oIx (dV 0) (dV 5)) (dC (.int 1))) (dV 4))) (dAsg 4 (dN (dOp oIx (dOp oIx (dV 0) (dV 5)) (dC (.int 1))))) dNx))
def lt_l_above_1 : D → Nv → Option Nv := (dgN 5)
def b_l_above : SF :=
  (dSeq (dAsg 4 (dN (dOp oIx (dOp oIx (dV 0) (dV 2)) (dC (.int 1)))))
      (dSeq (dFor (dRg rg3 (dCons (dOp oSub (dV 2) (dC (.int 1))) (dCons (dUn oNeg (dC (.int 1))) (dCons (dUn oNeg (dC (.int 1))) dNil)))) lt_l_above_1 lb_l_above_1)
      (dRet (dUn oNeg (dC (.int 1))))))
def d_l_above : List D → R Err D := fnP 4 4 b_l_above
theorem len_l_above (ds : List D) (e : D) (h : d_l_above ds = .ok e) : ds.length = 4 := fnP_len ds e h
abbrev s_l_below : Stmt := topS 46
abbrev n_l_below : List Str := ["_law_table_here", "_law_source", "_law_k", "_law_step_here", "_law_high", "_law_j", "_law_near", "_law_young"]
theorem sc_l_below : FnScope n_l_below ["_law_table_here", "_law_source", "_law_k", "_law_step_here"] (defScope s_l_below) := ⟨rfl, rfl, rfl, by decide +kernel, rfl, by decide +kernel, by decide +kernel⟩
def lb_l_below_1 : SF :=
  (dSeq (dIfS (dBool (dOp oGt (dOp oIx (dOp oIx (dV 0) (dV 5)) (dC (.int 1))) (dV 4))) (dAsg 4 (dN (dOp oIx (dOp oIx (dV 0) (dV 5)) (dC (.int 1))))) dNx)
      (dIfS (dBool (dOp oGe (dOp oIx (dV 1) (dV 5)) (dC (.int 0)))) (dSeq (dAsg 6 (dOrV (dOp oIsN (dOp oIx (dV 3) (dC (.int 1))) (dC .non)) (dOp oLe (dOp oSub (dV 5) (dV 2)) (dOp oIx (dV 3) (dC (.int 1))))))
      (dSeq (dAsg 7 (dOrV (dOp oIsN (dOp oIx (dV 3) (dC (.int 2))) (dC .non)) (dOp oLe (dOp oSub (dOp oIx (dOp oIx (dV 0) (dOp oIx (dV 1) (dV 5))) (dC (.int 0))) (dOp oIx (dOp oIx (dV 0) (dV 2)) (dC (.int 0)))) (dOp oIx (dV 3) (dC (.int 2))))))
      (dRet (dIf (dAnd (dTru (dV 6)) (dAnd (dTru (dV 7)) (dBool (dOp oLe (dV 4) (dOp oIx (dV 3) (dC (.int 3))))))) (dN (dV 5)) (dUn oNeg (dC (.int 1))))))) dNx))
def lt_l_below_1 : D → Nv → Option Nv := (dgN 5)
def b_l_below : SF :=
  (dSeq (dAsg 4 (dC (.int 0)))
      (dSeq (dFor (dRg rg2 (dCons (dOp oAdd (dV 2) (dC (.int 1))) (dCons (dCB oLen (dCons (dV 0) dNil)) dNil))) lt_l_below_1 lb_l_below_1)
      (dRet (dUn oNeg (dC (.int 1))))))
def d_l_below : List D → R Err D := fnP 4 4 b_l_below
theorem len_l_below (ds : List D) (e : D) (h : d_l_below ds = .ok e) : ds.length = 4 := fnP_len ds e h
abbrev s_l_pick : Stmt := topS 47
abbrev n_l_pick : List Str := ["_law_way", "_law_k", "_law_above_here", "_law_below_here"]
theorem sc_l_pick : FnScope n_l_pick ["_law_way", "_law_k", "_law_above_here", "_law_below_here"] (defScope s_l_pick) := ⟨rfl, rfl, rfl, by decide +kernel, rfl, by decide +kernel, by decide +kernel⟩
def b_l_pick : SF :=
  (dSeq (dIfS (dBool (dOp oEq (dV 0) (dC (.str "down")))) (dRet (dN (dV 2))) dNx)
      (dSeq (dIfS (dBool (dOp oEq (dV 0) (dC (.str "up")))) (dRet (dN (dV 3))) dNx)
      (dSeq (dIfS (dOr (dBool (dOp oLt (dV 2) (dC (.int 0)))) (dBool (dOp oLt (dV 3) (dC (.int 0))))) (dRet (dIf (dBool (dOp oLt (dV 3) (dC (.int 0)))) (dN (dV 2)) (dN (dV 3)))) dNx)
      (dSeq (dIfS (dBool (dOp oEq (dOp oSub (dV 1) (dV 2)) (dOp oSub (dV 3) (dV 1)))) (dRet (dIf (dBool (dOp oEq (dV 0) (dC (.str "near_above")))) (dN (dV 2)) (dN (dV 3)))) dNx)
      (dRet (dIf (dBool (dOp oLt (dOp oSub (dV 1) (dV 2)) (dOp oSub (dV 3) (dV 1)))) (dN (dV 2)) (dN (dV 3))))))))
def d_l_pick : List D → R Err D := fnP 4 0 b_l_pick
theorem len_l_pick (ds : List D) (e : D) (h : d_l_pick ds = .ok e) : ds.length = 4 := fnP_len ds e h
abbrev s_l_sources : Stmt := topS 48
abbrev n_l_sources : List Str := ["_law_steps_here", "_law_table_here", "_law_source", "_law_k", "_law_by", "_law_row", "_law_number", "_law_step_here", "_law_before", "_law_above_here", "_law_below_here", "_law_at"]
theorem sc_l_sources : FnScope n_l_sources ["_law_steps_here", "_law_table_here"] (defScope s_l_sources) := ⟨rfl, rfl, rfl, by decide +kernel, rfl, by decide +kernel, by decide +kernel⟩
def lc_l_sources_1 : EF (List D) := (dLc (dRg rg1 (dCons (dCB oLen (dCons (dV 1) dNil)) dNil)) (dgN 3) dYes (dIf (dBool (dOp oNotN (dOp oIx (dOp oIx (dV 1) (dV 3)) (dC (.int 2))) (dC .non))) (dN (dV 3)) (dUn oNeg (dC (.int 1)))) [3])
def lc_l_sources_2 : EF (List D) := (dLc (dWalk (dVS 1)) (dgN 5) dYes (dUn oNeg (dC (.int 1))) [5])
def lb_l_sources_1 : SF :=
  (dIfS (dBool (dOp oLt (dOp oIx (dV 8) (dV 3)) (dC (.int 0)))) (dSeq (dAsg 9 (dCall L.d_l_above [] (dCons (dV 1) (dCons (dV 8) (dCons (dV 3) (dCons (dV 7) dNil))))))
      (dSeq (dAsg 10 (dCall L.d_l_below [] (dCons (dV 1) (dCons (dV 8) (dCons (dV 3) (dCons (dV 7) dNil))))))
      (dSeq (dAsg 11 (dCall L.d_l_pick [] (dCons (dOp oIx (dV 7) (dC (.int 0))) (dCons (dV 3) (dCons (dV 9) (dCons (dV 10) dNil))))))
      (dIfS (dBool (dOp oGe (dV 11) (dC (.int 0)))) (dSeq (dSetI 2 (dV 3) (dOp oIx (dV 8) (dV 11)))
      (dSetI 4 (dV 3) (dV 6))) dNx)))) dNx)
def lt_l_sources_1 : D → Nv → Option Nv := (dgN 3)
def lb_l_sources_2 : SF :=
  (dSeq (dAsg 7 (dN (dOp oIx (dV 0) (dV 6))))
      (dSeq (dIfS (dBool (dOp oEq (dOp oIx (dV 7) (dC (.int 0))) (dC (.str "drop")))) (dFrz 4 (dFrz 2 (dRet (dTup (dCons (dVF 2) (dCons (dVF 4) (dCons (dN (dV 6)) dNil))))))) dNx)
      (dSeq (dAsg 8 (dL (dCBO oList (dCons (dV 2) dNil))))
      (dFor (dRg rg1 (dCons (dCB oLen (dCons (dV 1) dNil)) dNil)) lt_l_sources_1 lb_l_sources_1))))
def lt_l_sources_2 : D → Nv → Option Nv := (dgN 6)
def b_l_sources : SF :=
  (dSeq (dOwn 2 lc_l_sources_1)
      (dSeq (dOwn 4 lc_l_sources_2)
      (dSeq (dFor (dRg rg1 (dCons (dCB oLen (dCons (dV 0) dNil)) dNil)) lt_l_sources_2 lb_l_sources_2)
      (dFrz 4 (dFrz 2 (dRet (dTup (dCons (dVF 2) (dCons (dVF 4) (dCons (dUn oNeg (dC (.int 1))) dNil))))))))))
def d_l_sources : List D → R Err D := fnP 2 10 b_l_sources
theorem len_l_sources (ds : List D) (e : D) (h : d_l_sources ds = .ok e) : ds.length = 2 := fnP_len ds e h
abbrev s_l_shown : Stmt := topS 49
abbrev n_l_shown : List Str := ["_law_steps_here", "_law_table_here", "_law_source", "_law_by", "_law_drop", "_law_gone", "_law_at"]
theorem sc_l_shown : FnScope n_l_shown ["_law_steps_here", "_law_table_here"] (defScope s_l_shown) := ⟨rfl, rfl, rfl, by decide +kernel, rfl, by decide +kernel, by decide +kernel⟩
def lc_l_shown_1 : EF (List D) := (dLc (dWalk (dVS 2)) (dgN 6) dYes (dIf (dBool (dOp oLt (dV 6) (dC (.int 0)))) (dN (dV 5)) (dN (dOp oIx (dOp oIx (dV 1) (dV 6)) (dC (.int 2))))) [6])
def b_l_shown : SF :=
  (dSeq (dAsgG (dgT (dgsCons (dgN 2) (dgsCons (dgN 3) (dgsCons (dgN 4) dgsNil)))) (dCall L.d_l_sources [] (dCons (dV 0) (dCons (dV 1) dNil))))
      (dSeq (dAsg 5 (dIf (dBool (dOp oLt (dV 4) (dC (.int 0)))) (dC .non) (dC (.str "dropped"))))
      (dRet (dL lc_l_shown_1))))
def d_l_shown : List D → R Err D := fnP 2 5 b_l_shown
theorem len_l_shown (ds : List D) (e : D) (h : d_l_shown ds = .ok e) : ds.length = 2 := fnP_len ds e h
abbrev s_l_remains : Stmt := topS 50
abbrev n_l_remains : List Str := ["_law_steps_here", "_law_table_here", "_law_shown_here", "_law_high", "_law_remains_here", "_law_k"]
theorem sc_l_remains : FnScope n_l_remains ["_law_steps_here", "_law_table_here"] (defScope s_l_remains) := ⟨rfl, rfl, rfl, by decide +kernel, rfl, by decide +kernel, by decide +kernel⟩
def lb_l_remains_1 : SF :=
  (dSeq (dIfS (dBool (dOp oGt (dOp oIx (dOp oIx (dV 1) (dV 5)) (dC (.int 1))) (dV 3))) (dAsg 3 (dN (dOp oIx (dOp oIx (dV 1) (dV 5)) (dC (.int 1))))) dNx)
      (dIfS (dBool (dOp oNe (dOp oIx (dV 2) (dV 5)) (dC (.str "dropped")))) (dSeq (dApp 4 (dTup (dCons (dOp oIx (dOp oIx (dV 1) (dV 5)) (dC (.int 0))) (dCons (dV 3) (dCons (dOp oIx (dV 2) (dV 5)) dNil)))))
      (dAsg 3 (dC (.int 0)))) dNx))
def lt_l_remains_1 : D → Nv → Option Nv := (dgN 5)
def b_l_remains : SF :=
  (dSeq (dAsg 2 (dCall L.d_l_shown [] (dCons (dV 0) (dCons (dV 1) dNil))))
      (dSeq (dAsg 3 (dC (.int 0)))
      (dSeq (dOwn 4 (dLstO dNil))
      (dSeq (dFor (dRg rg1 (dCons (dCB oLen (dCons (dV 1) dNil)) dNil)) lt_l_remains_1 lb_l_remains_1)
      (dFrz 4 (dRet (dVF 4)))))))
def d_l_remains : List D → R Err D := fnP 2 4 b_l_remains
theorem len_l_remains (ds : List D) (e : D) (h : d_l_remains ds = .ok e) : ds.length = 2 := fnP_len ds e h
abbrev s_l_same : Stmt := topS 51
abbrev n_l_same : List Str := ["_law_told", "_law_due", "_law_k"]
theorem sc_l_same : FnScope n_l_same ["_law_told", "_law_due"] (defScope s_l_same) := ⟨rfl, rfl, rfl, by decide +kernel, rfl, by decide +kernel, by decide +kernel⟩
def lb_l_same_1 (F : List D → R Err D) : SF :=
  (dIfS (dNot (dTru (dCall F [] (dCons (dOp oIx (dV 0) (dV 2)) (dCons (dOp oIx (dV 1) (dV 2)) dNil))))) (dRet (dC (.bl false))) dNx)
def lt_l_same_1 : D → Nv → Option Nv := (dgN 2)
def b_l_same (F : List D → R Err D) : SF :=
  (dSeq (dIfS (dOr (dTru (dCB oIsi (dCons (dV 1) (dCons (dC (.ty "tuple")) dNil)))) (dTru (dCB oIsi (dCons (dV 1) (dCons (dC (.ty "list")) dNil))))) (dSeq (dIfS (dAnd (dTru (dCB oIsi (dCons (dV 1) (dCons (dC (.ty "tuple")) dNil)))) (dNot (dTru (dCB oIsi (dCons (dV 0) (dCons (dC (.ty "tuple")) dNil)))))) (dRet (dC (.bl false))) dNx)
      (dSeq (dIfS (dAnd (dTru (dCB oIsi (dCons (dV 1) (dCons (dC (.ty "list")) dNil)))) (dNot (dTru (dCB oIsi (dCons (dV 0) (dCons (dC (.ty "list")) dNil)))))) (dRet (dC (.bl false))) dNx)
      (dSeq (dIfS (dBool (dOp oNe (dCB oLen (dCons (dV 0) dNil)) (dCB oLen (dCons (dV 1) dNil)))) (dRet (dC (.bl false))) dNx)
      (dSeq (dFor (dRg rg1 (dCons (dCB oLen (dCons (dV 1) dNil)) dNil)) lt_l_same_1 (lb_l_same_1 F))
      (dRet (dC (.bl true))))))) dNx)
      (dSeq (dIfS (dBool (dOp oIsN (dV 1) (dC .non))) (dRet (dOp oIsN (dV 0) (dC .non))) dNx)
      (dSeq (dIfS (dOr (dBool (dOp oIsTF (dV 1) (dC (.bl true)))) (dBool (dOp oIsTF (dV 1) (dC (.bl false))))) (dRet (dAndV (dCB oIsi (dCons (dV 0) (dCons (dC (.ty "bool")) dNil))) (dOp oEq (dV 0) (dV 1)))) dNx)
      (dSeq (dIfS (dTru (dCB oIsi (dCons (dV 1) (dCons (dC (.ty "str")) dNil)))) (dRet (dAndV (dCB oIsi (dCons (dV 0) (dCons (dC (.ty "str")) dNil))) (dOp oEq (dV 0) (dV 1)))) dNx)
      (dRet (dAndV (dCB oIsi (dCons (dV 0) (dCons (dC (.ty "int")) dNil))) (dAndV (dUn oNot (dCB oIsi (dCons (dV 0) (dCons (dC (.ty "bool")) dNil)))) (dOp oEq (dV 0) (dV 1)))))))))
def d_l_same : Nat → List D → R Err D
  | 0 => fun _ => .bad
  | k + 1 => fnP 2 1 (b_l_same (d_l_same k))
theorem len_l_same : ∀ (k : Nat) (ds : List D) (e : D), d_l_same k ds = .ok e → ds.length = 2
  | 0, _, _, h => nomatch h
  | _ + 1, ds, e, h => fnP_len ds e h
abbrev s_law : Stmt := topS 53
abbrev n_law : List Str := ["_law_script", "_law_draws", "_law_steps_here", "_law_table_here", "_law_made_here", "_law_given", "_law_due", "_law_told"]
theorem sc_law : FnScope n_law ["_law_script"] (defScope s_law) := ⟨rfl, rfl, rfl, by decide +kernel, rfl, by decide +kernel, by decide +kernel⟩
def b_law (C : Addr) : SF :=
  (dSeq (dOwn 2 (dCallDO 1 L.d_l_steps (dCons (dC (.int 0)) (dCons (dC (.int 6)) dNil))))
      (dSeq (dIfS (dAnd (dBool (dOp oEq (dCallD 1 L.d_l_take (dCons (dC (.int 3)) dNil)) (dC (.int 2)))) (dBool (dOp oLt (dCB oLen (dCons (dV 2) dNil)) (dC (.int 6))))) (dApp 2 (dTup (dCons (dC (.str "drop")) (dCons (dC .non) (dCons (dC .non) (dCons (dC (.int 2)) dNil)))))) dNx)
      (dSeq (dAsg 3 (dCallD 1 L.d_l_table (dCons (dC (.int 60)) dNil)))
      (dSeq (dAsg 4 (dCallD 1 (L.d_l_made C) (dCons (dV 2) dNil)))
      (dSeq (dOwn 5 (dCBO oList (dCons (dV 3) dNil)))
      (dSeq (dAsg 6 (dCall L.d_l_remains [] (dCons (dV 2) (dCons (dV 3) dNil))))
      (dSeq (dOwn 7 (dCallOO C (L.d_Script___call__ C) (dV 4) (dCons (dV 5) dNil)))
      (dSeq (dIfS (dOr (dNot (dTru (dCall (L.d_l_same 7) [] (dCons (dV 7) (dCons (dV 6) dNil))))) (dNot (dTru (dCall (L.d_l_same 7) [] (dCons (dV 5) (dCons (dV 3) dNil)))))) (dRet (dC (.bl false))) dNx)
      (dSeq (dApp 7 (dTup (dCons (dC (.int 0)) (dCons (dC (.int 0)) (dCons (dC (.int 0)) dNil)))))
      (dSeq (dIfS (dNot (dTru (dCall (L.d_l_same 7) [] (dCons (dCallO_ C (L.d_Script___call__ C) (dV 4) (dCons (dV 5) dNil)) (dCons (dV 6) dNil))))) (dRet (dC (.bl false))) dNx)
      (dSeq (dApp 5 (dTup (dCons (dOp oPow (dC (.int 10)) (dC (.int 12))) (dCons (dC (.int 1)) (dCons (dC (.int 4)) dNil)))))
      (dSeq (dIfS (dNot (dTru (dCall (L.d_l_same 7) [] (dCons (dCallO_ C (L.d_Script___call__ C) (dV 4) (dCons (dV 5) dNil)) (dCons (dCall L.d_l_remains [] (dCons (dV 2) (dCons (dV 5) dNil))) dNil))))) (dRet (dC (.bl false))) dNx)
      (dSeq (dSetI 5 (dC (.int 0)) (dTup (dCons (dC (.int 0)) (dCons (dC (.int 2)) (dCons (dC (.int 6)) dNil)))))
      (dSeq (dIfS (dNot (dTru (dCall (L.d_l_same 7) [] (dCons (dCallO_ C (L.d_Script___call__ C) (dV 4) (dCons (dV 5) dNil)) (dCons (dCall L.d_l_remains [] (dCons (dV 2) (dCons (dV 5) dNil))) dNil))))) (dRet (dC (.bl false))) dNx)
      (dRet (dCall (L.d_l_same 7) [] (dCons (dCallO_ C (L.d_Script___call__ C) (dMake C ["parts"] L.scriptI [] (dCons (dV 2) dNil)) (dCons (dL (dSlO (dV 3) dNoP (dP (dC (.int 5))))) dNil)) (dCons (dCall L.d_l_remains [] (dCons (dV 2) (dCons (dL (dSlO (dV 3) dNoP (dP (dC (.int 5))))) dNil))) dNil))))))))))))))))))
end L

set_option Elab.async false
set_option linter.all false
set_option maxRecDepth 100000
namespace L
open PySem PySem.Spec PyProof.Rows L2 DL
/-! ### what is drawn -/
theorem atI_ok {α : Type} {xs : List α} {n : Int} {x : α} (h0 : 0 ≤ n) (h : xs[n.toNat]? = some x) : atI xs n = some x := by
  have hl := (List.getElem?_eq_some_iff.mp h).1
  unfold atI ixN
  rw [if_pos h0, if_pos (by omega)]
  exact h
theorem atI_nat {α : Type} {xs : List α} {n : Nat} {x : α} (h : xs[n]? = some x) : atI xs (n : Int) = some x := atI_ok (by omega) (by rw [Int.toNat_natCast]; exact h)
theorem atI_lt {α : Type} {xs : List α} {n : Int} (h0 : 0 ≤ n) (h : n < xs.length) : ∃ x, x ∈ xs ∧ atI xs n = some x := by
  have hl : n.toNat < xs.length := by omega
  exact ⟨xs[n.toNat], List.getElem_mem hl, atI_ok h0 (List.getElem?_eq_getElem hl)⟩
theorem fmod_ok {i m : Int} (hm : 0 < m) : 0 ≤ i.fmod m ∧ i.fmod m < m := ⟨Int.fmod_nonneg_of_pos i hm, Int.fmod_lt_of_pos i hm⟩
theorem take_ok (p : List Int) (n b m : Int) (hn : 0 ≤ n) (hm : 0 < m) : ∃ r, d_l_take ⟨p, n, b⟩ [.int m] = .ok (.int r, ⟨p, n + 1, b⟩) ∧ 0 ≤ r ∧ r < m := by
  have hm0 : m ≠ 0 := by omega
  unfold d_l_take fnD b_l_take
  by_cases h : n < p.length
  · have h1 : (p.map D.int)[n.toNat]? = some (D.int (p[n.toNat]'(by omega))) := by rw [List.getElem?_map, List.getElem?_eq_getElem (by omega)]; rfl
    have h2 := atI_ok (xs := p.map D.int) hn h1
    simp [hm0, h, h2]
    exact fmod_ok hm
  · simp [h, hm0]
    exact fmod_ok hm
/-- None or a number -/
def optD : Option Int → D
  | none => .non
  | some i => .int i
@[simp] theorem optD_none : optD none = .non := rfl
@[simp] theorem optD_some {i : Int} : optD (some i) = .int i := rfl
@[simp] theorem nolst_opt {o : Option Int} : nolst (optD o) = true := by cases o <;> simp
theorem span_ok (p : List Int) (n b : Int) (hn : 0 ≤ n) : ∃ o n', d_l_span ⟨p, n, b⟩ [] = .ok (optD o, ⟨p, n', b⟩) ∧ 0 ≤ n' ∧ ∀ i, o = some i → 0 ≤ i ∧ i ≤ 1000000000 := by
  obtain ⟨r, e1, h0, h1⟩ := take_ok p n b 8 hn (by decide)
  unfold d_l_span fnD b_l_span
  by_cases c1 : r < 3
  · simp [e1, c1]
    exact ⟨none, _, ⟨rfl, rfl⟩, by omega, fun i h => nomatch h⟩
  by_cases c2 : r < 6
  · obtain ⟨r2, e2, h2, h3⟩ := take_ok p (n + 1) b 5 (by omega) (by decide)
    simp [e1, c1, c2, e2]
    exact ⟨some r2, _, ⟨rfl, rfl⟩, by omega, fun i h => by cases h; omega⟩
  by_cases c3 : r = 6
  · obtain ⟨r2, e2, h2, h3⟩ := take_ok p (n + 1) b 1000 (by omega) (by decide)
    simp [e1, c1, c2, c3, e2]
    exact ⟨some r2, _, ⟨rfl, rfl⟩, by omega, fun i h => by cases h; omega⟩
  obtain ⟨r2, e2, h2, h3⟩ := take_ok p (n + 1) b 1000000 (by omega) (by decide)
  obtain ⟨r3, e3, h4, h5⟩ := take_ok p (n + 1 + 1) b 1000 (by omega) (by decide)
  simp [e1, c1, c2, c3, e2, e3]
  exact ⟨some (r2 * 1000 + r3 + 1), _, ⟨rfl, rfl⟩, by omega, fun i h => by cases h; omega⟩
theorem value_ok (p : List Int) (n b k : Int) (hn : 0 ≤ n) (hk : 0 ≤ k) (hk2 : k ≤ 1000) : ∃ i n', d_l_value ⟨p, n, b⟩ [.int k] = .ok (.int i, ⟨p, n', b⟩) ∧ 0 ≤ n' ∧ -1000000000000 ≤ i ∧ i ≤ 1000000000000 := by
  obtain ⟨r, e1, h0, h1⟩ := take_ok p n b 6 hn (by decide)
  unfold d_l_value fnD b_l_value
  by_cases c1 : r < 3
  · simp [e1, c1]
    exact ⟨_, _, ⟨rfl, rfl⟩, by omega, by omega, by omega⟩
  by_cases c2 : r = 3
  · obtain ⟨r2, e2, h2, h3⟩ := take_ok p (n + 1) b 2 (by omega) (by decide)
    simp [e1, c1, c2, e2]
    exact ⟨_, _, ⟨rfl, rfl⟩, by omega, by omega, by omega⟩
  by_cases c3 : r = 4
  · simp [e1, c1, c2, c3]
    exact ⟨_, _, ⟨rfl, rfl⟩, by omega, by omega, by omega⟩
  obtain ⟨r2, e2, h2, h3⟩ := take_ok p (n + 1) b 1000000 (by omega) (by decide)
  obtain ⟨r3, e3, h4, h5⟩ := take_ok p (n + 1 + 1) b 1000000 (by omega) (by decide)
  obtain ⟨r4, e4, h6, h7⟩ := take_ok p (n + 1 + 1 + 1) b 3 (by omega) (by decide)
  simp [e1, c1, c2, c3, e2, e3, e4]
  exact ⟨_, _, ⟨rfl, rfl⟩, by omega, by omega, by omega⟩
theorem pause_ok (p : List Int) (n b : Int) (hn : 0 ≤ n) : ∃ i n', d_l_pause ⟨p, n, b⟩ [] = .ok (.int i, ⟨p, n', b⟩) ∧ 0 ≤ n' ∧ 0 ≤ i ∧ i ≤ 1000000000 := by
  obtain ⟨r, e1, h0, h1⟩ := take_ok p n b 8 hn (by decide)
  unfold d_l_pause fnD b_l_pause
  by_cases c1 : r < 3
  · simp [e1, c1]
    exact ⟨_, _, ⟨rfl, rfl⟩, by omega, by omega, by omega⟩
  by_cases c2 : r < 6
  · obtain ⟨r2, e2, h2, h3⟩ := take_ok p (n + 1) b 4 (by omega) (by decide)
    simp [e1, c1, c2, e2]
    exact ⟨_, _, ⟨rfl, rfl⟩, by omega, by omega, by omega⟩
  by_cases c3 : r = 6
  · obtain ⟨r2, e2, h2, h3⟩ := take_ok p (n + 1) b 1000 (by omega) (by decide)
    simp [e1, c1, c2, c3, e2]
    exact ⟨_, _, ⟨rfl, rfl⟩, by omega, by omega, by omega⟩
  obtain ⟨r2, e2, h2, h3⟩ := take_ok p (n + 1) b 1000000 (by omega) (by decide)
  obtain ⟨r3, e3, h4, h5⟩ := take_ok p (n + 1 + 1) b 1000 (by omega) (by decide)
  have := fmod_ok (i := r2 * 1000 + r3) (m := 1000000001) (by decide)
  simp [e1, c1, c2, c3, e2, e3]
  exact ⟨_, _, ⟨rfl, rfl⟩, by omega, by omega, by omega⟩
/-! ### steps -/
inductive Way where
  | down | up | na | nb
def wayS : Way → Str
  | .down => "down"
  | .up => "up"
  | .na => "near_above"
  | .nb => "near_below"
/-- a step that fills: way, rows, days, reach; none: a drop -/
structure Fil where
  way : Way
  rows : Option Int
  days : Option Int
  reach : Int
def stepD : Option Fil → D
  | none => .tup [.str "drop", .non, .non, .int 2]
  | some s => .tup [.str (wayS s.way), optD s.rows, optD s.days, .int s.reach]
def okFil (s : Fil) : Prop := (∀ i, s.rows = some i → 1 ≤ i ∧ i ≤ 6) ∧ (∀ i, s.days = some i → 0 ≤ i ∧ i ≤ 1000000000) ∧ 0 ≤ s.reach ∧ s.reach ≤ 2
def okStep : Option Fil → Prop
  | none => True
  | some s => okFil s
theorem way_ok (r : Int) (h0 : 0 ≤ r) : ∃ w : Way, atI [D.str "down", .str "up", .str "near_above", .str "near_below"] (r.fmod 4) = some (.str (wayS w)) := by
  obtain ⟨h1, h2⟩ := fmod_ok (i := r) (m := 4) (by decide)
  generalize r.fmod 4 = k at *
  have : k = 0 ∨ k = 1 ∨ k = 2 ∨ k = 3 := by omega
  rcases this with rfl | rfl | rfl | rfl
  · exact ⟨.down, rfl⟩
  · exact ⟨.up, rfl⟩
  · exact ⟨.na, rfl⟩
  · exact ⟨.nb, rfl⟩
theorem step_ok (p : List Int) (n b : Int) (hn : 0 ≤ n) : ∃ s n', d_l_step ⟨p, n, b⟩ [] = .ok (stepD s, ⟨p, n', b⟩) ∧ 0 ≤ n' ∧ okStep s := by
  obtain ⟨r, e1, h0, h1⟩ := take_ok p n b 9 hn (by decide)
  unfold d_l_step fnD b_l_step
  by_cases c1 : r = 8
  · simp [e1, c1, natSize]
    exact ⟨none, _, ⟨rfl, rfl⟩, by omega, trivial⟩
  obtain ⟨r2, e2, h2, h3⟩ := take_ok p (n + 1) b 9 (by omega) (by decide)
  obtain ⟨o, n3, e3, h4, h5⟩ := span_ok p (n + 1 + 1) b (by omega)
  obtain ⟨r4, e4, h6, h7⟩ := take_ok p n3 b 3 (by omega) (by decide)
  obtain ⟨w, ew⟩ := way_ok r h0
  by_cases c2 : 2 < r2
  · simp [e1, c1, e2, e3, e4, ew, c2, natSize]
    refine ⟨some ⟨w, some (r2 - 2), o, r4⟩, _, ⟨rfl, rfl⟩, by omega, ?_, h5, h6, by show r4 ≤ 2; omega⟩
    intro i h; cases h; omega
  · simp [e1, c1, e2, e3, e4, ew, c2, natSize]
    refine ⟨some ⟨w, none, o, r4⟩, _, ⟨rfl, rfl⟩, by omega, ?_, h5, h6, by show r4 ≤ 2; omega⟩
    intro i h; cases h
end L

set_option Elab.async false
set_option linter.all false
set_option maxRecDepth 100000
namespace L
open PySem PySem.Spec PyProof.Rows L2 DL
/-! ### tables -/
structure Row where
  day : Int
  level : Int
  value : Option Int
def rowD (r : Row) : D := .tup [.int r.day, .int r.level, optD r.value]
@[simp] theorem nolst_row {r : Row} : nolst (rowD r) = true := by simp [rowD]
theorem nolst_rows {t : List Row} : nolsts (t.map rowD) = true := nolsts_all fun d hd => by
  obtain ⟨r, _, rfl⟩ := List.mem_map.mp hd
  simp
/-- the days from d on do not fall; all in range -/
def okRows : Int → List Row → Prop
  | _, [] => True
  | d, r :: t => (d ≤ r.day ∧ r.day ≤ 1000000000000) ∧ (0 ≤ r.level ∧ r.level ≤ 2) ∧ (∀ i, r.value = some i → -1000000000000 ≤ i ∧ i ≤ 1000000000000) ∧ okRows r.day t
def lastDay : Int → List Row → Int
  | d, [] => d
  | _, r :: t => lastDay r.day t
theorem okRows_snoc {r : Row} : ∀ {t : List Row} {d : Int}, okRows d t → lastDay d t ≤ r.day → r.day ≤ 1000000000000 → (0 ≤ r.level ∧ r.level ≤ 2) → (∀ i, r.value = some i → -1000000000000 ≤ i ∧ i ≤ 1000000000000) → okRows d (t ++ [r])
  | [], d, _, h1, h2, h3, h4 => ⟨⟨h1, h2⟩, h3, h4, trivial⟩
  | q :: t, d, h, h1, h2, h3, h4 => ⟨h.1, h.2.1, h.2.2.1, okRows_snoc h.2.2.2 h1 h2 h3 h4⟩
theorem lastDay_snoc {r : Row} : ∀ {t : List Row} {d : Int}, lastDay d (t ++ [r]) = r.day
  | [], d => rfl
  | q :: t, d => lastDay_snoc (t := t)
theorem lev_ok (r : Int) (h0 : 0 ≤ r) (h1 : r < 6) : ∃ i, atI [D.int 0, .int 0, .int 0, .int 1, .int 1, .int 2] r = some (.int i) ∧ 0 ≤ i ∧ i ≤ 2 := by
  have : r = 0 ∨ r = 1 ∨ r = 2 ∨ r = 3 ∨ r = 4 ∨ r = 5 := by omega
  rcases this with rfl | rfl | rfl | rfl | rfl | rfl
  · exact ⟨0, rfl, by decide, by decide⟩
  · exact ⟨0, rfl, by decide, by decide⟩
  · exact ⟨0, rfl, by decide, by decide⟩
  · exact ⟨1, rfl, by decide, by decide⟩
  · exact ⟨1, rfl, by decide, by decide⟩
  · exact ⟨2, rfl, by decide, by decide⟩
theorem rangeD_get {lo : Int} {n i : Nat} {d : D} (h : (rangeD lo n)[i]? = some d) : d = .int (lo + i) ∧ i < n := by
  unfold rangeD at h
  rw [List.getElem?_map] at h
  obtain ⟨j, e, rfl⟩ := Option.map_eq_some_iff.mp h
  obtain ⟨hl, e⟩ := List.getElem?_eq_some_iff.mp e
  simp at e hl
  subst e
  exact ⟨rfl, hl⟩
theorem rangeD_len {lo : Int} {n : Nat} : (rangeD lo n).length = n := by simp [rangeD]
theorem table_loop (p : List Int) (b m size thin n : Int) (s : Slot) (hn : 0 ≤ n) (ht : 0 < thin) (h0 : 0 ≤ size) (h1 : size ≤ 60) : ∃ t : List Row, ∃ n' s3 s4 s6 s7, dLoop lt_l_table_1 lb_l_table_1 (rangeD 0 size.toNat) [.dr ⟨p, n, b⟩, .im (.int m), s, .fr (.int thin), .fr (.int 0), .own [], .emp, .emp] = .ok (.nx, [.dr ⟨p, n', b⟩, .im (.int m), s, s3, s4, .own (t.map rowD), s6, s7]) ∧
      0 ≤ n' ∧ okRows 0 t ∧ t.length ≤ 60 ∧ lastDay 0 t ≤ 60000000000 := by
  obtain ⟨Γ', e, t, n', s6, s7, hΓ, hn', ho, hl, hd⟩ := loop_nx (p := lb_l_table_1) (g := lt_l_table_1) (Γ := [.dr ⟨p, n, b⟩, .im (.int m), s, .fr (.int thin), .fr (.int 0), .own [], .emp, .emp]) (items := rangeD 0 size.toNat)
    (fun i Γ => ∃ t : List Row, ∃ n' s6 s7, Γ = [.dr ⟨p, n', b⟩, .im (.int m), s, .fr (.int thin), .fr (.int (lastDay 0 t)), .own (t.map rowD), s6, s7] ∧ 0 ≤ n' ∧ okRows 0 t ∧ t.length = i ∧ lastDay 0 t ≤ 1000000000 * i)
    (by
      rintro i d Γ hd ⟨t, n', s6, s7, rfl, hn', ho, hl, hd2⟩
      obtain ⟨rfl, hi⟩ := rangeD_get hd
      have hi60 : i < 60 := by omega
      obtain ⟨z, n1, e1, q1, q2, q3⟩ := pause_ok p n' b hn'
      obtain ⟨r2, e2, q4, q5⟩ := take_ok p n1 b thin q1 ht
      have tl : t.length < sizeLine := Nat.lt_of_lt_of_le (show t.length < 1000 by omega) (by decide)
      by_cases c1 : r2 = 0
      · obtain ⟨v, n3, e3, q6, q7, q8⟩ := value_ok p (n1 + 1) b i (by omega) (by omega) (by omega)
        obtain ⟨r4, e4, q9, q10⟩ := take_ok p n3 b 6 q6 (by decide)
        obtain ⟨l, e5, q11, q12⟩ := lev_ok r4 q9 q10
        refine ⟨_, [.dr ⟨p, n3 + 1, b⟩, .im (.int m), s, .fr (.int thin), .fr (.int (lastDay 0 t + z)), .own ((t ++ [Row.mk (lastDay 0 t + z) l (some v)]).map rowD), .im (.int i), .fr (.int v)], rfl, .inl ?_, t ++ [Row.mk (lastDay 0 t + z) l (some v)], n3 + 1, .im (.int i), .fr (.int v), ?_, by omega, okRows_snoc ho (by show _ ≤ lastDay 0 t + z; omega) (by show lastDay 0 t + z ≤ _; omega) ⟨q11, q12⟩ ?_, by simp [hl], by rw [lastDay_snoc]; show lastDay 0 t + z ≤ _; omega⟩
        · simp [lb_l_table_1, e1, e2, c1, e3, e4, e5, natSize, tl, rowD]
        · rw [lastDay_snoc]
        · intro i h; cases h; exact ⟨q7, q8⟩
      · obtain ⟨r4, e4, q9, q10⟩ := take_ok p (n1 + 1) b 6 (by omega) (by decide)
        obtain ⟨l, e5, q11, q12⟩ := lev_ok r4 q9 q10
        refine ⟨_, [.dr ⟨p, n1 + 1 + 1, b⟩, .im (.int m), s, .fr (.int thin), .fr (.int (lastDay 0 t + z)), .own ((t ++ [Row.mk (lastDay 0 t + z) l none]).map rowD), .im (.int i), .fr .non], rfl, .inl ?_, t ++ [Row.mk (lastDay 0 t + z) l none], n1 + 1 + 1, .im (.int i), .fr .non, ?_, by omega, okRows_snoc ho (by show _ ≤ lastDay 0 t + z; omega) (by show lastDay 0 t + z ≤ _; omega) ⟨q11, q12⟩ ?_, by simp [hl], by rw [lastDay_snoc]; show lastDay 0 t + z ≤ _; omega⟩
        · simp [lb_l_table_1, e1, e2, c1, e4, e5, natSize, tl, rowD]
        · rw [lastDay_snoc]
        · intro i h; cases h)
    ⟨[], n, _, _, rfl, hn, trivial, rfl, by simp [lastDay]⟩
  rw [rangeD_len] at hl hd
  subst hΓ
  exact ⟨t, n', _, _, _, _, e, hn', ho, by omega, by omega⟩
theorem table_ok (p : List Int) (n b m : Int) (hn : 0 ≤ n) (hm : 0 ≤ m) (hm2 : m ≤ 60) : ∃ t : List Row, ∃ n', d_l_table ⟨p, n, b⟩ [.int m] = .ok (.lst (t.map rowD), ⟨p, n', b⟩) ∧ 0 ≤ n' ∧ okRows 0 t ∧ t.length ≤ 60 ∧ lastDay 0 t ≤ 60000000000 := by
  obtain ⟨r, e1, h0, h1⟩ := take_ok p n b 13 hn (by decide)
  obtain ⟨r2, e2, h2, h3⟩ := take_ok p (n + 1) b 4 (by omega) (by decide)
  unfold d_l_table fnD b_l_table
  by_cases c : r2 = 3
  · obtain ⟨r3, e3, h4, h5⟩ := take_ok p (n + 1 + 1) b (m + 1) (by omega) (by omega)
    obtain ⟨r4, e4, h6, h7⟩ := take_ok p (n + 1 + 1 + 1) b 5 (by omega) (by decide)
    obtain ⟨t, n', s3, s4, s6, s7, el, h8, h9, h10, h11⟩ := table_loop p b m r3 (2 + r4) (n + 1 + 1 + 1 + 1) (.fr (.int r3)) (by omega) (by omega) h4 (by omega)
    have hr : inRg r3 := ⟨by omega, by omega⟩
    refine ⟨t, n', ?_, h8, h9, h10, h11⟩
    simp [e1, e2, c, e3, e4, rg1, hr, el, frz]
  · obtain ⟨r4, e4, h6, h7⟩ := take_ok p (n + 1 + 1) b 5 (by omega) (by decide)
    obtain ⟨t, n', s3, s4, s6, s7, el, h8, h9, h10, h11⟩ := table_loop p b m r (2 + r4) (n + 1 + 1 + 1) (.fr (.int r)) (by omega) (by omega) h0 (by omega)
    have hr : inRg r := ⟨by omega, by omega⟩
    refine ⟨t, n', ?_, h8, h9, h10, h11⟩
    simp [e1, e2, c, e4, rg1, hr, el, frz]
end L

set_option Elab.async false
set_option linter.all false
set_option maxRecDepth 100000
namespace L
open PySem PySem.Spec PyProof.Rows L2 DL
theorem lt_size {n : Nat} (h : n ≤ 100000) : n < sizeLine := Nat.lt_of_le_of_lt h (by decide)
theorem pool_loop1 (s0 s2 s3 s6 : Slot) (ps : List Int) (rest : Int) (hl : ps.length ≤ 5000) : ∃ ps' : List Int, ∃ s4 s5, dLoop lt_l_pool_1 lb_l_pool_1 (rangeD 0 60) [s0, .own (ps.map D.int), s2, s3, .fr (.int rest), s5', s6] = .ok (.nx, [s0, .own (ps'.map D.int), s2, s3, s4, s5, s6]) ∧ ps'.length ≤ ps.length + 60 := by
  obtain ⟨Γ', e, ps', rest', s5, hΓ, h⟩ := loop_nx (p := lb_l_pool_1) (g := lt_l_pool_1) (Γ := [s0, .own (ps.map D.int), s2, s3, .fr (.int rest), s5', s6]) (items := rangeD 0 60)
    (fun i Γ => ∃ ps' : List Int, ∃ rest' s5, Γ = [s0, .own (ps'.map D.int), s2, s3, .fr (.int rest'), s5, s6] ∧ ps'.length ≤ ps.length + i)
    (by
      rintro i d Γ hd ⟨ps', rest', s5, rfl, h⟩
      obtain ⟨rfl, hi⟩ := rangeD_get hd
      by_cases c : 0 < rest'
      · refine ⟨_, [s0, .own ((ps' ++ [rest'.fmod 1000000]).map D.int), s2, s3, .fr (.int (rest'.fdiv 1000000)), .im (.int i), s6], rfl, .inl ?_, _, _, _, rfl, by simp; omega⟩
        have := lt_size (n := ps'.length) (by omega)
        simp [lb_l_pool_1, c, this]
      · refine ⟨_, [s0, .own (ps'.map D.int), s2, s3, .fr (.int rest'), .im (.int i), s6], rfl, .inl ?_, _, _, _, rfl, by omega⟩
        simp [lb_l_pool_1, c])
    ⟨ps, rest, _, rfl, by omega⟩
  rw [rangeD_len] at h
  subst hΓ
  exact ⟨ps', _, _, e, h⟩
theorem pool_loop2 (s0 s2 s3 s4 : Slot) (ps : List Int) (seed : Int) (hl : ps.length ≤ 5000) (h0 : 0 ≤ seed) (h1 : seed < 2147483647) : ∃ ps' : List Int, ∃ s5 s6, dLoop lt_l_pool_2 lb_l_pool_2 (rangeD 0 12) [s0, .own (ps.map D.int), s2, s3, s4, s5', .fr (.int seed)] = .ok (.nx, [s0, .own (ps'.map D.int), s2, s3, s4, s5, s6]) ∧ ps'.length ≤ ps.length + 60 := by
  obtain ⟨Γ', e, ps', seed', s5, hΓ, h, _, _⟩ := loop_nx (p := lb_l_pool_2) (g := lt_l_pool_2) (Γ := [s0, .own (ps.map D.int), s2, s3, s4, s5', .fr (.int seed)]) (items := rangeD 0 12)
    (fun i Γ => ∃ ps' : List Int, ∃ seed' s5, Γ = [s0, .own (ps'.map D.int), s2, s3, s4, s5, .fr (.int seed')] ∧ ps'.length ≤ ps.length + i ∧ 0 ≤ seed' ∧ seed' < 2147483647)
    (by
      rintro i d Γ hd ⟨ps', seed', s5, rfl, h, q0, q1⟩
      obtain ⟨rfl, hi⟩ := rangeD_get hd
      have q2 := fmod_ok (i := seed' * 48271 + 11) (m := 2147483647) (by decide)
      refine ⟨_, [s0, .own ((ps' ++ [((((seed' * 48271 + 11).fmod 2147483647) * ((seed' * 48271 + 11).fmod 2147483647)).fdiv 32768 + ((seed' * 48271 + 11).fmod 2147483647)).fmod 999983]).map D.int), s2, s3, s4, .im (.int i), .fr (.int ((seed' * 48271 + 11).fmod 2147483647))], rfl, .inl ?_, _, _, _, rfl, by simp; omega, q2.1, q2.2⟩
      have := lt_size (n := ps'.length) (by omega)
      have z : -18446744073709551616 < (seed' * 48271 + 11).fmod 2147483647 ∧ (seed' * 48271 + 11).fmod 2147483647 < 18446744073709551616 := by omega
      simp [lb_l_pool_2, this, z])
    ⟨ps, seed, _, rfl, by omega, h0, h1⟩
  rw [rangeD_len] at h
  subst hΓ
  exact ⟨ps', _, _, e, by omega⟩
theorem pool_ok (ns : List Int) (hl : ns.length ≤ 63) : ∃ ps : List Int, ∃ b, d_l_pool [.fz (ns.map D.int)] = .ok (.lst [.lst (ps.map D.int), .int 0, .int b]) := by
  obtain ⟨Γ', e, ps', b, s3, s4, s5, s6, hΓ, h⟩ := loop_nx (p := lb_l_pool_3) (g := lt_l_pool_3) (Γ := [.im (.fz (ns.map D.int)), .own [], .fr (.int 0), .emp, .emp, .emp, .emp]) (items := ns.map D.int)
    (fun i Γ => ∃ ps' : List Int, ∃ b s3 s4 s5 s6, Γ = [.im (.fz (ns.map D.int)), .own (ps'.map D.int), .fr (.int b), s3, s4, s5, s6] ∧ ps'.length ≤ 60 * i)
    (by
      rintro i d Γ hd ⟨ps', b, s3, s4, s5, s6, rfl, h⟩
      rw [List.getElem?_map] at hd
      obtain ⟨n, en, rfl⟩ := Option.map_eq_some_iff.mp hd
      have hi : i < ns.length := (List.getElem?_eq_some_iff.mp en).1
      generalize hx : (if n < 0 then -n else n) = x
      have hx0 : 0 ≤ x := by rw [← hx]; split <;> omega
      by_cases c : 1000000000000000000 ≤ x
      · obtain ⟨ps2, t4, t5, e1, h1⟩ := pool_loop1 (s5' := s5) (.im (.fz (ns.map D.int))) (.fr (.int ((b * 7 + x).fmod 1009))) (.im (.int n)) s6 ps' x (by omega)
        refine ⟨_, _, rfl, .inl ?_, ps2, (b * 7 + x).fmod 1009, .im (.int n), t4, t5, s6, rfl, by omega⟩
        simp [lb_l_pool_3, hx, c, rg1, inRg, e1]
      · have q2 := fmod_ok (i := x + 17) (m := 2147483647) (by decide)
        obtain ⟨ps2, t5, t6, e1, h1⟩ := pool_loop2 (s5' := s5) (.im (.fz (ns.map D.int))) (.fr (.int ((b * 7 + x).fmod 1009))) (.im (.int n)) (.fr (.int x)) ps' ((x + 17).fmod 2147483647) (by omega) q2.1 q2.2
        refine ⟨_, _, rfl, .inl ?_, ps2, (b * 7 + x).fmod 1009, .im (.int n), .fr (.int x), t5, t6, rfl, by omega⟩
        simp [lb_l_pool_3, hx, c, rg1, inRg, e1])
    ⟨[], 0, _, _, _, _, rfl, by simp⟩
  subst hΓ
  refine ⟨ps', b, ?_⟩
  unfold d_l_pool fnP b_l_pool
  simp [e, frz, natSize]
theorem intsOf_map : ∀ ps : List Int, intsOf (ps.map D.int) = some ps
  | [] => rfl
  | p :: r => by
    show (intsOf (r.map D.int)).map (fun y => p :: y) = some (p :: r)
    rw [intsOf_map r]; rfl
theorem drOf_ok (ps : List Int) (a b : Int) : drOf (.lst [.lst (ps.map D.int), .int a, .int b]) = some ⟨ps, a, b⟩ := by
  unfold drOf
  dsimp only
  rw [intsOf_map]; rfl
end L

set_option Elab.async false
set_option linter.all false
set_option maxRecDepth 100000
namespace L
open PySem PySem.Spec PyProof.Rows L2 DL
/-! ### lists as functions of the place -/
def tab (n : Nat) (g : Nat → D) : List D := (List.range n).map g
@[simp] theorem tab_len {n : Nat} {g : Nat → D} : (tab n g).length = n := by simp [tab]
theorem tab_get {n i : Nat} {g : Nat → D} (h : i < n) : (tab n g)[i]? = some (g i) := by
  unfold tab
  rw [List.getElem?_map, List.getElem?_range h]; rfl
theorem tab_at {n i : Nat} {g : Nat → D} (h : i < n) : atI (tab n g) (i : Int) = some (g i) := atI_nat (tab_get h)
theorem tab_atI {n : Nat} {i : Int} {g : Nat → D} (h0 : 0 ≤ i) (h : i < n) : atI (tab n g) i = some (g i.toNat) := atI_ok h0 (tab_get (by omega))
theorem tab_ext {n : Nat} {g g' : Nat → D} (h : ∀ i, i < n → g i = g' i) : tab n g = tab n g' := by
  unfold tab
  exact List.map_congr_left fun i hi => h i (List.mem_range.mp hi)
theorem tab_some {n i : Nat} {g : Nat → D} {d : D} (h : (tab n g)[i]? = some d) : d = g i ∧ i < n := by
  have hl : i < n := by
    have := (List.getElem?_eq_some_iff.mp h).1
    simpa using this
  rw [tab_get hl] at h
  exact ⟨(Option.some.inj h).symm, hl⟩
theorem tab_set {n i : Nat} {g : Nat → D} {d : D} : (tab n g).set i d = tab n fun k => if k = i then d else g k := by
  refine List.ext_getElem? fun j => ?_
  by_cases hj : j < n
  · rw [tab_get hj]
    by_cases e : j = i
    · subst e
      rw [List.getElem?_set_self (by simpa using hj), if_pos rfl]
    · rw [List.getElem?_set_ne (Ne.symm e), tab_get hj, if_neg e]
  · rw [List.getElem?_eq_none (by simp; omega), List.getElem?_eq_none (by simp; omega)]
theorem tab_nolst {n : Nat} {g : Nat → D} (h : ∀ i, i < n → nolst (g i) = true) : nolsts (tab n g) = true := nolsts_all fun d hd => by
  obtain ⟨i, hi, rfl⟩ := List.mem_map.mp hd
  exact h i (List.mem_range.mp hi)
theorem tab_snoc {n : Nat} {g : Nat → D} : tab (n + 1) g = tab n g ++ [g n] := by
  unfold tab
  rw [List.range_succ, List.map_append]; rfl
theorem enum_get {n i : Nat} {g : Nat → D} {d : D} (h : (enumD (tab n g))[i]? = some d) : d = .tup [.int (i : Nat), g i] ∧ i < n := by
  unfold enumD at h
  rw [List.getElem?_mapIdx] at h
  obtain ⟨x, e, rfl⟩ := Option.map_eq_some_iff.mp h
  obtain ⟨rfl, hi⟩ := tab_some e
  exact ⟨rfl, hi⟩
@[simp] theorem enum_len {ds : List D} : (enumD ds).length = ds.length := by simp [enumD]
theorem enumK_get {n i : Nat} {k : Int} {g : Nat → D} {d : D} (h : (enumK k (tab n g))[i]? = some d) : d = .tup [.int (k + (i : Nat)), g i] ∧ i < n := by
  unfold enumK at h
  rw [List.getElem?_mapIdx] at h
  obtain ⟨x, e, rfl⟩ := Option.map_eq_some_iff.mp h
  obtain ⟨rfl, hi⟩ := tab_some e
  exact ⟨rfl, hi⟩
@[simp] theorem enumK_len {k : Int} {ds : List D} : (enumK k ds).length = ds.length := by simp [enumK]
theorem rep_non {n : Nat} (h : n ≤ 100000) : oRep (.lst [.non]) (.int n) = some (tab n fun _ => .non) := by
  have := lt_size h
  unfold oRep
  dsimp only
  rw [if_pos ⟨⟨by omega, by omega, by simp; omega⟩, by simp⟩]
  congr 1
  refine List.ext_getElem? fun j => ?_
  by_cases hj : j < n
  · rw [tab_get hj]; simp [hj]
  · rw [List.getElem?_eq_none (by simp; omega), List.getElem?_eq_none (by simp; omega)]
theorem set_tab {Γ : Nv} {i n k : Nat} {g : Nat → D} {d : D} (h : (Γ : List Slot)[i]? = some (.own (tab n g))) (hd : nolst d = true) (hk : k < n) : setAt i d (.int k) Γ = some (Γ.set i (.own (tab n fun j => if j = k then d else g j))) := by
  rw [ev_setO h, if_pos hd]
  have : ixN (tab n g).length (k : Int) = some k := by
    unfold ixN
    rw [if_pos (by omega), if_pos (by rw [tab_len]; omega), Int.toNat_natCast]
  rw [this, Option.map_some, tab_set]
theorem filterMap_tab {n : Nat} {out : Nat → Option D} {g : Nat → D} (h : ∀ i, i < n → out i = some (g i)) : (List.range n).filterMap out = tab n g := by
  induction n with
  | zero => rfl
  | succ n ih =>
    rw [List.range_succ, List.filterMap_append, ih (fun i hi => h i (by omega)), List.filterMap_cons_some (h n (by omega)), List.filterMap_nil, tab_snoc]
/-- a comprehension over n items -/
theorem lc_tab {lg : D → Nv → Option Nv} {a : EF Bool} {f : EF D} {own : List Nat} {items : List D} {Γ0 : Nv} {n : Nat} (out : Nat → D) (hl : items.length = n) (hn : n ≤ 1000)
    (hstep : ∀ i d, items[i]? = some d → ∃ Γ1 Γ2 Γ3, lg d Γ0 = some Γ1 ∧ a Γ1 = .ok (true, Γ2) ∧ f Γ2 = .ok (out i, Γ3) ∧ wipeN Γ3 own = Γ0) : lcLoop lg a f own items Γ0 [] = .ok (tab n out, Γ0) := by
  have e := lc_rule (g := lg) (a := a) (f := f) (own := own) (items := items) (Γ0 := Γ0) (fun i => some (out i)) (fun i d hd => by
    obtain ⟨Γ1, Γ2, Γ3, e1, e2, e3, e4⟩ := hstep i d hd
    exact ⟨Γ1, Γ2, e1, .inl ⟨_, Γ3, e2, e3, rfl, e4⟩⟩) (by omega)
  rw [e, hl, filterMap_tab fun i _ => rfl]
/-! ### the rows by place -/
def rowAt (t : List Row) (i : Nat) : Row := t.getD i ⟨0, 0, none⟩
theorem rows_tab (t : List Row) : t.map rowD = tab t.length fun i => rowD (rowAt t i) := by
  refine List.ext_getElem? fun j => ?_
  by_cases hj : j < t.length
  · rw [tab_get hj, List.getElem?_map, List.getElem?_eq_getElem hj]
    simp [rowAt, hj]
  · rw [List.getElem?_eq_none (by simpa using hj), List.getElem?_eq_none (by simpa using hj)]
theorem okRows_at : ∀ {t : List Row} {d : Int}, okRows d t → ∀ i, i < t.length → (0 ≤ (rowAt t i).level ∧ (rowAt t i).level ≤ 2) ∧ (∀ v, (rowAt t i).value = some v → -1000000000000 ≤ v ∧ v ≤ 1000000000000) ∧ d ≤ (rowAt t i).day ∧ (rowAt t i).day ≤ 1000000000000
  | [], _, _, i, hi => by simp at hi
  | r :: t, d, h, 0, _ => ⟨h.2.1, h.2.2.1, h.1⟩
  | r :: t, d, h, i + 1, hi => by
    obtain ⟨h1, h2, h3, h4⟩ := okRows_at h.2.2.2 i (by simpa using hi)
    have e : rowAt (r :: t) (i + 1) = rowAt t i := by simp [rowAt]
    rw [e]
    exact ⟨h1, h2, by have := h.1.1; omega, h4⟩
theorem okRows_days : ∀ {t : List Row} {d : Int}, okRows d t → ∀ i j, i ≤ j → j < t.length → (rowAt t i).day ≤ (rowAt t j).day
  | [], _, _, i, j, _, hj => by simp at hj
  | r :: t, d, h, 0, 0, _, _ => Int.le_refl _
  | r :: t, d, h, 0, j + 1, _, hj => by
    have e : rowAt (r :: t) (j + 1) = rowAt t j := by simp [rowAt]
    rw [e]
    exact (okRows_at h.2.2.2 j (by simpa using hj)).2.2.1
  | r :: t, d, h, i + 1, 0, hij, _ => by omega
  | r :: t, d, h, i + 1, j + 1, hij, hj => by
    have e : ∀ k, rowAt (r :: t) (k + 1) = rowAt t k := fun k => by simp [rowAt]
    rw [e, e]
    exact okRows_days h.2.2.2 i j (by omega) (by simpa using hj)
end L

set_option Elab.async false
set_option linter.all false
set_option maxRecDepth 100000
namespace L
open PySem PySem.Spec PyProof.Rows L2 DL
/-! ### the program's checks -/
theorem isN_opt {o : Option Int} : oIsN (optD o) .non = some (.bl o.isNone) := by cases o <;> rfl
theorem notN_opt {o : Option Int} : oNotN (optD o) .non = some (.bl o.isSome) := by cases o <;> rfl
theorem is_limit_ok (o : Option Int) (a b : Int) (h : ∀ i, o = some i → a ≤ i ∧ i ≤ b) : d_is_limit [optD o, .int a, .int b] = .ok (.bl true) := by
  unfold d_is_limit fnP b_is_limit
  cases o with
  | none => simp
  | some i =>
    obtain ⟨h1, h2⟩ := h i rfl
    simp [h1, h2]
theorem way_ne (w : Way) : wayS w ≠ ("drop" : Str) := by cases w <;> decide +kernel
theorem way_strOk (w : Way) : PyData.strOk (wayS w) = true := by cases w <;> decide +kernel
theorem drop_strOk : PyData.strOk (Str.ofString "drop") = true := by decide +kernel
theorem way_beq (w : Way) : (wayS w == Str.ofString "drop") = false := by cases w <;> decide +kernel
theorem drop_beq : (Str.ofString "drop" == Str.ofString "drop") = true := by decide +kernel
theorem eq_drop (s : Fil) : oEq (stepD (some s)) (.tup [.str "drop", .non, .non, .int 2]) = some (.bl false) := by
  obtain ⟨w, r, y, c⟩ := s
  cases r <;> cases y <;>
  simp [oEq, eqB, flatD, stepD, toP, toPs, SeqAt.shaped, PyData.canLay0, PyData.canLayAll0, PyData.depth, PyData.depthAll, PyData.eqv, PyData.eqvAll, way_strOk, drop_strOk, way_beq]
theorem eq_drop' : oEq (stepD none) (.tup [.str "drop", .non, .non, .int 2]) = some (.bl true) := by
  simp [oEq, eqB, flatD, stepD, toP, toPs, SeqAt.shaped, PyData.canLay0, PyData.canLayAll0, PyData.depth, PyData.depthAll, PyData.eqv, PyData.eqvAll, drop_strOk, drop_beq]
theorem in_ways (w : Way) : oNotIn (.str (wayS w)) (.tup [.str "down", .str "up", .str "near_above", .str "near_below"]) = some (.bl false) := by
  cases w <;> rfl
theorem check_step_ok (s : Option Fil) (i : Int) (h : okStep s) : d_check_step [stepD s, .int i] = .ok .non := by
  unfold d_check_step fnP b_check_step
  cases s with
  | none =>
    have := eq_drop'
    simp only [stepD] at this
    simp [stepD, this]
  | some s =>
    obtain ⟨h1, h2, h3, h4⟩ := h
    have e := eq_drop s
    simp only [stepD] at e
    have e2 := is_limit_ok s.rows 1 6 h1
    have e3 := is_limit_ok s.days 0 1000000000 h2
    simp [stepD, e, in_ways, h3, h4, e2, e3, truD]
theorem check_value_ok (o : Option Int) (i : Int) (h : ∀ v, o = some v → -1000000000000 ≤ v ∧ v ≤ 1000000000000) : d_check_value [optD o, .int i] = .ok .non := by
  unfold d_check_value fnP b_check_value
  cases o with
  | none => simp
  | some v =>
    obtain ⟨h1, h2⟩ := h v rfl
    simp [h1, h2]
theorem check_rows_ok (t : List Row) (d : Int) (h : okRows d t) : d_check_rows [.lst (t.map rowD), .int d, .int 0] = .ok .non := by
  unfold d_check_rows fnP b_check_rows
  rw [rows_tab]
  obtain ⟨Γ', e, _⟩ := loop_nx (p := lb_check_rows_1) (g := lt_check_rows_1) (Γ := [.im (.lst (tab t.length fun i => rowD (rowAt t i))), .im (.int d), .im (.int 0), .emp, .emp, .emp, .emp]) (items := enumK 0 (tab t.length fun i => rowD (rowAt t i)))
    (fun i Γ => ∃ z s1 s3 s4 s5 s6, Γ = [.im (.lst (tab t.length fun i => rowD (rowAt t i))), s1, .im (.int 0), s3, s4, s5, s6] ∧ (s1 = .im (.int z) ∨ s1 = .fr (.int z)) ∧ ∀ j, i ≤ j → j < t.length → z ≤ (rowAt t j).day)
    (by
      rintro i x Γ hx ⟨z, s1, s3, s4, s5, s6, rfl, hs, hz⟩
      obtain ⟨rfl, hi⟩ := enumK_get hx
      obtain ⟨⟨l0, l1⟩, v0, d0, d1⟩ := okRows_at h i hi
      have hz' := hz i (Nat.le_refl _) hi
      have e := check_value_ok (rowAt t i).value i v0
      refine ⟨_, [.im (.lst (tab t.length fun i => rowD (rowAt t i))), .fr (.int (rowAt t i).day), .im (.int 0), .im (.int i), .im (.int (rowAt t i).day), .im (.int (rowAt t i).level), .im (optD (rowAt t i).value)], rfl, .inl ?_, _, _, _, _, _, _, rfl, .inr rfl, fun j hj hl => okRows_days h i j (by omega) hl⟩
      rcases hs with rfl | rfl
      all_goals simp [lb_check_rows_1, hz', d1, l0, l1, e])
    ⟨d, _, _, _, _, _, rfl, .inl rfl, fun j _ hj => (okRows_at h j hj).2.2.1⟩
  simp [en2, e]
theorem limB_opt {o : Option Int} {a b : Int} (h : ∀ i, o = some i → a ≤ i ∧ i ≤ b) : limB (optD o) a b = true := by
  cases o with
  | none => rfl
  | some i => exact decide_eq_true (h i rfl)
theorem wayB_way (w : Way) : wayB (wayS w) = true := by cases w <;> decide +kernel
theorem stepB_ok {s : Option Fil} (h : okStep s) : stepB (stepD s) = true := by
  cases s with
  | none => decide +kernel
  | some s =>
    obtain ⟨h1, h2, h3, h4⟩ := h
    unfold stepB stepD
    dsimp only
    rw [wayB_way, limB_opt h1, limB_opt h2, decide_eq_true (show 0 ≤ s.reach ∧ s.reach ≤ 2 from ⟨h3, h4⟩)]
    simp
theorem limB_of {d : D} {a b : Int} (h : limB d a b = true) : ∃ o : Option Int, d = optD o ∧ ∀ i, o = some i → a ≤ i ∧ i ≤ b := by
  unfold limB at h
  split at h
  · exact ⟨none, rfl, fun i h => nomatch h⟩
  · exact ⟨some _, rfl, fun i e => by cases e; exact of_decide_eq_true h⟩
  · cases h
theorem stepB_of {d : D} (h : stepB d = true) : ∃ s, d = stepD s ∧ okStep s := by
  unfold stepB at h
  split at h
  · rename_i w r y c
    rcases (Bool.or_eq_true _ _).mp h with h | h
    · simp only [Bool.and_eq_true, decide_eq_true_eq] at h
      obtain ⟨⟨⟨h1, h2⟩, h3⟩, h4⟩ := h
      subst h1; subst h4
      unfold isNonB at h2 h3
      split at h2
      · split at h3
        · exact ⟨none, rfl, trivial⟩
        · cases h3
      · cases h2
    · simp only [Bool.and_eq_true, decide_eq_true_eq] at h
      obtain ⟨⟨⟨h1, h2⟩, h3⟩, h4⟩ := h
      obtain ⟨o1, rfl, q1⟩ := limB_of h2
      obtain ⟨o2, rfl, q2⟩ := limB_of h3
      have : ∃ w' : Way, w = wayS w' := by
        unfold wayB at h1
        simp only [Bool.or_eq_true, decide_eq_true_eq] at h1
        rcases h1 with ((h | h) | h) | h
        · exact ⟨.down, h⟩
        · exact ⟨.up, h⟩
        · exact ⟨.na, h⟩
        · exact ⟨.nb, h⟩
      obtain ⟨w', rfl⟩ := this
      exact ⟨some ⟨w', o1, o2, c⟩, rfl, q1, q2, h4.1, h4.2⟩
  · cases h
theorem list_tab (zs : List D) : zs = tab zs.length fun i => zs.getD i .non := by
  refine List.ext_getElem? fun j => ?_
  by_cases hj : j < zs.length
  · rw [tab_get hj, List.getElem?_eq_getElem hj]
    simp [hj]
  · rw [List.getElem?_eq_none (by omega), List.getElem?_eq_none (by simpa using hj)]
theorem nolst_step {s : Option Fil} : nolst (stepD s) = true := by
  cases s <;> simp [stepD]
theorem steps_of : ∀ {zs : List D}, zs.all stepB = true → ∃ ss : List (Option Fil), zs = ss.map stepD ∧ ∀ s ∈ ss, okStep s
  | [], _ => ⟨[], rfl, fun _ h => nomatch h⟩
  | z :: zs, h => by
    simp only [List.all_cons, Bool.and_eq_true] at h
    obtain ⟨s, rfl, hs⟩ := stepB_of h.1
    obtain ⟨ss, rfl, hss⟩ := steps_of h.2
    refine ⟨s :: ss, rfl, fun x hx => ?_⟩
    rcases List.mem_cons.mp hx with rfl | hx
    · exact hs
    · exact hss x hx
theorem steps_nolst (ss : List (Option Fil)) : nolsts (ss.map stepD) = true := nolsts_all fun d hd => by
  obtain ⟨s, _, rfl⟩ := List.mem_map.mp hd
  exact nolst_step
theorem steps_stepB {ss : List (Option Fil)} (h : ∀ s ∈ ss, okStep s) : (ss.map stepD).all stepB = true := by
  rw [List.all_eq_true]
  intro d hd
  obtain ⟨s, hs, rfl⟩ := List.mem_map.mp hd
  exact stepB_ok (h s hs)
theorem scriptI_ok {ss : List (Option Fil)} (hl : ss.length ≤ 6) (h : ∀ s ∈ ss, okStep s) : scriptI [.lst (ss.map stepD)] = .ok [.lst (ss.map stepD)] := by
  unfold scriptI
  dsimp only
  rw [if_pos ⟨by simpa using hl, steps_stepB h⟩]
theorem sameRef_self {x : Addr} {Γ Γ' : Nv} : sameRef (Slot.im (.ref x) :: Γ : List Slot)[0]? (Slot.im (.ref x) :: Γ' : List Slot)[0]? = true := by
  simp [DL.sameRef]
theorem scriptI_b (x : Addr) (ds : List D) (h1 : ds.length = 1) (h2 : scriptI ds ≠ .bad) : fnI 1 2 x b_Script___init__ ds = scriptI ds := by
  unfold scriptI
  split
  · rename_i zs
    unfold scriptI at h2
    dsimp only at h2
    by_cases hc : zs.length ≤ 6 ∧ zs.all stepB = true
    · rw [if_pos hc]
      obtain ⟨ss, rfl, hss⟩ := steps_of hc.2
      have hl := hc.1
      simp only [List.length_map] at hl
      have e0 : (ss.map stepD) = tab ss.length fun i => (ss.map stepD).getD i .non := by have := list_tab (ss.map stepD); simpa using this
      obtain ⟨Γ', e, s2, s3, hΓ⟩ := loop_nx (p := lb_Script___init___1) (g := lt_Script___init___1) (Γ := [.im (.ref x), .im (.lst (ss.map stepD)), .emp, .emp]) (items := enumD (ss.map stepD))
        (fun i Γ => ∃ s2 s3, Γ = [.im (.ref x), .im (.lst (ss.map stepD)), s2, s3])
        (by
          rintro i d Γ hd ⟨s2, s3, rfl⟩
          rw [e0] at hd
          obtain ⟨rfl, hi⟩ := enum_get hd
          have hs : (ss.map stepD).getD i .non = stepD ss[i] := by simp [hi]
          rw [hs]
          have e := check_step_ok ss[i] i (hss _ (List.getElem_mem hi))
          refine ⟨_, [.im (.ref x), .im (.lst (ss.map stepD)), .im (.int i), .im (stepD ss[i])], rfl, .inl ?_, _, _, rfl⟩
          simp [lb_Script___init___1, e])
        ⟨_, _, rfl⟩
      subst hΓ
      have h6 : ¬ (6 : Int) < (ss.length : Int) := by omega
      unfold fnI b_Script___init__
      simp [dPre, dFld1, DL.sameRef, h6, enA, oList, seqOf, e, steps_nolst]
    · rw [if_neg hc] at h2
      exact absurd rfl h2
  · unfold fnI b_Script___init__
    simp [dPre, dFld1, DL.sameRef, enA, oList, seqOf, dLoop, enumD]
  · rename_i hx hy
    refine absurd ?_ h2
    unfold scriptI
    split
    · rename_i zs
      exact absurd rfl (hx zs)
    · exact absurd rfl hy
    · rfl
end L

set_option Elab.async false
set_option linter.all false
set_option maxRecDepth 100000
namespace L
open PySem PySem.Spec PyProof.Rows L2 DL
/-! ### one step: what it takes from above and from below -/
@[simp] theorem at0 {a : D} {r : List D} : atI (a :: r) 0 = some a := atI_ok (by omega) rfl
@[simp] theorem at1 {a b : D} {r : List D} : atI (a :: b :: r) 1 = some b := atI_ok (by omega) rfl
@[simp] theorem at2 {a b c : D} {r : List D} : atI (a :: b :: c :: r) 2 = some c := atI_ok (by omega) rfl
@[simp] theorem at3 {a b c d : D} {r : List D} : atI (a :: b :: c :: d :: r) 3 = some d := atI_ok (by omega) rfl
def optN : Option Nat → D
  | none => .non
  | some i => .int i
@[simp] theorem optN_none : optN none = .non := rfl
@[simp] theorem optN_some {i : Nat} : optN (some i) = .int i := rfl
@[simp] theorem nolst_optN {o : Option Nat} : nolst (optN o) = true := by cases o <;> simp
theorem isN_optN {o : Option Nat} : oIsN (optN o) .non = some (.bl o.isNone) := by cases o <;> rfl
theorem notN_optN {o : Option Nat} : oNotN (optN o) .non = some (.bl o.isSome) := by cases o <;> rfl
abbrev Src := Nat → Option Nat
abbrev Tab := Nat → Row
/-- the nearest place above i that has a value -/
def nearA (f : Src) : Nat → Option Nat
  | 0 => none
  | i + 1 => if (f i).isSome then some i else nearA f i
/-- the greatest level behind it and above i -/
def highA (t : Tab) (f : Src) : Nat → Int
  | 0 => 0
  | i + 1 => if (f i).isSome then 0 else if (nearA f i).isSome then (if highA t f i < (t i).level then (t i).level else highA t f i) else highA t f i
/-- the nearest place from i on, m rows, that has a value -/
def nearB (f : Src) : Nat → Nat → Option Nat
  | 0, _ => none
  | m + 1, i => if (f i).isSome then some i else nearB f m (i + 1)
def highB (t : Tab) (f : Src) : Nat → Nat → Int
  | 0, _ => 0
  | m + 1, i => if (f i).isSome then (t i).level else if (nearB f m (i + 1)).isSome then (if highB t f m (i + 1) < (t i).level then (t i).level else highB t f m (i + 1)) else highB t f m (i + 1)
def near_le (o : Option Int) (x : Int) : Bool := match o with | none => true | some r => decide (x ≤ r)
def absI (x : Int) : Int := if x < 0 then -x else x
/-- the value at j is in time at k -/
def inTime (t : Tab) (f : Src) (s : Fil) (j k : Nat) : Bool := match f j with | none => false | some m => near_le s.days (absI ((t k).day - (t m).day))
def candA (t : Tab) (f : Src) (s : Fil) (k : Nat) : Option Nat := match nearA f k with
  | none => none
  | some j => if (decide (highA t f (k + 1) ≤ s.reach) && near_le s.rows ((k : Int) - j)) && inTime t f s j k then some j else none
def candB (n : Nat) (t : Tab) (f : Src) (s : Fil) (k : Nat) : Option Nat := match nearB f (n - (k + 1)) (k + 1) with
  | none => none
  | some j => if (decide (highB t f (n - (k + 1)) (k + 1) ≤ s.reach) && near_le s.rows ((j : Int) - k)) && inTime t f s j k then some j else none
theorem nearA_lt {f : Src} : ∀ {i j : Nat}, nearA f i = some j → j < i ∧ (f j).isSome = true
  | 0, j, h => nomatch h
  | i + 1, j, h => by
    unfold nearA at h
    split at h
    · cases h; exact ⟨by omega, by assumption⟩
    · obtain ⟨h1, h2⟩ := nearA_lt h
      exact ⟨by omega, h2⟩
theorem nearB_ge {f : Src} : ∀ {m i j : Nat}, nearB f m i = some j → i ≤ j ∧ j < i + m ∧ (f j).isSome = true
  | 0, i, j, h => nomatch h
  | m + 1, i, j, h => by
    unfold nearB at h
    split at h
    · cases h; exact ⟨by omega, by omega, by assumption⟩
    · obtain ⟨h1, h2, h3⟩ := nearB_ge h
      exact ⟨by omega, by omega, h3⟩
def tabR (n : Nat) (t : Tab) : List D := tab n fun i => rowD (t i)
def tabS (n : Nat) (f : Src) : List D := tab n fun i => optN (f i)
@[simp] theorem tabR_len {n : Nat} {t : Tab} : (tabR n t).length = n := by simp [tabR]
@[simp] theorem tabS_len {n : Nat} {f : Src} : (tabS n f).length = n := by simp [tabS]
theorem tabR_at {n i : Nat} {t : Tab} (h : i < n) : atI (tabR n t) (i : Int) = some (rowD (t i)) := tab_at (g := fun i => rowD (t i)) h
theorem tabS_at {n i : Nat} {f : Src} (h : i < n) : atI (tabS n f) (i : Int) = some (optN (f i)) := tab_at (g := fun i => optN (f i)) h
theorem le_optD {x : Int} {r : Int} : oLe (.int x) (optD (some r)) = some (.bl (decide (x ≤ r))) := rfl
theorem in_time_ok {n : Nat} {t : Tab} {f : Src} {s : Fil} {j k m : Nat} (hk : k < n) (hj : j < n) (hm : f j = some m) (hmn : m < n) : d_in_time [.lst (tabR n t), .lst (tabS n f), .int j, .int k, optD s.days] = .ok (.bl (inTime t f s j k)) := by
  unfold d_in_time fnP b_in_time inTime
  rw [hm]
  obtain ⟨w, r, y, c⟩ := s
  have e1 := tabR_at (t := t) hk
  have e2 := tabR_at (t := t) hmn
  have e3 := tabS_at (f := f) hj
  rw [hm] at e3
  cases y with
  | none => simp [near_le]
  | some y =>
    simp [near_le, e1, e2, e3, rowD, absI]
    rfl
/-- what from_above finds at k -/
def fdA (t : Tab) (f : Src) (s : Fil) (k : Nat) : D := if (f k).isSome then .non else optN (candA t f s k)
def fdB (n : Nat) (t : Tab) (f : Src) (s : Fil) (k : Nat) : D := if (f k).isSome then .non else optN (candB n t f s k)
theorem nolst_fdA {t : Tab} {f : Src} {s : Fil} {k : Nat} : nolst (fdA t f s k) = true := by unfold fdA; split <;> simp
theorem nolst_fdB {n : Nat} {t : Tab} {f : Src} {s : Fil} {k : Nat} : nolst (fdB n t f s k) = true := by unfold fdB; split <;> simp
theorem tab_upto {n i : Nat} {g : Nat → D} {d : D} (hd : g i = d) : (tab n fun j => if j = i then d else if j < i then g j else .non) = tab n fun j => if j < i + 1 then g j else .non := tab_ext fun j _ => by
  by_cases h : j = i
  · subst h; rw [if_pos rfl, if_pos (by omega), hd]
  · rw [if_neg h]
    by_cases h2 : j < i
    · rw [if_pos h2, if_pos (by omega)]
    · rw [if_neg h2, if_neg (by omega)]
theorem tab_same {n i : Nat} {g : Nat → D} (hd : g i = .non) : (tab n fun j => if j < i then g j else .non) = tab n fun j => if j < i + 1 then g j else .non := tab_ext fun j _ => by
  by_cases h : j = i
  · subst h; rw [if_neg (by omega), if_pos (by omega), hd]
  · by_cases h2 : j < i
    · rw [if_pos h2, if_pos (by omega)]
    · rw [if_neg h2, if_neg (by omega)]
theorem above_step {n i : Nat} {t : Tab} {f : Src} {s : Fil} {s9 s10 : Slot} (hi : i < n) (hf : ∀ k m, k < n → f k = some m → m < n) :
    ∃ s9 s10, lb_from_above_1 [.im (.lst (tabR n t)), .im (.lst (tabS n f)), .im (stepD (some s)), .im (optD s.rows), .im (optD s.days), .im (.int s.reach), .own (tab n fun k => if k < i then fdA t f s k else .non), .fr (optN (nearA f i)), .fr (.int (highA t f i)), .im (.int i), .im (rowD (t i))] =
      .ok (.nx, [.im (.lst (tabR n t)), .im (.lst (tabS n f)), .im (stepD (some s)), .im (optD s.rows), .im (optD s.days), .im (.int s.reach), .own (tab n fun k => if k < i + 1 then fdA t f s k else .non), .fr (optN (nearA f (i + 1))), .fr (.int (highA t f (i + 1))), s9, s10]) := by
  refine ⟨.im (.int i), .im (rowD (t i)), ?_⟩
  have e1 := tabS_at (f := f) hi
  have hset := fun d hd (Γ : Nv) (h : (Γ : List Slot)[6]? = _) => set_tab (Γ := Γ) (i := 6) (n := n) (k := i) (g := fun k => if k < i then fdA t f s k else .non) (d := d) h hd hi
  cases hs : f i with
  | some m =>
    have e2 : fdA t f s i = .non := by unfold fdA; rw [hs]; rfl
    rw [hs] at e1
    rw [← tab_same e2]
    simp [lb_from_above_1, e1, nearA, highA, hs]
  | none =>
    rw [hs] at e1
    cases hn : nearA f i with
    | none =>
      have e2 : fdA t f s i = .non := by unfold fdA candA; rw [hs, hn]; rfl
      rw [← tab_same e2]
      simp [lb_from_above_1, e1, nearA, highA, hs, hn]
    | some j =>
      obtain ⟨hj, hjs⟩ := nearA_lt hn
      obtain ⟨m, hm⟩ := Option.isSome_iff_exists.mp hjs
      have e3 := in_time_ok (t := t) (s := s) hi (show j < n by omega) hm (hf j m (by omega) hm)
      have eh : highA t f (i + 1) = if highA t f i < (t i).level then (t i).level else highA t f i := by
        rw [highA, hs, hn]; simp
      have en : nearA f (i + 1) = some j := by rw [nearA, hs, hn]; simp
      have e2 : fdA t f s i = if (decide (highA t f (i + 1) ≤ s.reach) && near_le s.rows ((i : Int) - j)) && inTime t f s j i then .int j else .non := by
        unfold fdA candA
        rw [hs, hn]
        simp only [Option.isSome_none, Bool.false_eq_true, if_false]
        split <;> rfl
      rw [en, eh]
      have el : oIx (rowD (t i)) (.int 1) = some (.int (t i).level) := by simp [rowD]
      have put : ∀ {Γ : Nv} (d : D), d = fdA t f s i → (Γ : List Slot)[6]? = some (.own (tab n fun k => if k < i then fdA t f s k else .non)) → setAt 6 d (.int i) Γ = some (Γ.set 6 (.own (tab n fun k => if k < i + 1 then fdA t f s k else .non))) := fun d hd h => by
        have hn : nolst d = true := by rw [hd]; exact nolst_fdA
        rw [set_tab (n := n) (k := i) h hn hi, hd, tab_upto (g := fun k => fdA t f s k) rfl]
      rw [eh] at e2
      obtain ⟨w, r, y, c⟩ := s
      dsimp only at *
      by_cases c0 : highA t f i < (t i).level
      · rw [if_pos c0] at e2 ⊢
        by_cases c1 : (t i).level ≤ c
        · cases r with
          | none =>
            by_cases c3 : inTime t f ⟨w, none, y, c⟩ j i = true
            · have e5 := fun Γ h => put (Γ := Γ) (.int j) (by rw [e2]; simp [c1, near_le, c3]) h
              simp [lb_from_above_1, e1, el, c0, c1, e3, c3, truD, e5]
            · have e5 := fun Γ h => put (Γ := Γ) .non (by rw [e2]; simp [c1, near_le, c3]) h
              simp [lb_from_above_1, e1, el, c0, c1, e3, c3, truD, e5]
          | some r =>
            by_cases c2 : (i : Int) - j ≤ r
            · by_cases c3 : inTime t f ⟨w, some r, y, c⟩ j i = true
              · have e5 := fun Γ h => put (Γ := Γ) (.int j) (by rw [e2]; simp [c1, near_le, c2, c3]) h
                simp [lb_from_above_1, e1, el, c0, c1, c2, e3, c3, truD, e5]
              · have e5 := fun Γ h => put (Γ := Γ) .non (by rw [e2]; simp [c1, near_le, c2, c3]) h
                simp [lb_from_above_1, e1, el, c0, c1, c2, e3, c3, truD, e5]
            · have e6 : fdA t f ⟨w, some r, y, c⟩ i = .non := by rw [e2]; simp [near_le, c2]
              rw [← tab_same e6]
              simp [lb_from_above_1, e1, el, c0, c1, c2]
        · have e6 : fdA t f ⟨w, r, y, c⟩ i = .non := by rw [e2]; simp [c1]
          rw [← tab_same e6]
          simp [lb_from_above_1, e1, el, c0, c1]
      · rw [if_neg c0] at e2 ⊢
        by_cases c1 : highA t f i ≤ c
        · cases r with
          | none =>
            by_cases c3 : inTime t f ⟨w, none, y, c⟩ j i = true
            · have e5 := fun Γ h => put (Γ := Γ) (.int j) (by rw [e2]; simp [c1, near_le, c3]) h
              simp [lb_from_above_1, e1, el, c0, c1, e3, c3, truD, e5]
            · have e5 := fun Γ h => put (Γ := Γ) .non (by rw [e2]; simp [c1, near_le, c3]) h
              simp [lb_from_above_1, e1, el, c0, c1, e3, c3, truD, e5]
          | some r =>
            by_cases c2 : (i : Int) - j ≤ r
            · by_cases c3 : inTime t f ⟨w, some r, y, c⟩ j i = true
              · have e5 := fun Γ h => put (Γ := Γ) (.int j) (by rw [e2]; simp [c1, near_le, c2, c3]) h
                simp [lb_from_above_1, e1, el, c0, c1, c2, e3, c3, truD, e5]
              · have e5 := fun Γ h => put (Γ := Γ) .non (by rw [e2]; simp [c1, near_le, c2, c3]) h
                simp [lb_from_above_1, e1, el, c0, c1, c2, e3, c3, truD, e5]
            · have e6 : fdA t f ⟨w, some r, y, c⟩ i = .non := by rw [e2]; simp [near_le, c2]
              rw [← tab_same e6]
              simp [lb_from_above_1, e1, el, c0, c1, c2]
        · have e6 : fdA t f ⟨w, r, y, c⟩ i = .non := by rw [e2]; simp [c1]
          rw [← tab_same e6]
          simp [lb_from_above_1, e1, el, c0, c1]
end L

set_option Elab.async false
set_option linter.all false
set_option maxRecDepth 100000
namespace L
open PySem PySem.Spec PyProof.Rows L2 DL
theorem cut_step {a b c d : D} (h : nolsts [a, b, c, d] = true) : slD (.tup [a, b, c, d]) (some 1) none = some (.tup [b, c, d]) := by
  unfold slD
  dsimp only
  have e : ¬ (HT.sIx 4 0 (some 1) = 0 ∧ HT.sIx 4 4 none = 4) := by decide
  rw [if_pos ⟨e, h⟩]
  rfl
theorem from_above_ok {n : Nat} {t : Tab} {f : Src} {s : Fil} (hn : n ≤ 1000) (hf : ∀ k m, k < n → f k = some m → m < n) : d_from_above [.lst (tabR n t), .lst (tabS n f), stepD (some s)] = .ok (.lst (tab n (fdA t f s))) := by
  obtain ⟨Γ', e, s9, s10, hΓ⟩ := loop_nx (p := lb_from_above_1) (g := lt_from_above_1) (Γ := [.im (.lst (tabR n t)), .im (.lst (tabS n f)), .im (stepD (some s)), .im (optD s.rows), .im (optD s.days), .im (.int s.reach), .own (tab n fun _ => .non), .fr .non, .fr (.int 0), .emp, .emp]) (items := enumD (tabR n t))
    (fun i Γ => ∃ s9 s10, Γ = [.im (.lst (tabR n t)), .im (.lst (tabS n f)), .im (stepD (some s)), .im (optD s.rows), .im (optD s.days), .im (.int s.reach), .own (tab n fun k => if k < i then fdA t f s k else .non), .fr (optN (nearA f i)), .fr (.int (highA t f i)), s9, s10])
    (by
      rintro i d Γ hd ⟨s9, s10, rfl⟩
      obtain ⟨rfl, hi⟩ := enum_get hd
      obtain ⟨s9', s10', e⟩ := above_step (s := s) (s9 := s9) (s10 := s10) hi hf
      exact ⟨_, _, rfl, .inl e, _, _, rfl⟩)
    (by
      have e0 : (tab n fun k => if k < 0 then fdA t f s k else .non) = tab n fun _ => .non := tab_ext fun k _ => if_neg (by omega)
      refine ⟨.emp, .emp, ?_⟩
      rw [e0]; rfl)
  subst hΓ
  have hl : n ≤ 100000 := by omega
  have er := rep_non hl
  have ef : (tab n fun k => if k < (enumD (tabR n t)).length then fdA t f s k else .non) = tab n (fdA t f s) := tab_ext fun k hk => if_pos (by simpa using hk)
  rw [ef] at e
  have nl : nolsts (tab n fun _ => D.non) = true := tab_nolst fun _ _ => by simp
  obtain ⟨w, r, y, c⟩ := s
  dsimp only at e
  have es : slD (stepD (some ⟨w, r, y, c⟩)) (some 1) none = some (.tup [optD r, optD y, .int c]) := cut_step (by simp)
  have hS : dAsgG (dgT (dgsCons (dgN 3) (dgsCons (dgN 4) (dgsCons (dgN 5) dgsNil)))) (dSl (dV 2) (dP (dC (.int 1))) dNoP) [.im (.lst (tabR n t)), .im (.lst (tabS n f)), .im (stepD (some ⟨w, r, y, c⟩)), .emp, .emp, .emp, .emp, .emp, .emp, .emp, .emp] = .ok (.nx, [.im (.lst (tabR n t)), .im (.lst (tabS n f)), .im (stepD (some ⟨w, r, y, c⟩)), .im (optD r), .im (optD y), .im (.int c), .emp, .emp, .emp, .emp, .emp]) := by
    simp [es]
  have sz : 1 ≤ sizeLine := natSize (by decide)
  refine fnP_eq rfl ((congrArg resP (seq_nx hS)).trans ?_)
  simp [er, nl, en1, e, frz, sz]
end L

set_option Elab.async false
set_option linter.all false
set_option maxRecDepth 100000
namespace L
open PySem PySem.Spec PyProof.Rows L2 DL
theorem tab_downto {n k : Nat} {g : Nat → D} {d : D} (hd : g k = d) : (tab n fun j => if j = k then d else if k + 1 ≤ j then g j else .non) = tab n fun j => if k ≤ j then g j else .non := tab_ext fun j _ => by
  by_cases h : j = k
  · subst h; rw [if_pos rfl, if_pos (by omega), hd]
  · rw [if_neg h]
    by_cases h2 : k + 1 ≤ j
    · rw [if_pos h2, if_pos (by omega)]
    · rw [if_neg h2, if_neg (by omega)]
theorem tab_same2 {n k : Nat} {g : Nat → D} (hd : g k = .non) : (tab n fun j => if k + 1 ≤ j then g j else .non) = tab n fun j => if k ≤ j then g j else .non := tab_ext fun j _ => by
  by_cases h : j = k
  · subst h; rw [if_neg (by omega), if_pos (by omega), hd]
  · by_cases h2 : k + 1 ≤ j
    · rw [if_pos h2, if_pos (by omega)]
    · rw [if_neg h2, if_neg (by omega)]
theorem below_step {n k i : Nat} {t : Tab} {f : Src} {s : Fil} (hk : k < n) (hi : i = n - (k + 1)) (hf : ∀ k m, k < n → f k = some m → m < n) :
    lb_from_below_1 [.im (.lst (tabR n t)), .im (.lst (tabS n f)), .im (stepD (some s)), .im (optD s.rows), .im (optD s.days), .im (.int s.reach), .own (tab n fun j => if k + 1 ≤ j then fdB n t f s j else .non), .fr (optN (nearB f i (k + 1))), .fr (.int (highB t f i (k + 1))), .im (.int k)] =
      .ok (.nx, [.im (.lst (tabR n t)), .im (.lst (tabS n f)), .im (stepD (some s)), .im (optD s.rows), .im (optD s.days), .im (.int s.reach), .own (tab n fun j => if k ≤ j then fdB n t f s j else .non), .fr (optN (nearB f (i + 1) k)), .fr (.int (highB t f (i + 1) k)), .im (.int k)]) := by
  have e1 := tabS_at (f := f) hk
  have eR := tabR_at (t := t) hk
  have el : oIx (rowD (t k)) (.int 1) = some (.int (t k).level) := by simp [rowD]
  cases hs : f k with
  | some m =>
    have e2 : fdB n t f s k = .non := by unfold fdB; rw [hs]; rfl
    rw [hs] at e1
    rw [← tab_same2 e2]
    simp [lb_from_below_1, e1, eR, el, nearB, highB, hs]
  | none =>
    rw [hs] at e1
    cases hn : nearB f i (k + 1) with
    | none =>
      have e2 : fdB n t f s k = .non := by unfold fdB candB; rw [hs, ← hi, hn]; rfl
      rw [← tab_same2 e2]
      simp [lb_from_below_1, e1, nearB, highB, hs, hn]
    | some j =>
      obtain ⟨hj1, hj2, hjs⟩ := nearB_ge hn
      obtain ⟨m, hm⟩ := Option.isSome_iff_exists.mp hjs
      have hjn : j < n := by omega
      have e3 := in_time_ok (t := t) (s := s) hk hjn hm (hf j m hjn hm)
      have eh : highB t f (i + 1) k = if highB t f i (k + 1) < (t k).level then (t k).level else highB t f i (k + 1) := by
        rw [highB, hs, hn]; simp
      have en : nearB f (i + 1) k = some j := by rw [nearB, hs, hn]; simp
      have e2 : fdB n t f s k = if (decide (highB t f i (k + 1) ≤ s.reach) && near_le s.rows ((j : Int) - k)) && inTime t f s j k then .int j else .non := by
        unfold fdB candB
        rw [hs, ← hi, hn]
        simp only [Option.isSome_none, Bool.false_eq_true, if_false]
        split <;> rfl
      rw [en, eh]
      have put : ∀ {Γ : Nv} (d : D), d = fdB n t f s k → (Γ : List Slot)[6]? = some (.own (tab n fun j => if k + 1 ≤ j then fdB n t f s j else .non)) → setAt 6 d (.int k) Γ = some (Γ.set 6 (.own (tab n fun j => if k ≤ j then fdB n t f s j else .non))) := fun d hd h => by
        have hn : nolst d = true := by rw [hd]; exact nolst_fdB
        rw [set_tab (n := n) (k := k) h hn hk, hd, tab_downto (g := fun j => fdB n t f s j) rfl]
      have same : fdB n t f s k = .non → (tab n fun j => if k + 1 ≤ j then fdB n t f s j else .non) = tab n fun j => if k ≤ j then fdB n t f s j else .non := fun h => tab_same2 h
      obtain ⟨w, r, y, c⟩ := s
      dsimp only at *
      by_cases c0 : highB t f i (k + 1) < (t k).level
      · rw [if_pos c0]
        by_cases c1 : highB t f i (k + 1) ≤ c
        · cases r with
          | none =>
            by_cases c3 : inTime t f ⟨w, none, y, c⟩ j k = true
            · have e5 := fun Γ h => put (Γ := Γ) (.int j) (by rw [e2]; simp [c1, near_le, c3]) h
              simp [lb_from_below_1, e1, el, eR, c0, c1, e3, c3, truD, e5]
            · have e5 := fun Γ h => put (Γ := Γ) .non (by rw [e2]; simp [c1, near_le, c3]) h
              simp [lb_from_below_1, e1, el, eR, c0, c1, e3, c3, truD, e5]
          | some r =>
            by_cases c2 : (j : Int) - k ≤ r
            · by_cases c3 : inTime t f ⟨w, some r, y, c⟩ j k = true
              · have e5 := fun Γ h => put (Γ := Γ) (.int j) (by rw [e2]; simp [c1, near_le, c2, c3]) h
                simp [lb_from_below_1, e1, el, eR, c0, c1, c2, e3, c3, truD, e5]
              · have e5 := fun Γ h => put (Γ := Γ) .non (by rw [e2]; simp [c1, near_le, c2, c3]) h
                simp [lb_from_below_1, e1, el, eR, c0, c1, c2, e3, c3, truD, e5]
            · have e6 : fdB n t f ⟨w, some r, y, c⟩ k = .non := by rw [e2]; simp [near_le, c2]
              rw [← same e6]
              simp [lb_from_below_1, e1, el, eR, c0, c1, c2]
        · have e6 : fdB n t f ⟨w, r, y, c⟩ k = .non := by rw [e2]; simp [c1]
          rw [← same e6]
          simp [lb_from_below_1, e1, el, eR, c0, c1]
      · rw [if_neg c0]
        by_cases c1 : highB t f i (k + 1) ≤ c
        · cases r with
          | none =>
            by_cases c3 : inTime t f ⟨w, none, y, c⟩ j k = true
            · have e5 := fun Γ h => put (Γ := Γ) (.int j) (by rw [e2]; simp [c1, near_le, c3]) h
              simp [lb_from_below_1, e1, el, eR, c0, c1, e3, c3, truD, e5]
            · have e5 := fun Γ h => put (Γ := Γ) .non (by rw [e2]; simp [c1, near_le, c3]) h
              simp [lb_from_below_1, e1, el, eR, c0, c1, e3, c3, truD, e5]
          | some r =>
            by_cases c2 : (j : Int) - k ≤ r
            · by_cases c3 : inTime t f ⟨w, some r, y, c⟩ j k = true
              · have e5 := fun Γ h => put (Γ := Γ) (.int j) (by rw [e2]; simp [c1, near_le, c2, c3]) h
                simp [lb_from_below_1, e1, el, eR, c0, c1, c2, e3, c3, truD, e5]
              · have e5 := fun Γ h => put (Γ := Γ) .non (by rw [e2]; simp [c1, near_le, c2, c3]) h
                simp [lb_from_below_1, e1, el, eR, c0, c1, c2, e3, c3, truD, e5]
            · have e6 : fdB n t f ⟨w, some r, y, c⟩ k = .non := by rw [e2]; simp [near_le, c2]
              rw [← same e6]
              simp [lb_from_below_1, e1, el, eR, c0, c1, c2]
        · have e6 : fdB n t f ⟨w, r, y, c⟩ k = .non := by rw [e2]; simp [c1]
          rw [← same e6]
          simp [lb_from_below_1, e1, el, eR, c0, c1]
theorem rangeC_get {lo c : Int} {n i : Nat} {d : D} (h : (rangeC lo c n)[i]? = some d) : d = .int (lo + i * c) ∧ i < n := by
  unfold rangeC at h
  rw [List.getElem?_map] at h
  obtain ⟨j, e, rfl⟩ := Option.map_eq_some_iff.mp h
  obtain ⟨hl, e⟩ := List.getElem?_eq_some_iff.mp e
  simp at e hl
  subst e
  exact ⟨rfl, hl⟩
theorem rangeC_len {lo c : Int} {n : Nat} : (rangeC lo c n).length = n := by simp [rangeC]
theorem from_below_ok {n : Nat} {t : Tab} {f : Src} {s : Fil} (hn : n ≤ 1000) (hf : ∀ k m, k < n → f k = some m → m < n) : d_from_below [.lst (tabR n t), .lst (tabS n f), stepD (some s)] = .ok (.lst (tab n (fdB n t f s))) := by
  obtain ⟨Γ', e, s9, hΓ⟩ := loop_nx (p := lb_from_below_1) (g := lt_from_below_1) (Γ := [.im (.lst (tabR n t)), .im (.lst (tabS n f)), .im (stepD (some s)), .im (optD s.rows), .im (optD s.days), .im (.int s.reach), .own (tab n fun _ => .non), .fr .non, .fr (.int 0), .emp]) (items := rangeC ((n : Int) - 1) (-1) n)
    (fun i Γ => ∃ s9, Γ = [.im (.lst (tabR n t)), .im (.lst (tabS n f)), .im (stepD (some s)), .im (optD s.rows), .im (optD s.days), .im (.int s.reach), .own (tab n fun k => if n - i ≤ k then fdB n t f s k else .non), .fr (optN (nearB f i (n - i))), .fr (.int (highB t f i (n - i))), s9])
    (by
      rintro i d Γ hd ⟨s9, rfl⟩
      obtain ⟨rfl, hi⟩ := rangeC_get hd
      have e := below_step (n := n) (k := n - (i + 1)) (i := i) (t := t) (f := f) (s := s) (by omega) (by omega) hf
      have h1 : n - (i + 1) + 1 = n - i := by omega
      rw [h1] at e
      have h2 : ((n : Int) - 1 + (i : Int) * -1) = ((n - (i + 1) : Nat) : Int) := by omega
      rw [h2]
      exact ⟨_, _, rfl, .inl e, _, rfl⟩)
    (by
      have e0 : (tab n fun k => if n - 0 ≤ k then fdB n t f s k else .non) = tab n fun _ => .non := tab_ext fun k hk => if_neg (by omega)
      refine ⟨.emp, ?_⟩
      rw [e0]; rfl)
  subst hΓ
  have hl : n ≤ 100000 := by omega
  have er := rep_non hl
  have ef : (tab n fun k => if n - (rangeC ((n : Int) - 1) (-1) n).length ≤ k then fdB n t f s k else .non) = tab n (fdB n t f s) := tab_ext fun k hk => if_pos (by rw [rangeC_len]; omega)
  rw [ef] at e
  have nl : nolsts (tab n fun _ => D.non) = true := tab_nolst fun _ _ => by simp
  obtain ⟨w, r, y, c⟩ := s
  dsimp only at e
  have es : slD (stepD (some ⟨w, r, y, c⟩)) (some 1) none = some (.tup [optD r, optD y, .int c]) := cut_step (by simp)
  have hS : dAsgG (dgT (dgsCons (dgN 3) (dgsCons (dgN 4) (dgsCons (dgN 5) dgsNil)))) (dSl (dV 2) (dP (dC (.int 1))) dNoP) [.im (.lst (tabR n t)), .im (.lst (tabS n f)), .im (stepD (some ⟨w, r, y, c⟩)), .emp, .emp, .emp, .emp, .emp, .emp, .emp] = .ok (.nx, [.im (.lst (tabR n t)), .im (.lst (tabS n f)), .im (stepD (some ⟨w, r, y, c⟩)), .im (optD r), .im (optD y), .im (.int c), .emp, .emp, .emp, .emp]) := by
    simp [es]
  have sz : 1 ≤ sizeLine := natSize (by decide)
  have hr : inRg (n : Int) := ⟨by omega, by omega⟩
  have hz : (0 + (((n : Int) - 0).toNat : Int) - 1) = (n : Int) - 1 := by omega
  have hz2 : ((n : Int) - 0).toNat = n := by omega
  refine fnP_eq rfl ((congrArg resP (seq_nx hS)).trans ?_)
  have hV : dRev1 (dCB oLen (dCons (dV 0) dNil)) [.im (.lst (tabR n t)), .im (.lst (tabS n f)), .im (stepD (some ⟨w, r, y, c⟩)), .im (optD r), .im (optD y), .im (.int c), .own (tab n fun _ => .non), .fr .non, .fr (.int 0), .emp] = .ok (rangeC ((n : Int) - 1) (-1) n, [.im (.lst (tabR n t)), .im (.lst (tabS n f)), .im (stepD (some ⟨w, r, y, c⟩)), .im (optD r), .im (optD y), .im (.int c), .own (tab n fun _ => .non), .fr .non, .fr (.int 0), .emp]) := by
    unfold dRev1
    simp only [ev_cb, ev_cbK, ev_cons, ev_consK, ev_consL, ev_V, ev_Nil, List.getElem?_cons_zero, R.bind_ok, ev_lenL, tabR_len, ev_liftO]
    rw [if_pos hr, hz, hz2]
  simp [er, nl, hV, e, frz, sz]
end L

set_option Elab.async false
set_option linter.all false
set_option maxRecDepth 100000
namespace L
open PySem PySem.Spec PyProof.Rows L2 DL
/-! ### a run of steps -/
/-- which of both an empty cell at k takes -/
def pick (w : Way) (k : Nat) (a b : Option Nat) : Option Nat := match w with
  | .down => a
  | .up => b
  | w => match a, b with
    | a, none => a
    | none, b => b
    | some i, some j => if (k : Int) - i = (j : Int) - k then (match w with | .na => some i | _ => some j) else if (k : Int) - i < (j : Int) - k then some i else some j
theorem s_du : ¬ (Str.ofString "up" = Str.ofString "down") := by decide +kernel
theorem s_ad : ¬ (Str.ofString "near_above" = Str.ofString "down") := by decide +kernel
theorem s_bd : ¬ (Str.ofString "near_below" = Str.ofString "down") := by decide +kernel
theorem s_au : ¬ (Str.ofString "near_above" = Str.ofString "up") := by decide +kernel
theorem s_bu : ¬ (Str.ofString "near_below" = Str.ofString "up") := by decide +kernel
theorem s_ba : ¬ (Str.ofString "near_below" = Str.ofString "near_above") := by decide +kernel
theorem chosen_ok (w : Way) (k : Nat) (a b : Option Nat) : d_chosen [.str (wayS w), .int k, optN a, optN b] = .ok (optN (pick w k a b)) := by
  unfold d_chosen fnP b_chosen pick
  cases w
  · simp [wayS]
  · cases b <;> simp [wayS, s_du]
  · cases b with
    | none => cases a <;> simp [wayS, s_ad, s_au]
    | some j =>
      cases a with
      | none => simp [wayS, s_ad, s_au]
      | some i =>
        by_cases c : (k : Int) - i = (j : Int) - k
        · simp [wayS, s_ad, s_au, c]
        · by_cases c2 : (k : Int) - i < (j : Int) - k
          · simp [wayS, s_ad, s_au, c, c2]
          · simp [wayS, s_ad, s_au, c, c2]
  · cases b with
    | none => cases a <;> simp [wayS, s_bd, s_bu]
    | some j =>
      cases a with
      | none => simp [wayS, s_bd, s_bu]
      | some i =>
        by_cases c : (k : Int) - i = (j : Int) - k
        · simp [wayS, s_bd, s_bu, s_ba, c]
        · by_cases c2 : (k : Int) - i < (j : Int) - k
          · simp [wayS, s_bd, s_bu, c, c2]
          · simp [wayS, s_bd, s_bu, c, c2]
/-- what fills the cell at k, empty so far: a place with a value -/
def takes (n : Nat) (t : Tab) (s : Fil) (f : Src) (k : Nat) : Option Nat := pick s.way k (candA t f s k) (candB n t f s k)
def newS (n : Nat) (t : Tab) (s : Fil) (f : Src) : Src := fun k => if (f k).isSome then f k else (takes n t s f k).bind f
def newB (n : Nat) (t : Tab) (s : Fil) (num : Nat) (f b : Src) : Src := fun k => if (f k).isSome then b k else match takes n t s f k with | none => b k | some _ => some num
theorem candA_some {t : Tab} {f : Src} {s : Fil} {k j : Nat} (h : candA t f s k = some j) : nearA f k = some j ∧ j < k ∧ (f j).isSome = true := by
  unfold candA at h
  split at h
  · cases h
  · rename_i i e
    split at h
    · cases h; exact ⟨e, nearA_lt e⟩
    · cases h
theorem candB_some {n : Nat} {t : Tab} {f : Src} {s : Fil} {k j : Nat} (h : candB n t f s k = some j) : nearB f (n - (k + 1)) (k + 1) = some j ∧ k < j ∧ j < n ∧ (f j).isSome = true := by
  unfold candB at h
  split at h
  · cases h
  · rename_i i e
    split at h
    · cases h
      obtain ⟨h1, h2, h3⟩ := nearB_ge e
      exact ⟨e, by omega, by omega, h3⟩
    · cases h
theorem pick_mem {w : Way} {k j : Nat} {a b : Option Nat} (h : pick w k a b = some j) : a = some j ∨ b = some j := by
  unfold pick at h
  split at h
  · exact .inl h
  · exact .inr h
  · split at h
    · exact .inl h
    · exact .inr h
    · split at h
      · split at h
        · exact .inl h
        · exact .inr h
      · split at h
        · exact .inl h
        · exact .inr h
theorem takes_some {n : Nat} {t : Tab} {s : Fil} {f : Src} {k j : Nat} (hk : k < n) (h : takes n t s f k = some j) : j < n ∧ (f j).isSome = true := by
  rcases pick_mem h with h | h
  · obtain ⟨_, h1, h2⟩ := candA_some h
    exact ⟨by omega, h2⟩
  · obtain ⟨_, h1, h2, h3⟩ := candB_some h
    exact ⟨h2, h3⟩
def Bnd (n : Nat) (f : Src) : Prop := ∀ k m, k < n → f k = some m → m < n
theorem newS_bnd {n : Nat} {t : Tab} {s : Fil} {f : Src} (h : Bnd n f) : Bnd n (newS n t s f) := fun k m hk e => by
  unfold newS at e
  split at e
  · exact h k m hk e
  · obtain ⟨j, e1, e2⟩ := Option.bind_eq_some_iff.mp e
    exact h j m (takes_some hk e1).1 e2
/-- the cell at i of one step -/
theorem run_cell {n i num : Nat} {t : Tab} {f b : Src} {s : Fil} {s0 s4 s10 : Slot} (hi : i < n) (hf : Bnd n f) :
    ∃ s10, lb_run_steps_1 [s0, .im (.lst (tabR n t)), .own (tabS n fun k => if k < i then newS n t s f k else f k), .im (.int i), s4, .own (tabS n fun k => if k < i then newB n t s num f b k else b k), .im (.int num), .im (stepD (some s)), .fr (.lst (tab n (fdA t f s))), .fr (.lst (tab n (fdB n t f s))), s10'] =
      .ok (.nx, [s0, .im (.lst (tabR n t)), .own (tabS n fun k => if k < i + 1 then newS n t s f k else f k), .im (.int i), s4, .own (tabS n fun k => if k < i + 1 then newB n t s num f b k else b k), .im (.int num), .im (stepD (some s)), .fr (.lst (tab n (fdA t f s))), .fr (.lst (tab n (fdB n t f s))), s10]) := by
  have ew : oIx (stepD (some s)) (.int 0) = some (.str (wayS s.way)) := by simp [stepD]
  have eA := tab_at (g := fdA t f s) hi
  have eB := tab_at (g := fdB n t f s) hi
  have eS : atI (tabS n fun k => if k < i then newS n t s f k else f k) (i : Int) = some (optN (f i)) := by
    rw [tabS_at hi, if_neg (by omega)]
  have same : ∀ (g g' : Src), g' i = g i → (tabS n fun k => if k < i then g' k else g k) = tabS n fun k => if k < i + 1 then g' k else g k := fun g g' h => tab_ext fun k hk => by
    dsimp only
    by_cases e : k = i
    · subst e; rw [if_neg (by omega), if_pos (by omega), h]
    · by_cases e2 : k < i
      · rw [if_pos e2, if_pos (by omega)]
      · rw [if_neg e2, if_neg (by omega)]
  have upd1 : ∀ (g g' : Src) (d : D), optN (g' i) = d → (tab n fun j => if j = i then d else optN (if j < i then g' j else g j)) = tabS n fun k => if k < i + 1 then g' k else g k := fun g g' d h => tab_ext fun k hk => by
    dsimp only
    by_cases e : k = i
    · subst e; rw [if_pos rfl, if_pos (by omega), h]
    · rw [if_neg e]
      by_cases e2 : k < i
      · rw [if_pos e2, if_pos (by omega)]
      · rw [if_neg e2, if_neg (by omega)]
  cases hs : f i with
  | some m =>
    have e1 : fdA t f s i = .non := by unfold fdA; rw [hs]; rfl
    have e2 : fdB n t f s i = .non := by unfold fdB; rw [hs]; rfl
    rw [e1] at eA
    rw [e2] at eB
    rw [hs] at eS
    have ec := chosen_ok s.way i none none
    have q1 : newS n t s f i = f i := by unfold newS; rw [hs]; rfl
    have q2 : newB n t s num f b i = b i := by unfold newB; rw [hs]; rfl
    rw [← same f _ q1, ← same b _ q2]
    refine ⟨.fr (optN (pick s.way i none none)), ?_⟩
    simp only [optN_none] at ec
    simp [lb_run_steps_1, ew, eA, eB, eS, ec]
  | none =>
    have e1 : fdA t f s i = optN (candA t f s i) := by unfold fdA; rw [hs]; rfl
    have e2 : fdB n t f s i = optN (candB n t f s i) := by unfold fdB; rw [hs]; rfl
    rw [e1] at eA
    rw [e2] at eB
    rw [hs] at eS
    have ec := chosen_ok s.way i (candA t f s i) (candB n t f s i)
    refine ⟨.fr (optN (takes n t s f i)), ?_⟩
    have et : pick s.way i (candA t f s i) (candB n t f s i) = takes n t s f i := rfl
    rw [et] at ec
    cases ht : takes n t s f i with
    | none =>
      have q1 : newS n t s f i = f i := by unfold newS; rw [hs, ht]; rfl
      have q2 : newB n t s num f b i = b i := by unfold newB; rw [hs, ht]; rfl
      rw [← same f _ q1, ← same b _ q2]
      rw [ht] at ec
      simp [lb_run_steps_1, ew, eA, eB, eS, ec]
    | some j =>
      obtain ⟨hj, hjs⟩ := takes_some hi ht
      obtain ⟨m, hm⟩ := Option.isSome_iff_exists.mp hjs
      have q1 : newS n t s f i = some m := by unfold newS; rw [hs, ht]; exact hm
      have q2 : newB n t s num f b i = some num := by unfold newB; rw [hs, ht]; rfl
      rw [ht] at ec
      have eJ : atI (tabS n fun k => if k < i then newS n t s f k else f k) (j : Int) = some (.int m) := by
        rw [tabS_at hj]
        by_cases c : j < i
        · rw [if_pos c]
          unfold newS
          rw [if_pos hjs, hm]; rfl
        · rw [if_neg c, hm]; rfl
      have e5 : ∀ Γ : Nv, (Γ : List Slot)[2]? = some (.own (tabS n fun k => if k < i then newS n t s f k else f k)) → setAt 2 (.int m) (.int i) Γ = some (Γ.set 2 (.own (tabS n fun k => if k < i + 1 then newS n t s f k else f k))) := fun Γ h => by
        rw [set_tab (n := n) (k := i) (g := fun k => optN (if k < i then newS n t s f k else f k)) h ev_nolst_int hi, upd1 f (newS n t s f) _ (by rw [q1]; rfl)]
      have e6 : ∀ Γ : Nv, (Γ : List Slot)[5]? = some (.own (tabS n fun k => if k < i then newB n t s num f b k else b k)) → setAt 5 (.int num) (.int i) Γ = some (Γ.set 5 (.own (tabS n fun k => if k < i + 1 then newB n t s num f b k else b k))) := fun Γ h => by
        rw [set_tab (n := n) (k := i) (g := fun k => optN (if k < i then newB n t s num f b k else b k)) h ev_nolst_int hi, upd1 b (newB n t s num f b) _ (by rw [q2]; rfl)]
      simp only [optN_some] at ec
      simp [lb_run_steps_1, ew, eA, eB, eS, ec, eJ, e5, e6]
end L

set_option Elab.async false
set_option linter.all false
set_option maxRecDepth 100000
namespace L
open PySem PySem.Spec PyProof.Rows L2 DL
theorem loop_cons_nx {g : D → Nv → Option Nv} {p : SF} {d : D} {ds : List D} {Γ Γ1 Γ2 : Nv} (hg : g d Γ = some Γ1) (hp : p Γ1 = .ok (.nx, Γ2)) : dLoop g p (d :: ds) Γ = dLoop g p ds Γ2 := by
  conv => lhs; unfold dLoop
  rw [hg]
  simp only [hp, R.bind_ok]
theorem loop_cons_rt {g : D → Nv → Option Nv} {p : SF} {d v : D} {ds : List D} {Γ Γ1 Γ2 : Nv} (hg : g d Γ = some Γ1) (hp : p Γ1 = .ok (.rt v, Γ2)) : dLoop g p (d :: ds) Γ = .ok (.rt v, Γ2) := by
  conv => lhs; unfold dLoop
  rw [hg]
  simp only [hp, R.bind_ok]
theorem run_cells {n num : Nat} {t : Tab} {f b : Src} {s : Fil} {s0 s3 s4 s10 : Slot} (hn : n ≤ 1000) (hf : Bnd n f) :
    ∃ s3' s10', dLoop lt_run_steps_1 lb_run_steps_1 (rangeD 0 n) [s0, .im (.lst (tabR n t)), .own (tabS n f), s3, s4, .own (tabS n b), .im (.int num), .im (stepD (some s)), .fr (.lst (tab n (fdA t f s))), .fr (.lst (tab n (fdB n t f s))), s10] =
      .ok (.nx, [s0, .im (.lst (tabR n t)), .own (tabS n (newS n t s f)), s3', s4, .own (tabS n (newB n t s num f b)), .im (.int num), .im (stepD (some s)), .fr (.lst (tab n (fdA t f s))), .fr (.lst (tab n (fdB n t f s))), s10']) := by
  obtain ⟨Γ', e, s3', s10', hΓ⟩ := loop_nx (p := lb_run_steps_1) (g := lt_run_steps_1) (Γ := [s0, .im (.lst (tabR n t)), .own (tabS n f), s3, s4, .own (tabS n b), .im (.int num), .im (stepD (some s)), .fr (.lst (tab n (fdA t f s))), .fr (.lst (tab n (fdB n t f s))), s10]) (items := rangeD 0 n)
    (fun i Γ => ∃ s3 s10, Γ = [s0, .im (.lst (tabR n t)), .own (tabS n fun k => if k < i then newS n t s f k else f k), s3, s4, .own (tabS n fun k => if k < i then newB n t s num f b k else b k), .im (.int num), .im (stepD (some s)), .fr (.lst (tab n (fdA t f s))), .fr (.lst (tab n (fdB n t f s))), s10])
    (by
      rintro i d Γ hd ⟨s3, s10, rfl⟩
      obtain ⟨rfl, hi⟩ := rangeD_get hd
      rw [Int.zero_add]
      obtain ⟨s10', e⟩ := run_cell (s10' := s10) (s0 := s0) (s4 := s4) (s10 := s10) (num := num) (b := b) (t := t) (s := s) hi hf
      exact ⟨_, _, rfl, .inl e, _, _, rfl⟩)
    (by
      have e0 : ∀ g g' : Src, (tabS n fun k => if k < 0 then g' k else g k) = tabS n g := fun g g' => tab_ext fun k hk => by dsimp only; rw [if_neg (by omega)]
      refine ⟨s3, s10, ?_⟩
      rw [e0, e0])
  subst hΓ
  have e1 : ∀ g g' : Src, (tabS n fun k => if k < (rangeD 0 n).length then g' k else g k) = tabS n g' := fun g g' => tab_ext fun k hk => by dsimp only; rw [if_pos (by rw [rangeD_len]; exact hk)]
  rw [e1, e1] at e
  exact ⟨_, _, e⟩
/-- all steps from number k on: the sources, what filled them, the first drop -/
def runT (n : Nat) (t : Tab) : List (Option Fil) → Nat → Src → Src → Src × Src × Option Nat
  | [], _, f, b => (f, b, none)
  | none :: _, k, f, b => (f, b, some k)
  | some s :: r, k, f, b => runT n t r (k + 1) (newS n t s f) (newB n t s k f b)
theorem runT_bnd {n : Nat} {t : Tab} : ∀ {ss : List (Option Fil)} {k : Nat} {f b : Src}, Bnd n f → Bnd n (runT n t ss k f b).1
  | [], _, _, _, h => h
  | none :: _, _, _, _, h => h
  | some s :: r, k, f, b, h => runT_bnd (ss := r) (newS_bnd h)
def stI : Nat → List (Option Fil) → List D
  | _, [] => []
  | k, s :: r => .tup [.int k, stepD s] :: stI (k + 1) r
theorem stI_enum (ss : List (Option Fil)) : enumD (ss.map stepD) = stI 0 ss := by
  have key : ∀ (ss : List (Option Fil)) (k : Nat), (ss.map stepD).mapIdx (fun i d => D.tup [.int ((k + i : Nat)), d]) = stI k ss := by
    intro ss
    induction ss with
    | nil => intro k; rfl
    | cons s r ih =>
      intro k
      rw [List.map_cons, List.mapIdx_cons, stI, ← ih (k + 1)]
      congr 1
      congr 1
      funext i d
      congr 4
      omega
  have := key ss 0
  simpa [enumD] using this
def runD (n : Nat) (s0 : Slot) (r : Src × Src × Option Nat) (t : Tab) (s3 s4 s6 s7 s8 s9 s10 : Slot) : R (Err × Nv) (Fl × Nv) := match r.2.2 with
  | none => .ok (.nx, [s0, .im (.lst (tabR n t)), .own (tabS n r.1), s3, s4, .own (tabS n r.2.1), s6, s7, s8, s9, s10])
  | some k => .ok (.rt (.tup [.lst (tabS n r.1), .lst (tabS n r.2.1), .int k]), [s0, .im (.lst (tabR n t)), .fr (.lst (tabS n r.1)), s3, s4, .fr (.lst (tabS n r.2.1)), s6, s7, s8, s9, s10])
theorem run_loop {n : Nat} {t : Tab} {s0 : Slot} (hn : n ≤ 1000) : ∀ (ss : List (Option Fil)) (k : Nat) (f b : Src) (s3 s4 s6 s7 s8 s9 s10 : Slot), Bnd n f →
    ∃ s3' s4' s6' s7' s8' s9' s10', dLoop lt_run_steps_2 lb_run_steps_2 (stI k ss) [s0, .im (.lst (tabR n t)), .own (tabS n f), s3, s4, .own (tabS n b), s6, s7, s8, s9, s10] = runD n s0 (runT n t ss k f b) t s3' s4' s6' s7' s8' s9' s10'
  | [], k, f, b, s3, s4, s6, s7, s8, s9, s10, hf => ⟨_, _, _, _, _, _, _, rfl⟩
  | none :: r, k, f, b, s3, s4, s6, s7, s8, s9, s10, hf => by
    refine ⟨s3, s4, .im (.int k), .im (stepD none), s8, s9, s10, ?_⟩
    have ew : oIx (stepD none) (.int 0) = some (.str "drop") := by simp [stepD]
    have sz : 3 ≤ sizeLine := natSize (by decide)
    have e : lb_run_steps_2 [s0, .im (.lst (tabR n t)), .own (tabS n f), s3, s4, .own (tabS n b), .im (.int k), .im (stepD none), s8, s9, s10] = runD n s0 (runT n t (none :: r) k f b) t s3 s4 (.im (.int k)) (.im (stepD none)) s8 s9 s10 := by
      simp [lb_run_steps_2, ew, frz, sz, runD, runT]
    exact loop_cons_rt (g := lt_run_steps_2) (p := lb_run_steps_2) rfl e
  | some s :: r, k, f, b, s3, s4, s6, s7, s8, s9, s10, hf => by
    obtain ⟨s3', s10', el⟩ := run_cells (s0 := s0) (s3 := s3) (s4 := s4) (s10 := s10) (num := k) (t := t) (s := s) (b := b) hn hf
    have ew : oIx (stepD (some s)) (.int 0) = some (.str (wayS s.way)) := by simp [stepD]
    have hw : ¬ wayS s.way = Str.ofString "drop" := way_ne s.way
    have eA := from_above_ok (t := t) (f := f) (s := s) hn hf
    have eB := from_below_ok (t := t) (f := f) (s := s) hn hf
    have hr : inRg (n : Int) := ⟨by omega, by omega⟩
    have e : lb_run_steps_2 [s0, .im (.lst (tabR n t)), .own (tabS n f), s3, s4, .own (tabS n b), .im (.int k), .im (stepD (some s)), s8, s9, s10] =
        .ok (.nx, [s0, .im (.lst (tabR n t)), .own (tabS n (newS n t s f)), s3', s4, .own (tabS n (newB n t s k f b)), .im (.int k), .im (stepD (some s)), .fr (.lst (tab n (fdA t f s))), .fr (.lst (tab n (fdB n t f s))), s10']) := by
      simp [lb_run_steps_2, ew, hw, eA, eB, rg1, hr, el]
    obtain ⟨t3, t4, t6, t7, t8, t9, t10, ih⟩ := run_loop (t := t) (s0 := s0) hn r (k + 1) (newS n t s f) (newB n t s k f b) s3' s4 (.im (.int k)) (.im (stepD (some s))) (.fr (.lst (tab n (fdA t f s)))) (.fr (.lst (tab n (fdB n t f s)))) s10' (newS_bnd hf)
    refine ⟨t3, t4, t6, t7, t8, t9, t10, ?_⟩
    exact (loop_cons_nx (g := lt_run_steps_2) (p := lb_run_steps_2) rfl e).trans ih
/-- the values as they stand -/
def src0 (t : Tab) : Src := fun k => if (t k).value.isSome then some k else none
def nos : Src := fun _ => none
theorem src0_bnd {n : Nat} {t : Tab} : Bnd n (src0 t) := fun k m hk e => by
  unfold src0 at e
  split at e
  · cases e; exact hk
  · cases e
theorem run_steps_ok {n : Nat} {t : Tab} (ss : List (Option Fil)) (hn : n ≤ 1000) : d_run_steps [.lst (ss.map stepD), .lst (tabR n t)] =
    .ok (.tup [.lst (tabS n (runT n t ss 0 (src0 t) nos).1), .lst (tabS n (runT n t ss 0 (src0 t) nos).2.1), optN (runT n t ss 0 (src0 t) nos).2.2]) := by
  have hl : n ≤ 100000 := by omega
  have er := rep_non hl
  have nl : nolsts (tab n fun _ => D.non) = true := tab_nolst fun _ _ => by simp
  have nS : ∀ g : Src, nolsts (tabS n g) = true := fun g => tab_nolst fun _ _ => by simp
  have sz1 : 1 ≤ sizeLine := natSize (by decide)
  have sz3 : 3 ≤ sizeLine := natSize (by decide)
  have ec : lc_run_steps_1 [.im (.lst (ss.map stepD)), .im (.lst (tabR n t)), .emp, .emp, .emp, .emp, .emp, .emp, .emp, .emp, .emp] = .ok (tabS n (src0 t), [.im (.lst (ss.map stepD)), .im (.lst (tabR n t)), .emp, .emp, .emp, .emp, .emp, .emp, .emp, .emp, .emp]) := by
    unfold lc_run_steps_1 dLc
    have e1 : ∀ lg a f own, (∀ i d, (enumD (tabR n t))[i]? = some d → ∃ Γ1 Γ2 Γ3, lg d [.im (.lst (ss.map stepD)), .im (.lst (tabR n t)), .emp, .emp, .emp, .emp, .emp, .emp, .emp, .emp, .emp] = some Γ1 ∧ a Γ1 = .ok (true, Γ2) ∧ f Γ2 = .ok (optN (src0 t i), Γ3) ∧ wipeN Γ3 own = [.im (.lst (ss.map stepD)), .im (.lst (tabR n t)), .emp, .emp, .emp, .emp, .emp, .emp, .emp, .emp, .emp]) →
        lcLoop lg a f own (enumD (tabR n t)) [.im (.lst (ss.map stepD)), .im (.lst (tabR n t)), .emp, .emp, .emp, .emp, .emp, .emp, .emp, .emp, .emp] [] = .ok (tabS n (src0 t), [.im (.lst (ss.map stepD)), .im (.lst (tabR n t)), .emp, .emp, .emp, .emp, .emp, .emp, .emp, .emp, .emp]) :=
      fun lg a f own h => lc_tab (fun i => optN (src0 t i)) (by simp) hn h
    have e2 := e1 (dgT (dgsCons (dgN 3) (dgsCons (dgN 4) dgsNil))) dYes (dIf (dBool (dOp oIsN (dOp oIx (dV 4) (dC (.int 2))) (dC .non))) (dC .non) (dN (dV 3))) [3, 4] (by
      intro i d hd
      obtain ⟨rfl, hi⟩ := enum_get hd
      refine ⟨_, _, [.im (.lst (ss.map stepD)), .im (.lst (tabR n t)), .emp, .im (.int i), .im (rowD (t i)), .emp, .emp, .emp, .emp, .emp, .emp], rfl, rfl, ?_, rfl⟩
      have ev : oIx (rowD (t i)) (.int 2) = some (optD (t i).value) := by simp [rowD]
      cases hv : (t i).value with
      | none =>
        have z : src0 t i = none := by unfold src0; rw [hv]; rfl
        rw [hv] at ev
        simp [ev, z]
      | some v =>
        have z : src0 t i = some i := by unfold src0; rw [hv]; rfl
        rw [hv] at ev
        simp [ev, z])
    simp [en1, DL.plain, wipeN, e2, giveBack]
  unfold d_run_steps
  refine fnP_eq rfl ?_
  obtain ⟨t3, t4, t6, t7, t8, t9, t10, el⟩ := run_loop (t := t) (s0 := .im (.lst (ss.map stepD))) hn ss 0 (src0 t) nos .emp .emp .emp .emp .emp .emp .emp src0_bnd
  have z0 : (tab n fun _ => D.non) = tabS n nos := rfl
  rw [z0] at er nl
  have es := stI_enum ss
  generalize hr : runT n t ss 0 (src0 t) nos = r at *
  obtain ⟨f, b, o⟩ := r
  cases o with
  | none =>
    unfold runD at el
    dsimp only at el
    simp [b_run_steps, ec, nS, er, en1, es, el, frz, sz1, sz3]
  | some k =>
    unfold runD at el
    dsimp only at el
    simp [b_run_steps, ec, nS, er, en1, es, el, frz, sz1, sz3]
end L

set_option Elab.async false
set_option linter.all false
set_option maxRecDepth 100000
namespace L
open PySem PySem.Spec PyProof.Rows L2 DL
/-! ### the law's own run -/
def srcI : Option Nat → Int
  | none => -1
  | some m => m
@[simp] theorem srcI_none : srcI none = -1 := rfl
@[simp] theorem srcI_some {m : Nat} : srcI (some m) = m := rfl
def tabI (n : Nat) (f : Src) : List D := tab n fun i => .int (srcI (f i))
@[simp] theorem tabI_len {n : Nat} {f : Src} : (tabI n f).length = n := by simp [tabI]
theorem tabI_at {n i : Nat} {f : Src} (h : i < n) : atI (tabI n f) (i : Int) = some (.int (srcI (f i))) := tab_at (g := fun i => .int (srcI (f i))) h
theorem tabI_nolst {n : Nat} {f : Src} : nolsts (tabI n f) = true := tab_nolst fun _ _ => by simp
def mx (a b : Int) : Int := if a < b then b else a
/-- the greatest level of the i rows above k and of k -/
def lhA (t : Tab) (k : Nat) : Nat → Int
  | 0 => (t k).level
  | i + 1 => mx (lhA t k i) (t (k - (i + 1))).level
theorem lhA_ge {t : Tab} {k : Nat} (h : ∀ j, j ≤ k → 0 ≤ (t j).level) : ∀ i, 0 ≤ lhA t k i
  | 0 => h k (Nat.le_refl _)
  | i + 1 => by
    have := lhA_ge h i
    have := h (k - (i + 1)) (by omega)
    unfold lhA mx
    split <;> omega
theorem nearA_skip {f : Src} {k : Nat} : ∀ i, i ≤ k → (∀ j, k - i ≤ j → j < k → f j = none) → nearA f k = nearA f (k - i)
  | 0, _, _ => rfl
  | i + 1, hi, h => by
    rw [nearA_skip i (by omega) fun j h1 h2 => h j (by omega) h2]
    have e : k - i = (k - (i + 1)) + 1 := by omega
    rw [e, nearA, h (k - (i + 1)) (Nat.le_refl _) (by omega)]
    simp
theorem highA_skip {t : Tab} {f : Src} {k : Nat} (hk : f k = none) : ∀ i, i ≤ k → (∀ j, k - i ≤ j → j < k → f j = none) → (nearA f (k - i)).isSome = true → highA t f (k + 1) = mx (highA t f (k - i)) (lhA t k i)
  | 0, _, _, hn => by
    have hn : (nearA f k).isSome = true := hn
    rw [highA, hk, if_neg (by simp), if_pos hn]
    rfl
  | i + 1, hi, h, hn => by
    have e : k - i = (k - (i + 1)) + 1 := by omega
    have h0 : f (k - (i + 1)) = none := h _ (Nat.le_refl _) (by omega)
    have hn' : (nearA f (k - i)).isSome = true := by
      rw [e, nearA, h0]; simpa using hn
    rw [highA_skip hk i (by omega) (fun j h1 h2 => h j (by omega) h2) hn']
    have e2 : highA t f (k - i) = mx (highA t f (k - (i + 1))) (t (k - (i + 1))).level := by
      rw [e, highA, h0, if_neg (by simp), if_pos hn]; rfl
    rw [e2]
    show mx (mx _ _) (lhA t k i) = mx _ (mx (lhA t k i) _)
    unfold mx
    split <;> split <;> split <;> (try split) <;> omega
/-- a test of a limit, as the law writes it -/
theorem lim_D {Γ : Nv} {o : Option Int} {fe fx : EF D} {x : Int} (h1 : fe Γ = .ok (optD o, Γ)) (h2 : fx Γ = .ok (.int x, Γ)) : dOrV (dOp oIsN fe (dC .non)) (dOp oLe fx fe) Γ = .ok (.bl (near_le o x), Γ) := by
  cases o with
  | none => simp at h1; simp [h1, near_le]
  | some r => simp at h1; simp [h1, h2, near_le]
/-- the law's search upwards, one row -/
theorem l_above_row {n k j m : Nat} {t : Tab} {f : Src} {s : Fil} {hi : Int} {s5 s6 s7 : Slot} (hk : k < n) (hj : j < k) (hm : f j = some m) (hmn : m < n) (ho : (t m).day ≤ (t k).day) :
    ∃ Γ', lb_l_above_1 [.im (.lst (tabR n t)), .im (.lst (tabI n f)), .im (.int k), .im (stepD (some s)), .fr (.int hi), .im (.int j), s6, s7] = .ok (.rt (.int (if (decide (hi ≤ s.reach) && near_le s.rows ((k : Int) - j)) && inTime t f s j k then (j : Int) else -1)), Γ') := by
  have e1 := tabI_at (f := f) (show j < n by omega)
  rw [hm] at e1
  have e2 := tabR_at (t := t) hk
  have e3 := tabR_at (t := t) hmn
  have eR : oIx (stepD (some s)) (.int 1) = some (optD s.rows) := by simp [stepD]
  have eD : oIx (stepD (some s)) (.int 2) = some (optD s.days) := by simp [stepD]
  have eC : oIx (stepD (some s)) (.int 3) = some (.int s.reach) := by simp [stepD]
  have eday : ∀ r : Row, oIx (rowD r) (.int 0) = some (.int r.day) := fun r => by simp [rowD]
  have hT : inTime t f s j k = near_le s.days ((t k).day - (t m).day) := by
    unfold inTime absI
    rw [hm]
    dsimp only
    rw [if_neg (by omega)]
  rw [hT]
  have hmi : (0 : Int) ≤ (m : Int) := by omega
  have L1 := fun (Γ : Nv) h1 h2 => lim_D (Γ := Γ) (o := s.rows) (fe := dOp oIx (dV 3) (dC (.int 1))) (fx := dOp oSub (dV 2) (dV 5)) (x := (k : Int) - j) h1 h2
  have L2 := fun (Γ : Nv) h1 h2 => lim_D (Γ := Γ) (o := s.days) (fe := dOp oIx (dV 3) (dC (.int 2))) (fx := dOp oSub (dOp oIx (dOp oIx (dV 0) (dV 2)) (dC (.int 0))) (dOp oIx (dOp oIx (dV 0) (dOp oIx (dV 1) (dV 5))) (dC (.int 0)))) (x := (t k).day - (t m).day) h1 h2
  have a1 := L1 [.im (.lst (tabR n t)), .im (.lst (tabI n f)), .im (.int k), .im (stepD (some s)), .fr (.int hi), .im (.int j), s6, s7] (by simp [eR]) (by simp)
  generalize hb1 : near_le s.rows ((k : Int) - j) = b1 at *
  have a2 := L2 [.im (.lst (tabR n t)), .im (.lst (tabI n f)), .im (.int k), .im (stepD (some s)), .fr (.int hi), .im (.int j), .fr (.bl b1), s7] (by simp [eD]) (by simp [e1, e2, e3, eday])
  generalize hb2 : near_le s.days ((t k).day - (t m).day) = b2 at *
  refine ⟨[.im (.lst (tabR n t)), .im (.lst (tabI n f)), .im (.int k), .im (stepD (some s)), .fr (.int hi), .im (.int j), .fr (.bl b1), .fr (.bl b2)], ?_⟩
  by_cases c : hi ≤ s.reach
  · cases b1 <;> cases b2 <;> simp [lb_l_above_1, -ev_OrV, a1, a2, e1, hmi, truD, eC, c]
  · cases b1 <;> cases b2 <;> simp [lb_l_above_1, -ev_OrV, a1, a2, e1, hmi, truD, eC, c]
end L

set_option Elab.async false
set_option linter.all false
set_option maxRecDepth 100000
namespace L
open PySem PySem.Spec PyProof.Rows L2 DL
theorem candA_near {t : Tab} {f : Src} {s : Fil} {k j : Nat} (h : nearA f k = some j) : candA t f s k = if (decide (highA t f (k + 1) ≤ s.reach) && near_le s.rows ((k : Int) - j)) && inTime t f s j k then some j else none := by
  unfold candA; rw [h]
theorem candB_near {n : Nat} {t : Tab} {f : Src} {s : Fil} {k j : Nat} (h : nearB f (n - (k + 1)) (k + 1) = some j) : candB n t f s k = if (decide (highB t f (n - (k + 1)) (k + 1) ≤ s.reach) && near_le s.rows ((j : Int) - k)) && inTime t f s j k then some j else none := by
  unfold candB; rw [h]
theorem srcI_ite {b : Bool} {j : Nat} : srcI (if b = true then some j else none) = if b = true then (j : Int) else -1 := by cases b <;> rfl
theorem l_above_ok {n k : Nat} {t : Tab} {f : Src} {s : Fil} (hn : n ≤ 1000) (hk : k < n) (hf : Bnd n f) (hl : ∀ j, j < n → 0 ≤ (t j).level) (hs : f k = none) (ho : ∀ j m, j < k → f j = some m → (t m).day ≤ (t k).day) :
    d_l_above [.lst (tabR n t), .lst (tabI n f), .int k, stepD (some s)] = .ok (.int (srcI (candA t f s k))) := by
  obtain ⟨fl, Γ', e, hp⟩ := loop_rule (p := lb_l_above_1) (g := lt_l_above_1) (Γ := [.im (.lst (tabR n t)), .im (.lst (tabI n f)), .im (.int k), .im (stepD (some s)), .fr (.int (t k).level), .emp, .emp, .emp]) (items := rangeC ((k : Int) - 1) (-1) k)
    (fun i Γ => (∀ j, k - i ≤ j → j < k → f j = none) ∧ ∃ s5 s6 s7, Γ = [.im (.lst (tabR n t)), .im (.lst (tabI n f)), .im (.int k), .im (stepD (some s)), .fr (.int (lhA t k i)), s5, s6, s7])
    (fun fl _ => match fl with | .nx => candA t f s k = none | .rt d => d = .int (srcI (candA t f s k)) | _ => False)
    (by
      rintro i d Γ hd ⟨hz, s5, s6, s7, rfl⟩
      obtain ⟨rfl, hi⟩ := rangeC_get hd
      have hj : ((k : Int) - 1 + (i : Int) * -1) = ((k - (i + 1) : Nat) : Int) := by omega
      rw [hj]
      generalize hjj : k - (i + 1) = j at *
      have hjk : j < k := by omega
      have hjn : j < n := by omega
      cases hm : f j with
      | some m =>
        obtain ⟨Γ', e⟩ := l_above_row (n := n) (t := t) (s := s) (hi := lhA t k i) (s5 := s5) (s6 := s6) (s7 := s7) hk hjk hm (hf j m hjn hm) (ho j m hjk hm)
        refine ⟨_, _, Γ', rfl, e, ?_⟩
        dsimp only
        have e0 : k - i = j + 1 := by omega
        have nj : nearA f k = some j := by
          rw [nearA_skip i (by omega) hz, e0, nearA, hm]; simp
        have hh : highA t f (k + 1) = lhA t k i := by
          rw [highA_skip hs i (by omega) hz (by rw [e0, nearA, hm]; simp), e0, highA, hm]
          have := lhA_ge (t := t) (k := k) (fun j hj => hl j (by omega)) i
          simp [mx]
          omega
        rw [candA_near nj, hh, srcI_ite]
      | none =>
        have e1 := tabI_at (f := f) hjn
        rw [hm] at e1
        have e2 := tabR_at (t := t) hjn
        have el : oIx (rowD (t j)) (.int 1) = some (.int (t j).level) := by simp [rowD]
        refine ⟨_, .nx, [.im (.lst (tabR n t)), .im (.lst (tabI n f)), .im (.int k), .im (stepD (some s)), .fr (.int (lhA t k (i + 1))), .im (.int j), s6, s7], rfl, ?_, ⟨fun j' h1 h2 => ?_, _, _, _, rfl⟩⟩
        · have z : lhA t k (i + 1) = mx (lhA t k i) (t j).level := by rw [← hjj]; rfl
          rw [z]
          unfold mx
          by_cases c : lhA t k i < (t j).level
          · rw [if_pos c]; simp [lb_l_above_1, e1, e2, el, c]
          · rw [if_neg c]; simp [lb_l_above_1, e1, e2, el, c]
        · by_cases c : j' = j
          · rw [c]; exact hm
          · exact hz j' (by omega) h2)
    (by
      rintro Γ ⟨hz, _⟩
      rw [rangeC_len] at hz
      dsimp only
      have : nearA f k = none := by
        rw [nearA_skip k (Nat.le_refl _) hz, Nat.sub_self]; rfl
      unfold candA
      rw [this])
    ⟨fun j h1 h2 => absurd h2 (by omega), _, _, _, rfl⟩
  have e2 := tabR_at (t := t) hk
  have el : oIx (rowD (t k)) (.int 1) = some (.int (t k).level) := by simp [rowD]
  have hr : inRg ((k : Int) - 1) := ⟨by omega, by omega⟩
  have hr2 : inRg (-1) := ⟨by omega, by omega⟩
  have hz : ((k : Int) - 1 - -1).toNat = k := by omega
  have erg : rg3 [.int ((k : Int) - 1), .int (-1), .int (-1)] = some (rangeC ((k : Int) - 1) (-1) k) := by
    unfold rg3
    dsimp only
    rw [if_pos ⟨rfl, hr, hr2⟩, hz]
  unfold d_l_above
  refine fnP_eq rfl ?_
  cases fl with
  | nx =>
    dsimp only at hp
    rw [hp]
    simp [b_l_above, e2, el, erg, e]
  | rt d =>
    dsimp only at hp
    subst hp
    simp [b_l_above, e2, el, erg, e]
  | bk => exact hp.elim
  | ct => exact hp.elim
/-! ### downwards -/
def lhB (t : Tab) (k : Nat) : Nat → Int
  | 0 => 0
  | i + 1 => mx (lhB t k i) (t (k + 1 + i)).level
theorem lhB_ge {t : Tab} {k : Nat} : ∀ i, 0 ≤ lhB t k i
  | 0 => by simp [lhB]
  | i + 1 => by
    have := lhB_ge (t := t) (k := k) i
    unfold lhB mx
    split <;> omega
theorem nearB_skip {f : Src} {k m : Nat} : ∀ i, i ≤ m → (∀ j, k ≤ j → j < k + i → f j = none) → nearB f m k = nearB f (m - i) (k + i)
  | 0, _, _ => rfl
  | i + 1, hi, h => by
    rw [nearB_skip i (by omega) fun j h1 h2 => h j h1 (by omega)]
    have e : m - i = (m - (i + 1)) + 1 := by omega
    rw [e, nearB, h (k + i) (by omega) (by omega)]
    simp [Nat.add_assoc]
theorem highB_skip {t : Tab} {f : Src} {k m : Nat} : ∀ i, i ≤ m → (∀ j, k + 1 ≤ j → j < k + 1 + i → f j = none) → (nearB f (m - i) (k + 1 + i)).isSome = true → (0 ≤ highB t f (m - i) (k + 1 + i)) → highB t f m (k + 1) = mx (highB t f (m - i) (k + 1 + i)) (lhB t k i)
  | 0, _, _, hn, h0 => by
    show _ = mx (highB t f m (k + 1)) 0
    have h0 : 0 ≤ highB t f m (k + 1) := h0
    unfold mx
    split <;> omega
  | i + 1, hi, h, hn, h0 => by
    have e : m - i = (m - (i + 1)) + 1 := by omega
    have f0 : f (k + 1 + i) = none := h _ (by omega) (by omega)
    have hn1 : (nearB f (m - (i + 1)) (k + 1 + i + 1)).isSome = true := hn
    have hn' : (nearB f (m - i) (k + 1 + i)).isSome = true := by
      rw [e, nearB, f0]; simpa using hn1
    have e2 : highB t f (m - i) (k + 1 + i) = mx (highB t f (m - (i + 1)) (k + 1 + (i + 1))) (t (k + 1 + i)).level := by
      rw [e, highB, f0, if_neg (by simp), if_pos hn1]; rfl
    have h0' : 0 ≤ highB t f (m - i) (k + 1 + i) := by
      rw [e2]; unfold mx; split <;> omega
    rw [highB_skip i (by omega) (fun j h1 h2 => h j h1 (by omega)) hn' h0', e2]
    show mx (mx _ _) (lhB t k i) = mx _ (mx (lhB t k i) _)
    unfold mx
    split <;> split <;> split <;> (try split) <;> omega
theorem l_below_row {n k j m : Nat} {t : Tab} {f : Src} {s : Fil} {hi : Int} {s5 s6 s7 : Slot} (hk : k < n) (hkj : k < j) (hj : j < n) (hm : f j = some m) (hmn : m < n) (ho : (t k).day ≤ (t m).day) :
    ∃ Γ', lb_l_below_1 [.im (.lst (tabR n t)), .im (.lst (tabI n f)), .im (.int k), .im (stepD (some s)), .fr (.int hi), .im (.int j), s6, s7] = .ok (.rt (.int (if (decide (mx hi (t j).level ≤ s.reach) && near_le s.rows ((j : Int) - k)) && inTime t f s j k then (j : Int) else -1)), Γ') := by
  have e1 := tabI_at (f := f) hj
  rw [hm] at e1
  have e2 := tabR_at (t := t) hk
  have e3 := tabR_at (t := t) hmn
  have e4 := tabR_at (t := t) hj
  have el : oIx (rowD (t j)) (.int 1) = some (.int (t j).level) := by simp [rowD]
  have eR : oIx (stepD (some s)) (.int 1) = some (optD s.rows) := by simp [stepD]
  have eD : oIx (stepD (some s)) (.int 2) = some (optD s.days) := by simp [stepD]
  have eC : oIx (stepD (some s)) (.int 3) = some (.int s.reach) := by simp [stepD]
  have eday : ∀ r : Row, oIx (rowD r) (.int 0) = some (.int r.day) := fun r => by simp [rowD]
  have hT : inTime t f s j k = near_le s.days ((t m).day - (t k).day) := by
    unfold inTime absI
    rw [hm]
    dsimp only
    by_cases c : (t k).day - (t m).day < 0
    · rw [if_pos c]; congr 1; omega
    · rw [if_neg c]; congr 1; omega
  rw [hT]
  have hmi : (0 : Int) ≤ (m : Int) := by omega
  have L1 := fun (Γ : Nv) h1 h2 => lim_D (Γ := Γ) (o := s.rows) (fe := dOp oIx (dV 3) (dC (.int 1))) (fx := dOp oSub (dV 5) (dV 2)) (x := (j : Int) - k) h1 h2
  have L2 := fun (Γ : Nv) h1 h2 => lim_D (Γ := Γ) (o := s.days) (fe := dOp oIx (dV 3) (dC (.int 2))) (fx := dOp oSub (dOp oIx (dOp oIx (dV 0) (dOp oIx (dV 1) (dV 5))) (dC (.int 0))) (dOp oIx (dOp oIx (dV 0) (dV 2)) (dC (.int 0)))) (x := (t m).day - (t k).day) h1 h2
  have main : ∀ hi : Int, ∃ Γ', (dIfS (dBool (dOp oGe (dOp oIx (dV 1) (dV 5)) (dC (.int 0)))) (dSeq (dAsg 6 (dOrV (dOp oIsN (dOp oIx (dV 3) (dC (.int 1))) (dC .non)) (dOp oLe (dOp oSub (dV 5) (dV 2)) (dOp oIx (dV 3) (dC (.int 1))))))
      (dSeq (dAsg 7 (dOrV (dOp oIsN (dOp oIx (dV 3) (dC (.int 2))) (dC .non)) (dOp oLe (dOp oSub (dOp oIx (dOp oIx (dV 0) (dOp oIx (dV 1) (dV 5))) (dC (.int 0))) (dOp oIx (dOp oIx (dV 0) (dV 2)) (dC (.int 0)))) (dOp oIx (dV 3) (dC (.int 2))))))
      (dRet (dIf (dAnd (dTru (dV 6)) (dAnd (dTru (dV 7)) (dBool (dOp oLe (dV 4) (dOp oIx (dV 3) (dC (.int 3))))))) (dN (dV 5)) (dUn oNeg (dC (.int 1))))))) dNx) [.im (.lst (tabR n t)), .im (.lst (tabI n f)), .im (.int k), .im (stepD (some s)), .fr (.int hi), .im (.int j), s6, s7] = .ok (.rt (.int (if (decide (hi ≤ s.reach) && near_le s.rows ((j : Int) - k)) && near_le s.days ((t m).day - (t k).day) then (j : Int) else -1)), Γ') := by
    intro hi
    have a1 := L1 [.im (.lst (tabR n t)), .im (.lst (tabI n f)), .im (.int k), .im (stepD (some s)), .fr (.int hi), .im (.int j), s6, s7] (by simp [eR]) (by simp)
    generalize hb1 : near_le s.rows ((j : Int) - k) = b1 at *
    have a2 := L2 [.im (.lst (tabR n t)), .im (.lst (tabI n f)), .im (.int k), .im (stepD (some s)), .fr (.int hi), .im (.int j), .fr (.bl b1), s7] (by simp [eD]) (by simp [e1, e2, e3, eday])
    generalize hb2 : near_le s.days ((t m).day - (t k).day) = b2 at *
    refine ⟨[.im (.lst (tabR n t)), .im (.lst (tabI n f)), .im (.int k), .im (stepD (some s)), .fr (.int hi), .im (.int j), .fr (.bl b1), .fr (.bl b2)], ?_⟩
    by_cases c : hi ≤ s.reach
    · cases b1 <;> cases b2 <;> simp [-ev_OrV, a1, a2, e1, hmi, truD, eC, c]
    · cases b1 <;> cases b2 <;> simp [-ev_OrV, a1, a2, e1, hmi, truD, eC, c]
  unfold mx
  by_cases c : hi < (t j).level
  · rw [if_pos c]
    obtain ⟨Γ', e⟩ := main (t j).level
    refine ⟨Γ', ?_⟩
    rw [← e]
    exact seq_nx (by simp [e4, el, c])
  · rw [if_neg c]
    obtain ⟨Γ', e⟩ := main hi
    refine ⟨Γ', ?_⟩
    rw [← e]
    exact seq_nx (by simp [e4, el, c])
theorem l_below_ok {n k : Nat} {t : Tab} {f : Src} {s : Fil} (hn : n ≤ 1000) (hk : k < n) (hf : Bnd n f) (hl : ∀ j, j < n → 0 ≤ (t j).level) (ho : ∀ j m, k < j → j < n → f j = some m → (t k).day ≤ (t m).day) :
    d_l_below [.lst (tabR n t), .lst (tabI n f), .int k, stepD (some s)] = .ok (.int (srcI (candB n t f s k))) := by
  obtain ⟨fl, Γ', e, hp⟩ := loop_rule (p := lb_l_below_1) (g := lt_l_below_1) (Γ := [.im (.lst (tabR n t)), .im (.lst (tabI n f)), .im (.int k), .im (stepD (some s)), .fr (.int 0), .emp, .emp, .emp]) (items := rangeD ((k : Int) + 1) (n - (k + 1)))
    (fun i Γ => (∀ j, k + 1 ≤ j → j < k + 1 + i → f j = none) ∧ ∃ s5 s6 s7, Γ = [.im (.lst (tabR n t)), .im (.lst (tabI n f)), .im (.int k), .im (stepD (some s)), .fr (.int (lhB t k i)), s5, s6, s7])
    (fun fl _ => match fl with | .nx => candB n t f s k = none | .rt d => d = .int (srcI (candB n t f s k)) | _ => False)
    (by
      rintro i d Γ hd ⟨hz, s5, s6, s7, rfl⟩
      obtain ⟨rfl, hi⟩ := rangeD_get hd
      have hj : ((k : Int) + 1 + (i : Int)) = ((k + 1 + i : Nat) : Int) := by omega
      rw [hj]
      generalize hjj : k + 1 + i = j at *
      have hjn : j < n := by omega
      cases hm : f j with
      | some m =>
        obtain ⟨Γ', e⟩ := l_below_row (n := n) (t := t) (s := s) (hi := lhB t k i) (s5 := s5) (s6 := s6) (s7 := s7) hk (by omega) hjn hm (hf j m hjn hm) (ho j m (by omega) hjn hm)
        refine ⟨_, _, Γ', rfl, e, ?_⟩
        dsimp only
        have e0 : n - (k + 1) - i = (n - (k + 1) - (i + 1)) + 1 := by omega
        have n0 : nearB f (n - (k + 1) - i) (k + 1 + i) = some j := by
          rw [e0, hjj, nearB, hm]; simp
        have nj : nearB f (n - (k + 1)) (k + 1) = some j := by
          rw [nearB_skip i (by omega) (by rw [hjj]; exact hz), n0]
        have hB : highB t f (n - (k + 1) - i) (k + 1 + i) = (t j).level := by
          rw [e0, hjj, highB, hm]; simp
        have hh : highB t f (n - (k + 1)) (k + 1) = mx (lhB t k i) (t j).level := by
          rw [highB_skip i (by omega) (by rw [hjj]; exact hz) (by rw [n0]; rfl) (by rw [hB]; exact hl j hjn), hB]
          unfold mx
          split <;> split <;> omega
        rw [candB_near nj, hh, srcI_ite]
      | none =>
        have e1 := tabI_at (f := f) hjn
        rw [hm] at e1
        have e2 := tabR_at (t := t) hjn
        have el : oIx (rowD (t j)) (.int 1) = some (.int (t j).level) := by simp [rowD]
        refine ⟨_, .nx, [.im (.lst (tabR n t)), .im (.lst (tabI n f)), .im (.int k), .im (stepD (some s)), .fr (.int (lhB t k (i + 1))), .im (.int j), s6, s7], rfl, ?_, ⟨fun j' h1 h2 => ?_, _, _, _, rfl⟩⟩
        · have z : lhB t k (i + 1) = mx (lhB t k i) (t j).level := by rw [← hjj]; rfl
          rw [z]
          unfold mx
          by_cases c : lhB t k i < (t j).level
          · rw [if_pos c]; simp [lb_l_below_1, e1, e2, el, c]
          · rw [if_neg c]; simp [lb_l_below_1, e1, e2, el, c]
        · by_cases c : j' = j
          · rw [c]; exact hm
          · exact hz j' h1 (by omega))
    (by
      rintro Γ ⟨hz, _⟩
      rw [rangeD_len] at hz
      dsimp only
      have : nearB f (n - (k + 1)) (k + 1) = none := by
        rw [nearB_skip (n - (k + 1)) (Nat.le_refl _) hz, Nat.sub_self]; rfl
      unfold candB
      rw [this])
    ⟨fun j h1 h2 => absurd h2 (by omega), _, _, _, rfl⟩
  have hr : inRg ((k : Int) + 1) := ⟨by omega, by omega⟩
  have hr2 : inRg (n : Int) := ⟨by omega, by omega⟩
  have hz : ((n : Int) - ((k : Int) + 1)).toNat = n - (k + 1) := by omega
  have erg : rg2 [.int ((k : Int) + 1), .int n] = some (rangeD ((k : Int) + 1) (n - (k + 1))) := by
    unfold rg2
    dsimp only
    rw [if_pos ⟨hr, hr2⟩, hz]
  unfold d_l_below
  refine fnP_eq rfl ?_
  cases fl with
  | nx =>
    dsimp only at hp
    rw [hp]
    simp [b_l_below, erg, e]
  | rt d =>
    dsimp only at hp
    subst hp
    simp [b_l_below, erg, e]
  | bk => exact hp.elim
  | ct => exact hp.elim
end L

set_option Elab.async false
set_option linter.all false
set_option maxRecDepth 100000
namespace L
open PySem PySem.Spec PyProof.Rows L2 DL
/-! ### a value never passes an empty cell -/
def Mono (n : Nat) (f : Src) : Prop := ∀ k j m, k < n → f k = none → j < n → f j = some m → (j < k → m < k) ∧ (k < j → k < m)
theorem nearA_none {f : Src} : ∀ {i j l : Nat}, nearA f i = some j → j < l → l < i → f l = none
  | 0, _, _, h, _, _ => nomatch h
  | i + 1, j, l, h, h1, h2 => by
    unfold nearA at h
    split at h
    · cases h; omega
    · rename_i hi
      by_cases c : l = i
      · subst c; simpa using hi
      · exact nearA_none h h1 (by omega)
theorem nearB_none {f : Src} : ∀ {m i j l : Nat}, nearB f m i = some j → i ≤ l → l < j → f l = none
  | 0, _, _, _, h, _, _ => nomatch h
  | m + 1, i, j, l, h, h1, h2 => by
    unfold nearB at h
    split at h
    · cases h; omega
    · rename_i hi
      by_cases c : l = i
      · subst c; simpa using hi
      · exact nearB_none h (by omega) h2
theorem highB_ge {n : Nat} {t : Tab} {f : Src} (hl : ∀ j, j < n → 0 ≤ (t j).level) : ∀ m i, i + m ≤ n → 0 ≤ highB t f m i
  | 0, _, _ => Int.le_refl _
  | m + 1, i, h => by
    have h1 := highB_ge (f := f) hl m (i + 1) (by omega)
    have h2 := hl i (by omega)
    unfold highB
    split
    · exact h2
    · split
      · split <;> omega
      · exact h1
theorem mx_le {a b : Int} : a ≤ mx a b := by unfold mx; split <;> omega
theorem near_le_mono {o : Option Int} {x y : Int} (h : near_le o y = true) (hxy : x ≤ y) : near_le o x = true := by
  cases o with
  | none => rfl
  | some r =>
    have h := of_decide_eq_true h
    exact decide_eq_true (by omega)
theorem candA_iff {t : Tab} {f : Src} {s : Fil} {k j : Nat} : candA t f s k = some j ↔ nearA f k = some j ∧ highA t f (k + 1) ≤ s.reach ∧ near_le s.rows ((k : Int) - j) = true ∧ inTime t f s j k = true := by
  constructor
  · intro h
    have hn := (candA_some h).1
    rw [candA_near hn] at h
    split at h
    · rename_i c
      simp only [Bool.and_eq_true, decide_eq_true_eq] at c
      exact ⟨hn, c.1.1, c.1.2, c.2⟩
    · cases h
  · rintro ⟨hn, h1, h2, h3⟩
    rw [candA_near hn, if_pos (by simp [h1, h2, h3])]
theorem candB_iff {n : Nat} {t : Tab} {f : Src} {s : Fil} {k j : Nat} : candB n t f s k = some j ↔ nearB f (n - (k + 1)) (k + 1) = some j ∧ highB t f (n - (k + 1)) (k + 1) ≤ s.reach ∧ near_le s.rows ((j : Int) - k) = true ∧ inTime t f s j k = true := by
  constructor
  · intro h
    have hn := (candB_some h).1
    rw [candB_near hn] at h
    split at h
    · rename_i c
      simp only [Bool.and_eq_true, decide_eq_true_eq] at c
      exact ⟨hn, c.1.1, c.1.2, c.2⟩
    · cases h
  · rintro ⟨hn, h1, h2, h3⟩
    rw [candB_near hn, if_pos (by simp [h1, h2, h3])]
theorem inTime_mono {t : Tab} {f : Src} {s : Fil} {i m k k' : Nat} (hm : f i = some m) (h : inTime t f s i k = true) (hd : absI ((t k').day - (t m).day) ≤ absI ((t k).day - (t m).day)) : inTime t f s i k' = true := by
  unfold inTime at h ⊢
  rw [hm] at h ⊢
  exact near_le_mono h hd
/-- a cell between j and what j takes from below is reached, too -/
theorem candB_between {n : Nat} {t : Tab} {f : Src} {s : Fil} {j k i m : Nat} (hl : ∀ j, j < n → 0 ≤ (t j).level) (hd : ∀ i j, i ≤ j → j < n → (t i).day ≤ (t j).day) (h : candB n t f s j = some i) (hm : f i = some m) (hmn : m < n) (h1 : j < k) (h2 : k < i) (h3 : k < m) : candB n t f s k = some i := by
  obtain ⟨q1, q2, q3, q4⟩ := candB_iff.mp h
  obtain ⟨g1, g2, g3⟩ := nearB_ge q1
  have nn : ∀ l, j + 1 ≤ l → l < j + 1 + (k - j) → f l = none := fun l a b => nearB_none q1 a (by omega)
  have e1 := nearB_skip (f := f) (k := j + 1) (m := n - (j + 1)) (k - j) (by omega) nn
  have w1 : n - (j + 1) - (k - j) = n - (k + 1) := by omega
  have w2 : j + 1 + (k - j) = k + 1 := by omega
  rw [w1, w2, q1] at e1
  refine candB_iff.mpr ⟨e1.symm, ?_, near_le_mono q3 (by omega), inTime_mono hm q4 ?_⟩
  · have e2 := highB_skip (t := t) (f := f) (k := j) (m := n - (j + 1)) (k - j) (by omega) nn (by rw [w1, w2, ← e1]; rfl) (by rw [w1, w2]; exact highB_ge hl _ _ (by omega))
    rw [w1, w2] at e2
    rw [e2] at q2
    exact Int.le_trans mx_le q2
  · have a1 := hd j k (by omega) (by omega)
    have a2 := hd k m (by omega) hmn
    unfold absI
    split <;> split <;> omega
theorem candA_between {n : Nat} {t : Tab} {f : Src} {s : Fil} {j k i m : Nat} (hd : ∀ i j, i ≤ j → j < n → (t i).day ≤ (t j).day) (hj : j < n) (fj : f j = none) (h : candA t f s j = some i) (hm : f i = some m) (h1 : k < j) (h2 : i < k) (h3 : m < k) : candA t f s k = some i := by
  obtain ⟨q1, q2, q3, q4⟩ := candA_iff.mp h
  have nn : ∀ l, j - (j - (k + 1)) ≤ l → l < j → f l = none := fun l a b => nearA_none q1 (by omega) b
  have w : j - (j - (k + 1)) = k + 1 := by omega
  have e1 := nearA_skip (f := f) (k := j) (j - (k + 1)) (by omega) nn
  rw [w, q1] at e1
  have fk : f k = none := nearA_none q1 h2 h1
  have e1' : nearA f k = some i := by
    rw [nearA, fk] at e1
    simpa using e1.symm
  refine candA_iff.mpr ⟨e1', ?_, near_le_mono q3 (by omega), inTime_mono hm q4 ?_⟩
  · have e2 := highA_skip (t := t) fj (j - (k + 1)) (by omega) nn (by rw [w, ← e1]; rfl)
    rw [w] at e2
    rw [e2] at q2
    exact Int.le_trans mx_le q2
  · have a1 := hd k j (by omega) hj
    have a2 := hd m k (by omega) (by omega)
    unfold absI
    split <;> split <;> omega
theorem pick_none {w : Way} {k : Nat} {a b : Option Nat} (h : pick w k a b = none) : (w ≠ .up → a = none) ∧ (w ≠ .down → b = none) := by
  cases w
  · exact ⟨fun _ => h, fun h => absurd rfl h⟩
  · exact ⟨fun h => absurd rfl h, fun _ => h⟩
  · cases a <;> cases b
    · exact ⟨fun _ => rfl, fun _ => rfl⟩
    · cases h
    · cases h
    · unfold pick at h
      dsimp only at h
      split at h
      · cases h
      · split at h <;> cases h
  · cases a <;> cases b
    · exact ⟨fun _ => rfl, fun _ => rfl⟩
    · cases h
    · cases h
    · unfold pick at h
      dsimp only at h
      split at h
      · cases h
      · split at h <;> cases h
theorem newS_none {n k : Nat} {t : Tab} {s : Fil} {f : Src} (hk : k < n) (h : newS n t s f k = none) : f k = none ∧ takes n t s f k = none := by
  unfold newS at h
  split at h
  · rename_i c; rw [h] at c; cases c
  · rename_i c
    refine ⟨by simpa using c, ?_⟩
    cases e : takes n t s f k with
    | none => rfl
    | some j =>
      rw [e] at h
      have h : f j = none := h
      have := (takes_some hk e).2
      rw [h] at this; cases this
theorem newS_mono {n : Nat} {t : Tab} {s : Fil} {f : Src} (hl : ∀ j, j < n → 0 ≤ (t j).level) (hd : ∀ i j, i ≤ j → j < n → (t i).day ≤ (t j).day) (hb : Bnd n f) (hm : Mono n f) : Mono n (newS n t s f) := by
  intro k j m hk ek hj ej
  obtain ⟨fk, tk⟩ := newS_none hk ek
  unfold newS at ej
  split at ej
  · exact hm k j m hk fk hj ej
  · rename_i c
    have fj : f j = none := by simpa using c
    obtain ⟨i, e1, e2⟩ := Option.bind_eq_some_iff.mp ej
    obtain ⟨hin, his⟩ := takes_some hj e1
    have hmn := hb i m hin e2
    have hik : i ≠ k := fun z => by rw [z, fk] at e2; cases e2
    have ⟨p1, p2⟩ := hm k i m hk fk hin e2
    obtain ⟨n1, n2⟩ := pick_none tk
    constructor
    · intro hjk
      by_cases c1 : i < k
      · exact p1 c1
      · exfalso
        have c2 : k < i := by omega
        rcases pick_mem e1 with h | h
        · have := (candA_some h).2.1; omega
        · have := candB_between hl hd h e2 hmn hjk c2 (p2 c2)
          have hw : s.way ≠ .down := fun z => by
            have e1 : pick s.way j (candA t f s j) (candB n t f s j) = some i := e1
            rw [z] at e1
            have e1 : candA t f s j = some i := e1
            have := (candA_some e1).2.1; omega
          rw [n2 hw] at this; cases this
    · intro hjk
      by_cases c1 : k < i
      · exact p2 c1
      · exfalso
        have c2 : i < k := by omega
        rcases pick_mem e1 with h | h
        · have := candA_between hd hj fj h e2 hjk c2 (p1 c2)
          have hw : s.way ≠ .up := fun z => by
            have e1 : pick s.way j (candA t f s j) (candB n t f s j) = some i := e1
            rw [z] at e1
            have e1 : candB n t f s j = some i := e1
            have := (candB_some e1).2.1; omega
          rw [n1 hw] at this; cases this
        · have := (candB_some h).2.1; omega
theorem src0_mono {n : Nat} {t : Tab} : Mono n (src0 t) := fun k j m hk ek hj ej => by
  unfold src0 at ej
  split at ej
  · cases ej; exact ⟨fun h => h, fun h => h⟩
  · cases ej
end L

set_option Elab.async false
set_option linter.all false
set_option maxRecDepth 100000
namespace L
open PySem PySem.Spec PyProof.Rows L2 DL
theorem natge (m : Nat) : ¬ ((m : Int) < 0) := by omega
theorem l_pick_ok (w : Way) (k : Nat) (a b : Option Nat) : d_l_pick [.str (wayS w), .int k, .int (srcI a), .int (srcI b)] = .ok (.int (srcI (pick w k a b))) := by
  unfold d_l_pick fnP b_l_pick pick
  cases w
  · simp [wayS]
  · simp [wayS, s_du]
  · cases b with
    | none => cases a <;> simp [wayS, s_ad, s_au, natge]
    | some j =>
      cases a with
      | none => simp [wayS, s_ad, s_au, natge]
      | some i =>
        by_cases c : (k : Int) - i = (j : Int) - k
        · simp [wayS, s_ad, s_au, c, natge]
        · by_cases c2 : (k : Int) - i < (j : Int) - k
          · simp [wayS, s_ad, s_au, c, c2, natge]
          · simp [wayS, s_ad, s_au, c, c2, natge]
  · cases b with
    | none => cases a <;> simp [wayS, s_bd, s_bu, natge]
    | some j =>
      cases a with
      | none => simp [wayS, s_bd, s_bu, natge]
      | some i =>
        by_cases c : (k : Int) - i = (j : Int) - k
        · simp [wayS, s_bd, s_bu, s_ba, c, natge]
        · by_cases c2 : (k : Int) - i < (j : Int) - k
          · simp [wayS, s_bd, s_bu, c, c2, natge]
          · simp [wayS, s_bd, s_bu, c, c2, natge]
/-- a table in order -/
structure OkT (n : Nat) (t : Tab) : Prop where
  le : n ≤ 1000
  lev : ∀ j, j < n → 0 ≤ (t j).level
  day : ∀ i j, i ≤ j → j < n → (t i).day ≤ (t j).day
theorem src_cell {n i num : Nat} {t : Tab} {f b : Src} {s : Fil} {s0 s5 s9 s10 s11 : Slot} (T : OkT n t) (hi : i < n) (hf : Bnd n f) (hm : Mono n f) :
    ∃ s9' s10' s11', lb_l_sources_1 [s0, .im (.lst (tabR n t)), .own (tabI n fun k => if k < i then newS n t s f k else f k), .im (.int i), .own (tabI n fun k => if k < i then newB n t s num f b k else b k), s5, .im (.int num), .fr (stepD (some s)), .fr (.lst (tabI n f)), s9, s10, s11] =
      .ok (.nx, [s0, .im (.lst (tabR n t)), .own (tabI n fun k => if k < i + 1 then newS n t s f k else f k), .im (.int i), .own (tabI n fun k => if k < i + 1 then newB n t s num f b k else b k), s5, .im (.int num), .fr (stepD (some s)), .fr (.lst (tabI n f)), s9', s10', s11']) := by
  have ew : oIx (stepD (some s)) (.int 0) = some (.str (wayS s.way)) := by simp [stepD]
  have eS := tabI_at (f := f) hi
  have same : ∀ (g g' : Src), g' i = g i → (tabI n fun k => if k < i then g' k else g k) = tabI n fun k => if k < i + 1 then g' k else g k := fun g g' h => tab_ext fun k hk => by
    dsimp only
    by_cases e : k = i
    · subst e; rw [if_neg (by omega), if_pos (by omega), h]
    · by_cases e2 : k < i
      · rw [if_pos e2, if_pos (by omega)]
      · rw [if_neg e2, if_neg (by omega)]
  have upd1 : ∀ (g g' : Src) (d : D), D.int (srcI (g' i)) = d → (tab n fun j => if j = i then d else D.int (srcI (if j < i then g' j else g j))) = tabI n fun k => if k < i + 1 then g' k else g k := fun g g' d h => tab_ext fun k hk => by
    dsimp only
    by_cases e : k = i
    · subst e; rw [if_pos rfl, if_pos (by omega), h]
    · rw [if_neg e]
      by_cases e2 : k < i
      · rw [if_pos e2, if_pos (by omega)]
      · rw [if_neg e2, if_neg (by omega)]
  cases hs : f i with
  | some m =>
    rw [hs] at eS
    have q1 : newS n t s f i = f i := by unfold newS; rw [hs]; rfl
    have q2 : newB n t s num f b i = b i := by unfold newB; rw [hs]; rfl
    rw [← same f _ q1, ← same b _ q2]
    refine ⟨s9, s10, s11, ?_⟩
    simp [lb_l_sources_1, eS, natge]
  | none =>
    rw [hs] at eS
    have eA := l_above_ok (s := s) T.le hi hf T.lev hs (fun j m hj ej => T.day m i (Nat.le_of_lt ((hm i j m hi hs (by omega) ej).1 hj)) hi)
    have eB := l_below_ok (s := s) T.le hi hf T.lev (fun j m hj hjn ej => T.day i m (Nat.le_of_lt ((hm i j m hi hs hjn ej).2 hj)) (hf j m hjn ej))
    have ec := l_pick_ok s.way i (candA t f s i) (candB n t f s i)
    refine ⟨.fr (.int (srcI (candA t f s i))), .fr (.int (srcI (candB n t f s i))), .fr (.int (srcI (takes n t s f i))), ?_⟩
    have et : pick s.way i (candA t f s i) (candB n t f s i) = takes n t s f i := rfl
    rw [et] at ec
    have m1 : ¬ ((0 : Int) ≤ -1) := by decide
    cases ht : takes n t s f i with
    | none =>
      have q1 : newS n t s f i = f i := by unfold newS; rw [hs, ht]; rfl
      have q2 : newB n t s num f b i = b i := by unfold newB; rw [hs, ht]; rfl
      rw [← same f _ q1, ← same b _ q2]
      rw [ht] at ec
      simp only [srcI_none] at ec
      simp [lb_l_sources_1, ew, eS, eA, eB, ec, m1]
    | some j =>
      obtain ⟨hj, hjs⟩ := takes_some hi ht
      obtain ⟨m, hmm⟩ := Option.isSome_iff_exists.mp hjs
      have q1 : newS n t s f i = some m := by unfold newS; rw [hs, ht]; exact hmm
      have q2 : newB n t s num f b i = some num := by unfold newB; rw [hs, ht]; rfl
      rw [ht] at ec
      have eJ := tabI_at (f := f) hj
      rw [hmm] at eJ
      have e5 : ∀ Γ : Nv, (Γ : List Slot)[2]? = some (.own (tabI n fun k => if k < i then newS n t s f k else f k)) → setAt 2 (.int m) (.int i) Γ = some (Γ.set 2 (.own (tabI n fun k => if k < i + 1 then newS n t s f k else f k))) := fun Γ h => by
        rw [set_tab (n := n) (k := i) (g := fun k => .int (srcI (if k < i then newS n t s f k else f k))) h ev_nolst_int hi, upd1 f (newS n t s f) _ (by rw [q1]; rfl)]
      have e6 : ∀ Γ : Nv, (Γ : List Slot)[4]? = some (.own (tabI n fun k => if k < i then newB n t s num f b k else b k)) → setAt 4 (.int num) (.int i) Γ = some (Γ.set 4 (.own (tabI n fun k => if k < i + 1 then newB n t s num f b k else b k))) := fun Γ h => by
        rw [set_tab (n := n) (k := i) (g := fun k => .int (srcI (if k < i then newB n t s num f b k else b k))) h ev_nolst_int hi, upd1 b (newB n t s num f b) _ (by rw [q2]; rfl)]
      simp only [srcI_some] at ec
      have m2 : (0 : Int) ≤ (j : Int) := by omega
      simp [lb_l_sources_1, ew, eS, eA, eB, ec, eJ, m2, e5, e6]
theorem src_cells {n num : Nat} {t : Tab} {f b : Src} {s : Fil} {s0 s3 s5 s9 s10 s11 : Slot} (T : OkT n t) (hf : Bnd n f) (hm : Mono n f) :
    ∃ s3' s9' s10' s11', dLoop lt_l_sources_1 lb_l_sources_1 (rangeD 0 n) [s0, .im (.lst (tabR n t)), .own (tabI n f), s3, .own (tabI n b), s5, .im (.int num), .fr (stepD (some s)), .fr (.lst (tabI n f)), s9, s10, s11] =
      .ok (.nx, [s0, .im (.lst (tabR n t)), .own (tabI n (newS n t s f)), s3', .own (tabI n (newB n t s num f b)), s5, .im (.int num), .fr (stepD (some s)), .fr (.lst (tabI n f)), s9', s10', s11']) := by
  obtain ⟨Γ', e, s3', s9', s10', s11', hΓ⟩ := loop_nx (p := lb_l_sources_1) (g := lt_l_sources_1) (Γ := [s0, .im (.lst (tabR n t)), .own (tabI n f), s3, .own (tabI n b), s5, .im (.int num), .fr (stepD (some s)), .fr (.lst (tabI n f)), s9, s10, s11]) (items := rangeD 0 n)
    (fun i Γ => ∃ s3 s9 s10 s11, Γ = [s0, .im (.lst (tabR n t)), .own (tabI n fun k => if k < i then newS n t s f k else f k), s3, .own (tabI n fun k => if k < i then newB n t s num f b k else b k), s5, .im (.int num), .fr (stepD (some s)), .fr (.lst (tabI n f)), s9, s10, s11])
    (by
      rintro i d Γ hd ⟨s3, s9, s10, s11, rfl⟩
      obtain ⟨rfl, hi⟩ := rangeD_get hd
      rw [Int.zero_add]
      obtain ⟨s9', s10', s11', e⟩ := src_cell (s0 := s0) (s5 := s5) (s9 := s9) (s10 := s10) (s11 := s11) (num := num) (b := b) (s := s) T hi hf hm
      exact ⟨_, _, rfl, .inl e, _, _, _, _, rfl⟩)
    (by
      have e0 : ∀ g g' : Src, (tabI n fun k => if k < 0 then g' k else g k) = tabI n g := fun g g' => tab_ext fun k hk => by dsimp only; rw [if_neg (by omega)]
      refine ⟨s3, s9, s10, s11, ?_⟩
      rw [e0, e0])
  subst hΓ
  have e1 : ∀ g g' : Src, (tabI n fun k => if k < (rangeD 0 n).length then g' k else g k) = tabI n g' := fun g g' => tab_ext fun k hk => by dsimp only; rw [if_pos (by rw [rangeD_len]; exact hk)]
  rw [e1, e1] at e
  exact ⟨_, _, _, _, e⟩
def stD (s : Option Fil) (ss : List (Option Fil)) (k : Nat) : Prop := ss[k]? = some s
def srcD (n : Nat) (s0 : Slot) (r : Src × Src × Option Nat) (t : Tab) (s3 s5 s6 s7 s8 s9 s10 s11 : Slot) : R (Err × Nv) (Fl × Nv) := match r.2.2 with
  | none => .ok (.nx, [s0, .im (.lst (tabR n t)), .own (tabI n r.1), s3, .own (tabI n r.2.1), s5, s6, s7, s8, s9, s10, s11])
  | some k => .ok (.rt (.tup [.lst (tabI n r.1), .lst (tabI n r.2.1), .int k]), [s0, .im (.lst (tabR n t)), .fr (.lst (tabI n r.1)), s3, .fr (.lst (tabI n r.2.1)), s5, s6, s7, s8, s9, s10, s11])
theorem src_loop {n : Nat} {t : Tab} {ss : List (Option Fil)} (T : OkT n t) : ∀ (r : List (Option Fil)) (k : Nat) (f b : Src) (s3 s5 s6 s7 s8 s9 s10 s11 : Slot), Bnd n f → Mono n f → r = ss.drop k → k ≤ ss.length →
    ∃ s3' s5' s6' s7' s8' s9' s10' s11', dLoop lt_l_sources_2 lb_l_sources_2 (rangeD (k : Int) r.length) [.im (.lst (ss.map stepD)), .im (.lst (tabR n t)), .own (tabI n f), s3, .own (tabI n b), s5, s6, s7, s8, s9, s10, s11] = srcD n (.im (.lst (ss.map stepD))) (runT n t r k f b) t s3' s5' s6' s7' s8' s9' s10' s11'
  | [], k, f, b, s3, s5, s6, s7, s8, s9, s10, s11, hf, hm, hr, hk => ⟨_, _, _, _, _, _, _, _, rfl⟩
  | x :: r, k, f, b, s3, s5, s6, s7, s8, s9, s10, s11, hf, hm, hr, hk => by
    have hx : ss[k]? = some x := by
      have : (ss.drop k)[0]? = some x := by rw [← hr]; rfl
      simpa using this
    have hlt : k < ss.length := (List.getElem?_eq_some_iff.mp hx).1
    have hr' : r = ss.drop (k + 1) := by
      have := congrArg List.tail hr
      simpa using this
    have e1 : atI (ss.map stepD) (k : Int) = some (stepD x) := atI_nat (by rw [List.getElem?_map, hx]; rfl)
    have er : rangeD (k : Int) (x :: r).length = .int k :: rangeD ((k + 1 : Nat) : Int) r.length := by
      unfold rangeD
      rw [List.length_cons, List.range_succ_eq_map, List.map_cons, List.map_map]
      have e0 : ((k : Int) + ((0 : Nat) : Int)) = k := by omega
      rw [e0]
      congr 1
      refine List.map_congr_left fun a _ => ?_
      show D.int ((k : Int) + ((a + 1 : Nat) : Int)) = D.int (((k + 1 : Nat) : Int) + a)
      congr 1
      omega
    rw [er]
    have nst : nolst (stepD x) = true := nolst_step
    cases x with
    | none =>
      refine ⟨s3, s5, .im (.int k), .fr (stepD none), s8, s9, s10, s11, ?_⟩
      have ew : oIx (stepD none) (.int 0) = some (.str "drop") := by simp [stepD]
      have sz : 3 ≤ sizeLine := natSize (by decide)
      have e : lb_l_sources_2 [.im (.lst (ss.map stepD)), .im (.lst (tabR n t)), .own (tabI n f), s3, .own (tabI n b), s5, .im (.int k), s7, s8, s9, s10, s11] =
          .ok (.rt (.tup [.lst (tabI n f), .lst (tabI n b), .int k]), [.im (.lst (ss.map stepD)), .im (.lst (tabR n t)), .fr (.lst (tabI n f)), s3, .fr (.lst (tabI n b)), s5, .im (.int k), .fr (stepD none), s8, s9, s10, s11]) := by
        simp [lb_l_sources_2, e1, nst, ew, frz, sz]
      exact loop_cons_rt (g := lt_l_sources_2) (p := lb_l_sources_2) rfl e
    | some s =>
      obtain ⟨s3', s9', s10', s11', el⟩ := src_cells (s0 := .im (.lst (ss.map stepD))) (s3 := s3) (s5 := s5) (s9 := s9) (s10 := s10) (s11 := s11) (num := k) (s := s) (b := b) T hf hm
      have ew : oIx (stepD (some s)) (.int 0) = some (.str (wayS s.way)) := by simp [stepD]
      have hw : ¬ wayS s.way = Str.ofString "drop" := way_ne s.way
      have hn := T.le
      have hrg : inRg (n : Int) := ⟨by omega, by omega⟩
      have nI := tabI_nolst (n := n) (f := f)
      have e : lb_l_sources_2 [.im (.lst (ss.map stepD)), .im (.lst (tabR n t)), .own (tabI n f), s3, .own (tabI n b), s5, .im (.int k), s7, s8, s9, s10, s11] =
          .ok (.nx, [.im (.lst (ss.map stepD)), .im (.lst (tabR n t)), .own (tabI n (newS n t s f)), s3', .own (tabI n (newB n t s k f b)), s5, .im (.int k), .fr (stepD (some s)), .fr (.lst (tabI n f)), s9', s10', s11']) := by
        simp [lb_l_sources_2, e1, nst, ew, hw, nI, rg1, hrg, el]
      obtain ⟨t3, t5, t6, t7, t8, t9, t10, t11, ih⟩ := src_loop (ss := ss) T r (k + 1) (newS n t s f) (newB n t s k f b) s3' s5 (.im (.int k)) (.fr (stepD (some s))) (.fr (.lst (tabI n f))) s9' s10' s11' (newS_bnd hf) (newS_mono T.lev T.day hf hm) hr' (by omega)
      refine ⟨t3, t5, t6, t7, t8, t9, t10, t11, ?_⟩
      refine (loop_cons_nx (g := lt_l_sources_2) (p := lb_l_sources_2) (Γ1 := [.im (.lst (ss.map stepD)), .im (.lst (tabR n t)), .own (tabI n f), s3, .own (tabI n b), s5, .im (.int k), s7, s8, s9, s10, s11]) rfl e).trans ih
theorem l_sources_ok {n : Nat} {t : Tab} (ss : List (Option Fil)) (T : OkT n t) (hss : ss.length ≤ 1000) : d_l_sources [.lst (ss.map stepD), .lst (tabR n t)] =
    .ok (.tup [.lst (tabI n (runT n t ss 0 (src0 t) nos).1), .lst (tabI n (runT n t ss 0 (src0 t) nos).2.1), .int (srcI (runT n t ss 0 (src0 t) nos).2.2)]) := by
  have hn := T.le
  have sz3 : 3 ≤ sizeLine := natSize (by decide)
  have nI : ∀ g : Src, nolsts (tabI n g) = true := fun g => tabI_nolst
  have hrg : inRg (n : Int) := ⟨by omega, by omega⟩
  have hrg2 : inRg (ss.length : Int) := ⟨by omega, by omega⟩
  have ec : lc_l_sources_1 [.im (.lst (ss.map stepD)), .im (.lst (tabR n t)), .emp, .emp, .emp, .emp, .emp, .emp, .emp, .emp, .emp, .emp] = .ok (tabI n (src0 t), [.im (.lst (ss.map stepD)), .im (.lst (tabR n t)), .emp, .emp, .emp, .emp, .emp, .emp, .emp, .emp, .emp, .emp]) := by
    have e1 : ∀ lg a f own, (∀ i d, (rangeD 0 n)[i]? = some d → ∃ Γ1 Γ2 Γ3, lg d [.im (.lst (ss.map stepD)), .im (.lst (tabR n t)), .emp, .emp, .emp, .emp, .emp, .emp, .emp, .emp, .emp, .emp] = some Γ1 ∧ a Γ1 = .ok (true, Γ2) ∧ f Γ2 = .ok (.int (srcI (src0 t i)), Γ3) ∧ wipeN Γ3 own = [.im (.lst (ss.map stepD)), .im (.lst (tabR n t)), .emp, .emp, .emp, .emp, .emp, .emp, .emp, .emp, .emp, .emp]) →
        lcLoop lg a f own (rangeD 0 n) [.im (.lst (ss.map stepD)), .im (.lst (tabR n t)), .emp, .emp, .emp, .emp, .emp, .emp, .emp, .emp, .emp, .emp] [] = .ok (tabI n (src0 t), [.im (.lst (ss.map stepD)), .im (.lst (tabR n t)), .emp, .emp, .emp, .emp, .emp, .emp, .emp, .emp, .emp, .emp]) :=
      fun lg a f own h => lc_tab (fun i => .int (srcI (src0 t i))) rangeD_len hn h
    have e2 := e1 (dgN 3) dYes (dIf (dBool (dOp oNotN (dOp oIx (dOp oIx (dV 1) (dV 3)) (dC (.int 2))) (dC .non))) (dN (dV 3)) (dUn oNeg (dC (.int 1)))) [3] (by
      intro i d hd
      obtain ⟨rfl, hi⟩ := rangeD_get hd
      rw [Int.zero_add]
      refine ⟨_, _, [.im (.lst (ss.map stepD)), .im (.lst (tabR n t)), .emp, .im (.int i), .emp, .emp, .emp, .emp, .emp, .emp, .emp, .emp], rfl, rfl, ?_, rfl⟩
      have eR := tabR_at (t := t) hi
      have ev : oIx (rowD (t i)) (.int 2) = some (optD (t i).value) := by simp [rowD]
      cases hv : (t i).value with
      | none =>
        have z : src0 t i = none := by unfold src0; rw [hv]; rfl
        rw [hv] at ev
        simp [eR, ev, z]
      | some v =>
        have z : src0 t i = some i := by unfold src0; rw [hv]; rfl
        rw [hv] at ev
        simp [eR, ev, z])
    unfold lc_l_sources_1 dLc
    simp [rg1, hrg, DL.plain, wipeN, e2, giveBack]
  have ec2 : lc_l_sources_2 [.im (.lst (ss.map stepD)), .im (.lst (tabR n t)), .own (tabI n (src0 t)), .emp, .emp, .emp, .emp, .emp, .emp, .emp, .emp, .emp] = .ok (tabI n nos, [.im (.lst (ss.map stepD)), .im (.lst (tabR n t)), .own (tabI n (src0 t)), .emp, .emp, .emp, .emp, .emp, .emp, .emp, .emp, .emp]) := by
    have e1 : ∀ lg a f own, (∀ i d, (tabR n t)[i]? = some d → ∃ Γ1 Γ2 Γ3, lg d [.im (.lst (ss.map stepD)), .im (.lst (tabR n t)), .own (tabI n (src0 t)), .emp, .emp, .emp, .emp, .emp, .emp, .emp, .emp, .emp] = some Γ1 ∧ a Γ1 = .ok (true, Γ2) ∧ f Γ2 = .ok (.int (srcI (nos i)), Γ3) ∧ wipeN Γ3 own = [.im (.lst (ss.map stepD)), .im (.lst (tabR n t)), .own (tabI n (src0 t)), .emp, .emp, .emp, .emp, .emp, .emp, .emp, .emp, .emp]) →
        lcLoop lg a f own (tabR n t) [.im (.lst (ss.map stepD)), .im (.lst (tabR n t)), .own (tabI n (src0 t)), .emp, .emp, .emp, .emp, .emp, .emp, .emp, .emp, .emp] [] = .ok (tabI n nos, [.im (.lst (ss.map stepD)), .im (.lst (tabR n t)), .own (tabI n (src0 t)), .emp, .emp, .emp, .emp, .emp, .emp, .emp, .emp, .emp]) :=
      fun lg a f own h => lc_tab (fun i => .int (srcI (nos i))) (by simp) hn h
    have e2 := e1 (dgN 5) dYes (dUn oNeg (dC (.int 1))) [5] (by
      intro i d hd
      obtain ⟨rfl, hi⟩ := tab_some hd
      refine ⟨_, _, [.im (.lst (ss.map stepD)), .im (.lst (tabR n t)), .own (tabI n (src0 t)), .emp, .emp, .im (rowD (t i)), .emp, .emp, .emp, .emp, .emp, .emp], rfl, rfl, ?_, rfl⟩
      simp [nos])
    unfold lc_l_sources_2 dLc
    simp [DL.plain, wipeN, e2, giveBack]
  unfold d_l_sources
  refine fnP_eq rfl ?_
  obtain ⟨t3, t5, t6, t7, t8, t9, t10, t11, el⟩ := src_loop (ss := ss) T ss 0 (src0 t) nos .emp .emp .emp .emp .emp .emp .emp .emp src0_bnd src0_mono rfl (by omega)
  have el : dLoop lt_l_sources_2 lb_l_sources_2 (rangeD 0 ss.length) _ = _ := el
  generalize hr : runT n t ss 0 (src0 t) nos = r at *
  obtain ⟨f, b, o⟩ := r
  cases o with
  | none =>
    unfold srcD at el
    dsimp only at el
    simp [b_l_sources, ec, nI, ec2, rg1, hrg2, el, frz, sz3]
  | some k =>
    unfold srcD at el
    dsimp only at el
    simp [b_l_sources, ec, nI, ec2, rg1, hrg2, el, frz, sz3]
end L

set_option Elab.async false
set_option linter.all false
set_option maxRecDepth 100000
namespace L
open PySem PySem.Spec PyProof.Rows L2 DL
/-! ### what is told -/
def goneD : Option Nat → D
  | none => .non
  | some _ => .str "dropped"
/-- the entry at k -/
def toldD (t : Tab) (r : Src × Src × Option Nat) (k : Nat) : D := match r.1 k with
  | none => goneD r.2.2
  | some m => optD (t m).value
@[simp] theorem nolst_gone {o : Option Nat} : nolst (goneD o) = true := by cases o <;> simp [goneD]
@[simp] theorem nolst_told {t : Tab} {r : Src × Src × Option Nat} {k : Nat} : nolst (toldD t r k) = true := by unfold toldD; split <;> simp
abbrev runAll (n : Nat) (t : Tab) (ss : List (Option Fil)) : Src × Src × Option Nat := runT n t ss 0 (src0 t) nos
theorem runAll_bnd {n : Nat} {t : Tab} {ss : List (Option Fil)} : Bnd n (runAll n t ss).1 := runT_bnd src0_bnd
/-- a Script of these steps -/
def scrD (C : Addr) (ss : List (Option Fil)) : D := .ins C ["parts"] [.lst (ss.map stepD)]
theorem scr_list {C : Addr} {ss : List (Option Fil)} : oListP C "parts" [scrD C ss] = some (ss.map stepD) := by
  unfold oListP scrD
  dsimp only
  rw [if_pos ⟨rfl, rfl, steps_nolst ss⟩]
theorem cells_okX {C : Addr} {n : Nat} {t : Tab} {x : D} (ss : List (Option Fil)) (es : oListP C "parts" [x] = some (ss.map stepD)) (hn : n ≤ 1000) (hc : d_check_rows [.lst (tabR n t), .int 0, .int 0] = .ok .non) : d_cells C [x, .lst (tabR n t)] = .ok (.lst (tab n (toldD t (runAll n t ss)))) := by
  have e := run_steps_ok (t := t) ss hn
  have hb : Bnd n (runT n t ss 0 (src0 t) nos).1 := runT_bnd src0_bnd
  show _ = R.ok (D.lst (tab n (toldD t (runT n t ss 0 (src0 t) nos))))
  generalize hr : runT n t ss 0 (src0 t) nos = r at *
  obtain ⟨f, b, o⟩ := r
  dsimp only at e hb
  have ec : ∀ s0 s3 s4, lc_cells_1 [s0, .im (.lst (tabR n t)), .im (.lst (tabS n f)), s3, s4, .fr (goneD o), .emp] = .ok (tab n (toldD t (f, b, o)), [s0, .im (.lst (tabR n t)), .im (.lst (tabS n f)), s3, s4, .fr (goneD o), .emp]) := by
    intro s0 s3 s4
    have e1 : ∀ lg a fe own, (∀ i d, (tabS n f)[i]? = some d → ∃ Γ1 Γ2 Γ3, lg d [s0, .im (.lst (tabR n t)), .im (.lst (tabS n f)), s3, s4, .fr (goneD o), .emp] = some Γ1 ∧ a Γ1 = .ok (true, Γ2) ∧ fe Γ2 = .ok (toldD t (f, b, o) i, Γ3) ∧ wipeN Γ3 own = [s0, .im (.lst (tabR n t)), .im (.lst (tabS n f)), s3, s4, .fr (goneD o), .emp]) →
        lcLoop lg a fe own (tabS n f) [s0, .im (.lst (tabR n t)), .im (.lst (tabS n f)), s3, s4, .fr (goneD o), .emp] [] = .ok (tab n (toldD t (f, b, o)), [s0, .im (.lst (tabR n t)), .im (.lst (tabS n f)), s3, s4, .fr (goneD o), .emp]) :=
      fun lg a fe own h => lc_tab (toldD t (f, b, o)) (by simp) hn h
    have e2 := e1 (dgN 6) dYes (dIf (dBool (dOp oIsN (dV 6) (dC .non))) (dN (dV 5)) (dN (dOp oIx (dOp oIx (dV 1) (dV 6)) (dC (.int 2))))) [6] (by
      intro i d hd
      obtain ⟨rfl, hi⟩ := tab_some hd
      refine ⟨_, _, [s0, .im (.lst (tabR n t)), .im (.lst (tabS n f)), s3, s4, .fr (goneD o), .im (optN (f i))], rfl, rfl, ?_, rfl⟩
      cases hm : f i with
      | none =>
        have ez : toldD t (f, b, o) i = goneD o := by unfold toldD; dsimp only; rw [hm]
        rw [ez]
        simp
      | some m =>
        have ez : toldD t (f, b, o) i = optD (t m).value := by unfold toldD; dsimp only; rw [hm]
        rw [ez]
        have eR := tabR_at (t := t) (hb i m hi hm)
        have ev : oIx (rowD (t m)) (.int 2) = some (optD (t m).value) := by simp [rowD]
        simp [eR, ev])
    unfold lc_cells_1 dLc
    simp [DL.plain, wipeN, e2, giveBack]
  unfold d_cells
  refine fnP_eq rfl ?_
  cases o with
  | none =>
    have ec := ec (.im x) (.im (.lst (tabS n b))) (.im .non)
    simp only [goneD] at ec
    simp [b_cells, hc, es, e, ec]
  | some k =>
    have ec := ec (.im x) (.im (.lst (tabS n b))) (.im (.int k))
    simp only [goneD] at ec
    simp [b_cells, hc, es, e, ec]
theorem cells_ok {C : Addr} {n : Nat} {t : Tab} (ss : List (Option Fil)) (hn : n ≤ 1000) (hc : d_check_rows [.lst (tabR n t), .int 0, .int 0] = .ok .non) : d_cells C [scrD C ss, .lst (tabR n t)] = .ok (.lst (tab n (toldD t (runAll n t ss)))) := cells_okX ss scr_list hn hc
/-! ### a thing is the same as itself -/
def plainD : Nat → D → Prop
  | 0, _ => False
  | k + 1, d => match d with
    | .non => True
    | .bl _ => True
    | .int _ => True
    | .str _ => True
    | .tup xs => xs.length ≤ 1000 ∧ ∀ x ∈ xs, plainD k x
    | .lst xs => xs.length ≤ 1000 ∧ ∀ x ∈ xs, plainD k x
    | _ => False
theorem same_loop {k : Nat} {d : D} {xs : List D} (hx : d = .lst xs ∨ d = .tup xs) (hl : xs.length ≤ 1000) (h : ∀ x ∈ xs, d_l_same k [x, x] = .ok (.bl true)) :
    ∃ s2, dLoop lt_l_same_1 (lb_l_same_1 (d_l_same k)) (rangeD 0 xs.length) [.im d, .im d, .emp] = .ok (.nx, [.im d, .im d, s2]) := by
  obtain ⟨Γ', e, s2, hΓ⟩ := loop_nx (p := lb_l_same_1 (d_l_same k)) (g := lt_l_same_1) (Γ := [.im d, .im d, .emp]) (items := rangeD 0 xs.length)
    (fun i Γ => ∃ s2, Γ = [.im d, .im d, s2])
    (by
      rintro i x Γ hd ⟨s2, rfl⟩
      obtain ⟨rfl, hi⟩ := rangeD_get hd
      rw [Int.zero_add]
      refine ⟨_, [.im d, .im d, .im (.int i)], rfl, .inl ?_, _, rfl⟩
      have ex := List.getElem?_eq_getElem hi
      have e1 := atI_nat ex
      have e2 := h _ (List.getElem_mem hi)
      rcases hx with rfl | rfl
      · simp [lb_l_same_1, e1, e2, truD]
      · simp [lb_l_same_1, e1, e2, truD])
    ⟨_, rfl⟩
  subst hΓ
  exact ⟨s2, e⟩
theorem isi_tt {ds : List D} : oIsi [.tup ds, .ty "tuple"] = some (.bl true) := by rfl
theorem same_ok : ∀ (k : Nat) (d : D), plainD k d → d_l_same k [d, d] = .ok (.bl true)
  | 0, _, h => h.elim
  | k + 1, d, h => by
    have sz : ∀ xs : List D, xs.length ≤ 1000 → inRg (xs.length : Int) := fun xs h => ⟨by omega, by omega⟩
    unfold d_l_same
    refine fnP_eq rfl ?_
    cases d with
    | tup xs =>
      obtain ⟨s2, e⟩ := same_loop (k := k) (d := .tup xs) (.inr rfl) h.1 (fun x hx => same_ok k x (h.2 x hx))
      have e1 : oIsi [.tup xs, .ty "tuple"] = some (.bl true) := by rfl
      have e2 : oIsi [.tup xs, .ty "list"] = some (.bl false) := by rfl
      simp [b_l_same, e1, e2, truD, rg1, sz xs h.1, e]
    | lst xs =>
      obtain ⟨s2, e⟩ := same_loop (k := k) (d := .lst xs) (.inl rfl) h.1 (fun x hx => same_ok k x (h.2 x hx))
      have e1 : oIsi [.lst xs, .ty "tuple"] = some (.bl false) := by rfl
      have e2 : oIsi [.lst xs, .ty "list"] = some (.bl true) := by rfl
      simp [b_l_same, e1, e2, truD, rg1, sz xs h.1, e]
    | non =>
      have e1 : oIsi [.non, .ty "tuple"] = some (.bl false) := by rfl
      have e2 : oIsi [.non, .ty "list"] = some (.bl false) := by rfl
      simp [b_l_same, e1, e2, truD]
    | int i =>
      have e1 : oIsi [.int i, .ty "tuple"] = some (.bl false) := by rfl
      have e2 : oIsi [.int i, .ty "list"] = some (.bl false) := by rfl
      have e3 : oIsi [.int i, .ty "str"] = some (.bl false) := by rfl
      have e4 : oIsi [.int i, .ty "int"] = some (.bl true) := by rfl
      have e5 : oIsi [.int i, .ty "bool"] = some (.bl false) := by rfl
      simp [b_l_same, e1, e2, e3, e4, e5, truD, oIsTF, flatD, oNot]
    | str i =>
      have e1 : oIsi [.str i, .ty "tuple"] = some (.bl false) := by rfl
      have e2 : oIsi [.str i, .ty "list"] = some (.bl false) := by rfl
      have e3 : oIsi [.str i, .ty "str"] = some (.bl true) := by rfl
      have e6 : oIsN (.str i) .non = some (.bl false) := by rfl
      simp [b_l_same, e1, e2, e3, e6, truD, oIsTF, flatD]
    | bl i =>
      have e1 : oIsi [.bl i, .ty "tuple"] = some (.bl false) := by rfl
      have e2 : oIsi [.bl i, .ty "list"] = some (.bl false) := by rfl
      have e5 : oIsi [.bl i, .ty "bool"] = some (.bl true) := by rfl
      have e6 : oIsN (.bl i) .non = some (.bl false) := by rfl
      have e7 : oEq (.bl i) (.bl i) = some (.bl true) := by cases i <;> rfl
      cases i <;> simp [b_l_same, e1, e2, e5, e6, e7, truD, oIsTF, flatD]
    | _ => exact h.elim
end L

set_option Elab.async false
set_option linter.all false
set_option maxRecDepth 100000
namespace L
open PySem PySem.Spec PyProof.Rows L2 DL
/-- a comprehension by an invariant -/
theorem lc_inv {g : D → Nv → Option Nv} {a : EF Bool} {f : EF D} {own : List Nat} (I : Nat → Nv → List D → Prop) {items : List D} {Γ : Nv}
    (hstep : ∀ i d Γ acc, items[i]? = some d → I i Γ acc → acc.length < sizeLine ∧ ∃ Γ1 Γ2 y Γ3, g d Γ = some Γ1 ∧ a Γ1 = .ok (true, Γ2) ∧ f Γ2 = .ok (y, Γ3) ∧ I (i + 1) (wipeN Γ3 own) (acc ++ [y])) (h0 : I 0 Γ []) :
    ∃ Γ' out, lcLoop g a f own items Γ [] = .ok (out, Γ') ∧ I items.length Γ' out := by
  have key : ∀ (rest : List D) (i : Nat) (Γ : Nv) (acc : List D), (∀ j, rest[j]? = items[i + j]?) → i + rest.length = items.length → I i Γ acc → ∃ Γ' out, lcLoop g a f own rest Γ acc = .ok (out, Γ') ∧ I items.length Γ' out := by
    intro rest
    induction rest with
    | nil => intro i Γ acc _ hl hi; exact ⟨Γ, acc, rfl, by rw [← hl]; exact hi⟩
    | cons d r ih =>
      intro i Γ acc hr hl hi
      obtain ⟨h1, Γ1, Γ2, y, Γ3, e1, e2, e3, e4⟩ := hstep i d Γ acc (by rw [← Nat.add_zero i, ← hr 0]; rfl) hi
      obtain ⟨Γ', out, e5, h5⟩ := ih (i + 1) (wipeN Γ3 own) (acc ++ [y]) (fun j => by
        have := hr (j + 1)
        rw [List.getElem?_cons_succ] at this
        rw [this]; congr 1; omega) (by rw [List.length_cons] at hl; omega) e4
      refine ⟨Γ', out, ?_, h5⟩
      unfold lcLoop
      rw [e1]
      simp only [e2, e3]
      rw [if_pos h1]
      exact e5
  exact key items 0 Γ [] (fun j => by rw [Nat.zero_add]) (by omega) h0
theorem steps_ok (p : List Int) (n b lo hi : Int) (hn : 0 ≤ n) (h0 : 0 ≤ lo) (h1 : lo ≤ hi) (h2 : hi ≤ 100) : ∃ ss : List (Option Fil), ∃ n', d_l_steps ⟨p, n, b⟩ [.int lo, .int hi] = .ok (.lst (ss.map stepD), ⟨p, n', b⟩) ∧ 0 ≤ n' ∧ (∀ s ∈ ss, okStep s) ∧ lo ≤ ss.length ∧ ss.length ≤ hi := by
  obtain ⟨r, e1, q0, q1⟩ := take_ok p n b (hi - lo + 1) hn (by omega)
  obtain ⟨Γ', out, el, ss, n', hΓ, ho, hn', hs, hl⟩ := lc_inv (g := dgN 4) (a := dYes) (f := dCallD 0 L.d_l_step dNil) (own := [4]) (items := rangeD 0 (lo + r).toNat) (Γ := [.dr ⟨p, n + 1, b⟩, .im (.int lo), .im (.int hi), .fr (.int (lo + r)), .emp])
    (fun i Γ acc => ∃ ss : List (Option Fil), ∃ n', Γ = [.dr ⟨p, n', b⟩, .im (.int lo), .im (.int hi), .fr (.int (lo + r)), .emp] ∧ acc = ss.map stepD ∧ 0 ≤ n' ∧ (∀ s ∈ ss, okStep s) ∧ ss.length = i)
    (by
      rintro i d Γ acc hd ⟨ss, n', rfl, rfl, hn', hs, hl⟩
      obtain ⟨rfl, hi'⟩ := rangeD_get hd
      obtain ⟨s, n2, e2, q2, q3⟩ := step_ok p n' b hn'
      refine ⟨lt_size (by simp; omega), _, _, stepD s, [.dr ⟨p, n2, b⟩, .im (.int lo), .im (.int hi), .fr (.int (lo + r)), .im (.int (0 + i))], rfl, rfl, ?_, ss ++ [s], n2, rfl, by simp, q2, ?_, by simp [hl]⟩
      · simp [e2]
      · intro x hx
        rcases List.mem_append.mp hx with h | h
        · exact hs x h
        · rcases List.mem_singleton.mp h with rfl; exact q3)
    ⟨[], n + 1, rfl, rfl, by omega, fun _ h => (nomatch h), rfl⟩
  rw [rangeD_len] at hl
  subst hΓ; subst ho
  have hr : inRg (lo + r) := ⟨by omega, by omega⟩
  have ec : lc_l_steps_1 [.dr ⟨p, n + 1, b⟩, .im (.int lo), .im (.int hi), .fr (.int (lo + r)), .emp] = .ok (ss.map stepD, [.dr ⟨p, n', b⟩, .im (.int lo), .im (.int hi), .fr (.int (lo + r)), .emp]) := by
    unfold lc_l_steps_1 dLc
    simp [rg1, hr, DL.plain, wipeN, el, giveBack]
  refine ⟨ss, n', ?_, hn', hs, by omega, by omega⟩
  unfold d_l_steps fnD b_l_steps
  simp [e1, ec]
end L

set_option Elab.async false
set_option linter.all false
set_option maxRecDepth 100000
namespace L
open PySem PySem.Spec PyProof.Rows L2 DL
theorem okT_rows {t : List Row} (h : okRows 0 t) (hl : t.length ≤ 1000) : OkT t.length (rowAt t) := ⟨hl, fun j hj => (okRows_at h j hj).1.1, fun i j hij hj => okRows_days h i j hij hj⟩
theorem rows_tabR (t : List Row) : t.map rowD = tabR t.length (rowAt t) := rows_tab t
theorem plain_told {n : Nat} {t : Tab} {r : Src × Src × Option Nat} (hn : n ≤ 1000) : plainD 7 (.lst (tab n (toldD t r))) := by
  refine ⟨by simpa using hn, fun x hx => ?_⟩
  obtain ⟨k, _, rfl⟩ := List.mem_map.mp hx
  unfold toldD
  split
  · cases r.2.2 <;> trivial
  · cases (t _).value <;> trivial
theorem plain_rows {n : Nat} {t : Tab} (hn : n ≤ 1000) : plainD 7 (.lst (tabR n t)) := by
  refine ⟨by simpa using hn, fun x hx => ?_⟩
  obtain ⟨k, _, rfl⟩ := List.mem_map.mp hx
  refine ⟨by simp, fun x hx => ?_⟩
  simp at hx
  rcases hx with rfl | rfl | rfl
  · trivial
  · trivial
  · cases (t k).value <;> trivial
theorem plain_steps (ss : List (Option Fil)) (hl : ss.length ≤ 1000) : plainD 7 (.lst (ss.map stepD)) := by
  refine ⟨by simpa using hl, fun x hx => ?_⟩
  obtain ⟨s, _, rfl⟩ := List.mem_map.mp hx
  cases s with
  | none =>
    refine ⟨by simp, fun x hx => ?_⟩
    simp at hx
    rcases hx with rfl | rfl | rfl <;> trivial
  | some s =>
    refine ⟨by simp, fun x hx => ?_⟩
    simp at hx
    rcases hx with rfl | rfl | rfl | rfl
    · trivial
    · cases s.rows <;> trivial
    · cases s.days <;> trivial
    · trivial
theorem nolst_tabR {n : Nat} {t : Tab} : nolsts (tabR n t) = true := tab_nolst fun _ _ => nolst_row
/-- what a drawn table gives: its rows in order, and that the program's check lets it pass -/
theorem table_ok2 (p : List Int) (n b m : Int) (hn : 0 ≤ n) (hm : 0 ≤ m) (hm2 : m ≤ 60) : ∃ k : Nat, ∃ t : Tab, ∃ n', d_l_table ⟨p, n, b⟩ [.int m] = .ok (.lst (tabR k t), ⟨p, n', b⟩) ∧ 0 ≤ n' ∧ k ≤ 60 ∧ OkT k t ∧ d_check_rows [.lst (tabR k t), .int 0, .int 0] = .ok .non := by
  obtain ⟨tl, n2, e3, h3, hrows, hlen, hlast⟩ := table_ok p n b m hn hm hm2
  have hc := check_rows_ok tl 0 hrows
  rw [rows_tabR] at e3 hc
  exact ⟨tl.length, rowAt tl, n2, e3, h3, hlen, okT_rows hrows (by omega), hc⟩
end L

set_option Elab.async false
set_option linter.all false
set_option maxRecDepth 100000
namespace L
open PySem PySem.Spec PyProof.Rows L2 DL
/-! ### written steps -/
abbrev strI (i : Int) : Str := Str.ofString (toString i)
theorem strI_len {i : Int} (h0 : 0 ≤ i) (h1 : i < 1073741824) : (strI i).length ≤ 30 := by
  obtain ⟨m, rfl⟩ : ∃ m : Nat, i = m := ⟨i.toNat, by omega⟩
  have e : (toString (m : Int) : String) = Nat.repr m := rfl
  show (Str.ofString (toString (m : Int))).length ≤ 30
  rw [e, Str.ofString_eq_toList]
  show ((Nat.repr m).toList.map Char.toNat).toArray.size ≤ 30
  have := nat_repr_length_le (n := m) (k := 30) (by omega) (by omega)
  simpa [Nat.repr] using this
theorem strI_ok {i : Int} (h0 : 0 ≤ i) (h1 : i < 1073741824) : oStr [.int i] = some (.str (strI i)) := by
  have : i.natAbs.log2 < 1920 := by
    by_cases hz : i.natAbs = 0
    · rw [hz]; decide
    · have := (Nat.log2_lt hz).mpr (show i.natAbs < 2 ^ 30 by omega)
      omega
  unfold oStr
  dsimp only
  rw [if_pos this]
def optW (w : String) (o : Option Int) : List Str := match o with
  | none => []
  | some i => [Str.ofString w, strI i]
def reachW (c : Int) : List Str := if c = 2 then [] else [Str.ofString "reach", strI c]
def wordsS : Option Fil → List Str
  | none => [Str.ofString "drop"]
  | some s => wayS s.way :: (optW "rows" s.rows ++ (optW "days" s.days ++ reachW s.reach))
def optL (w : String) (o : Option Int) (x : Str) : Str := match o with
  | none => x
  | some i => x ++ Str.ofString w ++ strI i
def reachL (c : Int) (x : Str) : Str := if c = 2 then x else x ++ Str.ofString " reach " ++ strI c
def lineS : Option Fil → Str
  | none => Str.ofString "drop"
  | some s => reachL s.reach (optL " days " s.days (optL " rows " s.rows (wayS s.way)))
theorem sp_rows : Str.ofString " rows " = Str.ofString " " ++ Str.ofString "rows" ++ Str.ofString " " := by decide +kernel
theorem sp_days : Str.ofString " days " = Str.ofString " " ++ Str.ofString "days" ++ Str.ofString " " := by decide +kernel
theorem sp_reach : Str.ofString " reach " = Str.ofString " " ++ Str.ofString "reach" ++ Str.ofString " " := by decide +kernel
theorem words_line (s : Option Fil) : Str.join (Str.ofString " ") (wordsS s) = lineS s := by
  cases s with
  | none => rfl
  | some s =>
    obtain ⟨w, r, y, c⟩ := s
    by_cases hc : c = 2
    · cases r <;> cases y <;> simp [wordsS, lineS, optW, optL, reachW, reachL, hc, Str.join, sp_rows, sp_days, Str.append_assoc]
    · cases r <;> cases y <;> simp [wordsS, lineS, optW, optL, reachW, reachL, hc, Str.join, sp_rows, sp_days, sp_reach, Str.append_assoc]
theorem way_len (w : Way) : (wayS w).length ≤ 10 := by cases w <;> decide +kernel
theorem l_drop : (Str.ofString "drop").length = 4 := by decide +kernel
theorem l_rows : (Str.ofString "rows").length = 4 := by decide +kernel
theorem l_days : (Str.ofString "days").length = 4 := by decide +kernel
theorem l_reach : (Str.ofString "reach").length = 5 := by decide +kernel
theorem l_sp : (Str.ofString " ").length = 1 := by decide +kernel
theorem l_nl : (Str.ofString "\n").length = 1 := by decide +kernel
theorem l_rows2 : (Str.ofString " rows ").length = 6 := by decide +kernel
theorem l_days2 : (Str.ofString " days ").length = 6 := by decide +kernel
theorem l_reach2 : (Str.ofString " reach ").length = 7 := by decide +kernel
theorem optL_len {w : String} {o : Option Int} {x : Str} {n : Nat} (hw : (Str.ofString w).length ≤ 6) (ho : ∀ i, o = some i → 0 ≤ i ∧ i < 1073741824) (hx : x.length ≤ n) : (optL w o x).length ≤ n + 36 := by
  cases o with
  | none => exact Nat.le_trans hx (by omega)
  | some i =>
    have := strI_len (ho i rfl).1 (ho i rfl).2
    show (x ++ Str.ofString w ++ strI i).length ≤ _
    rw [Str.length_append, Str.length_append]
    omega
theorem okLim {s : Fil} (h : okFil s) : (∀ i, s.rows = some i → 0 ≤ i ∧ i < 1073741824) ∧ (∀ i, s.days = some i → 0 ≤ i ∧ i < 1073741824) ∧ 0 ≤ s.reach ∧ s.reach < 1073741824 :=
  ⟨fun i hi => ⟨by have := (h.1 i hi).1; omega, by have := (h.1 i hi).2; omega⟩, fun i hi => ⟨(h.2.1 i hi).1, by have := (h.2.1 i hi).2; omega⟩, h.2.2.1, by have := h.2.2.2; omega⟩
theorem line_len {s : Option Fil} (h : okStep s) : (lineS s).length ≤ 200 := by
  cases s with
  | none => show (Str.ofString "drop").length ≤ 200; rw [l_drop]; omega
  | some s =>
    obtain ⟨h1, h2, h3, h4⟩ := okLim h
    have a1 := optL_len (x := wayS s.way) (w := " rows ") (by rw [l_rows2]; omega) h1 (way_len _)
    have a2 := optL_len (w := " days ") (by rw [l_days2]; omega) h2 a1
    show (reachL s.reach (optL " days " s.days (optL " rows " s.rows (wayS s.way)))).length ≤ 200
    unfold reachL
    split
    · omega
    · have := strI_len h3 h4
      rw [Str.length_append, Str.length_append, l_reach2]
      omega
theorem strs_words : ∀ xs : List Str, strsOf (xs.map D.str) = some xs
  | [] => rfl
  | x :: r => by show (strsOf (r.map D.str)).map _ = _; rw [strs_words r]; rfl
theorem sizeBig {n : Nat} (h : n ≤ 16777216) : n ≤ sizeLine := by
  have : sizeLine = 16777216 := sizeLine_eq
  omega
theorem ne2 {c : Int} : oNe (.int c) (.int 2) = some (.bl (!decide (c = 2))) := by
  simp [oNe, eqB, flatD, scal]
theorem join_words {xs : List Str} (h : (xs.map (·.length)).sum + xs.length ≤ 16777216) : oJoin (.str " ") (.lst (xs.map D.str)) = some (.str (Str.join (Str.ofString " ") xs)) := by
  unfold oJoin
  dsimp only [seqOf, Option.bind]
  rw [strs_words]
  dsimp only
  rw [if_pos (by rw [l_sp]; omega)]
theorem words_len {s : Option Fil} (h : okStep s) : ((wordsS s).map (·.length)).sum + (wordsS s).length ≤ 300 := by
  cases s with
  | none => simp [wordsS, l_drop]
  | some s =>
    obtain ⟨h1, h2, h3, h4⟩ := okLim h
    have a0 := way_len s.way
    have a3 := strI_len h3 h4
    obtain ⟨w, r, y, c⟩ := s
    dsimp only at *
    by_cases hc : c = 2
    · cases r with
      | none =>
        cases y with
        | none => simp [wordsS, optW, reachW, hc]; omega
        | some j =>
          have a2 := strI_len (h2 j rfl).1 (h2 j rfl).2
          simp [wordsS, optW, reachW, hc, l_days]; omega
      | some i =>
        have a1 := strI_len (h1 i rfl).1 (h1 i rfl).2
        cases y with
        | none => simp [wordsS, optW, reachW, hc, l_rows]; omega
        | some j =>
          have a2 := strI_len (h2 j rfl).1 (h2 j rfl).2
          simp [wordsS, optW, reachW, hc, l_days, l_rows]; omega
    · cases r with
      | none =>
        cases y with
        | none => simp [wordsS, optW, reachW, hc, l_reach]; omega
        | some j =>
          have a2 := strI_len (h2 j rfl).1 (h2 j rfl).2
          simp [wordsS, optW, reachW, hc, l_days, l_reach]; omega
      | some i =>
        have a1 := strI_len (h1 i rfl).1 (h1 i rfl).2
        cases y with
        | none => simp [wordsS, optW, reachW, hc, l_rows, l_reach]; omega
        | some j =>
          have a2 := strI_len (h2 j rfl).1 (h2 j rfl).2
          simp [wordsS, optW, reachW, hc, l_days, l_rows, l_reach]; omega
theorem written_step_ok {s : Option Fil} (h : okStep s) : d_written_step [stepD s] = .ok (.str (lineS s)) := by
  have J := join_words (xs := wordsS s) (by have := words_len h; omega)
  rw [words_line] at J
  have szs : ∀ k, k ≤ 10 → k ≤ sizeLine := fun k hk => sizeBig (by omega)
  have sz1 := szs 1 (by omega)
  have sz2 := szs 2 (by omega)
  have sz3 := szs 3 (by omega)
  have sz5 := szs 5 (by omega)
  have sz7 := szs 7 (by omega)
  unfold d_written_step
  refine fnP_eq rfl ?_
  cases s with
  | none =>
    have e2 : oNe (.int 2) (.int 2) = some (.bl false) := ne2
    simp only [wordsS, List.map_cons, List.map_nil] at J
    simp [b_written_step, stepD, dExt, dJoin, isStrD, e2, J, sz1, isRef]
  | some s =>
    obtain ⟨h1, h2, h3, h4⟩ := okLim h
    obtain ⟨w, r, y, c⟩ := s
    dsimp only at *
    have e2 := ne2 (c := c)
    have o3 := strI_ok h3 h4
    by_cases hc : c = 2
    · cases r with
      | none =>
        cases y with
        | none =>
          simp only [wordsS, optW, reachW, hc, if_pos, List.map_cons, List.map_nil, List.nil_append, List.cons_append] at J
          simp [b_written_step, stepD, dExt, dJoin, isStrD, e2, hc, J, sz1, isRef]
        | some j =>
          have o2 := strI_ok (h2 j rfl).1 (h2 j rfl).2
          simp only [wordsS, optW, reachW, hc, if_pos, List.map_cons, List.map_nil, List.nil_append, List.cons_append] at J
          simp [b_written_step, stepD, dExt, dJoin, isStrD, e2, hc, J, sz1, sz2, sz3, o2, isRef]
      | some i =>
        have o1 := strI_ok (h1 i rfl).1 (h1 i rfl).2
        cases y with
        | none =>
          simp only [wordsS, optW, reachW, hc, if_pos, List.map_cons, List.map_nil, List.nil_append, List.cons_append] at J
          simp [b_written_step, stepD, dExt, dJoin, isStrD, e2, hc, J, sz1, sz2, sz3, o1, isRef]
        | some j =>
          have o2 := strI_ok (h2 j rfl).1 (h2 j rfl).2
          simp only [wordsS, optW, reachW, hc, if_pos, List.map_cons, List.map_nil, List.nil_append, List.cons_append] at J
          simp [b_written_step, stepD, dExt, dJoin, isStrD, e2, hc, J, sz1, sz2, sz3, sz5, o1, o2, isRef]
    · cases r with
      | none =>
        cases y with
        | none =>
          simp only [wordsS, optW, reachW, hc, if_false, List.map_cons, List.map_nil, List.nil_append, List.cons_append] at J
          simp [b_written_step, stepD, dExt, dJoin, isStrD, e2, hc, J, sz1, sz2, sz3, o3, isRef]
        | some j =>
          have o2 := strI_ok (h2 j rfl).1 (h2 j rfl).2
          simp only [wordsS, optW, reachW, hc, if_false, List.map_cons, List.map_nil, List.nil_append, List.cons_append] at J
          simp [b_written_step, stepD, dExt, dJoin, isStrD, e2, hc, J, sz1, sz2, sz3, sz5, o2, o3, isRef]
      | some i =>
        have o1 := strI_ok (h1 i rfl).1 (h1 i rfl).2
        cases y with
        | none =>
          simp only [wordsS, optW, reachW, hc, if_false, List.map_cons, List.map_nil, List.nil_append, List.cons_append] at J
          simp [b_written_step, stepD, dExt, dJoin, isStrD, e2, hc, J, sz1, sz2, sz3, sz5, o1, o3, isRef]
        | some j =>
          have o2 := strI_ok (h2 j rfl).1 (h2 j rfl).2
          simp only [wordsS, optW, reachW, hc, if_false, List.map_cons, List.map_nil, List.nil_append, List.cons_append] at J
          simp [b_written_step, stepD, dExt, dJoin, isStrD, e2, hc, J, sz1, sz2, sz3, sz5, sz7, o1, o2, o3, isRef]
end L

set_option Elab.async false
set_option linter.all false
set_option maxRecDepth 100000
namespace L
open PySem PySem.Spec PyProof.Rows L2 DL
/-! ### turned steps -/
def turnW : Way → Way
  | .down => .up
  | .up => .down
  | .na => .nb
  | .nb => .na
def turnS : Option Fil → Option Fil
  | none => none
  | some s => some { s with way := turnW s.way }
theorem turnS_turnS (s : Option Fil) : turnS (turnS s) = s := by
  cases s with
  | none => rfl
  | some s => obtain ⟨w, r, y, c⟩ := s; cases w <;> rfl
theorem turnS_ok {s : Option Fil} (h : okStep s) : okStep (turnS s) := by
  cases s with
  | none => trivial
  | some s => exact h
theorem lc_map {α : Type} {lg : D → Nv → Option Nv} {a : EF Bool} {f : EF D} {own : List Nat} {Γ0 : Nv} (xs : List α) (it out : α → D) (hn : xs.length ≤ 1000)
    (h : ∀ x ∈ xs, ∃ Γ1 Γ2 Γ3, lg (it x) Γ0 = some Γ1 ∧ a Γ1 = .ok (true, Γ2) ∧ f Γ2 = .ok (out x, Γ3) ∧ wipeN Γ3 own = Γ0) : lcLoop lg a f own (xs.map it) Γ0 [] = .ok (xs.map out, Γ0) := by
  have e := lc_tab (lg := lg) (a := a) (f := f) (own := own) (items := xs.map it) (Γ0 := Γ0) (n := xs.length) (fun i => match xs[i]? with | some x => out x | none => .non) (by simp) hn (fun i d hd => by
    rw [List.getElem?_map] at hd
    obtain ⟨x, ex, rfl⟩ := Option.map_eq_some_iff.mp hd
    rw [ex]
    exact h x (List.mem_of_getElem? ex))
  rw [e]
  congr 2
  refine List.ext_getElem? fun i => ?_
  by_cases hi : i < xs.length
  · rw [tab_get hi, List.getElem?_map, List.getElem?_eq_getElem hi]
    rfl
  · rw [List.getElem?_eq_none (by simp; omega), List.getElem?_eq_none (by simp; omega)]
theorem turned_step_ok (s : Option Fil) : d_turned_step [stepD s] = .ok (stepD (turnS s)) := by
  have sz : 4 ≤ sizeLine := natSize (by decide)
  unfold d_turned_step
  refine fnP_eq rfl ?_
  cases s with
  | none =>
    have k : (L.kd_OPPOSITE).lookup (Str.ofString "drop") = some (.str "drop") := by rfl
    simp [b_turned_step, dStar, starK, dStarA, seqOf, stepD, turnS, oKd, k, sz]
  | some s =>
    obtain ⟨w, r, y, c⟩ := s
    have k : (L.kd_OPPOSITE).lookup (wayS w) = some (.str (wayS (turnW w))) := by cases w <;> rfl
    simp [b_turned_step, dStar, starK, dStarA, seqOf, stepD, turnS, oKd, k, sz]
theorem invert_ok {C : Addr} {ss : List (Option Fil)} (hl : ss.length ≤ 6) (h : ∀ s ∈ ss, okStep s) : d_Script___invert__ C [scrD C ss] = .ok (scrD C (ss.map turnS)) := by
  have I := scriptI_ok (ss := ss.map turnS) (by simpa using hl) (fun s hs => by
    obtain ⟨s', h', rfl⟩ := List.mem_map.mp hs
    exact turnS_ok (h s' h'))
  have n1 := steps_nolst ss
  have fl : fldOf C "parts" (scrD C ss) = some (.lst (ss.map stepD)) := by
    unfold fldOf scrD
    simp
  have e := lc_map (lg := dgN 1) (a := dYes) (f := dCall L.d_turned_step [] (dCons (dV 1) dNil)) (own := [1]) (Γ0 := [.im (scrD C ss), .emp]) ss stepD (fun s => stepD (turnS s)) (by omega) (fun s hs =>
    ⟨_, _, [.im (scrD C ss), .im (stepD s)], rfl, rfl, by simp [turned_step_ok], rfl⟩)
  have e' : (ss.map fun s => stepD (turnS s)) = (ss.map turnS).map stepD := by rw [List.map_map]; rfl
  rw [e'] at e
  unfold d_Script___invert__
  refine fnP_eq rfl ?_
  have ec : lc_Script___invert___1 C [.im (scrD C ss), .emp] = .ok ((ss.map turnS).map stepD, [.im (scrD C ss), .emp]) := by
    unfold lc_Script___invert___1 dLc
    simp [-List.map_map, dFld, fl, n1, DL.plain, wipeN, e, giveBack]
  simp [-List.map_map, b_Script___invert__, ec, I, dMake]
  rfl
/-! ### lists of steps, compared -/
def pyO : Option Int → PyData
  | none => .none
  | some i => .int i
def pyS : Option Fil → PyData
  | none => .tuple [.str "drop", .none, .none, .int 2]
  | some s => .tuple [.str (wayS s.way), pyO s.rows, pyO s.days, .int s.reach]
theorem toP_step (s : Option Fil) : toP (stepD s) = some (pyS s) := by
  cases s with
  | none => simp [stepD, pyS, toP, toPs]
  | some s =>
    obtain ⟨w, r, y, c⟩ := s
    cases r <;> cases y <;> simp [stepD, pyS, toP, toPs, pyO]
theorem toPs_steps : ∀ ss : List (Option Fil), toPs (ss.map stepD) = some (ss.map pyS)
  | [] => by simp [toPs]
  | s :: r => by rw [List.map_cons, toPs, toP_step, toPs_steps r]; rfl
theorem lay_step (s : Option Fil) : PyData.canLay0 (pyS s) = true ∧ PyData.depth (pyS s) ≤ 1 := by
  cases s with
  | none => simp [pyS, PyData.canLay0, PyData.canLayAll0, PyData.depth, PyData.depthAll, drop_strOk]
  | some s =>
    obtain ⟨w, r, y, c⟩ := s
    cases r <;> cases y <;> simp [pyS, pyO, PyData.canLay0, PyData.canLayAll0, PyData.depth, PyData.depthAll, way_strOk]
theorem lay_steps : ∀ ss : List (Option Fil), PyData.canLayAll0 (ss.map pyS) = true ∧ PyData.depthAll (ss.map pyS) ≤ 1
  | [] => by simp [PyData.canLayAll0, PyData.depthAll]
  | s :: r => by
    obtain ⟨h1, h2⟩ := lay_step s
    obtain ⟨h3, h4⟩ := lay_steps r
    refine ⟨by rw [List.map_cons, PyData.canLayAll0, h1, h3]; rfl, ?_⟩
    rw [List.map_cons, PyData.depthAll]
    omega
theorem shaped_steps (ss : List (Option Fil)) : SeqAt.shaped (.list (ss.map pyS)) = true := by
  obtain ⟨h1, h2⟩ := lay_steps ss
  unfold SeqAt.shaped
  rw [PyData.canLay0, h1, PyData.depth]
  simp
  omega
theorem eq_steps (ss zs : List (Option Fil)) : oEq (.lst (ss.map stepD)) (.lst (zs.map stepD)) = some (.bl (PyData.eqv (.list (ss.map pyS)) (.list (zs.map pyS)))) := by
  have t1 : ∀ ss : List (Option Fil), toP (.lst (ss.map stepD)) = some (.list (ss.map pyS)) := fun ss => by rw [toP, toPs_steps]; rfl
  unfold oEq eqB
  simp only [flatD, t1]
  rw [if_pos ⟨shaped_steps ss, shaped_steps zs⟩]
  rfl
theorem eq_steps_self (ss : List (Option Fil)) : oEq (.lst (ss.map stepD)) (.lst (ss.map stepD)) = some (.bl true) := by
  rw [eq_steps, SeqAt.eqv_refl _ (SeqAt.canLay_of_shaped (shaped_steps ss))]
end L

set_option Elab.async false
set_option linter.all false
set_option maxRecDepth 100000
namespace L
open PySem PySem.Spec PyProof.Rows L2 DL
theorem addS {a b : Str} (h : a.length + b.length ≤ 16777216) : oAdd (.str a) (.str b) = some (.str (a ++ b)) := by
  unfold oAdd
  dsimp only
  rw [if_pos (sizeBig h)]
theorem written_ok {C : Addr} {ss : List (Option Fil)} (hl : ss.length ≤ 6) (h : ∀ s ∈ ss, okStep s) : d_Script_written C [scrD C ss] = .ok (.str (Str.join (Str.ofString "\n") (ss.map lineS))) := by
  have n1 := steps_nolst ss
  have fl : fldOf C "parts" (scrD C ss) = some (.lst (ss.map stepD)) := by
    unfold fldOf scrD
    simp
  have e := lc_map (lg := dgN 1) (a := dYes) (f := dCall L.d_written_step [] (dCons (dV 1) dNil)) (own := [1]) (Γ0 := [.im (scrD C ss), .emp]) ss stepD (fun s => D.str (lineS s)) (by omega) (fun s hs =>
    ⟨_, _, [.im (scrD C ss), .im (stepD s)], rfl, rfl, by simp [written_step_ok (h s hs)], rfl⟩)
  have e' : (ss.map fun s => D.str (lineS s)) = (ss.map lineS).map D.str := by rw [List.map_map]; rfl
  rw [e'] at e
  have sm : ∀ xs : List (Option Fil), (∀ s ∈ xs, okStep s) → ((xs.map lineS).map (·.length)).sum ≤ 200 * xs.length := fun xs => by
    induction xs with
    | nil => intro _; simp
    | cons s r ih =>
      intro h
      have h1 := line_len (h s List.mem_cons_self)
      have h2 := ih fun x hx => h x (List.mem_cons_of_mem _ hx)
      simp only [List.map_cons, List.sum_cons, List.length_cons] at *
      omega
  have J : oJoin (.str "\n") (.lst ((ss.map lineS).map D.str)) = some (.str (Str.join (Str.ofString "\n") (ss.map lineS))) := by
    unfold oJoin
    dsimp only [seqOf, Option.bind]
    rw [strs_words]
    dsimp only
    rw [if_pos (by have := sm ss h; rw [l_nl, List.length_map]; omega)]
  have ec : lc_Script_written_1 C [.im (scrD C ss), .emp] = .ok ((ss.map lineS).map D.str, [.im (scrD C ss), .emp]) := by
    unfold lc_Script_written_1 dLc
    simp [-List.map_map, dFld, fl, n1, DL.plain, wipeN, e, giveBack]
  unfold d_Script_written
  refine fnP_eq rfl ?_
  simp [-List.map_map, b_Script_written, dJoin, isStrD, ec, J]
theorem join_snoc (sep x : Str) : ∀ {xs : List Str}, xs ≠ [] → Str.join sep (xs ++ [x]) = Str.join sep xs ++ sep ++ x
  | [], h => absurd rfl h
  | [a], _ => rfl
  | a :: b :: r, _ => by
    show a ++ sep ++ Str.join sep ((b :: r) ++ [x]) = (a ++ sep ++ Str.join sep (b :: r)) ++ sep ++ x
    rw [join_snoc sep x (xs := b :: r) (by simp)]
    simp only [Str.append_assoc]
theorem join_len {xs : List Str} (h : ∀ x ∈ xs, x.length ≤ 200) : (Str.join (Str.ofString "\n") xs).length ≤ 201 * xs.length := by
  have h1 := StrLaws.join_length_le (Str.ofString "\n") xs
  have h2 : (xs.map (·.length)).sum ≤ 200 * xs.length := by
    clear h1
    induction xs with
    | nil => simp
    | cons s r ih =>
      have a := h s List.mem_cons_self
      have b := ih fun x hx => h x (List.mem_cons_of_mem _ hx)
      simp only [List.map_cons, List.sum_cons, List.length_cons] at *
      omega
  rw [l_nl] at h1
  omega
end L

set_option Elab.async false
set_option linter.all false
set_option maxRecDepth 100000
namespace L
open PySem PySem.Spec PyProof.Rows L2 DL SX
theorem seq_eq {f g : SF} {Γ Γ1 : Nv} {d : D} (h : f Γ = .ok (.nx, Γ1)) (h2 : ∃ Γ', g Γ1 = .ok (.rt d, Γ')) : ∃ Γ', dSeq f g Γ = .ok (.rt d, Γ') := by
  rw [seq_nx h]; exact h2
theorem resP_of {F : SF} {d : D} {Γ : Nv} (h : ∃ Γ', F Γ = .ok (.rt d, Γ')) : resP (F Γ) = .ok d := by
  obtain ⟨Γ', e⟩ := h
  rw [e]; rfl
/-! ### texts and their parts -/
abbrev codes (x : Str) : List Nat := x.cps.toList
theorem split_join {c : Nat} (hc : c < 256) {xs : List Str} (hne : xs ≠ []) (h : ∀ x ∈ xs, c ∉ codes x) : Txt.split (Str.join (S [c]) xs) (S [c]) = xs := by
  have e1 : Str.join (S [c]) xs = S (TL.joinL [c] (xs.map TL.tl)) := by
    refine TL.ext_tl ?_
    rw [TL.tl_join]
  rw [e1, split_S (by simp) (by simpa using hc), spl_join (by simpa using hne) (fun p hp => by
    obtain ⟨x, hx, rfl⟩ := List.mem_map.mp hp
    exact h x hx)]
  rw [List.map_map]
  conv => rhs; rw [← List.map_id xs]
  exact List.map_congr_left fun x _ => S_tl x
theorem sp_S : Str.ofString " " = S [32] := by decide +kernel
theorem nl_S : Str.ofString "\n" = S [10] := by decide +kernel
theorem codes_join {c d : Nat} (hcd : d ≠ c) : ∀ {xs : List Str}, (∀ x ∈ xs, d ∉ codes x) → d ∉ codes (Str.join (S [c]) xs) := fun {xs} h hm => by
  have e : codes (Str.join (S [c]) xs) = TL.joinL [c] (xs.map TL.tl) := TL.tl_join (S [c]) xs
  rw [e] at hm
  have key : ∀ ps : List (List Nat), (∀ p ∈ ps, d ∉ p) → d ∉ TL.joinL [c] ps := by
    intro ps
    induction ps with
    | nil => intro _ hm; cases hm
    | cons p r ih =>
      intro hp hm
      cases r with
      | nil => exact hp p List.mem_cons_self hm
      | cons q r =>
        have hm : d ∈ p ++ ([c] ++ TL.joinL [c] (q :: r)) := hm
        rcases List.mem_append.mp hm with z | z
        · exact hp p List.mem_cons_self z
        · rcases List.mem_append.mp z with z | z
          · exact hcd (List.mem_singleton.mp z)
          · exact ih (fun x hx => hp x (List.mem_cons_of_mem _ hx)) z
  exact key _ (fun p hp => by
    obtain ⟨x, hx, rfl⟩ := List.mem_map.mp hp
    exact h x hx) hm
/-! ### numbers -/
theorem strI_digits {i : Int} (h0 : 0 ≤ i) : ∀ c ∈ codes (strI i), 48 ≤ c ∧ c ≤ 57 := fun c hc => by
  obtain ⟨m, rfl⟩ := Int.eq_ofNat_of_zero_le h0
  have hc : c ∈ (Str.ofString (toString ((m : Nat) : Int))).cps.toList := hc
  rw [PySem.W.KIN.signs_num] at hc
  obtain ⟨ch, hch, e⟩ := List.mem_map.mp hc
  rw [← e]
  exact digit_range (Nat.isDigit_of_mem_toDigits (by decide) (by decide) hch)
theorem strI_ten {i : Int} (h0 : 0 ≤ i) (h1 : i < 10 ^ 10) : 1 ≤ (strI i).length ∧ (strI i).length ≤ 10 := by
  refine ⟨?_, PySem.W.KT.len_num h0 h1⟩
  obtain ⟨m, rfl⟩ := Int.eq_ofNat_of_zero_le h0
  have e : (strI ((m : Nat) : Int)).length = (codes (strI ((m : Nat) : Int))).length := Array.length_toList.symm
  rw [e, show codes (strI ((m : Nat) : Int)) = _ from PySem.W.KIN.signs_num m, List.length_map]
  exact toDigits_len_ge 10 m
theorem digit_uni {c : Nat} (h : 48 ≤ c ∧ c ≤ 57) : Unicode.isDigit c = true := by
  have : c = 48 ∨ c = 49 ∨ c = 50 ∨ c = 51 ∨ c = 52 ∨ c = 53 ∨ c = 54 ∨ c = 55 ∨ c = 56 ∨ c = 57 := by omega
  rcases this with rfl | rfl | rfl | rfl | rfl | rfl | rfl | rfl | rfl | rfl <;> decide +kernel
theorem strI_isdigit {i : Int} (h0 : 0 ≤ i) (h1 : i < 10 ^ 10) : Txt.isdigit (strI i) = true := by
  unfold Txt.isdigit
  rw [Bool.and_eq_true]
  refine ⟨decide_eq_true (strI_ten h0 h1).1, ?_⟩
  rw [← Array.all_toList, List.all_eq_true]
  exact fun c hc => digit_uni (strI_digits h0 c hc)
theorem strI_isascii {i : Int} (h0 : 0 ≤ i) : Txt.isascii (strI i) = true := by
  unfold Txt.isascii
  rw [← Array.all_toList, List.all_eq_true]
  exact fun c hc => decide_eq_true (by have := strI_digits h0 c hc; omega)
theorem read_number_ok {i : Int} (h0 : 0 ≤ i) (h1 : i < 10 ^ 10) : d_read_number [.str (strI i)] = .ok (.int i) := by
  unfold d_read_number
  refine fnP_eq rfl ?_
  have e1 := strI_isascii h0
  have e2 := strI_isdigit h0 h1
  have e3 := (strI_ten h0 h1).2
  have e4 : oIntS [.str (strI i)] = some (.int i) := by
    unfold oIntS
    dsimp only
    rw [show PySem.intText? (strI i) = some i from PySem.W.KIN.num_reads h0 h1]
    dsimp only
    rw [if_pos (by omega)]
  have e5 : ((strI i).length : Int) ≤ 10 := by omega
  have e6 : (strI i).length ≤ sizeLine := natSize (by omega)
  generalize strI i = x at *
  simp [b_read_number, e1, e2, e3, e4, e5, e6, truD]
end L

set_option Elab.async false
set_option linter.all false
set_option maxRecDepth 100000
namespace L
open PySem PySem.Spec PyProof.Rows L2 DL SX
/-! ### reading a step -/
theorem way_no (w : Way) : 32 ∉ codes (wayS w) ∧ 10 ∉ codes (wayS w) := by cases w <;> decide +kernel
theorem lit_no : (32 ∉ codes (Str.ofString "rows") ∧ 10 ∉ codes (Str.ofString "rows")) ∧ (32 ∉ codes (Str.ofString "days") ∧ 10 ∉ codes (Str.ofString "days")) ∧ (32 ∉ codes (Str.ofString "reach") ∧ 10 ∉ codes (Str.ofString "reach")) ∧ (32 ∉ codes (Str.ofString "drop") ∧ 10 ∉ codes (Str.ofString "drop")) := by decide +kernel
theorem strI_no {i : Int} (h0 : 0 ≤ i) : 32 ∉ codes (strI i) ∧ 10 ∉ codes (strI i) := ⟨fun h => by have := strI_digits h0 _ h; omega, fun h => by have := strI_digits h0 _ h; omega⟩
theorem optW_no {w : String} {o : Option Int} (hw : 32 ∉ codes (Str.ofString w) ∧ 10 ∉ codes (Str.ofString w)) (ho : ∀ i, o = some i → 0 ≤ i) : ∀ x ∈ optW w o, 32 ∉ codes x ∧ 10 ∉ codes x := fun x hx => by
  cases o with
  | none => cases hx
  | some i =>
    rcases List.mem_cons.mp hx with rfl | hx
    · exact hw
    · rw [List.mem_singleton.mp hx]; exact strI_no (ho i rfl)
theorem words_no {s : Option Fil} (h : okStep s) : ∀ x ∈ wordsS s, 32 ∉ codes x ∧ 10 ∉ codes x := fun x hx => by
  obtain ⟨l1, l2, l3, l4⟩ := lit_no
  cases s with
  | none => rw [List.mem_singleton.mp hx]; exact l4
  | some s =>
    obtain ⟨q1, q2, q3, q4⟩ := okLim h
    rcases List.mem_cons.mp hx with rfl | hx
    · exact way_no _
    · rcases List.mem_append.mp hx with hx | hx
      · exact optW_no l1 (fun i e => (q1 i e).1) x hx
      · rcases List.mem_append.mp hx with hx | hx
        · exact optW_no l2 (fun i e => (q2 i e).1) x hx
        · unfold reachW at hx
          split at hx
          · cases hx
          · rcases List.mem_cons.mp hx with rfl | hx
            · exact l3
            · rw [List.mem_singleton.mp hx]; exact strI_no q3
theorem words_ne (s : Option Fil) : wordsS s ≠ [] := by cases s <;> simp [wordsS]
theorem split_line {s : Option Fil} (h : okStep s) : Txt.split (lineS s) (Str.ofString " ") = wordsS s := by
  rw [← words_line, sp_S]
  exact split_join (by decide) (words_ne s) fun x hx => (words_no h x hx).1
theorem line_no {s : Option Fil} (h : okStep s) : 10 ∉ codes (lineS s) := by
  rw [← words_line, sp_S]
  exact codes_join (by decide) fun x hx => (words_no h x hx).2
theorem oSplit_line {s : Option Fil} (h : okStep s) : oSplit (.str (lineS s)) (.str " ") = some ((wordsS s).map D.str) := by
  unfold oSplit
  dsimp only
  rw [if_pos ⟨by decide +kernel, sizeBig (by have := line_len h; omega)⟩, split_line h]
abbrev kRDR : List Str := ["rows", "days", "reach"]
section
variable {S0 S1 S2 S3 S7 : Slot} {a b c : D} {i : Int}
theorem k_rd : ¬ (Str.ofString "rows" = Str.ofString "days") := by decide +kernel
theorem k_rr : ¬ (Str.ofString "rows" = Str.ofString "reach") := by decide +kernel
theorem k_dr : ¬ (Str.ofString "days" = Str.ofString "reach") := by decide +kernel
theorem lk_rows : (kRDR.zip [a, b, c]).lookup (Str.ofString "rows") = some a := by rfl
theorem lk_days : (kRDR.zip [a, b, c]).lookup (Str.ofString "days") = some b := by rfl
theorem lk_reach : (kRDR.zip [a, b, c]).lookup (Str.ofString "reach") = some c := by rfl
theorem sk_rows {d : D} : setKey kRDR [a, b, c] (Str.ofString "rows") d = [d, b, c] := by simp [setKey, Ne.symm k_rd, Ne.symm k_rr]
theorem sk_days {d : D} : setKey kRDR [a, b, c] (Str.ofString "days") d = [a, d, c] := by simp [setKey, k_rd, Ne.symm k_dr]
theorem sk_reach {d : D} : setKey kRDR [a, b, c] (Str.ofString "reach") d = [a, b, d] := by simp [setKey, k_rr, k_dr]
theorem rd_gen {z : Str} {ds : List D} {e : D} (h0 : 0 ≤ i) (h1 : i < 10 ^ 10) (hl : (kRDR.zip [a, b, c]).lookup z = some e) (hz : z ∈ kRDR) (hs : setKey kRDR [a, b, c] z (.int i) = ds) :
    lb_read_step_1 [S0, S1, S2, S3, .od kRDR [a, b, c], .im (.str z), .im (.str (strI i)), S7] = .ok (.nx, [S0, S1, S2, S3, .od kRDR ds, .im (.str z), .im (.str (strI i)), S7]) := by
  have e1 := read_number_ok h0 h1
  generalize strI i = x at *
  have e2 : dput2 4 (.int i) (.str z, ([S0, S1, S2, S3, .od kRDR [a, b, c], .im (.str z), .im (.str x), S7] : Nv)) = .ok (.nx, [S0, S1, S2, S3, .od kRDR ds, .im (.str z), .im (.str x), S7]) := by
    rw [ev_dput2 (ks := kRDR) (ds := [a, b, c]) rfl, hs, if_pos ⟨rfl, hz, rfl, by decide⟩]
    rfl
  generalize kRDR = ks at *
  simp [lb_read_step_1, hl, e1, e2]
theorem lp_cons {z x : Str} {as bs : List D} {r : List D} {s5 s6 : Slot} (h : lb_read_step_1 [S0, S1, S2, S3, .od kRDR as, .im (.str z), .im (.str x), S7] = .ok (.nx, [S0, S1, S2, S3, .od kRDR bs, .im (.str z), .im (.str x), S7])) :
    dLoop lt_read_step_1 lb_read_step_1 (.tup [.str z, .str x] :: r) [S0, S1, S2, S3, .od kRDR as, s5, s6, S7] = dLoop lt_read_step_1 lb_read_step_1 r [S0, S1, S2, S3, .od kRDR bs, .im (.str z), .im (.str x), S7] :=
  loop_cons_nx (g := lt_read_step_1) (p := lb_read_step_1) (Γ1 := [S0, S1, S2, S3, .od kRDR as, .im (.str z), .im (.str x), S7]) rfl h
def idx (l : Option Int) (n : Nat) : List Nat := match sliceBounds l none (some 2) n with | (a, b, c) => sliceRange a b c
theorem step2_idx (xs : List D) (l : Option Int) : step2 xs l = (idx l xs.length).filterMap fun i => xs[i]? := rfl
theorem i0n : idx none 0 = [] := by decide +kernel
theorem i2n : idx none 2 = [0] := by decide +kernel
theorem i4n : idx none 4 = [0, 2] := by decide +kernel
theorem i6n : idx none 6 = [0, 2, 4] := by decide +kernel
theorem i0s : idx (some 1) 0 = [] := by decide +kernel
theorem i2s : idx (some 1) 2 = [1] := by decide +kernel
theorem i4s : idx (some 1) 4 = [1, 3] := by decide +kernel
theorem i6s : idx (some 1) 6 = [1, 3, 5] := by decide +kernel
def flatP : List (Str × Str) → List Str
  | [] => []
  | p :: r => p.1 :: p.2 :: flatP r
theorem items_ok (ps : List (Str × Str)) (hl : ps.length ≤ 3) (s4 s5 s6 s7 : Slot) : dRg zp2 (dCons (dL (dStep2 none (dV 3))) (dCons (dL (dStep2 (some 1) (dV 3))) dNil)) [S0, S1, S2, .im (.lst ((flatP ps).map D.str)), s4, s5, s6, s7] =
    .ok (ps.map fun p => .tup [.str p.1, .str p.2], [S0, S1, S2, .im (.lst ((flatP ps).map D.str)), s4, s5, s6, s7]) := by
  have z0 : (0 : Nat) ≤ sizeLine := natSize (by decide)
  have z1 : (1 : Nat) ≤ sizeLine := natSize (by decide)
  have z2 : (2 : Nat) ≤ sizeLine := natSize (by decide)
  have z3 : (3 : Nat) ≤ sizeLine := natSize (by decide)
  match ps, hl with
  | [], _ =>
    have e1 : step2 ([] : List D) none = [] := (step2_idx _ _).trans (by show List.filterMap _ (idx none 0) = _; rw [i0n]; rfl)
    have e2 : step2 ([] : List D) (some 1) = [] := (step2_idx _ _).trans (by show List.filterMap _ (idx (some 1) 0) = _; rw [i0s]; rfl)
    simp [flatP, step2K, lstOf, zp2, zipD, e1, e2, z0]
  | [p], _ =>
    have e1 : step2 [D.str p.1, .str p.2] none = [.str p.1] := (step2_idx _ _).trans (by show List.filterMap _ (idx none 2) = _; rw [i2n]; rfl)
    have e2 : step2 [D.str p.1, .str p.2] (some 1) = [.str p.2] := (step2_idx _ _).trans (by show List.filterMap _ (idx (some 1) 2) = _; rw [i2s]; rfl)
    simp [flatP, step2K, lstOf, zp2, zipD, e1, e2, z1]
  | [p, q], _ =>
    have e1 : step2 [D.str p.1, .str p.2, .str q.1, .str q.2] none = [.str p.1, .str q.1] := (step2_idx _ _).trans (by show List.filterMap _ (idx none 4) = _; rw [i4n]; rfl)
    have e2 : step2 [D.str p.1, .str p.2, .str q.1, .str q.2] (some 1) = [.str p.2, .str q.2] := (step2_idx _ _).trans (by show List.filterMap _ (idx (some 1) 4) = _; rw [i4s]; rfl)
    simp [flatP, step2K, lstOf, zp2, zipD, e1, e2, z2]
  | [p, q, r], _ =>
    have e1 : step2 [D.str p.1, .str p.2, .str q.1, .str q.2, .str r.1, .str r.2] none = [.str p.1, .str q.1, .str r.1] := (step2_idx _ _).trans (by show List.filterMap _ (idx none 6) = _; rw [i6n]; rfl)
    have e2 : step2 [D.str p.1, .str p.2, .str q.1, .str q.2, .str r.1, .str r.2] (some 1) = [.str p.2, .str q.2, .str r.2] := (step2_idx _ _).trans (by show List.filterMap _ (idx (some 1) 6) = _; rw [i6s]; rfl)
    simp [flatP, step2K, lstOf, zp2, zipD, e1, e2, z3]
end
def pairW (w : String) (o : Option Int) : List (Str × Str) := match o with
  | none => []
  | some i => [(Str.ofString w, strI i)]
def pairR (c : Int) : List (Str × Str) := if c = 2 then [] else [(Str.ofString "reach", strI c)]
def pairsS : Option Fil → List (Str × Str)
  | none => []
  | some s => pairW "rows" s.rows ++ (pairW "days" s.days ++ pairR s.reach)
def headS : Option Fil → Str
  | none => Str.ofString "drop"
  | some s => wayS s.way
theorem words_flat (s : Option Fil) : wordsS s = headS s :: flatP (pairsS s) := by
  cases s with
  | none => rfl
  | some s =>
    obtain ⟨w, r, y, c⟩ := s
    by_cases hc : c = 2 <;> cases r <;> cases y <;> simp [wordsS, headS, pairsS, pairW, pairR, optW, reachW, hc, flatP]
theorem pairs_len (s : Option Fil) : (pairsS s).length ≤ 3 := by
  cases s with
  | none => decide
  | some s =>
    obtain ⟨w, r, y, c⟩ := s
    by_cases hc : c = 2 <;> cases r <;> cases y <;> simp [pairsS, pairW, pairR, hc]
def partsS : Option Fil → List D
  | none => [.non, .non, .int 2]
  | some s => [optD s.rows, optD s.days, .int s.reach]
theorem rd_rows {S0 S1 S2 S3 S7 : Slot} {a b c : D} {i : Int} (h : 0 ≤ i ∧ i < 1073741824) : lb_read_step_1 [S0, S1, S2, S3, .od kRDR [a, b, c], .im (.str "rows"), .im (.str (strI i)), S7] = .ok (.nx, [S0, S1, S2, S3, .od kRDR [.int i, b, c], .im (.str "rows"), .im (.str (strI i)), S7]) :=
  rd_gen h.1 (by omega) lk_rows (by simp) sk_rows
theorem rd_days {S0 S1 S2 S3 S7 : Slot} {a b c : D} {i : Int} (h : 0 ≤ i ∧ i < 1073741824) : lb_read_step_1 [S0, S1, S2, S3, .od kRDR [a, b, c], .im (.str "days"), .im (.str (strI i)), S7] = .ok (.nx, [S0, S1, S2, S3, .od kRDR [a, .int i, c], .im (.str "days"), .im (.str (strI i)), S7]) :=
  rd_gen h.1 (by omega) lk_days (by simp) sk_days
theorem rd_reach {S0 S1 S2 S3 S7 : Slot} {a b c : D} {i : Int} (h : 0 ≤ i ∧ i < 1073741824) : lb_read_step_1 [S0, S1, S2, S3, .od kRDR [a, b, c], .im (.str "reach"), .im (.str (strI i)), S7] = .ok (.nx, [S0, S1, S2, S3, .od kRDR [a, b, .int i], .im (.str "reach"), .im (.str (strI i)), S7]) :=
  rd_gen h.1 (by omega) lk_reach (by simp) sk_reach
theorem rd_loop {S0 S1 S2 S3 S7 : Slot} {s : Option Fil} (h : okStep s) (s5 s6 : Slot) : ∃ s5' s6', dLoop lt_read_step_1 lb_read_step_1 ((pairsS s).map fun p => .tup [.str p.1, .str p.2]) [S0, S1, S2, S3, .od kRDR [.non, .non, .int 2], s5, s6, S7] =
    .ok (.nx, [S0, S1, S2, S3, .od kRDR (partsS s), s5', s6', S7]) := by
  cases s with
  | none => exact ⟨s5, s6, rfl⟩
  | some s =>
    obtain ⟨q1, q2, q3⟩ := okLim h
    obtain ⟨w, r, y, c⟩ := s
    by_cases hc : c = 2
    · subst hc
      cases r with
      | none =>
        cases y with
        | none => exact ⟨s5, s6, rfl⟩
        | some y => exact ⟨_, _, lp_cons (rd_days (q2 y rfl))⟩
      | some r =>
        cases y with
        | none => exact ⟨_, _, lp_cons (rd_rows (q1 r rfl))⟩
        | some y => exact ⟨_, _, (lp_cons (rd_rows (q1 r rfl))).trans (lp_cons (rd_days (q2 y rfl)))⟩
    · have e : pairR c = [(Str.ofString "reach", strI c)] := if_neg hc
      unfold pairsS
      dsimp only
      rw [e]
      cases r with
      | none =>
        cases y with
        | none => exact ⟨_, _, lp_cons (rd_reach q3)⟩
        | some y => exact ⟨_, _, (lp_cons (rd_days (q2 y rfl))).trans (lp_cons (rd_reach q3))⟩
      | some r =>
        cases y with
        | none => exact ⟨_, _, (lp_cons (rd_rows (q1 r rfl))).trans (lp_cons (rd_reach q3))⟩
        | some y => exact ⟨_, _, ((lp_cons (rd_rows (q1 r rfl))).trans (lp_cons (rd_days (q2 y rfl)))).trans (lp_cons (rd_reach q3))⟩
theorem step_parts (s : Option Fil) : ∃ a b c, partsS s = [a, b, c] ∧ stepD s = .tup [.str (headS s), a, b, c] ∧ nolst a = true ∧ nolst b = true ∧ nolst c = true := by
  cases s with
  | none => exact ⟨_, _, _, rfl, rfl, rfl, rfl, rfl⟩
  | some s => exact ⟨_, _, _, rfl, rfl, nolst_opt, nolst_opt, rfl⟩
theorem ne_self_str (x : Str) : oNe (.str x) (.str x) = some (.bl false) := by simp
theorem read_step_ok {s : Option Fil} (h : okStep s) (i : Int) : d_read_step [.str (lineS s), .int i] = .ok (stepD s) := by
  unfold d_read_step
  refine fnP_eq rfl ?_
  have sz4 : 4 ≤ sizeLine := natSize (by decide)
  have e1 := oSplit_line h
  rw [words_flat, List.map_cons] at e1
  have nw : nolsts ((flatP (pairsS s)).map D.str) = true := nolsts_all fun d hd => by
    obtain ⟨x, _, rfl⟩ := List.mem_map.mp hd
    rfl
  obtain ⟨a, b, c, ep, es, na, nb, nc⟩ := step_parts s
  have ck := check_step_ok s i h
  have wr := written_step_ok h
  have ne := ne_self_str (lineS s)
  have ns : nolst (stepD s) = true := nolst_step
  have lr := lk_rows (a := a) (b := b) (c := c)
  have ld := lk_days (a := a) (b := b) (c := c)
  have lc := lk_reach (a := a) (b := b) (c := c)
  have it := items_ok (S0 := .im (.str (lineS s))) (S1 := .im (.int i)) (S2 := .im (.str (headS s))) (pairsS s) (pairs_len s) (.od kRDR [.non, .non, .int 2]) .emp .emp .emp
  obtain ⟨s5, s6, lp⟩ := rd_loop (S0 := .im (.str (lineS s))) (S1 := .im (.int i)) (S2 := .im (.str (headS s))) (S3 := .im (.lst ((flatP (pairsS s)).map D.str))) (S7 := .emp) h .emp .emp
  rw [ep] at lp
  generalize (pairsS s).map (fun p => D.tup [.str p.1, .str p.2]) = items at it lp
  generalize hR : (flatP (pairsS s)).map D.str = RR at *
  generalize hL : lineS s = L at *
  refine resP_of (Γ := [.im (.str L), .im (.int i), .emp, .emp, .emp, .emp, .emp, .emp]) ?_
  rw [b_read_step]
  refine seq_eq (Γ1 := [.im (.str L), .im (.int i), .im (.str (headS s)), .im (.lst RR), .emp, .emp, .emp, .emp]) (by
    simp [isStrD, e1, nw]) ?_
  refine seq_eq (Γ1 := [.im (.str L), .im (.int i), .im (.str (headS s)), .im (.lst RR), .od kRDR [.non, .non, .int 2], .emp, .emp, .emp]) (by simp) ?_
  refine seq_eq (Γ1 := [.im (.str L), .im (.int i), .im (.str (headS s)), .im (.lst RR), .od kRDR [a, b, c], s5, s6, .emp]) (by
    rw [ev_for, it, R.bind_ok, ev_forK, lp]) ?_
  generalize kRDR = ks at *
  refine seq_eq (Γ1 := [.im (.str L), .im (.int i), .im (.str (headS s)), .im (.lst RR), .od ks [a, b, c], s5, s6, .fr (stepD s)]) (by
    simp [dDGet, oDGet, lr, ld, lc, na, nb, nc, sz4, es]) ?_
  refine seq_eq (Γ1 := [.im (.str L), .im (.int i), .im (.str (headS s)), .im (.lst RR), .od ks [a, b, c], s5, s6, .fr (stepD s)]) (by
    simp [ck]) ?_
  refine seq_eq (Γ1 := [.im (.str L), .im (.int i), .im (.str (headS s)), .im (.lst RR), .od ks [a, b, c], s5, s6, .fr (stepD s)]) (by
    simp [wr, ne]) ?_
  exact ⟨_, by simp [ns]; rfl⟩
end L

set_option Elab.async false
set_option linter.all false
set_option maxRecDepth 100000
namespace L
open PySem PySem.Spec PyProof.Rows L2 DL
theorem l_shown_ok {n : Nat} {t : Tab} (ss : List (Option Fil)) (T : OkT n t) (hss : ss.length ≤ 1000) : d_l_shown [.lst (ss.map stepD), .lst (tabR n t)] = .ok (.lst (tab n (toldD t (runAll n t ss)))) := by
  have e := l_sources_ok ss T hss
  have hb : Bnd n (runT n t ss 0 (src0 t) nos).1 := runT_bnd src0_bnd
  show _ = R.ok (D.lst (tab n (toldD t (runT n t ss 0 (src0 t) nos))))
  generalize hr : runT n t ss 0 (src0 t) nos = r at *
  obtain ⟨f, b, o⟩ := r
  dsimp only at e hb
  have hn := T.le
  have ec : ∀ s0 s3 s4, lc_l_shown_1 [s0, .im (.lst (tabR n t)), .im (.lst (tabI n f)), s3, s4, .fr (goneD o), .emp] = .ok (tab n (toldD t (f, b, o)), [s0, .im (.lst (tabR n t)), .im (.lst (tabI n f)), s3, s4, .fr (goneD o), .emp]) := by
    intro s0 s3 s4
    have e1 : ∀ lg a fe own, (∀ i d, (tabI n f)[i]? = some d → ∃ Γ1 Γ2 Γ3, lg d [s0, .im (.lst (tabR n t)), .im (.lst (tabI n f)), s3, s4, .fr (goneD o), .emp] = some Γ1 ∧ a Γ1 = .ok (true, Γ2) ∧ fe Γ2 = .ok (toldD t (f, b, o) i, Γ3) ∧ wipeN Γ3 own = [s0, .im (.lst (tabR n t)), .im (.lst (tabI n f)), s3, s4, .fr (goneD o), .emp]) →
        lcLoop lg a fe own (tabI n f) [s0, .im (.lst (tabR n t)), .im (.lst (tabI n f)), s3, s4, .fr (goneD o), .emp] [] = .ok (tab n (toldD t (f, b, o)), [s0, .im (.lst (tabR n t)), .im (.lst (tabI n f)), s3, s4, .fr (goneD o), .emp]) :=
      fun lg a fe own h => lc_tab (toldD t (f, b, o)) (by simp) hn h
    have e2 := e1 (dgN 6) dYes (dIf (dBool (dOp oLt (dV 6) (dC (.int 0)))) (dN (dV 5)) (dN (dOp oIx (dOp oIx (dV 1) (dV 6)) (dC (.int 2))))) [6] (by
      intro i d hd
      obtain ⟨rfl, hi⟩ := tab_some hd
      refine ⟨_, _, [s0, .im (.lst (tabR n t)), .im (.lst (tabI n f)), s3, s4, .fr (goneD o), .im (.int (srcI (f i)))], rfl, rfl, ?_, rfl⟩
      cases hm : f i with
      | none =>
        have ez : toldD t (f, b, o) i = goneD o := by unfold toldD; dsimp only; rw [hm]
        rw [ez]
        simp
      | some m =>
        have ez : toldD t (f, b, o) i = optD (t m).value := by unfold toldD; dsimp only; rw [hm]
        rw [ez]
        have eR := tabR_at (t := t) (hb i m hi hm)
        have ev : oIx (rowD (t m)) (.int 2) = some (optD (t m).value) := by simp [rowD]
        simp [natge, eR, ev])
    unfold lc_l_shown_1 dLc
    simp [DL.plain, wipeN, e2, giveBack]
  unfold d_l_shown
  refine fnP_eq rfl ?_
  cases o with
  | none =>
    have ec := ec (.im (.lst (ss.map stepD))) (.im (.lst (tabI n b))) (.im (.int (-1)))
    simp only [goneD] at ec
    simp [b_l_shown, e, ec]
  | some k =>
    have ec := ec (.im (.lst (ss.map stepD))) (.im (.lst (tabI n b))) (.im (.int k))
    simp only [goneD] at ec
    simp [b_l_shown, e, natge, ec]
end L

set_option Elab.async false
set_option linter.all false
set_option maxRecDepth 100000
namespace L
open PySem PySem.Spec PyProof.Rows L2 DL
/-! ### a stretch of the table alone -/
def sh (a : Nat) (o : Option Nat) : Option Nat := o.map (a + ·)
@[simp] theorem sh_none {a : Nat} : sh a none = none := rfl
@[simp] theorem sh_some {a i : Nat} : sh a (some i) = some (a + i) := rfl
theorem sh_isSome {a : Nat} {o : Option Nat} : (sh a o).isSome = o.isSome := by cases o <;> rfl
def subT (t : Tab) (a : Nat) : Tab := fun i => t (a + i)
/-- f at the stretch from a on, m rows, is g -/
def RelS (f g : Src) (a m : Nat) : Prop := ∀ i, i < m → f (a + i) = sh a (g i)
theorem nearA_sub {f g : Src} {a m : Nat} (h : RelS f g a m) (hl : a = 0 ∨ (f a).isSome = true) : ∀ i, i ≤ m → (a = 0 ∨ 1 ≤ i) → nearA f (a + i) = sh a (nearA g i)
  | 0, _, h0 => by
    rcases h0 with rfl | h0
    · rfl
    · omega
  | i + 1, hi, _ => by
    show nearA f ((a + i) + 1) = _
    rw [nearA, nearA, h i (by omega), sh_isSome]
    by_cases c : (g i).isSome = true
    · rw [if_pos c, if_pos c]; rfl
    · rw [if_neg c, if_neg c]
      refine nearA_sub h hl i (by omega) ?_
      rcases hl with hl | hl
      · exact .inl hl
      · refine .inr ?_
        cases i with
        | zero =>
          have := h 0 (by omega)
          rw [Nat.add_zero] at this
          rw [this, sh_isSome] at hl
          exact absurd hl c
        | succ i => omega
theorem highA_sub {t : Tab} {f g : Src} {a m : Nat} (h : RelS f g a m) (hl : a = 0 ∨ (f a).isSome = true) : ∀ i, i ≤ m → (a = 0 ∨ 1 ≤ i) → highA t f (a + i) = highA (subT t a) g i
  | 0, _, h0 => by
    rcases h0 with rfl | h0
    · rfl
    · omega
  | i + 1, hi, _ => by
    show highA t f ((a + i) + 1) = _
    rw [highA, highA, h i (by omega), sh_isSome]
    by_cases c : (g i).isSome = true
    · rw [if_pos c, if_pos c]
    · rw [if_neg c, if_neg c]
      have h1 : a = 0 ∨ 1 ≤ i := by
        rcases hl with hl | hl
        · exact .inl hl
        · refine .inr ?_
          cases i with
          | zero =>
            have := h 0 (by omega)
            rw [Nat.add_zero] at this
            rw [this, sh_isSome] at hl
            exact absurd hl c
          | succ i => omega
      rw [nearA_sub h hl i (by omega) h1, highA_sub h hl i (by omega) h1, sh_isSome]
      rfl
theorem nearB_sub {n : Nat} {f g : Src} {a m : Nat} (h : RelS f g a m) (hm : a + m ≤ n) (hr : a + m = n ∨ (1 ≤ m ∧ (f (a + m - 1)).isSome = true)) : ∀ k i, i + k = m → (a + m = n ∨ 1 ≤ k) → nearB f (n - (a + i)) (a + i) = sh a (nearB g k i)
  | 0, i, hi, h0 => by
    have e : n - (a + i) = 0 := by omega
    rw [e]; rfl
  | k + 1, i, hi, _ => by
    have e : n - (a + i) = (n - (a + (i + 1))) + 1 := by omega
    rw [e, nearB, nearB, h i (by omega), sh_isSome]
    by_cases c : (g i).isSome = true
    · rw [if_pos c, if_pos c]; rfl
    · rw [if_neg c, if_neg c]
      refine nearB_sub h hm hr k (i + 1) (by omega) ?_
      rcases hr with hr | ⟨hr1, hr⟩
      · exact .inl hr
      · refine .inr ?_
        cases k with
        | zero =>
          have e2 : a + m - 1 = a + i := by omega
          rw [e2, h i (by omega), sh_isSome] at hr
          exact absurd hr c
        | succ k => omega
theorem highB_sub {n : Nat} {t : Tab} {f g : Src} {a m : Nat} (h : RelS f g a m) (hm : a + m ≤ n) (hr : a + m = n ∨ (1 ≤ m ∧ (f (a + m - 1)).isSome = true)) : ∀ k i, i + k = m → (a + m = n ∨ 1 ≤ k) → highB t f (n - (a + i)) (a + i) = highB (subT t a) g k i
  | 0, i, hi, h0 => by
    have e : n - (a + i) = 0 := by omega
    rw [e]; rfl
  | k + 1, i, hi, _ => by
    have e : n - (a + i) = (n - (a + (i + 1))) + 1 := by omega
    rw [e, highB, highB, h i (by omega), sh_isSome]
    by_cases c : (g i).isSome = true
    · rw [if_pos c, if_pos c]; rfl
    · rw [if_neg c, if_neg c]
      have h1 : a + m = n ∨ 1 ≤ k := by
        rcases hr with hr | ⟨hr1, hr⟩
        · exact .inl hr
        · refine .inr ?_
          cases k with
          | zero =>
            have e2 : a + m - 1 = a + i := by omega
            rw [e2, h i (by omega), sh_isSome] at hr
            exact absurd hr c
          | succ k => omega
      have e3 : a + i + 1 = a + (i + 1) := by omega
      rw [e3, nearB_sub h hm hr k (i + 1) (by omega) h1, highB_sub h hm hr k (i + 1) (by omega) h1, sh_isSome]
      rfl
theorem inTime_sub {t : Tab} {f g : Src} {s : Fil} {a m j k : Nat} (h : RelS f g a m) (hj : j < m) : inTime t f s (a + j) (a + k) = inTime (subT t a) g s j k := by
  unfold inTime
  rw [h j hj]
  cases g j <;> rfl
theorem candA_sub {t : Tab} {f g : Src} {s : Fil} {a m k : Nat} (h : RelS f g a m) (hl : a = 0 ∨ (f a).isSome = true) (hk : k < m) (fk : f (a + k) = none) : candA t f s (a + k) = sh a (candA (subT t a) g s k) := by
  have h1 : a = 0 ∨ 1 ≤ k := by
    rcases hl with hl | hl
    · exact .inl hl
    · refine .inr ?_
      cases k with
      | zero => rw [Nat.add_zero] at fk; rw [fk] at hl; cases hl
      | succ k => omega
  have e1 := nearA_sub h hl k (by omega) h1
  have e2 := highA_sub (t := t) h hl (k + 1) (by omega) (.inr (by omega))
  unfold candA
  rw [e1, show a + k + 1 = a + (k + 1) by omega, e2]
  cases hn : nearA g k with
  | none => rfl
  | some j =>
    have hj := (nearA_lt hn).1
    dsimp only [sh_some]
    rw [inTime_sub h (by omega), show (((a + k : Nat) : Int) - ((a + j : Nat) : Int)) = (k : Int) - j by omega]
    split <;> rfl
theorem candB_sub {n : Nat} {t : Tab} {f g : Src} {s : Fil} {a m k : Nat} (h : RelS f g a m) (hm : a + m ≤ n) (hr : a + m = n ∨ (1 ≤ m ∧ (f (a + m - 1)).isSome = true)) (hk : k < m) (fk : f (a + k) = none) : candB n t f s (a + k) = sh a (candB m (subT t a) g s k) := by
  have h1 : a + m = n ∨ 1 ≤ m - (k + 1) := by
    rcases hr with hr | ⟨hr1, hr⟩
    · exact .inl hr
    · refine .inr ?_
      by_cases c : k + 1 = m
      · rw [show a + m - 1 = a + k by omega, fk] at hr; cases hr
      · omega
  have e1 := nearB_sub h hm hr (m - (k + 1)) (k + 1) (by omega) h1
  have e2 := highB_sub (t := t) h hm hr (m - (k + 1)) (k + 1) (by omega) h1
  unfold candB
  rw [show a + k + 1 = a + (k + 1) by omega, e1, e2]
  cases hn : nearB g (m - (k + 1)) (k + 1) with
  | none => rfl
  | some j =>
    have hj := nearB_ge hn
    dsimp only [sh_some]
    rw [inTime_sub h (by omega), show (((a + j : Nat) : Int) - ((a + k : Nat) : Int)) = (j : Int) - k by omega]
    split <;> rfl
theorem pick_sub {w : Way} {a k : Nat} {x y : Option Nat} : pick w (a + k) (sh a x) (sh a y) = sh a (pick w k x y) := by
  cases w
  · rfl
  · rfl
  · cases x <;> cases y
    · rfl
    · rfl
    · rfl
    · rename_i i j
      simp only [pick, sh_some]
      rw [show (((a + k : Nat) : Int) - ((a + i : Nat) : Int)) = (k : Int) - i by omega, show (((a + j : Nat) : Int) - ((a + k : Nat) : Int)) = (j : Int) - k by omega]
      split
      · rfl
      · split <;> rfl
  · cases x <;> cases y
    · rfl
    · rfl
    · rfl
    · rename_i i j
      simp only [pick, sh_some]
      rw [show (((a + k : Nat) : Int) - ((a + i : Nat) : Int)) = (k : Int) - i by omega, show (((a + j : Nat) : Int) - ((a + k : Nat) : Int)) = (j : Int) - k by omega]
      split
      · rfl
      · split <;> rfl
theorem newS_sub {n : Nat} {t : Tab} {s : Fil} {f g : Src} {a m : Nat} (h : RelS f g a m) (hm : a + m ≤ n) (hl : a = 0 ∨ (f a).isSome = true) (hr : a + m = n ∨ (1 ≤ m ∧ (f (a + m - 1)).isSome = true)) : RelS (newS n t s f) (newS m (subT t a) s g) a m := by
  intro k hk
  unfold newS
  rw [h k hk, sh_isSome]
  by_cases c : (g k).isSome = true
  · rw [if_pos c, if_pos c]
  · rw [if_neg c, if_neg c]
    have fk : f (a + k) = none := by
      rw [h k hk]
      cases e : g k with
      | none => rfl
      | some x => rw [e] at c; exact absurd rfl c
    have et : takes n t s f (a + k) = sh a (takes m (subT t a) s g k) := by
      unfold takes
      rw [candA_sub h hl hk fk, candB_sub h hm hr hk fk, pick_sub]
    rw [et]
    cases e : takes m (subT t a) s g k with
    | none => rfl
    | some j =>
      show f (a + j) = sh a (g j)
      exact h j (takes_some hk e).1
theorem newS_some {n : Nat} {t : Tab} {s : Fil} {f : Src} {k : Nat} (h : (f k).isSome = true) : (newS n t s f k).isSome = true := by
  unfold newS; rw [if_pos h]; exact h
theorem runT_sub {n : Nat} {t : Tab} {a m : Nat} (hm : a + m ≤ n) : ∀ {ss : List (Option Fil)} {k : Nat} {f g b c : Src}, RelS f g a m → (a = 0 ∨ (f a).isSome = true) → (a + m = n ∨ (1 ≤ m ∧ (f (a + m - 1)).isSome = true)) →
    RelS (runT n t ss k f b).1 (runT m (subT t a) ss k g c).1 a m ∧ (runT n t ss k f b).2.2 = (runT m (subT t a) ss k g c).2.2
  | [], _, _, _, _, _, h, _, _ => ⟨h, rfl⟩
  | none :: _, _, _, _, _, _, h, _, _ => ⟨h, rfl⟩
  | some s :: r, k, f, g, b, c, h, hl, hr => runT_sub (ss := r) hm (newS_sub h hm hl hr) (hl.imp id newS_some) (hr.imp id fun z => ⟨z.1, newS_some z.2⟩)
theorem src0_sub {t : Tab} {a m : Nat} : RelS (src0 t) (src0 (subT t a)) a m := fun i _ => by
  unfold src0 subT
  by_cases c : (t (a + i)).value.isSome = true
  · rw [if_pos c, if_pos c]; rfl
  · rw [if_neg c, if_neg c]; rfl
theorem told_sub {n : Nat} {t : Tab} {a m i : Nat} {ss : List (Option Fil)} (hm : a + m ≤ n) (hl : a = 0 ∨ (t a).value.isSome = true) (hr : a + m = n ∨ (1 ≤ m ∧ (t (a + m - 1)).value.isSome = true)) (hi : i < m) : toldD (subT t a) (runAll m (subT t a) ss) i = toldD t (runAll n t ss) (a + i) := by
  have s0 : ∀ k, (t k).value.isSome = true → (src0 t k).isSome = true := fun k h => by unfold src0; rw [if_pos h]; rfl
  obtain ⟨h1, h2⟩ := runT_sub (n := n) (t := t) (a := a) (m := m) hm (ss := ss) (k := 0) (f := src0 t) (g := src0 (subT t a)) (b := nos) (c := nos) src0_sub (hl.imp id (s0 a)) (hr.imp id fun z => ⟨z.1, s0 _ z.2⟩)
  unfold toldD
  rw [h1 i hi, ← h2]
  cases (runT m (subT t a) ss 0 (src0 (subT t a)) nos).1 i <;> rfl
end L

set_option Elab.async false
set_option linter.all false
set_option maxRecDepth 100000
namespace L
open PySem PySem.Spec PyProof.Rows L2 DL
/-- rows that the program's check lets pass, by place -/
structure OkR (n : Nat) (t : Tab) : Prop where
  lev : ∀ j, j < n → 0 ≤ (t j).level ∧ (t j).level ≤ 2
  val : ∀ j, j < n → ∀ v, (t j).value = some v → -1000000000000 ≤ v ∧ v ≤ 1000000000000
  day : ∀ j, j < n → 0 ≤ (t j).day ∧ (t j).day ≤ 1000000000000
  mono : ∀ i j, i ≤ j → j < n → (t i).day ≤ (t j).day
theorem OkR.sub {n a m : Nat} {t : Tab} (h : OkR n t) (hm : a + m ≤ n) : OkR m (subT t a) := ⟨fun j hj => h.lev _ (by omega), fun j hj => h.val _ (by omega), fun j hj => h.day _ (by omega), fun i j hij hj => h.mono _ _ (by omega) (by omega)⟩
theorem OkR.okT {n : Nat} {t : Tab} (h : OkR n t) (hn : n ≤ 1000) : OkT n t := ⟨hn, fun j hj => (h.lev j hj).1, h.mono⟩
theorem okR_rows {t : List Row} (h : okRows 0 t) : OkR t.length (rowAt t) := ⟨fun j hj => (okRows_at h j hj).1, fun j hj => (okRows_at h j hj).2.1, fun j hj => (okRows_at h j hj).2.2, fun i j hij hj => okRows_days h i j hij hj⟩
theorem check_rows_tab {n : Nat} {t : Tab} (h : OkR n t) : d_check_rows [.lst (tabR n t), .int 0, .int 0] = .ok .non := by
  unfold d_check_rows fnP b_check_rows
  obtain ⟨Γ', e, _⟩ := loop_nx (p := lb_check_rows_1) (g := lt_check_rows_1) (Γ := [.im (.lst (tabR n t)), .im (.int 0), .im (.int 0), .emp, .emp, .emp, .emp]) (items := enumK 0 (tabR n t))
    (fun i Γ => ∃ z s1 s3 s4 s5 s6, Γ = [.im (.lst (tabR n t)), s1, .im (.int 0), s3, s4, s5, s6] ∧ (s1 = .im (.int z) ∨ s1 = .fr (.int z)) ∧ ∀ j, i ≤ j → j < n → z ≤ (t j).day)
    (by
      rintro i x Γ hx ⟨z, s1, s3, s4, s5, s6, rfl, hs, hz⟩
      obtain ⟨rfl, hi⟩ := enumK_get hx
      obtain ⟨l0, l1⟩ := h.lev i hi
      obtain ⟨d0, d1⟩ := h.day i hi
      have hz' := hz i (Nat.le_refl _) hi
      have e := check_value_ok (t i).value i (h.val i hi)
      refine ⟨_, [.im (.lst (tabR n t)), .fr (.int (t i).day), .im (.int 0), .im (.int i), .im (.int (t i).day), .im (.int (t i).level), .im (optD (t i).value)], rfl, .inl ?_, _, _, _, _, _, _, rfl, .inr rfl, fun j hj hl => h.mono i j (by omega) hl⟩
      rcases hs with rfl | rfl
      all_goals simp [lb_check_rows_1, hz', d1, l0, l1, e])
    ⟨0, _, _, _, _, _, rfl, .inl rfl, fun j _ hj => (h.day j hj).1⟩
  simp [en2, e]
theorem table_ok3 (p : List Int) (n b m : Int) (hn : 0 ≤ n) (hm : 0 ≤ m) (hm2 : m ≤ 60) : ∃ k : Nat, ∃ t : Tab, ∃ n', d_l_table ⟨p, n, b⟩ [.int m] = .ok (.lst (tabR k t), ⟨p, n', b⟩) ∧ 0 ≤ n' ∧ k ≤ 60 ∧ OkR k t := by
  obtain ⟨tl, n2, e3, h3, hrows, hlen, hlast⟩ := table_ok p n b m hn hm hm2
  rw [rows_tabR] at e3
  exact ⟨tl.length, rowAt tl, n2, e3, h3, hlen, okR_rows hrows⟩
theorem cut_tab {n lo hi : Nat} {g : Nat → D} (h1 : lo ≤ hi) (h2 : hi ≤ n) : DL.cutD (tab n g) (some (lo : Int)) (some (hi : Int)) = tab (hi - lo) fun i => g (lo + i) := by
  unfold DL.cutD
  rw [tab_len, HT.sIx_nat, HT.sIx_nat, Nat.min_eq_left h2, Nat.min_eq_left (show lo ≤ n by omega)]
  refine List.ext_getElem? fun j => ?_
  by_cases hj : j < hi - lo
  · rw [tab_get hj, List.getElem?_take, if_pos (by omega), List.getElem?_drop, tab_get (by omega)]
  · rw [List.getElem?_eq_none (by simp; omega), List.getElem?_eq_none (by simp; omega)]
/-- a slice of a list by place -/
theorem slO_tab {Γ : Nv} {n lo hi : Nat} {g : Nat → D} {fe : EF D} {fl fh : EF (Option Int)} (he : fe Γ = .ok (.lst (tab n g), Γ)) (hl : fl Γ = .ok (some (lo : Int), Γ)) (hh : fh Γ = .ok (some (hi : Int), Γ)) (h1 : lo ≤ hi) (h2 : hi ≤ n) (hg : ∀ i, i < n → nolst (g i) = true) :
    dSlO fe fl fh Γ = .ok (tab (hi - lo) fun i => g (lo + i), Γ) := by
  unfold dSlO
  rw [he, R.bind_ok]
  dsimp only
  rw [hl, R.bind_ok]
  dsimp only
  rw [hh, R.bind_ok]
  dsimp only [lstOf]
  rw [if_pos (tab_nolst hg), cut_tab h1 h2]
end L

set_option Elab.async false
set_option linter.all false
set_option maxRecDepth 100000
namespace L
open PySem PySem.Spec PyProof.Rows L2 DL
/-! ### the table that is left -/
theorem lst_list {C : Addr} {ss : List (Option Fil)} : oListP C "parts" [.lst (ss.map stepD)] = some (ss.map stepD) := by
  unfold oListP oList
  simp [steps_nolst, seqOf]
/-- the row at i goes -/
def goneB (r : Src × Src × Option Nat) (i : Nat) : Bool := (r.1 i).isNone && r.2.2.isSome
theorem ne_dropped {t : Tab} {r : Src × Src × Option Nat} {i : Nat} : oNe (toldD t r i) (.str "dropped") = some (.bl (!goneB r i)) := by
  unfold toldD goneB
  cases h : r.1 i with
  | none => cases r.2.2 <;> simp [goneD, oNe, eqB, flatD] <;> rfl
  | some m => cases hv : (t m).value <;> simp [optD, hv, oNe, eqB, flatD] <;> rfl
def highP (t : Tab) (i : Nat) (h : Int) : Int := if (t i).level > h then (t i).level else h
def leftP (t : Tab) (r : Src × Src × Option Nat) : Nat → List D × Int
  | 0 => ([], 0)
  | i + 1 => if goneB r i = true then ((leftP t r i).1, highP t i (leftP t r i).2) else ((leftP t r i).1 ++ [.tup [.int (t i).day, .int (highP t i (leftP t r i).2), toldD t r i]], 0)
theorem leftP_succ {t : Tab} {r : Src × Src × Option Nat} {i : Nat} : leftP t r (i + 1) = if goneB r i = true then ((leftP t r i).1, highP t i (leftP t r i).2) else ((leftP t r i).1 ++ [.tup [.int (t i).day, .int (highP t i (leftP t r i).2), toldD t r i]], 0) := rfl
theorem leftP_len {t : Tab} {r : Src × Src × Option Nat} : ∀ i : Nat, (leftP t r i).1.length ≤ i
  | 0 => Nat.le_refl _
  | i + 1 => by
    have := leftP_len (t := t) (r := r) i
    unfold leftP
    split
    · dsimp only; omega
    · simp only [List.length_append, List.length_singleton]; omega
theorem leftP_nolst {t : Tab} {r : Src × Src × Option Nat} : ∀ i : Nat, nolsts (leftP t r i).1 = true
  | 0 => rfl
  | i + 1 => by
    have := leftP_nolst (t := t) (r := r) i
    unfold leftP
    split
    · exact this
    · exact nolsts_append this (by simp)
theorem remains_ok {n : Nat} {t : Tab} (ss : List (Option Fil)) (T : OkT n t) (hss : ss.length ≤ 1000) : d_l_remains [.lst (ss.map stepD), .lst (tabR n t)] = .ok (.lst (leftP t (runAll n t ss) n).1) := by
  have S := l_shown_ok ss T hss
  generalize hr : runAll n t ss = r at *
  have hn := T.le
  have hrg : inRg (n : Int) := ⟨by omega, by omega⟩
  obtain ⟨Γ', e, s5, hΓ⟩ := loop_nx (p := lb_l_remains_1) (g := lt_l_remains_1) (Γ := [.im (.lst (ss.map stepD)), .im (.lst (tabR n t)), .fr (.lst (tab n (toldD t r))), .fr (.int 0), .own [], .emp]) (items := rangeD 0 n)
    (fun i Γ => ∃ s5, Γ = [.im (.lst (ss.map stepD)), .im (.lst (tabR n t)), .fr (.lst (tab n (toldD t r))), .fr (.int (leftP t r i).2), .own (leftP t r i).1, s5])
    (by
      rintro i d Γ hd ⟨s5, rfl⟩
      obtain ⟨rfl, hi⟩ := rangeD_get hd
      have x1 := tabR_at (t := t) hi
      have x2 : oIx (rowD (t i)) (.int 0) = some (.int (t i).day) := by simp [rowD]
      have x3 : oIx (rowD (t i)) (.int 1) = some (.int (t i).level) := by simp [rowD]
      have x4 := tab_at (g := toldD t r) hi
      have x5 := ne_dropped (t := t) (r := r) (i := i)
      have sz := lt_size (n := (leftP t r i).1.length) (by have := leftP_len (t := t) (r := r) i; omega)
      have sz3 : 3 ≤ sizeLine := natSize (by decide)
      refine ⟨_, [.im (.lst (ss.map stepD)), .im (.lst (tabR n t)), .fr (.lst (tab n (toldD t r))), .fr (.int (leftP t r (i + 1)).2), .own (leftP t r (i + 1)).1, .im (.int (0 + i))], rfl, .inl ?_, _, rfl⟩
      rw [leftP_succ]
      by_cases c : (t i).level > (leftP t r i).2
      · have c' : (leftP t r i).2 < (t i).level := c
        cases g : goneB r i with
        | true => simp [lb_l_remains_1, x1, x2, x3, x4, x5, g, c', highP]
        | false => simp [lb_l_remains_1, x1, x2, x3, x4, x5, g, c', highP, sz, sz3]
      · have c' : ¬ (leftP t r i).2 < (t i).level := c
        cases g : goneB r i with
        | true => simp [lb_l_remains_1, x1, x2, x3, x4, x5, g, c', highP]
        | false => simp [lb_l_remains_1, x1, x2, x3, x4, x5, g, c', highP, sz, sz3])
    ⟨_, rfl⟩
  rw [rangeD_len] at hΓ
  subst hΓ
  unfold d_l_remains
  refine fnP_eq rfl ?_
  simp [b_l_remains, S, rg1, hrg, e, frz]
theorem left_ok {C : Addr} {n : Nat} {t : Tab} {d : D} (r : Src × Src × Option Nat) (hn : n ≤ 1000) (S : d_cells C [d, .lst (tabR n t)] = .ok (.lst (tab n (toldD t r)))) : d_left_table C [d, .lst (tabR n t)] = .ok (.lst (leftP t r n).1) := by
  have hz : zipD (tabR n t) (tab n (toldD t r)) = tab n fun i => .tup [rowD (t i), toldD t r i] := by
    refine List.ext_getElem? fun j => ?_
    unfold zipD
    rw [List.getElem?_zipWith]
    by_cases hj : j < n
    · rw [tabR, tab_get hj, tab_get hj, tab_get hj]
    · rw [List.getElem?_eq_none (by simp [tabR]; omega), List.getElem?_eq_none (by simp; omega), List.getElem?_eq_none (by simp; omega)]
  obtain ⟨Γ', e, s4, s5, hΓ⟩ := loop_nx (p := lb_left_table_1) (g := lt_left_table_1) (Γ := [.im d, .im (.lst (tabR n t)), .own [], .fr (.int 0), .emp, .emp]) (items := tab n fun i => .tup [rowD (t i), toldD t r i])
    (fun i Γ => ∃ s4 s5, Γ = [.im d, .im (.lst (tabR n t)), .own (leftP t r i).1, .fr (.int (leftP t r i).2), s4, s5])
    (by
      rintro i x Γ hd ⟨s4, s5, rfl⟩
      obtain ⟨rfl, hi⟩ := tab_some hd
      have x2 : oIx (rowD (t i)) (.int 0) = some (.int (t i).day) := by simp [rowD]
      have x3 : oIx (rowD (t i)) (.int 1) = some (.int (t i).level) := by simp [rowD]
      have x5 := ne_dropped (t := t) (r := r) (i := i)
      have sz := lt_size (n := (leftP t r i).1.length) (by have := leftP_len (t := t) (r := r) i; omega)
      have sz3 : 3 ≤ sizeLine := natSize (by decide)
      refine ⟨_, [.im d, .im (.lst (tabR n t)), .own (leftP t r (i + 1)).1, .fr (.int (leftP t r (i + 1)).2), .im (rowD (t i)), .im (toldD t r i)], rfl, .inl ?_, _, _, rfl⟩
      rw [leftP_succ]
      by_cases c : (t i).level > (leftP t r i).2
      · have c' : (leftP t r i).2 < (t i).level := c
        cases g : goneB r i with
        | true => simp [lb_left_table_1, x2, x3, x5, g, c', highP]
        | false => simp [lb_left_table_1, x2, x3, x5, g, c', highP, sz, sz3]
      · have c' : ¬ (leftP t r i).2 < (t i).level := c
        cases g : goneB r i with
        | true => simp [lb_left_table_1, x2, x3, x5, g, c', highP]
        | false => simp [lb_left_table_1, x2, x3, x5, g, c', highP, sz, sz3])
    ⟨_, _, rfl⟩
  rw [tab_len] at hΓ
  subst hΓ
  have nR := nolst_tabR (n := n) (t := t)
  have nT : nolsts (tab n (toldD t r)) = true := tab_nolst fun _ _ => nolst_told
  unfold d_left_table
  refine fnP_eq rfl ?_
  simp [b_left_table, S, zp2, nR, nT, hz, e, frz, lstOf]
end L

set_option Elab.async false
set_option linter.all false
set_option maxRecDepth 100000
namespace L
open PySem PySem.Spec PyProof.Rows L2 DL
/-! ### two runs -/
section
variable {n : Nat} {t u : Tab}
theorem runT_append : ∀ {ss zs : List (Option Fil)} {k : Nat} {f b : Src}, (runT n t ss k f b).2.2 = none → ∃ k', runT n t (ss ++ zs) k f b = runT n t zs k' (runT n t ss k f b).1 (runT n t ss k f b).2.1
  | [], _, k, _, _, _ => ⟨k, rfl⟩
  | none :: _, _, _, _, _, h => nomatch h
  | some s :: r, zs, k, f, b, h => runT_append (ss := r) (zs := zs) (k := k + 1) (f := newS n t s f) (b := newB n t s k f b) h
theorem runT_stop : ∀ {ss zs : List (Option Fil)} {k : Nat} {f b : Src}, (runT n t ss k f b).2.2 ≠ none → runT n t (ss ++ zs) k f b = runT n t ss k f b
  | [], _, _, _, _, h => absurd rfl h
  | none :: _, _, _, _, _, _ => rfl
  | some s :: r, zs, k, f, b, h => runT_stop (ss := r) (zs := zs) (k := k + 1) (f := newS n t s f) (b := newB n t s k f b) h
/-- what a source names has a value -/
def ValS (t : Tab) (f : Src) : Prop := ∀ k m, f k = some m → (t m).value.isSome = true
theorem newS_val {s : Fil} {f : Src} (h : ValS t f) : ValS t (newS n t s f) := fun k m e => by
  unfold newS at e
  split at e
  · exact h k m e
  · obtain ⟨j, _, e2⟩ := Option.bind_eq_some_iff.mp e
    exact h j m e2
theorem runT_val : ∀ {ss : List (Option Fil)} {k : Nat} {f b : Src}, ValS t f → ValS t (runT n t ss k f b).1
  | [], _, _, _, h => h
  | none :: _, _, _, _, h => h
  | some s :: r, k, f, b, h => runT_val (ss := r) (newS_val h)
theorem src0_val : ValS t (src0 t) := fun k m e => by
  unfold src0 at e
  split at e
  · cases e; assumption
  · cases e
theorem nearA_is {f g : Src} : ∀ {i : Nat}, (∀ j, j < i → (f j).isSome = (g j).isSome) → nearA f i = nearA g i
  | 0, _ => rfl
  | i + 1, h => by rw [nearA, nearA, h i (by omega), nearA_is fun j hj => h j (by omega)]
theorem nearB_is {f g : Src} : ∀ {m i : Nat}, (∀ j, i ≤ j → j < i + m → (f j).isSome = (g j).isSome) → nearB f m i = nearB g m i
  | 0, _, _ => rfl
  | m + 1, i, h => by rw [nearB, nearB, h i (Nat.le_refl _) (by omega), nearB_is fun j h1 h2 => h j (by omega) (by omega)]
theorem highA_is {f g : Src} (hl : ∀ j, (t j).level = (u j).level) : ∀ {i : Nat}, (∀ j, j < i → (f j).isSome = (g j).isSome) → highA t f i = highA u g i
  | 0, _ => rfl
  | i + 1, h => by rw [highA, highA, h i (by omega), nearA_is fun j hj => h j (by omega), highA_is hl fun j hj => h j (by omega), hl i]
theorem highB_is {f g : Src} (hl : ∀ j, (t j).level = (u j).level) : ∀ {m i : Nat}, (∀ j, i ≤ j → j < i + m → (f j).isSome = (g j).isSome) → highB t f m i = highB u g m i
  | 0, _, _ => rfl
  | m + 1, i, h => by rw [highB, highB, h i (Nat.le_refl _) (by omega), nearB_is fun j h1 h2 => h j (by omega) (by omega), highB_is hl fun j h1 h2 => h j (by omega) (by omega), hl i]
theorem inTime_none {f : Src} {s : Fil} {j k : Nat} (hd : s.days = none) (h : (f j).isSome = true) : inTime t f s j k = true := by
  unfold inTime
  cases e : f j with
  | none => rw [e] at h; cases h
  | some m => dsimp only; rw [hd]; rfl
theorem takes_is {f g : Src} {s : Fil} {k : Nat} (hl : ∀ j, (t j).level = (u j).level) (h : ∀ j, j < n → (f j).isSome = (g j).isSome) (hd : s.days = none) (hk : k < n) : takes n t s f k = takes n u s g k := by
  have hA : candA t f s k = candA u g s k := by
    unfold candA
    rw [nearA_is (g := g) fun j hj => h j (by omega)]
    cases e : nearA g k with
    | none => rfl
    | some j =>
      dsimp only
      obtain ⟨h1, h2⟩ := nearA_lt e
      rw [highA_is hl fun j hj => h j (by omega), inTime_none hd h2, inTime_none hd ((h j (by omega)).trans h2)]
  have hB : candB n t f s k = candB n u g s k := by
    unfold candB
    rw [nearB_is (g := g) fun j h1 h2 => h j (by omega)]
    cases e : nearB g (n - (k + 1)) (k + 1) with
    | none => rfl
    | some j =>
      dsimp only
      obtain ⟨h1, h2, h3⟩ := nearB_ge e
      rw [highB_is hl fun j h1 h2 => h j (by omega), inTime_none hd h3, inTime_none hd ((h j (by omega)).trans h3)]
  unfold takes
  rw [hA, hB]
/-- f goes by way of g over what stood before -/
def Via (n : Nat) (f0 f g : Src) : Prop := ∀ i, i < n → f i = (g i).bind f0 ∧ (f i).isSome = (g i).isSome
theorem newS_via {f0 f g : Src} {s : Fil} (hl : ∀ j, (t j).level = (u j).level) (hd : s.days = none) (h : Via n f0 f g) : Via n f0 (newS n t s f) (newS n u s g) := fun i hi => by
  have et := takes_is hl (fun j hj => (h j hj).2) hd hi
  unfold newS
  rw [(h i hi).2, et]
  by_cases c : (g i).isSome = true
  · rw [if_pos c, if_pos c]; exact h i hi
  · rw [if_neg c, if_neg c]
    cases e : takes n u s g i with
    | none => exact ⟨rfl, rfl⟩
    | some j => exact h j (takes_some hi e).1
theorem runT_via {f0 : Src} (hl : ∀ j, (t j).level = (u j).level) : ∀ {zs : List (Option Fil)} {k k' : Nat} {f g b c : Src}, (∀ s, some s ∈ zs → s.days = none) → Via n f0 f g →
    Via n f0 (runT n t zs k f b).1 (runT n u zs k' g c).1 ∧ (runT n t zs k f b).2.2.isSome = (runT n u zs k' g c).2.2.isSome
  | [], _, _, _, _, _, _, _, h => ⟨h, rfl⟩
  | none :: _, _, _, _, _, _, _, _, h => ⟨h, rfl⟩
  | some s :: r, k, k', f, g, b, c, hd, h => runT_via hl (zs := r) (fun x hx => hd x (List.mem_cons_of_mem _ hx)) (newS_via hl (hd s List.mem_cons_self) h)
/-- the table that a run without a drop leaves -/
def tabL (t : Tab) (r : Src × Src × Option Nat) : Tab := fun i => ⟨(t i).day, (t i).level, (r.1 i).bind fun m => (t m).value⟩
theorem okR_left {ss : List (Option Fil)} (h : OkR n t) : OkR n (tabL t (runAll n t ss)) :=
  ⟨h.lev, fun j hj v hv => by
    obtain ⟨m, e1, e2⟩ := Option.bind_eq_some_iff.mp hv
    exact h.val m (runAll_bnd j m hj e1) v e2, h.day, h.mono⟩
theorem goneD_is {o o' : Option Nat} (h : o.isSome = o'.isSome) : goneD o = goneD o' := by
  cases o <;> cases o' <;> first | rfl | cases h
theorem two_told {ss zs : List (Option Fil)} (hz : ∀ s, some s ∈ zs → s.days = none) (h0 : (runAll n t ss).2.2 = none) {i : Nat} (hi : i < n) :
    toldD (tabL t (runAll n t ss)) (runAll n (tabL t (runAll n t ss)) zs) i = toldD t (runAll n t (ss ++ zs)) i ∧ goneB (runAll n (tabL t (runAll n t ss)) zs) i = goneB (runAll n t (ss ++ zs)) i := by
  obtain ⟨k', e⟩ := runT_append (zs := zs) h0
  have hv : ValS t (runAll n t ss).1 := runT_val src0_val
  have v0 : Via n (runAll n t ss).1 (runAll n t ss).1 (src0 (tabL t (runAll n t ss))) := fun i hi => by
    unfold src0 tabL
    dsimp only
    cases c : (runAll n t ss).1 i with
    | none => exact ⟨rfl, rfl⟩
    | some m =>
      have := hv i m c
      simp [c, this]
  have hl : ∀ j, (t j).level = (tabL t (runAll n t ss) j).level := fun _ => rfl
  obtain ⟨w1, w2⟩ := runT_via (n := n) (k := k') (k' := 0) (b := (runAll n t ss).2.1) (c := nos) hl hz v0
  have e' : runAll n t (ss ++ zs) = runT n t zs k' (runAll n t ss).1 (runAll n t ss).2.1 := e
  rw [e']
  obtain ⟨x1, x2⟩ := w1 i hi
  constructor
  · unfold toldD
    rw [x1]
    show (match (runAll n (tabL t (runAll n t ss)) zs).1 i with | none => goneD (runAll n (tabL t (runAll n t ss)) zs).2.2 | some m => optD (tabL t (runAll n t ss) m).value) = _
    cases c : (runT n (tabL t (runAll n t ss)) zs 0 (src0 (tabL t (runAll n t ss))) nos).1 i with
    | none =>
      have c' : (runAll n (tabL t (runAll n t ss)) zs).1 i = none := c
      exact goneD_is w2.symm
    | some j =>
      have c' : (runAll n (tabL t (runAll n t ss)) zs).1 i = some j := c
      rw [x1, c] at x2
      show optD (((runAll n t ss).1 j).bind fun m => (t m).value) = _
      dsimp only [Option.bind]
      cases c2 : (runAll n t ss).1 j with
      | none => simp [c2] at x2
      | some m => rfl
  · unfold goneB
    rw [← w2]
    congr 1
    have : ((runT n t zs k' (runAll n t ss).1 (runAll n t ss).2.1).1 i).isNone = !((runT n t zs k' (runAll n t ss).1 (runAll n t ss).2.1).1 i).isSome := by cases (runT n t zs k' (runAll n t ss).1 (runAll n t ss).2.1).1 i <;> rfl
    rw [this, x2]
    show ((runAll n (tabL t (runAll n t ss)) zs).1 i).isNone = !((runAll n (tabL t (runAll n t ss)) zs).1 i).isSome
    cases (runAll n (tabL t (runAll n t ss)) zs).1 i <;> rfl
theorem leftP_congr {r r' : Src × Src × Option Nat} : ∀ {i : Nat}, (∀ j, j < i → (t j).day = (u j).day ∧ (t j).level = (u j).level ∧ toldD t r j = toldD u r' j ∧ goneB r j = goneB r' j) → leftP t r i = leftP u r' i
  | 0, _ => rfl
  | i + 1, h => by
    obtain ⟨h1, h2, h3, h4⟩ := h i (by omega)
    rw [leftP_succ, leftP_succ, leftP_congr (i := i) fun j hj => h j (by omega)]
    unfold highP
    rw [h1, h2, h3, h4]
/-- all rows stay, each with the value of v -/
theorem leftP_full {r : Src × Src × Option Nat} : ∀ {i : Nat}, (∀ j, j < i → 0 ≤ (t j).level ∧ (t j).day = (u j).day ∧ (t j).level = (u j).level ∧ toldD t r j = optD (u j).value ∧ goneB r j = false) → leftP t r i = (tabR i u, 0)
  | 0, _ => rfl
  | i + 1, h => by
    obtain ⟨h0, h1, h2, h3, h4⟩ := h i (by omega)
    rw [leftP_succ, leftP_full (i := i) fun j hj => h j (by omega), h4, if_neg (by decide)]
    have hh : highP t i 0 = (t i).level := by unfold highP; split <;> omega
    dsimp only
    rw [hh, h1, h2, h3, tabR, tabR, tab_snoc]
    rfl
theorem left_none {ss : List (Option Fil)} (h : OkR n t) (h0 : (runAll n t ss).2.2 = none) : (leftP t (runAll n t ss) n).1 = tabR n (tabL t (runAll n t ss)) := by
  rw [leftP_full (u := tabL t (runAll n t ss)) fun j hj => ⟨(h.lev j hj).1, rfl, rfl, ?_, ?_⟩]
  · unfold toldD
    show _ = optD (((runAll n t ss).1 j).bind fun m => (t m).value)
    cases (runAll n t ss).1 j with
    | none => dsimp only; rw [h0]; rfl
    | some m => rfl
  · unfold goneB
    rw [h0]; simp
/-- with a drop all rows that are left have values -/
theorem left_some {r : Src × Src × Option Nat} (h : OkR n t) (hb : Bnd n r.1) (hv : ValS t r.1) (h0 : r.2.2.isSome = true) : ∀ i, i ≤ n → ∃ (m : Nat) (u : Tab), m ≤ i ∧ (leftP t r i).1 = tabR m u ∧ OkR m u ∧ (∀ j, j < m → (u j).value.isSome = true) ∧ (0 ≤ (leftP t r i).2 ∧ (leftP t r i).2 ≤ 2) ∧ ∀ j k, j < m → i ≤ k → k < n → (u j).day ≤ (t k).day
  | 0, _ => ⟨0, t, Nat.le_refl _, rfl, ⟨fun j hj => by omega, fun j hj => by omega, fun j hj => by omega, fun i j _ hj => by omega⟩, fun j hj => by omega, (show (0 : Int) ≤ 0 ∧ (0 : Int) ≤ 2 from ⟨Int.le_refl 0, by decide⟩), fun j k hj => by omega⟩
  | i + 1, hi => by
    obtain ⟨m, u, h1, h2, h3, h4, h5, h6⟩ := left_some h hb hv h0 i (by omega)
    obtain ⟨l0, l1⟩ := h.lev i (by omega)
    have hp : 0 ≤ highP t i (leftP t r i).2 ∧ highP t i (leftP t r i).2 ≤ 2 := by unfold highP; split <;> omega
    rw [leftP_succ]
    cases g : goneB r i with
    | true =>
      rw [if_pos rfl]
      exact ⟨m, u, by omega, h2, h3, h4, hp, fun j k hj hk hn => h6 j k hj (by omega) hn⟩
    | false =>
      rw [if_neg (by decide)]
      have gs : (r.1 i).isSome = true := by
        unfold goneB at g
        rw [h0] at g
        cases c : r.1 i with
        | none => rw [c] at g; cases g
        | some _ => rfl
      obtain ⟨x, hx⟩ := Option.isSome_iff_exists.mp gs
      obtain ⟨v, hv'⟩ := Option.isSome_iff_exists.mp (hv i x hx)
      have hxn := hb i x (by omega) hx
      refine ⟨m + 1, fun j => if j < m then u j else ⟨(t i).day, highP t i (leftP t r i).2, some v⟩, by omega, ?_, ⟨fun j hj => ?_, fun j hj w hw => ?_, fun j hj => ?_, fun a b hab hb' => ?_⟩, fun j hj => ?_, (show (0 : Int) ≤ 0 ∧ (0 : Int) ≤ 2 from ⟨Int.le_refl 0, by decide⟩), fun j k hj hk hn => ?_⟩
      · dsimp only
        rw [h2, tabR, tabR, tab_snoc]
        congr 1
        · exact tab_ext fun j hj => by rw [if_pos hj]
        · unfold toldD
          rw [hx, if_neg (by omega)]
          dsimp only [rowD]
          rw [hv']
      · (try dsimp only); split
        · exact h3.lev j (by assumption)
        · exact hp
      · (try dsimp only at hw); split at hw
        · exact h3.val j (by assumption) w hw
        · cases hw; exact h.val x hxn v hv'
      · (try dsimp only); split
        · exact h3.day j (by assumption)
        · exact h.day i (by omega)
      · (try dsimp only)
        by_cases hb2 : b < m
        · rw [if_pos (by omega), if_pos hb2]; exact h3.mono a b hab hb2
        · rw [if_neg hb2]
          split
          · exact h6 a i (by assumption) (Nat.le_refl _) (by omega)
          · exact Int.le_refl _
      · (try dsimp only); split
        · exact h4 j (by assumption)
        · rfl
      · (try dsimp only); split
        · exact h6 j k (by assumption) (by omega) hn
        · exact h.mono i k (by omega) hn
theorem runT_full : ∀ {zs : List (Option Fil)} {k : Nat} {f b : Src}, (∀ i, i < n → (f i).isSome = true) → ∀ i, i < n → (runT n t zs k f b).1 i = f i
  | [], _, _, _, _, _, _ => rfl
  | none :: _, _, _, _, _, _, _ => rfl
  | some s :: r, k, f, b, h, i, hi => by
    have e : ∀ i, i < n → newS n t s f i = f i := fun i hi => by unfold newS; rw [if_pos (h i hi)]
    show (runT n t r (k + 1) (newS n t s f) (newB n t s k f b)).1 i = f i
    rw [runT_full (zs := r) (fun i hi => by rw [e i hi]; exact h i hi) i hi, e i hi]
theorem left_again {zs : List (Option Fil)} (h : OkR n t) (hv : ∀ j, j < n → (t j).value.isSome = true) : (leftP t (runAll n t zs) n).1 = tabR n t := by
  have hs : ∀ i, i < n → src0 t i = some i := fun i hi => by unfold src0; rw [if_pos (hv i hi)]
  have e : ∀ i, i < n → (runAll n t zs).1 i = some i := fun i hi => by
    rw [← hs i hi]
    exact runT_full (fun i hi => by rw [hs i hi]; rfl) i hi
  rw [leftP_full (u := t) fun j hj => ⟨(h.lev j hj).1, rfl, rfl, by unfold toldD; rw [e j hj], by unfold goneB; rw [e j hj]; rfl⟩]
/-- two runs, one run -/
theorem two_runs {ss zs : List (Option Fil)} (h : OkR n t) (hz : ∀ s, some s ∈ zs → s.days = none) : ∃ (m : Nat) (u : Tab), m ≤ n ∧ (leftP t (runAll n t ss) n).1 = tabR m u ∧ OkR m u ∧ (leftP u (runAll m u zs) m).1 = (leftP t (runAll n t (ss ++ zs)) n).1 := by
  cases h0 : (runAll n t ss).2.2 with
  | none =>
    refine ⟨n, tabL t (runAll n t ss), Nat.le_refl _, left_none h h0, okR_left h, ?_⟩
    rw [leftP_congr (t := tabL t (runAll n t ss)) (u := t) (r' := runAll n t (ss ++ zs)) fun j hj => ⟨rfl, rfl, two_told hz h0 hj⟩]
  | some k =>
    obtain ⟨m, u, h1, h2, h3, h4, _⟩ := left_some h runAll_bnd (runT_val src0_val) (by rw [h0]; rfl) n (Nat.le_refl _)
    refine ⟨m, u, h1, h2, h3, ?_⟩
    have e : runAll n t (ss ++ zs) = runAll n t ss := runT_stop (by
      have : (runT n t ss 0 (src0 t) nos).2.2 = some k := h0
      rw [this]; simp)
    rw [left_again h3 h4, e, h2]
end
end L

set_option Elab.async false
set_option linter.all false
set_option maxRecDepth 100000
namespace L
open PySem PySem.Spec PyProof.Rows L2 DL SX
theorem join_ge {c : Nat} (x : Str) (r : List Str) : (codes x).length ≤ (codes (Str.join (S [c]) (x :: r))).length := by
  have e : codes (Str.join (S [c]) (x :: r)) = TL.joinL [c] ((x :: r).map TL.tl) := TL.tl_join (S [c]) (x :: r)
  rw [e]
  cases r with
  | nil => exact Nat.le_refl _
  | cons y r =>
    show (codes x).length ≤ (TL.tl x ++ ([c] ++ TL.joinL [c] ((y :: r).map TL.tl))).length
    rw [List.length_append]
    exact Nat.le_add_right _ _
theorem len_codes (x : Str) : x.length = (codes x).length := Array.length_toList.symm
theorem head_pos (s : Option Fil) : 1 ≤ (codes (headS s)).length := by
  cases s with
  | none => decide +kernel
  | some s =>
    show 1 ≤ (codes (wayS s.way)).length
    cases s.way <;> decide +kernel
theorem line_pos (s : Option Fil) : 1 ≤ (lineS s).length := by
  rw [len_codes, ← words_line, words_flat, sp_S]
  exact Nat.le_trans (head_pos s) (join_ge _ _)
theorem lines_len {ss : List (Option Fil)} (hl : ss.length ≤ 6) (h : ∀ s ∈ ss, okStep s) : (Str.join (Str.ofString "\n") (ss.map lineS)).length ≤ 1206 := by
  have := join_len (xs := ss.map lineS) fun x hx => by
    obtain ⟨s, hs, rfl⟩ := List.mem_map.mp hx
    exact line_len (h s hs)
  rw [List.length_map] at this
  omega
theorem read_ok {C : Addr} {ss : List (Option Fil)} (hl : ss.length ≤ 6) (h : ∀ s ∈ ss, okStep s) : d_Script_read C [.ref C, .str (Str.join (Str.ofString "\n") (ss.map lineS))] = .ok (scrD C ss) := by
  have I := scriptI_ok (ss := ss) hl h
  have h6 : ¬ (6 : Int) < (ss.length : Int) := by omega
  unfold d_Script_read
  refine fnP_eq rfl ?_
  cases ss with
  | nil =>
    have t0 : truD (.str (Str.join (Str.ofString "\n") (([] : List (Option Fil)).map lineS))) = some false := by
      unfold truD
      dsimp only
      rw [if_pos (sizeBig (by decide +kernel))]
      rfl
    generalize Str.join (Str.ofString "\n") (([] : List (Option Fil)).map lineS) = x at *
    have lc : lc_Script_read_1 [.im (.ref C), .im (.str x), .fr (.lst []), .emp, .emp] = .ok ([], [.im (.ref C), .im (.str x), .fr (.lst []), .emp, .emp]) := by
      unfold lc_Script_read_1 dLc
      simp [DL.plain, wipeN, giveBack, enumD, lcLoop, en1, lstOf]
    have I' : scriptI [.lst []] = .ok [.lst []] := I
    simp [b_Script_read, t0, lc, dMake, I', scrD]
    try rfl
  | cons s0 r =>
    have ln := lines_len hl h
    have hp : 1 ≤ (Str.join (Str.ofString "\n") ((s0 :: r).map lineS)).length := by
      rw [len_codes, nl_S, List.map_cons]
      have := line_pos s0
      rw [len_codes] at this
      exact Nat.le_trans this (join_ge _ _)
    have sp : oSplit (.str (Str.join (Str.ofString "\n") ((s0 :: r).map lineS))) (.str "\n") = some (((s0 :: r).map lineS).map D.str) := by
      unfold oSplit
      dsimp only
      rw [if_pos ⟨by decide +kernel, sizeBig (by omega)⟩, nl_S, split_join (by decide) (by simp) fun x hx => by
        obtain ⟨s, hs, rfl⟩ := List.mem_map.mp hx
        exact line_no (h s hs)]
    have t1 : truD (.str (Str.join (Str.ofString "\n") ((s0 :: r).map lineS))) = some true := by
      unfold truD
      dsimp only
      rw [if_pos (sizeBig (by omega))]
      congr 1
      rw [bne_iff_ne]
      omega
    generalize Str.join (Str.ofString "\n") ((s0 :: r).map lineS) = x at *
    generalize s0 :: r = ss at *
    have nl : nolsts ((ss.map lineS).map D.str) = true := nolsts_all fun d hd => by
      obtain ⟨x, _, rfl⟩ := List.mem_map.mp hd
      rfl
    have e0 : (ss.map lineS).map D.str = tab ss.length fun k => .str (lineS (ss.getD k none)) := by
      have := list_tab ((ss.map lineS).map D.str)
      rw [List.length_map, List.length_map] at this
      rw [this]
      refine tab_ext fun i hi => ?_
      simp [hi]
    have e9 : ss.map stepD = tab ss.length fun k => stepD (ss.getD k none) := by
      have := list_tab (ss.map stepD)
      rw [List.length_map] at this
      rw [this]
      refine tab_ext fun i hi => ?_
      simp [hi]
    have ns := steps_nolst ss
    generalize hU : (ss.map lineS).map D.str = U at *
    have ul : U.length = ss.length := by rw [← hU]; simp
    have lc : lc_Script_read_1 [.im (.ref C), .im (.str x), .fr (.lst U), .emp, .emp] = .ok (ss.map stepD, [.im (.ref C), .im (.str x), .fr (.lst U), .emp, .emp]) := by
      have e1 := lc_tab (lg := dgT (dgsCons (dgN 3) (dgsCons (dgN 4) dgsNil))) (a := dYes) (f := dCall L.d_read_step [] (dCons (dV 4) (dCons (dV 3) dNil))) (own := [3, 4]) (items := enumD U) (Γ0 := [.im (.ref C), .im (.str x), .fr (.lst U), .emp, .emp]) (n := ss.length)
        (fun k => stepD (ss.getD k none)) (by rw [e0]; simp) (by omega) (by
          intro i d hd
          rw [e0] at hd
          obtain ⟨rfl, hi⟩ := enum_get hd
          have hm : ss.getD i none ∈ ss := by
            rw [List.getD_eq_getElem?_getD, List.getElem?_eq_getElem hi]
            exact List.getElem_mem hi
          have e2 := read_step_ok (h _ hm) (i : Nat)
          rw [List.getD_eq_getElem?_getD] at e2
          exact ⟨_, _, [.im (.ref C), .im (.str x), .fr (.lst U), .im (.int (i : Nat)), .im (.str (lineS (ss.getD i none)))], rfl, rfl, by simp [e2], rfl⟩)
      rw [← e9] at e1
      unfold lc_Script_read_1 dLc
      simp [DL.plain, wipeN, giveBack, e1, en1, lstOf, nl, -List.map_map]
    simp [b_Script_read, t1, sp, isStrD, lc, dMake, I, scrD, ul, h6, nl, ns, -List.map_map]
    try rfl
end L

set_option Elab.async false
set_option linter.all false
set_option maxRecDepth 100000
namespace L
open PySem PySem.Spec PyProof.Rows L2 DL
theorem leftP_mem {t : Tab} {r : Src × Src × Option Nat} : ∀ {i : Nat} {x : D}, x ∈ (leftP t r i).1 → ∃ a b k, x = .tup [.int a, .int b, toldD t r k]
  | 0, x, h => nomatch h
  | i + 1, x, h => by
    rw [leftP_succ] at h
    split at h
    · exact leftP_mem (i := i) h
    · rcases List.mem_append.mp h with h | h
      · exact leftP_mem h
      · exact ⟨_, _, _, List.mem_singleton.mp h⟩
theorem plain_left {n : Nat} {t : Tab} {r : Src × Src × Option Nat} (hn : n ≤ 1000) : plainD 7 (.lst (leftP t r n).1) := by
  refine ⟨by have := leftP_len (t := t) (r := r) n; omega, fun x hx => ?_⟩
  obtain ⟨a, b, k, rfl⟩ := leftP_mem hx
  refine ⟨by simp, fun x hx => ?_⟩
  simp at hx
  rcases hx with rfl | rfl | rfl
  · trivial
  · trivial
  · unfold toldD
    split
    · cases r.2.2 <;> trivial
    · cases (t _).value <;> trivial
theorem scr_fld {C : Addr} {xs : List (Option Fil)} : fldOf C "parts" (scrD C xs) = some (.lst (xs.map stepD)) := by
  unfold fldOf scrD
  simp
theorem scr_isi {C : Addr} {zs : List (Option Fil)} : oIsiO C [scrD C zs, .ref C] = some (.bl true) := by
  unfold oIsiO insOf scrD
  simp
theorem scr_ins {C : Addr} {zs : List (Option Fil)} : insOf C (scrD C zs) = true := by
  unfold insOf scrD
  simp
theorem add_ok {C : Addr} {ss zs : List (Option Fil)} (hl : ss.length + zs.length ≤ 6) (h1 : ∀ s ∈ ss, okStep s) (h2 : ∀ s ∈ zs, okStep s) : d_Script___add__ C [scrD C ss, scrD C zs] = .ok (scrD C (ss ++ zs)) := by
  have I := scriptI_ok (ss := ss ++ zs) (by simpa using hl) (fun s h => (List.mem_append.mp h).elim (h1 s) (h2 s))
  have n1 := steps_nolst ss
  have n2 := steps_nolst zs
  have sz : ss.length + zs.length ≤ sizeLine := natSize (by omega)
  have cat : oCat (.lst (ss.map stepD)) (.lst (zs.map stepD)) = some ((ss ++ zs).map stepD) := by
    unfold oCat
    dsimp only
    rw [if_pos ⟨by simpa using sz, n1, n2⟩, List.map_append]
  have fl := fun xs : List (Option Fil) => scr_fld (C := C) (xs := xs)
  have ii := scr_isi (C := C) (zs := zs)
  unfold d_Script___add__
  refine fnP_eq rfl ?_
  simp [-List.map_append, b_Script___add__, dFld, fl, cat, I, ii, truD, dMake]
  try rfl
theorem call_ok {C : Addr} {n : Nat} {t : Tab} (ss : List (Option Fil)) (hn : n ≤ 1000) (h : OkR n t) : d_Script___call__ C [scrD C ss, .lst (tabR n t)] = .ok (.lst (leftP t (runAll n t ss) n).1) := by
  have L1 := left_ok (C := C) (runAll n t ss) hn (cells_okX (C := C) ss lst_list hn (check_rows_tab h))
  have fl := scr_fld (C := C) (xs := ss)
  unfold d_Script___call__
  refine fnP_eq rfl ?_
  simp [b_Script___call__, dFld, fl, L1]
theorem mul_one {C : Addr} {ss : List (Option Fil)} (hl : ss.length ≤ 6) (h : ∀ s ∈ ss, okStep s) : d_Script___mul__ C [scrD C ss, .int 1] = .ok (scrD C ss) := by
  have I := scriptI_ok hl h
  have fl := scr_fld (C := C) (xs := ss)
  have nl := steps_nolst ss
  have h6 : ¬ (6 : Int) < (ss.length : Int) := by omega
  unfold d_Script___mul__
  refine fnP_eq rfl ?_
  cases ss with
  | nil =>
    have I' : scriptI [.tup []] = .ok [.lst []] := rfl
    simp only [scrD, List.map_nil] at fl ⊢
    simp [b_Script___mul__, dFld, fl, truD, dMake, I']
    try rfl
  | cons s0 r =>
    generalize hs : s0 :: r = ss at *
    have hn : (ss.map stepD).isEmpty = false := by rw [← hs]; rfl
    have rp : oRep (.lst (ss.map stepD)) (.int 1) = some (ss.map stepD) := by
      have := natSize (n := ss.length) (by omega)
      unfold oRep
      dsimp only
      rw [if_pos ⟨⟨by omega, by omega, by simp; omega⟩, nl⟩]
      simp
    have tr : truD (.lst (ss.map stepD)) = some true := by
      show some (!(ss.map stepD).isEmpty) = some true
      rw [hn]; rfl
    generalize hU : ss.map stepD = U at *
    have ul : U.length = ss.length := by rw [← hU]; simp
    simp only [scrD, hU] at fl ⊢
    simp [b_Script___mul__, dFld, fl, tr, dMake, I, rp, ul, h6, nl]
    try rfl
theorem made_ok {C : Addr} (p : List Int) (n b : Int) {ss : List (Option Fil)} (hn : 0 ≤ n) (hl : ss.length ≤ 6) (h : ∀ s ∈ ss, okStep s) : d_l_made C ⟨p, n, b⟩ [.lst (ss.map stepD)] = .ok (scrD C ss, ⟨p, n + 1, b⟩) := by
  obtain ⟨k, e1, k0, k1⟩ := take_ok p n b 6 hn (by decide)
  have I := scriptI_ok hl h
  have nl := steps_nolst ss
  have W := written_ok (C := C) hl h
  have R := read_ok (C := C) hl h
  have T1 := invert_ok (C := C) hl h
  have T2 := invert_ok (C := C) (ss := ss.map turnS) (by simpa using hl) (fun s hs => by
    obtain ⟨s', h', rfl⟩ := List.mem_map.mp hs
    exact turnS_ok (h s' h'))
  rw [List.map_map, show (turnS ∘ turnS) = id from funext turnS_turnS, List.map_id] at T2
  have M := mul_one (C := C) hl h
  have A := add_ok (C := C) (ss := []) (zs := ss) (by simpa using hl) (fun _ h => nomatch h) h
  rw [List.nil_append] at A
  have is := scr_ins (C := C) (zs := ss)
  have is1 := scr_ins (C := C) (zs := ss.map turnS)
  have is0 := scr_ins (C := C) (zs := [])
  have I0 : scriptI [.tup []] = .ok [.lst []] := rfl
  have mk : D.ins C ["parts"] [.lst (ss.map stepD)] = scrD C ss := rfl
  have mk0 : D.ins C ["parts"] [.lst []] = scrD C [] := rfl
  have U1 : oOwn1 C (L.d_Script___invert__ C) (scrD C ss) = some (scrD C (ss.map turnS)) := by
    unfold oOwn1
    simp [is, T1, okO]
  have U2 : oOwn1 C (L.d_Script___invert__ C) (scrD C (ss.map turnS)) = some (scrD C ss) := by
    unfold oOwn1
    simp [is1, T2, okO]
  have M1 : oOwnI C (L.d_Script___mul__ C) (scrD C ss) (.int 1) = some (scrD C ss) := by
    unfold oOwnI
    simp [is, M, okO, insO]
  have A1 : oOwn2 C (L.d_Script___add__ C) (scrD C []) (scrD C ss) = some (scrD C ss) := by
    unfold oOwn2
    simp [is0, is, A, okO]
  have mo : methO C "written" (scrD C ss) = true := by
    simp [methO, scrD]; decide +kernel
  generalize hX : Str.join (Str.ofString "\n") (ss.map lineS) = X at *
  generalize hU : ss.map stepD = U at *
  unfold d_l_made fnD
  rw [if_pos (show [D.lst U].length = 1 from rfl)]
  have hc : k = 1 ∨ k = 2 ∨ k = 3 ∨ k = 4 ∨ (k ≠ 1 ∧ k ≠ 2 ∧ k ≠ 3 ∧ k ≠ 4) := by omega
  rcases hc with rfl | rfl | rfl | rfl | ⟨c1, c2, c3, c4⟩
  · simp [b_l_made, e1, dMake, I, nl, mk, dMeth0, mo, W, R, resD]
  · simp [b_l_made, e1, dMake, I, nl, mk, U1, U2, resD]
  · simp [b_l_made, e1, dMake, I, nl, mk, M1, resD]
  · simp [b_l_made, e1, dMake, I, nl, mk, I0, mk0, A1, resD]
  · simp [b_l_made, e1, dMake, I, nl, mk, c1, c2, c3, c4, resD]
end L

set_option Elab.async false
set_option linter.all false
set_option maxRecDepth 100000
namespace L
open PySem PySem.Spec PyProof.Rows L2 DL
/-- a table with a row more, with another first row -/
def appT (t : Tab) (k : Nat) : Tab := fun j => if j = k then ⟨1000000000000, 1, some 4⟩ else t j
def firT (t : Tab) : Tab := fun j => if j = 0 then ⟨0, 2, some 6⟩ else t j
theorem okR_app {k : Nat} {t : Tab} (h : OkR k t) : OkR (k + 1) (appT t k) := by
  refine ⟨fun j hj => ?_, fun j hj v e => ?_, fun j hj => ?_, fun i j hij hj => ?_⟩
  · unfold appT
    by_cases c : j = k
    · rw [if_pos c]; decide
    · rw [if_neg c]; exact h.lev j (by omega)
  · unfold appT at e
    by_cases c : j = k
    · rw [if_pos c] at e; cases e; decide
    · rw [if_neg c] at e; exact h.val j (by omega) v e
  · unfold appT
    by_cases c : j = k
    · rw [if_pos c]; decide
    · rw [if_neg c]; exact h.day j (by omega)
  · unfold appT
    by_cases c : j = k
    · rw [if_pos c]
      by_cases c2 : i = k
      · rw [if_pos c2]; exact Int.le_refl _
      · rw [if_neg c2]; exact (h.day i (by omega)).2
    · rw [if_neg c, if_neg (by omega)]; exact h.mono i j hij (by omega)
theorem okR_fir {k : Nat} {t : Tab} (h : OkR k t) : OkR k (firT t) := by
  refine ⟨fun j hj => ?_, fun j hj v e => ?_, fun j hj => ?_, fun i j hij hj => ?_⟩
  · unfold firT
    by_cases c : j = 0
    · rw [if_pos c]; decide
    · rw [if_neg c]; exact h.lev j hj
  · unfold firT at e
    by_cases c : j = 0
    · rw [if_pos c] at e; cases e; decide
    · rw [if_neg c] at e; exact h.val j hj v e
  · unfold firT
    by_cases c : j = 0
    · rw [if_pos c]; decide
    · rw [if_neg c]; exact h.day j hj
  · unfold firT
    by_cases c : i = 0
    · rw [if_pos c]
      by_cases c2 : j = 0
      · rw [if_pos c2]; exact Int.le_refl _
      · rw [if_neg c2]; exact (h.day j hj).1
    · rw [if_neg c, if_neg (by omega)]; exact h.mono i j hij hj
theorem app_rows {k : Nat} {t : Tab} : tabR k t ++ [D.tup [.int 1000000000000, .int 1, .int 4]] = tabR (k + 1) (appT t k) := by
  unfold tabR
  rw [tab_snoc]
  congr 1
  · exact tab_ext fun i hi => by
      have : ¬ i = k := by omega
      simp [appT, this]
  · simp [appT, rowD]
theorem cut_five {n : Nat} {g : Nat → D} : DL.cutD (tab n g) none (some 5) = tab (min n 5) g := by
  unfold DL.cutD
  have e1 : HT.sIx n 0 none = 0 := rfl
  have e2 : HT.sIx n n (some 5) = min 5 n := HT.sIx_nat n n 5
  rw [tab_len, e1, e2]
  refine List.ext_getElem? fun j => ?_
  by_cases hj : j < min n 5
  · rw [tab_get hj, List.getElem?_take, if_pos (by omega), List.drop_zero, tab_get (by omega)]
  · rw [List.getElem?_eq_none (by simp; omega), List.getElem?_eq_none (by simp; omega)]
theorem law_true {C : Addr} (ns : List Int) (hl : ns.length ≤ 63) : ∃ d x Γ', d_l_pool [.fz (ns.map D.int)] = .ok d ∧ drOf d = some x ∧ b_law C (Slot.im (.fz (ns.map D.int)) :: Slot.dr x :: List.replicate 6 .emp) = .ok (.rt (.bl true), Γ') := by
  obtain ⟨ps, b, e1⟩ := pool_ok ns hl
  obtain ⟨s0, n1, e2, h2, hs0, _, hs6⟩ := steps_ok ps 0 b 0 6 (by omega) (by omega) (by omega) (by omega)
  obtain ⟨q, e3, q0, q3⟩ := take_ok ps n1 b 3 h2 (by decide)
  obtain ⟨e0, he0⟩ : ∃ e0 : Slot, e0 = Slot.im (.fz (ns.map D.int)) := ⟨_, rfl⟩
  suffices h : ∃ Γ', b_law C [e0, .dr ⟨ps, 0, b⟩, .emp, .emp, .emp, .emp, .emp, .emp] = .ok (.rt (.bl true), Γ') by
    obtain ⟨Γ', h⟩ := h
    rw [he0] at h
    exact ⟨_, _, Γ', e1, drOf_ok ps 0 b, h⟩
  have nl0 := steps_nolst s0
  rw [b_law]
  refine seq_eq (Γ1 := [e0, .dr ⟨ps, n1, b⟩, .own (s0.map stepD), .emp, .emp, .emp, .emp, .emp]) (by simp [e2, nl0, -List.map_map]) ?_
  obtain ⟨ss, hs, hs6', hz⟩ : ∃ ss : List (Option Fil), (∀ s ∈ ss, okStep s) ∧ ss.length ≤ 6 ∧ dIfS (dAnd (dBool (dOp oEq (dCallD 1 L.d_l_take (dCons (dC (.int 3)) dNil)) (dC (.int 2)))) (dBool (dOp oLt (dCB oLen (dCons (dV 2) dNil)) (dC (.int 6))))) (dApp 2 (dTup (dCons (dC (.str "drop")) (dCons (dC .non) (dCons (dC .non) (dCons (dC (.int 2)) dNil)))))) dNx [e0, .dr ⟨ps, n1, b⟩, .own (s0.map stepD), .emp, .emp, .emp, .emp, .emp] =
      .ok (.nx, [e0, .dr ⟨ps, n1 + 1, b⟩, .own (ss.map stepD), .emp, .emp, .emp, .emp, .emp]) := by
    have sz4 : 4 ≤ sizeLine := natSize (by decide)
    have sz := lt_size (n := s0.length) (by omega)
    by_cases c : q = 2
    · by_cases c2 : s0.length < 6
      · refine ⟨s0 ++ [none], fun s h => (List.mem_append.mp h).elim (hs0 s) (fun h => by rw [List.mem_singleton.mp h]; trivial), by simp; omega, ?_⟩
        have c3 : ((s0.length : Nat) : Int) < 6 := by omega
        simp [e3, c, c3, sz4, sz, nl0, stepD]
      · refine ⟨s0, hs0, by omega, ?_⟩
        simp [e3, c, c2]
        omega
    · refine ⟨s0, hs0, by omega, ?_⟩
      simp [e3, c]
  refine seq_eq hz ?_
  obtain ⟨k, t, n2, e4, h4, hk60, T⟩ := table_ok3 ps (n1 + 1) b 60 (by omega) (by omega) (by omega)
  have nl := steps_nolst ss
  have nR := nolst_tabR (n := k) (t := t)
  have nR1 := nolst_tabR (n := k + 1) (t := appT t k)
  have nR2 := nolst_tabR (n := k + 1) (t := firT (appT t k))
  have Md := made_ok (C := C) ps n2 b h4 hs6' hs
  have I := scriptI_ok hs6' hs
  have T1 := okR_app T
  have T2 := okR_fir T1
  have T5 : OkR (min k 5) t := ⟨fun j hj => T.lev j (by omega), fun j hj => T.val j (by omega), fun j hj => T.day j (by omega), fun i j hij hj => T.mono i j hij (by omega)⟩
  have K0 := call_ok (C := C) ss (by omega) T
  have K1 := call_ok (C := C) ss (by omega) T1
  have K2 := call_ok (C := C) ss (by omega) T2
  have K5 := call_ok (C := C) ss (by omega) T5
  have R0 := remains_ok ss (T.okT (by omega)) (by omega)
  have R1 := remains_ok ss (T1.okT (by omega)) (by omega)
  have R2 := remains_ok ss (T2.okT (by omega)) (by omega)
  have R5 := remains_ok ss (T5.okT (by omega)) (by omega)
  have P0 := same_ok 7 _ (plain_left (t := t) (r := runAll k t ss) (n := k) (by omega))
  have P1 := same_ok 7 _ (plain_left (t := appT t k) (r := runAll (k + 1) (appT t k) ss) (n := k + 1) (by omega))
  have P2 := same_ok 7 _ (plain_left (t := firT (appT t k)) (r := runAll (k + 1) (firT (appT t k)) ss) (n := k + 1) (by omega))
  have P5 := same_ok 7 _ (plain_left (t := t) (r := runAll (min k 5) t ss) (n := min k 5) (by omega))
  have PT := same_ok 7 _ (plain_rows (n := k) (t := t) (by omega))
  have nL := leftP_nolst (t := t) (r := runAll k t ss) k
  have lL := leftP_len (t := t) (r := runAll k t ss) k
  have is := scr_ins (C := C) (zs := ss)
  have mk : D.ins C ["parts"] [.lst (ss.map stepD)] = scrD C ss := rfl
  have sz3 : 3 ≤ sizeLine := natSize (by decide)
  have szk := lt_size (n := k) (by omega)
  have szL := lt_size (n := (leftP t (runAll k t ss) k).1.length) (by omega)
  have hp : oPow (.int 10) (.int 12) = some (.int 1000000000000) := by rfl
  have ap := app_rows (k := k) (t := t)
  have lk : (tabR k t).length = k := tabR_len
  have st : ∀ Γ : Nv, (Γ : List Slot)[5]? = some (.own (tabR (k + 1) (appT t k))) → setAt 5 (.tup [.int 0, .int 2, .int 6]) (.int 0) Γ = some (Γ.set 5 (.own (tabR (k + 1) (firT (appT t k))))) := fun Γ h => by
    have := set_tab (n := k + 1) (k := 0) (d := .tup [.int 0, .int 2, .int 6]) h (by rfl) (by omega)
    rw [show ((0 : Nat) : Int) = 0 from rfl] at this
    rw [this]
    have ee : (tab (k + 1) fun j => if j = 0 then D.tup [.int 0, .int 2, .int 6] else rowD (appT t k j)) = tabR (k + 1) (firT (appT t k)) := tab_ext fun j hj => by
      by_cases c : j = 0
      · rw [if_pos c]; simp [firT, c, rowD]
      · rw [if_neg c]; simp [firT, c]
    rw [ee]
  have cut : DL.cutD (tabR k t) none (some 5) = tabR (min k 5) t := cut_five
  have n5 := nolst_tabR (n := min k 5) (t := t)
  generalize hL0 : (leftP t (runAll k t ss) k).1 = L0 at *
  generalize (leftP (appT t k) (runAll (k + 1) (appT t k) ss) (k + 1)).1 = L1 at *
  generalize (leftP (firT (appT t k)) (runAll (k + 1) (firT (appT t k)) ss) (k + 1)).1 = L2' at *
  generalize (leftP t (runAll (min k 5) t ss) (min k 5)).1 = L5 at *
  generalize hA : tabR k t = A at *
  generalize tabR (k + 1) (appT t k) = A1 at *
  generalize tabR (k + 1) (firT (appT t k)) = A2 at *
  generalize tabR (min k 5) t = A5 at *
  generalize hU : ss.map stepD = U at *
  refine seq_eq (Γ1 := [e0, .dr ⟨ps, n2, b⟩, .own U, .fr (.lst A), .emp, .emp, .emp, .emp]) (by simp [e4, nR]) ?_
  refine seq_eq (Γ1 := [e0, .dr ⟨ps, n2 + 1, b⟩, .own U, .fr (.lst A), .fr (scrD C ss), .emp, .emp, .emp]) (by simp [Md, nl]) ?_
  refine seq_eq (Γ1 := [e0, .dr ⟨ps, n2 + 1, b⟩, .own U, .fr (.lst A), .fr (scrD C ss), .own A, .emp, .emp]) (by simp [nR]) ?_
  refine seq_eq (Γ1 := [e0, .dr ⟨ps, n2 + 1, b⟩, .own U, .fr (.lst A), .fr (scrD C ss), .own A, .fr (.lst L0), .emp]) (by simp [R0, nl, nR]) ?_
  refine seq_eq (Γ1 := [e0, .dr ⟨ps, n2 + 1, b⟩, .own U, .fr (.lst A), .fr (scrD C ss), .own A, .fr (.lst L0), .own L0]) (by simp [K0, is, nL]) ?_
  refine seq_eq (Γ1 := [e0, .dr ⟨ps, n2 + 1, b⟩, .own U, .fr (.lst A), .fr (scrD C ss), .own A, .fr (.lst L0), .own L0]) (by simp [P0, PT, truD]) ?_
  refine seq_eq (Γ1 := [e0, .dr ⟨ps, n2 + 1, b⟩, .own U, .fr (.lst A), .fr (scrD C ss), .own A, .fr (.lst L0), .own (L0 ++ [.tup [.int 0, .int 0, .int 0]])]) (by simp [sz3, szL]) ?_
  refine seq_eq (Γ1 := [e0, .dr ⟨ps, n2 + 1, b⟩, .own U, .fr (.lst A), .fr (scrD C ss), .own A, .fr (.lst L0), .own (L0 ++ [.tup [.int 0, .int 0, .int 0]])]) (by simp [dCallO_, K0, is, P0, truD]) ?_
  refine seq_eq (Γ1 := [e0, .dr ⟨ps, n2 + 1, b⟩, .own U, .fr (.lst A), .fr (scrD C ss), .own A1, .fr (.lst L0), .own (L0 ++ [.tup [.int 0, .int 0, .int 0]])]) (by simp [sz3, szk, lk, hp, ap]) ?_
  refine seq_eq (Γ1 := [e0, .dr ⟨ps, n2 + 1, b⟩, .own U, .fr (.lst A), .fr (scrD C ss), .own A1, .fr (.lst L0), .own (L0 ++ [.tup [.int 0, .int 0, .int 0]])]) (by simp [dCallO_, K1, R1, is, P1, truD]) ?_
  refine seq_eq (Γ1 := [e0, .dr ⟨ps, n2 + 1, b⟩, .own U, .fr (.lst A), .fr (scrD C ss), .own A2, .fr (.lst L0), .own (L0 ++ [.tup [.int 0, .int 0, .int 0]])]) (by simp [sz3, st]) ?_
  refine seq_eq (Γ1 := [e0, .dr ⟨ps, n2 + 1, b⟩, .own U, .fr (.lst A), .fr (scrD C ss), .own A2, .fr (.lst L0), .own (L0 ++ [.tup [.int 0, .int 0, .int 0]])]) (by simp [dCallO_, K2, R2, is, P2, truD]) ?_
  exact ⟨_, by simp [dCallO_, K5, R5, is, P5, truD, dMake, I, nl, mk, nR, cut, dSlO, lstOf]; rfl⟩
end L

set_option Elab.async false
set_option linter.all false
set_option maxRecDepth 100000
set_option maxHeartbeats 4000000
namespace L
open PySem PySem.Spec PyProof.Rows L2 DL
structure Tx (K : PySem.W.Frag) (mg : Str → Option Value) (w : World) where
  Script : ClassAt K mg "Script"
  mc_Script : Value
  rd_Script : ClX.CRead K Script.C mc_Script
  na_Script_parts : NoAttr K Script.C "parts"
  ko_Script : KO K Script.C
  sf_Script : PySem.W.selfFirst K Script.C = true
  uv_Script_MOST : Value
  cv_Script_MOST : ClX.CVal K Script.C mc_Script "MOST" (.int 6) uv_Script_MOST
  Script___iter__ : MethAt K Script.C "__iter__" "Script.__iter__" s_Script___iter__ ["self"]
  Script___len__ : MethAt K Script.C "__len__" "Script.__len__" s_Script___len__ ["self"]
  check_value : DefAt K mg "check_value" s_check_value ["value", "index"]
  check_rows : DefAt K mg "check_rows" s_check_rows ["rows", "day", "start"]
  in_time : DefAt K mg "in_time" s_in_time ["table", "source", "near", "index", "days"]
  from_above : DefAt K mg "from_above" s_from_above ["table", "source", "step"]
  from_below : DefAt K mg "from_below" s_from_below ["table", "source", "step"]
  chosen : DefAt K mg "chosen" s_chosen ["way", "index", "above", "below"]
  run_steps : DefAt K mg "run_steps" s_run_steps ["steps", "table"]
  cells : DefAt K mg "cells" s_cells ["script", "table"]
  left_table : DefAt K mg "left_table" s_left_table ["script", "table"]
  Script___call__ : MethAt K Script.C "__call__" "Script.__call__" s_Script___call__ ["self", "table"]
  fi_Script___call__ : PySem.W.fnIn K Script___call__.f = true
  l_pool : DefAt K mg "_law_pool" s_l_pool ["_law_script"]
  l_take : DefAt K mg "_law_take" s_l_take ["_law_draws", "_law_many"]
  l_span : DefAt K mg "_law_span" s_l_span ["_law_draws"]
  l_step : DefAt K mg "_law_step" s_l_step ["_law_draws"]
  l_steps : DefAt K mg "_law_steps" s_l_steps ["_law_draws", "_law_least", "_law_most"]
  l_pause : DefAt K mg "_law_pause" s_l_pause ["_law_draws"]
  l_value : DefAt K mg "_law_value" s_l_value ["_law_draws", "_law_k"]
  l_table : DefAt K mg "_law_table" s_l_table ["_law_draws", "_law_most"]
  is_limit : DefAt K mg "is_limit" s_is_limit ["number", "least", "most"]
  check_step : DefAt K mg "check_step" s_check_step ["step", "index"]
  Script___init__ : MethAtD K Script.C "__init__" "Script.__init__" s_Script___init__ ["self", "steps"]
  turned_step : DefAt K mg "turned_step" s_turned_step ["step"]
  Script___invert__ : MethAt K Script.C "__invert__" "Script.__invert__" s_Script___invert__ ["self"]
  Script___mul__ : MethAt K Script.C "__mul__" "Script.__mul__" s_Script___mul__ ["self", "count"]
  Script___add__ : MethAt K Script.C "__add__" "Script.__add__" s_Script___add__ ["self", "other"]
  written_step : DefAt K mg "written_step" s_written_step ["step"]
  Script_written : MethAt K Script.C "written" "Script.written" s_Script_written ["self"]
  read_number : DefAt K mg "read_number" s_read_number ["word"]
  read_step : DefAt K mg "read_step" s_read_step ["line", "index"]
  Script_read : ClsAt K Script.C mc_Script "read" "Script.read" s_Script_read ["cls", "text"]
  l_made : DefAt K mg "_law_made" s_l_made ["_law_draws", "_law_steps_here"]
  l_above : DefAt K mg "_law_above" s_l_above ["_law_table_here", "_law_source", "_law_k", "_law_step_here"]
  l_below : DefAt K mg "_law_below" s_l_below ["_law_table_here", "_law_source", "_law_k", "_law_step_here"]
  l_pick : DefAt K mg "_law_pick" s_l_pick ["_law_way", "_law_k", "_law_above_here", "_law_below_here"]
  l_sources : DefAt K mg "_law_sources" s_l_sources ["_law_steps_here", "_law_table_here"]
  l_shown : DefAt K mg "_law_shown" s_l_shown ["_law_steps_here", "_law_table_here"]
  l_remains : DefAt K mg "_law_remains" s_l_remains ["_law_steps_here", "_law_table_here"]
  l_same : DefAt K mg "_law_same" s_l_same ["_law_told", "_law_due"]
  law : DefAt K mg "law" s_law ["_law_script"]
  mulw_Script : MulW K Script.C
  a_DROP_STEP : Addr
  c_DROP_STEP : mg "DROP_STEP" = some (.ref a_DROP_STEP)
  q_DROP_STEP : ∀ (E : Addr → Prop) (H : Hp), Rep K E H (.ref a_DROP_STEP) (.tup [(.str "drop"), .non, .non, (.int 2)])
  a_FILL_WAYS : Addr
  c_FILL_WAYS : mg "FILL_WAYS" = some (.ref a_FILL_WAYS)
  q_FILL_WAYS : ∀ (E : Addr → Prop) (H : Hp), Rep K E H (.ref a_FILL_WAYS) (.tup [(.str "down"), (.str "up"), (.str "near_above"), (.str "near_below")])
  t_MOST_DAY : Tok
  c_MOST_DAY : mg "MOST_DAY" = some (.int 1000000000000 t_MOST_DAY)
  t_MOST_DAYS : Tok
  c_MOST_DAYS : mg "MOST_DAYS" = some (.int 1000000000 t_MOST_DAYS)
  t_MOST_LEVEL : Tok
  c_MOST_LEVEL : mg "MOST_LEVEL" = some (.int 2 t_MOST_LEVEL)
  t_MOST_ROWS : Tok
  c_MOST_ROWS : mg "MOST_ROWS" = some (.int 6 t_MOST_ROWS)
  t_MOST_VALUE : Tok
  c_MOST_VALUE : mg "MOST_VALUE" = some (.int 1000000000000 t_MOST_VALUE)
  t_TOP_LEVEL : Tok
  c_TOP_LEVEL : mg "TOP_LEVEL" = some (.int 2 t_TOP_LEVEL)
  a_OPPOSITE : Addr
  c_OPPOSITE : mg "OPPOSITE" = some (.ref a_OPPOSITE)
  kd_OPPOSITE : ∀ z d, L.kd_OPPOSITE.lookup z = some d → ∃ v, KDct K w a_OPPOSITE z v ∧ ∀ (E : Addr → Prop) H, Rep K E H v d
  dE_Script : Addr
  de_Script : ∀ H : Hp, Rep K (fun _ => False) H (.ref dE_Script) (.tup [])
  b0_Script : Binds K Script___init__.fd ["self", "steps"] [.ref dE_Script]
  n_abs : mg "abs" = none
  n_bool : mg "bool" = none
  n_enumerate : mg "enumerate" = none
  n_int : mg "int" = none
  n_isinstance : mg "isinstance" = none
  n_iter : mg "iter" = none
  n_len : mg "len" = none
  n_list : mg "list" = none
  n_range : mg "range" = none
  n_reversed : mg "reversed" = none
  n_str : mg "str" = none
  n_tuple : mg "tuple" = none
  n_zip : mg "zip" = none
section
variable {P : Program} {w : World} {T : Ks} {mg : Str → Option Value} {base : Heap}
theorem ok_Script___iter__ (X : Tx T.K mg w) : FnOk P w T.K mg base CX0 1 X.Script___iter__.f X.Script___iter__.fd ["self"] (spIt X.Script.C "parts") := by
  refine X.Script___iter__.F.ok sc_Script___iter__ (fun vs H Q E h => spIt_len h) (fun cdv A outer s H vs Q E hr h => it_fin X.Script.cls X.na_Script_parts
      (pss_one (ps_ret (pe_callB call_iterL (by rfl) X.n_iter (by decide +kernel) (pa_cons (pe_fld (pv 0) rfl) pa_nil)))) h)
theorem ok_Script___len__ (X : Tx T.K mg w) : FnOk P w T.K mg base CX0 1 X.Script___len__.f X.Script___len__.fd ["self"] (spLn X.Script.C "parts") := by
  refine X.Script___len__.F.ok sc_Script___len__ (fun vs H Q E h => spLn_len h) (fun cdv A outer s H vs Q E hr h => ln_fin X.Script.cls X.na_Script_parts
      (pss_one (ps_ret (pe_callB call_len (by rfl) X.n_len (by decide +kernel) (pa_cons (pe_fld (pv 0) rfl) pa_nil)))) h)
theorem ok_check_value (X : Tx T.K mg w) : FnOk P w T.K mg base CX0 1 X.check_value.f X.check_value.fd ["value", "index"] (spP T 2 d_check_value) := by
  refine X.check_value.F.ok sc_check_value (fun vs H Q E h => spP_len h) (fun cdv A outer s H vs Q E hr h => fin_P (n := 2) (m := 0) (f := b_check_value)
      (pss_one (ps_if (PW.pt (pw_and (pt_cmpR op_notN (pv 0) pe_non (nomark _)) (pw_and1 (pt_not (pt_chain op_le op_le (pe_un un_neg (pe_glob (v := .int 1000000000000) (by rfl) X.c_MOST_VALUE ⟨_, rfl⟩)) (pv 0) (pe_glob (v := .int 1000000000000) (by rfl) X.c_MOST_VALUE ⟨_, rfl⟩)))))) (pss_one ps_never) pss_nil))
      (ds_if (dt_and (dt_test (k := .W) (de_op (k := .W) (ka := .W) (kb := .W) opd_notN (de_v (i := 0)) de_non)) (dt_not (dt_test (k := .W) (de_chain (k := .W) (ka := .W) (kb := .W) (kc := .W) opd_le opd_le (de_un (ka := .W) und_neg de_int) (de_v (i := 0)) de_int)))) ds_never ds_nx) rfl h)
theorem ok_check_rows (X : Tx T.K mg w) : FnOk P w T.K mg base CX0 2 X.check_rows.f X.check_rows.fd ["rows", "day", "start"] (spP T 3 d_check_rows) := by
  refine X.check_rows.F.ok sc_check_rows (fun vs H Q E h => spP_len h) (fun cdv A outer s H vs Q E hr h => fin_P (n := 3) (m := 4) (f := b_check_rows)
      (pss_one (ps_for PassesOwn.never rfl (pi_enumK (by rfl) X.n_enumerate (pa_cons (pv 0) (pa_cons (pv 2) pa_nil))) (pg_tup rfl (pgs_cons (pg_name (i := 3) L.sc_check_rows.nd rfl (by first | exact .inl rfl | exact .inr rfl)) (pgs_cons (pg_tup rfl (pgs_cons (pg_name (i := 4) L.sc_check_rows.nd rfl (by first | exact .inl rfl | exact .inr rfl)) (pgs_cons (pg_name (i := 5) L.sc_check_rows.nd rfl (by first | exact .inl rfl | exact .inr rfl)) (pgs_cons (pg_name (i := 6) L.sc_check_rows.nd rfl (by first | exact .inl rfl | exact .inr rfl)) pgs_nil)))) pgs_nil))) (pss_cons (ps_if (PW.pt (pw_or (pt_not (pt_chain op_le op_le (pv 1) (pv 4) (pe_glob (v := .int 1000000000000) (by rfl) X.c_MOST_DAY ⟨_, rfl⟩))) (pw_or1 (pt_not (pt_chain op_le op_le pe_int (pv 5) (pe_glob (v := .int 2) (by rfl) X.c_MOST_LEVEL ⟨_, rfl⟩)))))) (pss_one ps_never) pss_nil)
      (pss_cons (ps_expr (pe_call (L.ok_check_value X) (hr.mono (by decide)) (by rfl) X.check_value.m X.check_value.F.kp X.check_value.b .nil pass0 (pa_cons (pv 6) (pa_cons (pv 3) pa_nil))))
      (pss_one (ps_set (i := 1) L.sc_check_rows.nd rfl (by first | exact .inl rfl | exact .inr rfl) (pv 4)))))))
      (ds_for (di_enumK (da_cons (de_vS (i := 0)) (da_cons (de_vS (i := 2)) da_nil))) (dg_t (dgsCons_len (dgsCons_len dgsNil_len)) (dgs_cons (dg_n (i := 3)) (dgs_cons (dg_t (dgsCons_len (dgsCons_len (dgsCons_len dgsNil_len))) (dgs_cons (dg_n (i := 4)) (dgs_cons (dg_n (i := 5)) (dgs_cons (dg_n (i := 6)) dgs_nil)))) dgs_nil))) (ds_seq (ds_if (dt_or (dt_not (dt_test (k := .W) (de_chain (k := .W) (ka := .W) (kb := .W) (kc := .W) opd_le opd_le (de_v (i := 1)) (de_v (i := 4)) de_int))) (dt_not (dt_test (k := .W) (de_chain (k := .W) (ka := .W) (kb := .W) (kc := .W) opd_le opd_le de_int (de_v (i := 5)) de_int)))) ds_never ds_nx)
      (ds_seq (ds_drop (k := .W) (de_call (ka := .W) (da_cons (de_v (i := 6)) (da_cons (de_v (i := 3)) da_nil)) (fun _ => .nil) L.len_check_value))
      (ds_asg (i := 1) (DE.toF (DE.n (k := .W) (de_v (i := 4)))))))) rfl h)
theorem ok_in_time (X : Tx T.K mg w) : FnOk P w T.K mg base CX0 1 X.in_time.f X.in_time.fd ["table", "source", "near", "index", "days"] (spP T 5 d_in_time) := by
  refine X.in_time.F.ok sc_in_time (fun vs H Q E h => spP_len h) (fun cdv A outer s H vs Q E hr h => fin_P (n := 5) (m := 0) (f := b_in_time)
      (pss_one (ps_ret (pe_or (pe_cmpR op_isN (pv 4) pe_non (nomark _)) (pe_one (pe_cmpR op_le (pe_callB call_abs (by rfl) X.n_abs (by decide +kernel) (pa_cons (pe_op op_sub (pe_ix ix_seq (pe_ix ix_seq (pv 0) (pv 3) (fun _ _ => rfl)) pe_int (fun _ _ => rfl)) (pe_ix ix_seq (pe_ix ix_seq (pv 0) (pe_ix ix_seq (pv 1) (pv 2) (fun _ _ => rfl)) (fun _ _ => rfl)) pe_int (fun _ _ => rfl))) pa_nil)) (pv 4) (nomark _))))))
      (ds_ret (de_orV (ka := .W) (de_op (ka := .W) (kb := .W) opd_isN (de_v (i := 4)) de_non) (de_op (ka := .W) (kb := .W) opd_le (de_cb (ka := .W) cad_abs (da_cons (de_op (ka := .W) (kb := .W) opd_sub (de_ix (kb := .W) (de_ix (kb := .W) (de_v (i := 0)) (de_v (i := 3))) de_int) (de_ix (kb := .W) (de_ix (kb := .W) (de_v (i := 0)) (de_ix (kb := .W) (de_v (i := 1)) (de_v (i := 2)))) de_int)) da_nil)) (de_v (i := 4))))) rfl h)
theorem ok_from_above (X : Tx T.K mg w) : FnOk P w T.K mg base CX0 2 X.from_above.f X.from_above.fd ["table", "source", "step"] (spP T 3 d_from_above) := by
  refine X.from_above.F.ok sc_from_above (fun vs H Q E h => spP_len h) (fun cdv A outer s H vs Q E hr h => fin_P (n := 3) (m := 8) (f := b_from_above)
      (pss_cons (ps_asg (pe_slice sl_any (pv 2) (po_some pe_int) po_none) (pg_tup rfl (pgs_cons (pg_name (i := 3) L.sc_from_above.nd rfl (by first | exact .inl rfl | exact .inr rfl)) (pgs_cons (pg_name (i := 4) L.sc_from_above.nd rfl (by first | exact .inl rfl | exact .inr rfl)) (pgs_cons (pg_name (i := 5) L.sc_from_above.nd rfl (by first | exact .inl rfl | exact .inr rfl)) pgs_nil)))))
      (pss_cons (ps_set (i := 6) L.sc_from_above.nd rfl (by first | exact .inl rfl | exact .inr rfl) (pe_op op_mulP (pe_lst (pa_cons pe_non pa_nil)) (pe_callB call_len (by rfl) X.n_len (by decide +kernel) (pa_cons (pv 0) pa_nil))))
      (pss_cons (ps_set (i := 7) L.sc_from_above.nd rfl (by first | exact .inl rfl | exact .inr rfl) pe_non)
      (pss_cons (ps_set (i := 8) L.sc_from_above.nd rfl (by first | exact .inl rfl | exact .inr rfl) pe_int)
      (pss_cons (ps_for PassesOwn.never rfl (pi_enum (by rfl) X.n_enumerate (pa_cons (pv 0) pa_nil)) (pg_tup rfl (pgs_cons (pg_name (i := 9) L.sc_from_above.nd rfl (by first | exact .inl rfl | exact .inr rfl)) (pgs_cons (pg_name (i := 10) L.sc_from_above.nd rfl (by first | exact .inl rfl | exact .inr rfl)) pgs_nil))) (pss_one (ps_if (pt_cmpR op_notN (pe_ix ix_seq (pv 1) (pv 9) (fun _ _ => rfl)) pe_non (nomark _)) (pss_cons (ps_set (i := 7) L.sc_from_above.nd rfl (by first | exact .inl rfl | exact .inr rfl) (pv 9))
      (pss_one (ps_set (i := 8) L.sc_from_above.nd rfl (by first | exact .inl rfl | exact .inr rfl) pe_int))) (pss_one (ps_if (pt_cmpR op_notN (pv 7) pe_non (nomark _)) (pss_cons (ps_set (i := 8) L.sc_from_above.nd rfl (by first | exact .inl rfl | exact .inr rfl) (pe_ifExp (pt_cmpR op_gt (pe_ix ix_seq (pv 10) pe_int (fun _ _ => rfl)) (pv 8) (nomark _)) (pe_ix ix_seq (pv 10) pe_int (fun _ _ => rfl)) (pv 8)))
      (pss_one (ps_if (PW.pt (pw_and (pt_cmpR op_le (pv 8) (pv 5) (nomark _)) (pw_and1 (PW.pt (pw_or (pt_cmpR op_isN (pv 3) pe_non (nomark _)) (pw_or1 (pt_cmpR op_le (pe_op op_sub (pv 9) (pv 7)) (pv 3) (nomark _)))))))) (pss_one (ps_asg (pe_ifExp (pt_truth (pe_call (L.ok_in_time X) (hr.mono (by decide)) (by rfl) X.in_time.m X.in_time.F.kp X.in_time.b .nil pass0 (pa_cons (pv 0) (pa_cons (pv 1) (pa_cons (pv 7) (pa_cons (pv 9) (pa_cons (pv 4) pa_nil)))))) (by intro _; rfl)) (pv 7) pe_non) (pg_sub (pv 6) (pv 9) set_list))) pss_nil))) pss_nil)))))
      (pss_one (ps_ret (pv 6))))))))
      (ds_seq (ds_asgG (de_sl (ka := .W) (de_v (i := 2)) (dp_some (k := .W) de_int) dp_none) (dg_t (dgsCons_len (dgsCons_len (dgsCons_len dgsNil_len))) (dgs_cons (dg_n (i := 3)) (dgs_cons (dg_n (i := 4)) (dgs_cons (dg_n (i := 5)) dgs_nil)))))
      (ds_seq (ds_own (i := 6) (do_op (ka := .W) (kb := .W) opo_rep (de_lst (da_cons de_non da_nil)) (de_cb (ka := .W) cad_len (da_cons (de_v (i := 0)) da_nil))))
      (ds_seq (ds_asg (i := 7) de_non)
      (ds_seq (ds_asg (i := 8) de_int)
      (ds_seq (ds_for (di_enum (da_cons (de_vS (i := 0)) da_nil)) (dg_t (dgsCons_len (dgsCons_len dgsNil_len)) (dgs_cons (dg_n (i := 9)) (dgs_cons (dg_n (i := 10)) dgs_nil))) (ds_if (dt_test (k := .W) (de_op (k := .W) (ka := .W) (kb := .W) opd_notN (de_ix (kb := .W) (de_v (i := 1)) (de_v (i := 9))) de_non)) (ds_seq (ds_asg (i := 7) (DE.toF (DE.n (k := .W) (de_v (i := 9)))))
      (ds_asg (i := 8) de_int)) (ds_if (dt_test (k := .W) (de_op (k := .W) (ka := .W) (kb := .W) opd_notN (de_v (i := 7)) de_non)) (ds_seq (ds_asg (i := 8) (de_if (dt_test (k := .W) (de_op (k := .W) (ka := .W) (kb := .W) opd_gt (de_ix (kb := .W) (de_v (i := 10)) de_int) (de_v (i := 8)))) (DE.toF (DE.n (k := .W) (de_ix (kb := .W) (de_v (i := 10)) de_int))) (DE.toF (DE.n (k := .W) (de_v (i := 8))))))
      (ds_if (dt_and (dt_test (k := .W) (de_op (k := .W) (ka := .W) (kb := .W) opd_le (de_v (i := 8)) (de_v (i := 5)))) (dt_or (dt_test (k := .W) (de_op (k := .W) (ka := .W) (kb := .W) opd_isN (de_v (i := 3)) de_non)) (dt_test (k := .W) (de_op (k := .W) (ka := .W) (kb := .W) opd_le (de_op (ka := .W) (kb := .W) opd_sub (de_v (i := 9)) (de_v (i := 7))) (de_v (i := 3)))))) (ds_setI (k := .W) (kb := .W) (i := 6) (de_if (dt_tru (k := .W) (de_call (ka := .W) (da_cons (de_v (i := 0)) (da_cons (de_v (i := 1)) (da_cons (de_v (i := 7)) (da_cons (de_v (i := 9)) (da_cons (de_v (i := 4)) da_nil))))) (fun _ => .nil) L.len_in_time)) (de_v (i := 7)) de_non) (de_v (i := 9))) ds_nx)) ds_nx)))
      (ds_frz 6 (ds_ret (de_vF (i := 6))))))))) rfl h)
theorem ok_from_below (X : Tx T.K mg w) : FnOk P w T.K mg base CX0 2 X.from_below.f X.from_below.fd ["table", "source", "step"] (spP T 3 d_from_below) := by
  refine X.from_below.F.ok sc_from_below (fun vs H Q E h => spP_len h) (fun cdv A outer s H vs Q E hr h => fin_P (n := 3) (m := 7) (f := b_from_below)
      (pss_cons (ps_asg (pe_slice sl_any (pv 2) (po_some pe_int) po_none) (pg_tup rfl (pgs_cons (pg_name (i := 3) L.sc_from_below.nd rfl (by first | exact .inl rfl | exact .inr rfl)) (pgs_cons (pg_name (i := 4) L.sc_from_below.nd rfl (by first | exact .inl rfl | exact .inr rfl)) (pgs_cons (pg_name (i := 5) L.sc_from_below.nd rfl (by first | exact .inl rfl | exact .inr rfl)) pgs_nil)))))
      (pss_cons (ps_set (i := 6) L.sc_from_below.nd rfl (by first | exact .inl rfl | exact .inr rfl) (pe_op op_mulP (pe_lst (pa_cons pe_non pa_nil)) (pe_callB call_len (by rfl) X.n_len (by decide +kernel) (pa_cons (pv 0) pa_nil))))
      (pss_cons (ps_set (i := 7) L.sc_from_below.nd rfl (by first | exact .inl rfl | exact .inr rfl) pe_non)
      (pss_cons (ps_set (i := 8) L.sc_from_below.nd rfl (by first | exact .inl rfl | exact .inr rfl) pe_int)
      (pss_cons (ps_for PassesOwn.never rfl (pi_revR (by rfl) X.n_reversed (prg_1 (by rfl) X.n_range (pe_callB call_len (by rfl) X.n_len (by decide +kernel) (pa_cons (pv 0) pa_nil)))) (pg_name (i := 9) L.sc_from_below.nd rfl (by first | exact .inl rfl | exact .inr rfl)) (pss_one (ps_if (pt_cmpR op_notN (pe_ix ix_seq (pv 1) (pv 9) (fun _ _ => rfl)) pe_non (nomark _)) (pss_cons (ps_set (i := 7) L.sc_from_below.nd rfl (by first | exact .inl rfl | exact .inr rfl) (pv 9))
      (pss_one (ps_set (i := 8) L.sc_from_below.nd rfl (by first | exact .inl rfl | exact .inr rfl) (pe_ix ix_seq (pe_ix ix_seq (pv 0) (pv 9) (fun _ _ => rfl)) pe_int (fun _ _ => rfl))))) (pss_one (ps_if (pt_cmpR op_notN (pv 7) pe_non (nomark _)) (pss_cons (ps_if (PW.pt (pw_and (pt_cmpR op_le (pv 8) (pv 5) (nomark _)) (pw_and1 (PW.pt (pw_or (pt_cmpR op_isN (pv 3) pe_non (nomark _)) (pw_or1 (pt_cmpR op_le (pe_op op_sub (pv 7) (pv 9)) (pv 3) (nomark _)))))))) (pss_one (ps_asg (pe_ifExp (pt_truth (pe_call (L.ok_in_time X) (hr.mono (by decide)) (by rfl) X.in_time.m X.in_time.F.kp X.in_time.b .nil pass0 (pa_cons (pv 0) (pa_cons (pv 1) (pa_cons (pv 7) (pa_cons (pv 9) (pa_cons (pv 4) pa_nil)))))) (by intro _; rfl)) (pv 7) pe_non) (pg_sub (pv 6) (pv 9) set_list))) pss_nil)
      (pss_one (ps_set (i := 8) L.sc_from_below.nd rfl (by first | exact .inl rfl | exact .inr rfl) (pe_ifExp (pt_cmpR op_gt (pe_ix ix_seq (pe_ix ix_seq (pv 0) (pv 9) (fun _ _ => rfl)) pe_int (fun _ _ => rfl)) (pv 8) (nomark _)) (pe_ix ix_seq (pe_ix ix_seq (pv 0) (pv 9) (fun _ _ => rfl)) pe_int (fun _ _ => rfl)) (pv 8))))) pss_nil)))))
      (pss_one (ps_ret (pv 6))))))))
      (ds_seq (ds_asgG (de_sl (ka := .W) (de_v (i := 2)) (dp_some (k := .W) de_int) dp_none) (dg_t (dgsCons_len (dgsCons_len (dgsCons_len dgsNil_len))) (dgs_cons (dg_n (i := 3)) (dgs_cons (dg_n (i := 4)) (dgs_cons (dg_n (i := 5)) dgs_nil)))))
      (ds_seq (ds_own (i := 6) (do_op (ka := .W) (kb := .W) opo_rep (de_lst (da_cons de_non da_nil)) (de_cb (ka := .W) cad_len (da_cons (de_v (i := 0)) da_nil))))
      (ds_seq (ds_asg (i := 7) de_non)
      (ds_seq (ds_asg (i := 8) de_int)
      (ds_seq (ds_for (di_rev1 (k := .W) (de_cb (ka := .W) cad_len (da_cons (de_v (i := 0)) da_nil))) (dg_n (i := 9)) (ds_if (dt_test (k := .W) (de_op (k := .W) (ka := .W) (kb := .W) opd_notN (de_ix (kb := .W) (de_v (i := 1)) (de_v (i := 9))) de_non)) (ds_seq (ds_asg (i := 7) (DE.toF (DE.n (k := .W) (de_v (i := 9)))))
      (ds_asg (i := 8) (DE.toF (DE.n (k := .W) (de_ix (kb := .W) (de_ix (kb := .W) (de_v (i := 0)) (de_v (i := 9))) de_int))))) (ds_if (dt_test (k := .W) (de_op (k := .W) (ka := .W) (kb := .W) opd_notN (de_v (i := 7)) de_non)) (ds_seq (ds_if (dt_and (dt_test (k := .W) (de_op (k := .W) (ka := .W) (kb := .W) opd_le (de_v (i := 8)) (de_v (i := 5)))) (dt_or (dt_test (k := .W) (de_op (k := .W) (ka := .W) (kb := .W) opd_isN (de_v (i := 3)) de_non)) (dt_test (k := .W) (de_op (k := .W) (ka := .W) (kb := .W) opd_le (de_op (ka := .W) (kb := .W) opd_sub (de_v (i := 7)) (de_v (i := 9))) (de_v (i := 3)))))) (ds_setI (k := .W) (kb := .W) (i := 6) (de_if (dt_tru (k := .W) (de_call (ka := .W) (da_cons (de_v (i := 0)) (da_cons (de_v (i := 1)) (da_cons (de_v (i := 7)) (da_cons (de_v (i := 9)) (da_cons (de_v (i := 4)) da_nil))))) (fun _ => .nil) L.len_in_time)) (de_v (i := 7)) de_non) (de_v (i := 9))) ds_nx)
      (ds_asg (i := 8) (de_if (dt_test (k := .W) (de_op (k := .W) (ka := .W) (kb := .W) opd_gt (de_ix (kb := .W) (de_ix (kb := .W) (de_v (i := 0)) (de_v (i := 9))) de_int) (de_v (i := 8)))) (DE.toF (DE.n (k := .W) (de_ix (kb := .W) (de_ix (kb := .W) (de_v (i := 0)) (de_v (i := 9))) de_int))) (DE.toF (DE.n (k := .W) (de_v (i := 8))))))) ds_nx)))
      (ds_frz 6 (ds_ret (de_vF (i := 6))))))))) rfl h)
theorem ok_chosen (X : Tx T.K mg w) : FnOk P w T.K mg base CX0 1 X.chosen.f X.chosen.fd ["way", "index", "above", "below"] (spP T 4 d_chosen) := by
  refine X.chosen.F.ok sc_chosen (fun vs H Q E h => spP_len h) (fun cdv A outer s H vs Q E hr h => fin_P (n := 4) (m := 2) (f := b_chosen)
      (pss_cons (ps_if (PW.pt (pw_or (pt_cmpR (op_eqP hr.units) (pv 0) pe_str (nomark _)) (pw_or1 (PW.pt (pw_and (pt_cmpR op_isN (pv 3) pe_non (nomark _)) (pw_and1 (pt_cmpR (op_neP hr.units) (pv 0) pe_str (nomark _)))))))) (pss_one (ps_ret (pv 2))) pss_nil)
      (pss_cons (ps_if (PW.pt (pw_or (pt_cmpR (op_eqP hr.units) (pv 0) pe_str (nomark _)) (pw_or1 (pt_cmpR op_isN (pv 2) pe_non (nomark _))))) (pss_one (ps_ret (pv 3))) pss_nil)
      (pss_cons (ps_set (i := 4) L.sc_chosen.nd rfl (by first | exact .inl rfl | exact .inr rfl) (pe_op op_sub (pv 1) (pv 2)))
      (pss_cons (ps_set (i := 5) L.sc_chosen.nd rfl (by first | exact .inl rfl | exact .inr rfl) (pe_op op_sub (pv 3) (pv 1)))
      (pss_cons (ps_if (pt_cmpR (op_eqP hr.units) (pv 4) (pv 5) (nomark _)) (pss_one (ps_ret (pe_ifExp (pt_cmpR (op_eqP hr.units) (pv 0) pe_str (nomark _)) (pv 2) (pv 3)))) pss_nil)
      (pss_one (ps_ret (pe_ifExp (pt_cmpR op_lt (pv 4) (pv 5) (nomark _)) (pv 2) (pv 3)))))))))
      (ds_seq (ds_if (dt_or (dt_test (k := .W) (de_op (k := .W) (ka := .W) (kb := .W) opd_eq (de_v (i := 0)) de_str)) (dt_and (dt_test (k := .W) (de_op (k := .W) (ka := .W) (kb := .W) opd_isN (de_v (i := 3)) de_non)) (dt_test (k := .W) (de_op (k := .W) (ka := .W) (kb := .W) opd_ne (de_v (i := 0)) de_str)))) (ds_ret (DE.toF (DE.n (k := .W) (de_v (i := 2))))) ds_nx)
      (ds_seq (ds_if (dt_or (dt_test (k := .W) (de_op (k := .W) (ka := .W) (kb := .W) opd_eq (de_v (i := 0)) de_str)) (dt_test (k := .W) (de_op (k := .W) (ka := .W) (kb := .W) opd_isN (de_v (i := 2)) de_non))) (ds_ret (DE.toF (DE.n (k := .W) (de_v (i := 3))))) ds_nx)
      (ds_seq (ds_asg (i := 4) (de_op (ka := .W) (kb := .W) opd_sub (de_v (i := 1)) (de_v (i := 2))))
      (ds_seq (ds_asg (i := 5) (de_op (ka := .W) (kb := .W) opd_sub (de_v (i := 3)) (de_v (i := 1))))
      (ds_seq (ds_if (dt_test (k := .W) (de_op (k := .W) (ka := .W) (kb := .W) opd_eq (de_v (i := 4)) (de_v (i := 5)))) (ds_ret (de_if (dt_test (k := .W) (de_op (k := .W) (ka := .W) (kb := .W) opd_eq (de_v (i := 0)) de_str)) (DE.toF (DE.n (k := .W) (de_v (i := 2)))) (DE.toF (DE.n (k := .W) (de_v (i := 3)))))) ds_nx)
      (ds_ret (de_if (dt_test (k := .W) (de_op (k := .W) (ka := .W) (kb := .W) opd_lt (de_v (i := 4)) (de_v (i := 5)))) (DE.toF (DE.n (k := .W) (de_v (i := 2)))) (DE.toF (DE.n (k := .W) (de_v (i := 3))))))))))) rfl h)
theorem ok_run_steps (X : Tx T.K mg w) : FnOk P w T.K mg base CX0 3 X.run_steps.f X.run_steps.fd ["steps", "table"] (spP T 2 d_run_steps) := by
  refine X.run_steps.F.ok sc_run_steps (fun vs H Q E h => spP_len h) (fun cdv A outer s H vs Q E hr h => fin_P (n := 2) (m := 9) (f := b_run_steps)
      (pss_cons (ps_setLc (i := 2) (own := [("index", 3), ("row", 4)]) rfl L.sc_run_steps.nd rfl rfl (sw_true rfl rfl rfl (by decide +kernel)) (pi_enum (by rfl) X.n_enumerate (pa_cons (pv 1) pa_nil)) (blkOk_by (own := [("index", 3), ("row", 4)]) (N := L.n_run_steps) (sc := defScope L.s_run_steps) (by decide +kernel)) (fun _ _ _ _ _ => (pg_tup rfl (pgs_cons (pg_name (i := 3) L.sc_run_steps.nd rfl (by first | exact .inl rfl | exact .inr rfl)) (pgs_cons (pg_name (i := 4) L.sc_run_steps.nd rfl (by first | exact .inl rfl | exact .inr rfl)) pgs_nil)))) (fun _ _ _ _ _ => pts_nil) (fun _ _ _ _ _ => (pe_ifExp (pt_cmpR op_isN (pe_ix ix_seq (pv 4) pe_int (fun _ _ => rfl)) pe_non (nomark _)) pe_non (pv 3))))
      (pss_cons (ps_set (i := 5) L.sc_run_steps.nd rfl (by first | exact .inl rfl | exact .inr rfl) (pe_op op_mulP (pe_lst (pa_cons pe_non pa_nil)) (pe_callB call_len (by rfl) X.n_len (by decide +kernel) (pa_cons (pv 1) pa_nil))))
      (pss_cons (ps_for PassesOwn.never rfl (pi_enum (by rfl) X.n_enumerate (pa_cons (pv 0) pa_nil)) (pg_tup rfl (pgs_cons (pg_name (i := 6) L.sc_run_steps.nd rfl (by first | exact .inl rfl | exact .inr rfl)) (pgs_cons (pg_name (i := 7) L.sc_run_steps.nd rfl (by first | exact .inl rfl | exact .inr rfl)) pgs_nil))) (pss_cons (ps_if (pt_cmpR (op_eqP hr.units) (pe_ix ix_seq (pv 7) pe_int (fun _ _ => rfl)) pe_str (nomark _)) (pss_one (ps_ret (pe_tup (pa_cons (pv 2) (pa_cons (pv 5) (pa_cons (pv 6) pa_nil)))))) pss_nil)
      (pss_cons (ps_set (i := 8) L.sc_run_steps.nd rfl (by first | exact .inl rfl | exact .inr rfl) (pe_call (L.ok_from_above X) (hr.mono (by decide)) (by rfl) X.from_above.m X.from_above.F.kp X.from_above.b .nil pass0 (pa_cons (pv 1) (pa_cons (pv 2) (pa_cons (pv 7) pa_nil)))))
      (pss_cons (ps_set (i := 9) L.sc_run_steps.nd rfl (by first | exact .inl rfl | exact .inr rfl) (pe_call (L.ok_from_below X) (hr.mono (by decide)) (by rfl) X.from_below.m X.from_below.F.kp X.from_below.b .nil pass0 (pa_cons (pv 1) (pa_cons (pv 2) (pa_cons (pv 7) pa_nil)))))
      (pss_one (ps_for PassesOwn.never rfl (pi_range1 (by rfl) X.n_range (pa_cons (pe_callB call_len (by rfl) X.n_len (by decide +kernel) (pa_cons (pv 1) pa_nil)) pa_nil)) (pg_name (i := 3) L.sc_run_steps.nd rfl (by first | exact .inl rfl | exact .inr rfl)) (pss_cons (ps_set (i := 10) L.sc_run_steps.nd rfl (by first | exact .inl rfl | exact .inr rfl) (pe_call (L.ok_chosen X) (hr.mono (by decide)) (by rfl) X.chosen.m X.chosen.F.kp X.chosen.b .nil pass0 (pa_cons (pe_ix ix_seq (pv 7) pe_int (fun _ _ => rfl)) (pa_cons (pv 3) (pa_cons (pe_ix ix_seq (pv 8) (pv 3) (fun _ _ => rfl)) (pa_cons (pe_ix ix_seq (pv 9) (pv 3) (fun _ _ => rfl)) pa_nil))))))
      (pss_one (ps_if (PW.pt (pw_and (pt_cmpR op_isN (pe_ix ix_seq (pv 2) (pv 3) (fun _ _ => rfl)) pe_non (nomark _)) (pw_and1 (pt_cmpR op_notN (pv 10) pe_non (nomark _))))) (pss_cons (ps_asg (pe_ix ix_seq (pv 2) (pv 10) (fun _ _ => rfl)) (pg_sub (pv 2) (pv 3) set_list))
      (pss_one (ps_asg (pv 6) (pg_sub (pv 5) (pv 3) set_list)))) pss_nil)))))))))
      (pss_one (ps_ret (pe_tup (pa_cons (pv 2) (pa_cons (pv 5) (pa_cons pe_non pa_nil)))))))))
      (ds_seq (ds_own (i := 2) (do_lc (own := [3, 4]) (di_enum (da_cons (de_vS (i := 1)) da_nil)) (dg_t (dgsCons_len (dgsCons_len dgsNil_len)) (dgs_cons (dg_n (i := 3)) (dgs_cons (dg_n (i := 4)) dgs_nil))) dt_yes (de_if (dt_test (k := .W) (de_op (k := .W) (ka := .W) (kb := .W) opd_isN (de_ix (kb := .W) (de_v (i := 4)) de_int) de_non)) de_non (DE.n (k := .W) (de_v (i := 3)))) (by decide)))
      (ds_seq (ds_own (i := 5) (do_op (ka := .W) (kb := .W) opo_rep (de_lst (da_cons de_non da_nil)) (de_cb (ka := .W) cad_len (da_cons (de_v (i := 1)) da_nil))))
      (ds_seq (ds_for (di_enum (da_cons (de_vS (i := 0)) da_nil)) (dg_t (dgsCons_len (dgsCons_len dgsNil_len)) (dgs_cons (dg_n (i := 6)) (dgs_cons (dg_n (i := 7)) dgs_nil))) (ds_seq (ds_if (dt_test (k := .W) (de_op (k := .W) (ka := .W) (kb := .W) opd_eq (de_ix (kb := .W) (de_v (i := 7)) de_int) de_str)) (ds_frz 5 (ds_frz 2 (ds_ret (de_tup (da_cons (de_vF (i := 2)) (da_cons (de_vF (i := 5)) (da_cons (DE.toF (DE.n (k := .W) (de_v (i := 6)))) da_nil))))))) ds_nx)
      (ds_seq (ds_asg (i := 8) (de_call (ka := .W) (da_cons (de_v (i := 1)) (da_cons (de_v (i := 2)) (da_cons (de_v (i := 7)) da_nil))) (fun _ => .nil) L.len_from_above))
      (ds_seq (ds_asg (i := 9) (de_call (ka := .W) (da_cons (de_v (i := 1)) (da_cons (de_v (i := 2)) (da_cons (de_v (i := 7)) da_nil))) (fun _ => .nil) L.len_from_below))
      (ds_for (di_rg1 (k := .W) (da_cons (de_cb (ka := .W) cad_len (da_cons (de_v (i := 1)) da_nil)) da_nil)) (dg_n (i := 3)) (ds_seq (ds_asg (i := 10) (de_call (ka := .W) (da_cons (de_ix (kb := .W) (de_v (i := 7)) de_int) (da_cons (de_v (i := 3)) (da_cons (de_ix (kb := .W) (de_v (i := 8)) (de_v (i := 3))) (da_cons (de_ix (kb := .W) (de_v (i := 9)) (de_v (i := 3))) da_nil)))) (fun _ => .nil) L.len_chosen))
      (ds_if (dt_and (dt_test (k := .W) (de_op (k := .W) (ka := .W) (kb := .W) opd_isN (de_ix (kb := .W) (de_v (i := 2)) (de_v (i := 3))) de_non)) (dt_test (k := .W) (de_op (k := .W) (ka := .W) (kb := .W) opd_notN (de_v (i := 10)) de_non))) (ds_seq (ds_setI (k := .W) (kb := .W) (i := 2) (de_ix (kb := .W) (de_v (i := 2)) (de_v (i := 10))) (de_v (i := 3)))
      (ds_setI (k := .W) (kb := .W) (i := 5) (de_v (i := 6)) (de_v (i := 3)))) ds_nx)))))))
      (ds_frz 5 (ds_frz 2 (ds_ret (de_tup (da_cons (de_vF (i := 2)) (da_cons (de_vF (i := 5)) (da_cons de_non da_nil)))))))))) rfl h)
theorem ok_cells (X : Tx T.K mg w) : FnOk P w T.K mg base CX0 5 X.cells.f X.cells.fd ["script", "table"] (spP T 2 (d_cells X.Script.C)) := by
  refine X.cells.F.ok sc_cells (fun vs H Q E h => spP_len h) (fun cdv A outer s H vs Q E hr h => fin_P (n := 2) (m := 5) (f := b_cells X.Script.C)
      (pss_cons (ps_expr (pe_call (L.ok_check_rows X) (hr.mono (by decide)) (by rfl) X.check_rows.m X.check_rows.F.kp X.check_rows.b .nil pass0 (pa_cons (pv 1) (pa_cons pe_int (pa_cons pe_int pa_nil)))))
      (pss_cons (ps_asg (pe_call (L.ok_run_steps X) (hr.mono (by decide)) (by rfl) X.run_steps.m X.run_steps.F.kp X.run_steps.b .nil pass0 (pa_cons (pe_callTy (callr_or call_list_of (call_listS (EI := fun _ _ _ => False) (seqc_at X.Script___iter__ X.Script___len__) (L.ok_Script___iter__ X) X.Script___iter__.b (fun _ _ _ _ h => h.elim) (L.ok_Script___len__ X) X.Script___len__.b (fun _ _ _ _ h => h.elim) (hr.mono (by decide)))) (by rfl) X.n_list (by decide +kernel) (pa_cons (pv 0) pa_nil)) (pa_cons (pv 1) pa_nil))) (pg_tup rfl (pgs_cons (pg_name (i := 2) L.sc_cells.nd rfl (by first | exact .inl rfl | exact .inr rfl)) (pgs_cons (pg_name (i := 3) L.sc_cells.nd rfl (by first | exact .inl rfl | exact .inr rfl)) (pgs_cons (pg_name (i := 4) L.sc_cells.nd rfl (by first | exact .inl rfl | exact .inr rfl)) pgs_nil)))))
      (pss_cons (ps_set (i := 5) L.sc_cells.nd rfl (by first | exact .inl rfl | exact .inr rfl) (pe_ifExp (pt_cmpR op_isN (pv 4) pe_non (nomark _)) pe_non pe_str))
      (pss_one (ps_ret (pe_lc (own := [("at", 6)]) rfl L.sc_cells.nd (pi_list (pv 2)) (blkOk_by (own := [("at", 6)]) (N := L.n_cells) (sc := defScope L.s_cells) (by decide +kernel)) (fun _ _ _ _ _ => (pg_name (i := 6) L.sc_cells.nd rfl (by first | exact .inl rfl | exact .inr rfl))) (fun _ _ _ _ _ => pts_nil) (fun _ _ _ _ _ => (pe_ifExp (pt_cmpR op_isN (pv 6) pe_non (nomark _)) (pv 5) (pe_ix ix_seq (pe_ix ix_seq (pv 1) (pv 6) (fun _ _ => rfl)) pe_int (fun _ _ => rfl))))))))))
      (ds_seq (ds_drop (k := .W) (de_call (ka := .W) (da_cons (de_v (i := 1)) (da_cons de_int (da_cons de_int da_nil))) (fun _ => .nil) L.len_check_rows))
      (ds_seq (ds_asgG (de_call (ka := .W) (da_cons (DE.toW (DO.de (do_cb (ka := .W) (cao_listQ (C := X.Script.C) (f := "parts")) (da_cons (de_v (i := 0)) da_nil)))) (da_cons (de_v (i := 1)) da_nil)) (fun _ => .nil) L.len_run_steps) (dg_t (dgsCons_len (dgsCons_len (dgsCons_len dgsNil_len))) (dgs_cons (dg_n (i := 2)) (dgs_cons (dg_n (i := 3)) (dgs_cons (dg_n (i := 4)) dgs_nil)))))
      (ds_seq (ds_asg (i := 5) (de_if (dt_test (k := .W) (de_op (k := .W) (ka := .W) (kb := .W) opd_isN (de_v (i := 4)) de_non)) de_non de_str))
      (ds_ret (DE.toF (DO.de (do_lc (own := [6]) (di_lst (de_vS (i := 2))) (dg_n (i := 6)) dt_yes (de_if (dt_test (k := .W) (de_op (k := .W) (ka := .W) (kb := .W) opd_isN (de_v (i := 6)) de_non)) (DE.n (k := .W) (de_v (i := 5))) (DE.n (k := .W) (de_ix (kb := .W) (de_ix (kb := .W) (de_v (i := 1)) (de_v (i := 6))) de_int))) (by decide)))))))) rfl h)
theorem ok_left_table (X : Tx T.K mg w) : FnOk P w T.K mg base CX0 6 X.left_table.f X.left_table.fd ["script", "table"] (spP T 2 (d_left_table X.Script.C)) := by
  refine X.left_table.F.ok sc_left_table (fun vs H Q E h => spP_len h) (fun cdv A outer s H vs Q E hr h => fin_P (n := 2) (m := 4) (f := b_left_table X.Script.C)
      (pss_cons (ps_set (i := 2) L.sc_left_table.nd rfl (by first | exact .inl rfl | exact .inr rfl) (pe_lst pa_nil))
      (pss_cons (ps_set (i := 3) L.sc_left_table.nd rfl (by first | exact .inl rfl | exact .inr rfl) pe_int)
      (pss_cons (ps_for PassesOwn.never rfl (pi_zip (by rfl) X.n_zip (pa_cons (pv 1) (pa_cons (pe_call (L.ok_cells X) (hr.mono (by decide)) (by rfl) X.cells.m X.cells.F.kp X.cells.b .nil pass0 (pa_cons (pv 0) (pa_cons (pv 1) pa_nil))) pa_nil))) (pg_tup rfl (pgs_cons (pg_name (i := 4) L.sc_left_table.nd rfl (by first | exact .inl rfl | exact .inr rfl)) (pgs_cons (pg_name (i := 5) L.sc_left_table.nd rfl (by first | exact .inl rfl | exact .inr rfl)) pgs_nil))) (pss_cons (ps_set (i := 3) L.sc_left_table.nd rfl (by first | exact .inl rfl | exact .inr rfl) (pe_ifExp (pt_cmpR op_gt (pe_ix ix_seq (pv 4) pe_int (fun _ _ => rfl)) (pv 3) (nomark _)) (pe_ix ix_seq (pv 4) pe_int (fun _ _ => rfl)) (pv 3)))
      (pss_one (ps_if (pt_cmpR (op_neP hr.units) (pv 5) pe_str (nomark _)) (pss_cons (ps_expr (pe_bm PySem.F.plainAttrs_list PySem.F.slot_list_append PySem.F.type_list_append mt_append (pv 2) (pa_cons (pe_tup (pa_cons (pe_ix ix_seq (pv 4) pe_int (fun _ _ => rfl)) (pa_cons (pv 3) (pa_cons (pv 5) pa_nil)))) pa_nil)))
      (pss_one (ps_set (i := 3) L.sc_left_table.nd rfl (by first | exact .inl rfl | exact .inr rfl) pe_int))) pss_nil))))
      (pss_one (ps_ret (pv 2))))))
      (ds_seq (ds_own (i := 2) (do_lst da_nil))
      (ds_seq (ds_asg (i := 3) de_int)
      (ds_seq (ds_for (di_zip (da_cons (de_vS (i := 1)) (da_cons (de_call (ka := .W) (da_cons (de_v (i := 0)) (da_cons (de_v (i := 1)) da_nil)) (fun _ => .nil) (L.len_cells X.Script.C)) da_nil))) (dg_t (dgsCons_len (dgsCons_len dgsNil_len)) (dgs_cons (dg_n (i := 4)) (dgs_cons (dg_n (i := 5)) dgs_nil))) (ds_seq (ds_asg (i := 3) (de_if (dt_test (k := .W) (de_op (k := .W) (ka := .W) (kb := .W) opd_gt (de_ix (kb := .W) (de_v (i := 4)) de_int) (de_v (i := 3)))) (DE.toF (DE.n (k := .W) (de_ix (kb := .W) (de_v (i := 4)) de_int))) (DE.toF (DE.n (k := .W) (de_v (i := 3))))))
      (ds_if (dt_test (k := .W) (de_op (k := .W) (ka := .W) (kb := .W) opd_ne (de_v (i := 5)) de_str)) (ds_seq (ds_app (k := .W) (i := 2) (de_tup (da_cons (de_ix (kb := .W) (de_v (i := 4)) de_int) (da_cons (de_v (i := 3)) (da_cons (de_v (i := 5)) da_nil)))))
      (ds_asg (i := 3) de_int)) ds_nx)))
      (ds_frz 2 (ds_ret (de_vF (i := 2))))))) rfl h)
theorem ok_Script___call__ (X : Tx T.K mg w) : FnOk P w T.K mg base CX0 7 X.Script___call__.f X.Script___call__.fd ["self", "table"] (spP T 2 (d_Script___call__ X.Script.C)) := by
  refine X.Script___call__.F.ok sc_Script___call__ (fun vs H Q E h => spP_len h) (fun cdv A outer s H vs Q E hr h => fin_P (n := 2) (m := 0) (f := b_Script___call__ X.Script.C)
      (pss_one (ps_ret (pe_call (L.ok_left_table X) (hr.mono (by decide)) (by rfl) X.left_table.m X.left_table.F.kp X.left_table.b .nil pass0 (pa_cons (pe_fld (pv 0) rfl) (pa_cons (pv 1) pa_nil)))))
      (ds_ret (de_call (ka := .W) (da_cons (de_fld X.Script.cls X.na_Script_parts (de_v (i := 0))) (da_cons (de_v (i := 1)) da_nil)) (fun _ => .nil) (L.len_left_table X.Script.C))) rfl h)
theorem ok_l_pool (X : Tx T.K mg w) : FnOk P w T.K mg base CX0 1 X.l_pool.f X.l_pool.fd ["_law_script"] (spP T 1 d_l_pool) := by
  refine X.l_pool.F.ok sc_l_pool (fun vs H Q E h => spP_len h) (fun cdv A outer s H vs Q E hr h => fin_P (n := 1) (m := 6) (f := b_l_pool)
      (pss_cons (ps_set (i := 1) L.sc_l_pool.nd rfl (by first | exact .inl rfl | exact .inr rfl) (pe_lst pa_nil))
      (pss_cons (ps_set (i := 2) L.sc_l_pool.nd rfl (by first | exact .inl rfl | exact .inr rfl) pe_int)
      (pss_cons (ps_for PassesOwn.never rfl (pi_list (pv 0)) (pg_name (i := 3) L.sc_l_pool.nd rfl (by first | exact .inl rfl | exact .inr rfl)) (pss_cons (ps_set (i := 4) L.sc_l_pool.nd rfl (by first | exact .inl rfl | exact .inr rfl) (pe_callB call_abs (by rfl) X.n_abs (by decide +kernel) (pa_cons (pe_callTy call_int1 (by rfl) X.n_int (by decide +kernel) (pa_cons (pv 3) pa_nil)) pa_nil)))
      (pss_cons (ps_set (i := 2) L.sc_l_pool.nd rfl (by first | exact .inl rfl | exact .inr rfl) (pe_op op_modN (pe_callTy call_int1 (by rfl) X.n_int (by decide +kernel) (pa_cons (pe_op op_addP (pe_op op_mulP (pv 2) pe_int) (pv 4)) pa_nil)) pe_int))
      (pss_one (ps_if (pt_cmpR op_ge (pv 4) (pe_op op_pow pe_int pe_int) (nomark _)) (pss_one (ps_for PassesOwn.never rfl (pi_range1 (by rfl) X.n_range (pa_cons pe_int pa_nil)) (pg_name (i := 5) L.sc_l_pool.nd rfl (by first | exact .inl rfl | exact .inr rfl)) (pss_one (ps_if (pt_cmpR op_gt (pv 4) pe_int (nomark _)) (pss_cons (ps_expr (pe_bm PySem.F.plainAttrs_list PySem.F.slot_list_append PySem.F.type_list_append mt_append (pv 1) (pa_cons (pe_op op_modN (pe_callTy call_int1 (by rfl) X.n_int (by decide +kernel) (pa_cons (pv 4) pa_nil)) pe_int) pa_nil)))
      (pss_one (ps_set (i := 4) L.sc_l_pool.nd rfl (by first | exact .inl rfl | exact .inr rfl) (pe_op op_fdivN (pv 4) pe_int)))) pss_nil)))) (pss_cons (ps_set (i := 6) L.sc_l_pool.nd rfl (by first | exact .inl rfl | exact .inr rfl) (pe_op op_modN (pe_callTy call_int1 (by rfl) X.n_int (by decide +kernel) (pa_cons (pe_op op_addP (pv 4) pe_int) pa_nil)) pe_int))
      (pss_one (ps_for PassesOwn.never rfl (pi_range1 (by rfl) X.n_range (pa_cons pe_int pa_nil)) (pg_name (i := 5) L.sc_l_pool.nd rfl (by first | exact .inl rfl | exact .inr rfl)) (pss_cons (ps_set (i := 6) L.sc_l_pool.nd rfl (by first | exact .inl rfl | exact .inr rfl) (pe_op op_modN (pe_callTy call_int1 (by rfl) X.n_int (by decide +kernel) (pa_cons (pe_op op_addP (pe_op op_mulP (pv 6) pe_int) pe_int) pa_nil)) pe_int))
      (pss_one (ps_expr (pe_bm PySem.F.plainAttrs_list PySem.F.slot_list_append PySem.F.type_list_append mt_append (pv 1) (pa_cons (pe_op op_modN (pe_callTy call_int1 (by rfl) X.n_int (by decide +kernel) (pa_cons (pe_op op_addP (pe_op op_fdivN (pe_op op_mulP (pv 6) (pv 6)) pe_int) (pv 6)) pa_nil)) pe_int) pa_nil)))))))))))))
      (pss_one (ps_ret (pe_lst (pa_cons (pv 1) (pa_cons pe_int (pa_cons (pv 2) pa_nil)))))))))
      (ds_seq (ds_own (i := 1) (do_lst da_nil))
      (ds_seq (ds_asg (i := 2) de_int)
      (ds_seq (ds_for (di_lst (de_vS (i := 0))) (dg_n (i := 3)) (ds_seq (ds_asg (i := 4) (de_cb (ka := .W) cad_abs (da_cons (de_cb (ka := .W) cad_int (da_cons (de_v (i := 3)) da_nil)) da_nil)))
      (ds_seq (ds_asg (i := 2) (de_op (ka := .W) (kb := .W) opd_mod (de_cb (ka := .W) cad_int (da_cons (de_op (ka := .W) (kb := .W) opd_add (de_op (ka := .W) (kb := .W) opd_mul (de_v (i := 2)) de_int) (de_v (i := 4))) da_nil)) de_int))
      (ds_if (dt_test (k := .W) (de_op (k := .W) (ka := .W) (kb := .W) opd_ge (de_v (i := 4)) (de_op (ka := .W) (kb := .W) opd_pow de_int de_int))) (ds_for (di_rg1 (k := .W) (da_cons de_int da_nil)) (dg_n (i := 5)) (ds_if (dt_test (k := .W) (de_op (k := .W) (ka := .W) (kb := .W) opd_gt (de_v (i := 4)) de_int)) (ds_seq (ds_app (k := .W) (i := 1) (de_op (ka := .W) (kb := .W) opd_mod (de_cb (ka := .W) cad_int (da_cons (de_v (i := 4)) da_nil)) de_int))
      (ds_asg (i := 4) (de_op (ka := .W) (kb := .W) opd_div (de_v (i := 4)) de_int))) ds_nx)) (ds_seq (ds_asg (i := 6) (de_op (ka := .W) (kb := .W) opd_mod (de_cb (ka := .W) cad_int (da_cons (de_op (ka := .W) (kb := .W) opd_add (de_v (i := 4)) de_int) da_nil)) de_int))
      (ds_for (di_rg1 (k := .W) (da_cons de_int da_nil)) (dg_n (i := 5)) (ds_seq (ds_asg (i := 6) (de_op (ka := .W) (kb := .W) opd_mod (de_cb (ka := .W) cad_int (da_cons (de_op (ka := .W) (kb := .W) opd_add (de_op (ka := .W) (kb := .W) opd_mul (de_v (i := 6)) de_int) de_int) da_nil)) de_int))
      (ds_app (k := .W) (i := 1) (de_op (ka := .W) (kb := .W) opd_mod (de_cb (ka := .W) cad_int (da_cons (de_op (ka := .W) (kb := .W) opd_add (de_op (ka := .W) (kb := .W) opd_div (de_op (ka := .W) (kb := .W) opd_mul (de_v (i := 6)) (de_v (i := 6))) de_int) (de_v (i := 6))) da_nil)) de_int)))))))))
      (ds_frz 1 (ds_ret (de_lst (da_cons (de_vF (i := 1)) (da_cons de_int (da_cons (DE.toF (DE.n (k := .W) (de_v (i := 2)))) da_nil))))))))) rfl h)
theorem ok_l_take (X : Tx T.K mg w) : FnOk P w T.K mg base CX0 1 X.l_take.f X.l_take.fd ["_law_draws", "_law_many"] (spD T 1 d_l_take) := by
  refine X.l_take.F.ok sc_l_take (fun vs H Q E h => spD_len h) (fun cdv A outer s H vs Q E hr h => fin_D (n := 1) (m := 1) (f := b_l_take)
      (pss_cons (ps_set (i := 2) L.sc_l_take.nd rfl (by first | exact .inl rfl | exact .inr rfl) (pe_ix ix_seq (pv 0) pe_int (fun _ _ => rfl)))
      (pss_cons (ps_asg (pe_op op_addP (pv 2) pe_int) (pg_sub (pv 0) pe_int set_list))
      (pss_cons (ps_if (pt_cmpR op_lt (pv 2) (pe_callB call_len (by rfl) X.n_len (by decide +kernel) (pa_cons (pe_ix ix_seq (pv 0) pe_int (fun _ _ => rfl)) pa_nil)) (nomark _)) (pss_one (ps_ret (pe_op op_modN (pe_callTy call_int1 (by rfl) X.n_int (by decide +kernel) (pa_cons (pe_ix ix_seq (pe_ix ix_seq (pv 0) pe_int (fun _ _ => rfl)) (pv 2) (fun _ _ => rfl)) pa_nil)) (pv 1)))) pss_nil)
      (pss_one (ps_ret (pe_op op_modN (pe_callTy call_int1 (by rfl) X.n_int (by decide +kernel) (pa_cons (pe_op op_addP (pe_op op_addP (pe_op op_addP (pe_op op_mulP (pv 2) pe_int) (pe_op op_fdivN (pv 2) pe_int)) pe_int) (pe_ix ix_seq (pv 0) pe_int (fun _ _ => rfl))) pa_nil)) (pv 1)))))))
      (ds_seq (ds_asg (i := 2) (DE.toF (DE.n (k := .W) (de_dr (i := 0) (j := 1) rfl))))
      (ds_seq (ds_setI (k := .W) (kb := .W) (i := 0) (de_op (ka := .W) (kb := .W) opd_add (de_v (i := 2)) de_int) de_int)
      (ds_seq (ds_if (dt_test (k := .W) (de_op (k := .W) (ka := .W) (kb := .W) opd_lt (de_v (i := 2)) (de_cb (ka := .W) cad_len (da_cons (de_dr (i := 0) (j := 0) rfl) da_nil)))) (ds_ret (de_op (ka := .W) (kb := .W) opd_mod (de_cb (ka := .W) cad_int (da_cons (de_ix (kb := .W) (de_dr (i := 0) (j := 0) rfl) (de_v (i := 2))) da_nil)) (de_v (i := 1)))) ds_nx)
      (ds_ret (de_op (ka := .W) (kb := .W) opd_mod (de_cb (ka := .W) cad_int (da_cons (de_op (ka := .W) (kb := .W) opd_add (de_op (ka := .W) (kb := .W) opd_add (de_op (ka := .W) (kb := .W) opd_add (de_op (ka := .W) (kb := .W) opd_mul (de_v (i := 2)) de_int) (de_op (ka := .W) (kb := .W) opd_div (de_v (i := 2)) de_int)) de_int) (de_dr (i := 0) (j := 2) rfl)) da_nil)) (de_v (i := 1))))))) rfl h)
theorem ok_l_span (X : Tx T.K mg w) : FnOk P w T.K mg base CX0 2 X.l_span.f X.l_span.fd ["_law_draws"] (spD T 0 d_l_span) := by
  refine X.l_span.F.ok sc_l_span (fun vs H Q E h => spD_len h) (fun cdv A outer s H vs Q E hr h => fin_D (n := 0) (m := 1) (f := b_l_span)
      (pss_cons (ps_set (i := 1) L.sc_l_span.nd rfl (by first | exact .inl rfl | exact .inr rfl) (pe_call (L.ok_l_take X) (hr.mono (by decide)) (by rfl) X.l_take.m X.l_take.F.kp X.l_take.b .nil pass0 (pa_cons (pv 0) (pa_cons pe_int pa_nil))))
      (pss_cons (ps_if (pt_cmpR op_lt (pv 1) pe_int (nomark _)) (pss_one (ps_ret pe_non)) pss_nil)
      (pss_cons (ps_if (pt_cmpR op_lt (pv 1) pe_int (nomark _)) (pss_one (ps_ret (pe_call (L.ok_l_take X) (hr.mono (by decide)) (by rfl) X.l_take.m X.l_take.F.kp X.l_take.b .nil pass0 (pa_cons (pv 0) (pa_cons pe_int pa_nil))))) pss_nil)
      (pss_cons (ps_if (pt_cmpR (op_eqP hr.units) (pv 1) pe_int (nomark _)) (pss_one (ps_ret (pe_call (L.ok_l_take X) (hr.mono (by decide)) (by rfl) X.l_take.m X.l_take.F.kp X.l_take.b .nil pass0 (pa_cons (pv 0) (pa_cons pe_int pa_nil))))) pss_nil)
      (pss_one (ps_ret (pe_op op_addP (pe_op op_addP (pe_op op_mulP (pe_call (L.ok_l_take X) (hr.mono (by decide)) (by rfl) X.l_take.m X.l_take.F.kp X.l_take.b .nil pass0 (pa_cons (pv 0) (pa_cons pe_int pa_nil))) pe_int) (pe_call (L.ok_l_take X) (hr.mono (by decide)) (by rfl) X.l_take.m X.l_take.F.kp X.l_take.b .nil pass0 (pa_cons (pv 0) (pa_cons pe_int pa_nil)))) pe_int)))))))
      (ds_seq (ds_asg (i := 1) (de_callD (ka := .W) (da_cons de_int da_nil) L.len_l_take))
      (ds_seq (ds_if (dt_test (k := .W) (de_op (k := .W) (ka := .W) (kb := .W) opd_lt (de_v (i := 1)) de_int)) (ds_ret de_non) ds_nx)
      (ds_seq (ds_if (dt_test (k := .W) (de_op (k := .W) (ka := .W) (kb := .W) opd_lt (de_v (i := 1)) de_int)) (ds_ret (de_callD (ka := .W) (da_cons de_int da_nil) L.len_l_take)) ds_nx)
      (ds_seq (ds_if (dt_test (k := .W) (de_op (k := .W) (ka := .W) (kb := .W) opd_eq (de_v (i := 1)) de_int)) (ds_ret (de_callD (ka := .W) (da_cons de_int da_nil) L.len_l_take)) ds_nx)
      (ds_ret (de_op (ka := .W) (kb := .W) opd_add (de_op (ka := .W) (kb := .W) opd_add (de_op (ka := .W) (kb := .W) opd_mul (de_callD (ka := .W) (da_cons de_int da_nil) L.len_l_take) de_int) (de_callD (ka := .W) (da_cons de_int da_nil) L.len_l_take)) de_int)))))) rfl h)
theorem ok_l_step (X : Tx T.K mg w) : FnOk P w T.K mg base CX0 3 X.l_step.f X.l_step.fd ["_law_draws"] (spD T 0 d_l_step) := by
  refine X.l_step.F.ok sc_l_step (fun vs H Q E h => spD_len h) (fun cdv A outer s H vs Q E hr h => fin_D (n := 0) (m := 4) (f := b_l_step)
      (pss_cons (ps_set (i := 1) L.sc_l_step.nd rfl (by first | exact .inl rfl | exact .inr rfl) (pe_call (L.ok_l_take X) (hr.mono (by decide)) (by rfl) X.l_take.m X.l_take.F.kp X.l_take.b .nil pass0 (pa_cons (pv 0) (pa_cons pe_int pa_nil))))
      (pss_cons (ps_if (pt_cmpR (op_eqP hr.units) (pv 1) pe_int (nomark _)) (pss_one (ps_ret (pe_tup (pa_cons pe_str (pa_cons pe_non (pa_cons pe_non (pa_cons pe_int pa_nil))))))) pss_nil)
      (pss_cons (ps_set (i := 2) L.sc_l_step.nd rfl (by first | exact .inl rfl | exact .inr rfl) (pe_call (L.ok_l_take X) (hr.mono (by decide)) (by rfl) X.l_take.m X.l_take.F.kp X.l_take.b .nil pass0 (pa_cons (pv 0) (pa_cons pe_int pa_nil))))
      (pss_cons (ps_set (i := 3) L.sc_l_step.nd rfl (by first | exact .inl rfl | exact .inr rfl) (pe_call (L.ok_l_span X) (hr.mono (by decide)) (by rfl) X.l_span.m X.l_span.F.kp X.l_span.b .nil pass0 (pa_cons (pv 0) pa_nil)))
      (pss_cons (ps_set (i := 4) L.sc_l_step.nd rfl (by first | exact .inl rfl | exact .inr rfl) (pe_ix ix_seq (pe_lst (pa_cons pe_str (pa_cons pe_str (pa_cons pe_str (pa_cons pe_str pa_nil))))) (pe_op op_modN (pe_callTy call_int1 (by rfl) X.n_int (by decide +kernel) (pa_cons (pv 1) pa_nil)) pe_int) (fun _ _ => rfl)))
      (pss_one (ps_ret (pe_tup (pa_cons (pv 4) (pa_cons (pe_ifExp (pt_cmpR op_gt (pv 2) pe_int (nomark _)) (pe_op op_sub (pv 2) pe_int) pe_non) (pa_cons (pv 3) (pa_cons (pe_call (L.ok_l_take X) (hr.mono (by decide)) (by rfl) X.l_take.m X.l_take.F.kp X.l_take.b .nil pass0 (pa_cons (pv 0) (pa_cons pe_int pa_nil))) pa_nil))))))))))))
      (ds_seq (ds_asg (i := 1) (de_callD (ka := .W) (da_cons de_int da_nil) L.len_l_take))
      (ds_seq (ds_if (dt_test (k := .W) (de_op (k := .W) (ka := .W) (kb := .W) opd_eq (de_v (i := 1)) de_int)) (ds_ret (de_tup (da_cons de_str (da_cons de_non (da_cons de_non (da_cons de_int da_nil)))))) ds_nx)
      (ds_seq (ds_asg (i := 2) (de_callD (ka := .W) (da_cons de_int da_nil) L.len_l_take))
      (ds_seq (ds_asg (i := 3) (de_callD (ka := .W) da_nil L.len_l_span))
      (ds_seq (ds_asg (i := 4) (DE.toF (DE.n (k := .W) (de_ix (kb := .W) (de_lst (da_cons de_str (da_cons de_str (da_cons de_str (da_cons de_str da_nil))))) (de_op (ka := .W) (kb := .W) opd_mod (de_cb (ka := .W) cad_int (da_cons (de_v (i := 1)) da_nil)) de_int)))))
      (ds_ret (de_tup (da_cons (DE.toF (DE.n (k := .W) (de_v (i := 4)))) (da_cons (de_if (dt_test (k := .W) (de_op (k := .W) (ka := .W) (kb := .W) opd_gt (de_v (i := 2)) de_int)) (de_op (ka := .W) (kb := .W) opd_sub (de_v (i := 2)) de_int) de_non) (da_cons (DE.toF (DE.n (k := .W) (de_v (i := 3)))) (da_cons (de_callD (ka := .W) (da_cons de_int da_nil) L.len_l_take) da_nil))))))))))) rfl h)
theorem ok_l_steps (X : Tx T.K mg w) : FnOk P w T.K mg base CX0 4 X.l_steps.f X.l_steps.fd ["_law_draws", "_law_least", "_law_most"] (spD T 2 d_l_steps) := by
  refine X.l_steps.F.ok sc_l_steps (fun vs H Q E h => spD_len h) (fun cdv A outer s H vs Q E hr h => fin_D (n := 2) (m := 2) (f := b_l_steps)
      (pss_cons (ps_set (i := 3) L.sc_l_steps.nd rfl (by first | exact .inl rfl | exact .inr rfl) (pe_op op_addP (pv 1) (pe_call (L.ok_l_take X) (hr.mono (by decide)) (by rfl) X.l_take.m X.l_take.F.kp X.l_take.b .nil pass0 (pa_cons (pv 0) (pa_cons (pe_op op_addP (pe_op op_sub (pv 2) (pv 1)) pe_int) pa_nil)))))
      (pss_one (ps_ret (pe_lc (own := [("_law_k", 4)]) rfl L.sc_l_steps.nd (pi_range1 (by rfl) X.n_range (pa_cons (pv 3) pa_nil)) (blkOk_by (own := [("_law_k", 4)]) (N := L.n_l_steps) (sc := defScope L.s_l_steps) (by decide +kernel)) (fun _ _ _ _ _ => (pg_name (i := 4) L.sc_l_steps.nd rfl (by first | exact .inl rfl | exact .inr rfl))) (fun _ _ _ _ _ => pts_nil) (fun _ _ _ _ _ => (pe_call (L.ok_l_step X) (hr.mono (by decide)) (by rfl) X.l_step.m X.l_step.F.kp X.l_step.b .nil pass0 (pa_cons (pv 0) pa_nil)))))))
      (ds_seq (ds_asg (i := 3) (de_op (ka := .W) (kb := .W) opd_add (de_v (i := 1)) (de_callD (ka := .W) (da_cons (de_op (ka := .W) (kb := .W) opd_add (de_op (ka := .W) (kb := .W) opd_sub (de_v (i := 2)) (de_v (i := 1))) de_int) da_nil) L.len_l_take)))
      (ds_ret (DE.toF (DO.de (do_lc (own := [4]) (di_rg1 (k := .W) (da_cons (de_v (i := 3)) da_nil)) (dg_n (i := 4)) dt_yes (de_callD (ka := .W) da_nil L.len_l_step) (by decide)))))) rfl h)
theorem ok_l_pause (X : Tx T.K mg w) : FnOk P w T.K mg base CX0 2 X.l_pause.f X.l_pause.fd ["_law_draws"] (spD T 0 d_l_pause) := by
  refine X.l_pause.F.ok sc_l_pause (fun vs H Q E h => spD_len h) (fun cdv A outer s H vs Q E hr h => fin_D (n := 0) (m := 1) (f := b_l_pause)
      (pss_cons (ps_set (i := 1) L.sc_l_pause.nd rfl (by first | exact .inl rfl | exact .inr rfl) (pe_call (L.ok_l_take X) (hr.mono (by decide)) (by rfl) X.l_take.m X.l_take.F.kp X.l_take.b .nil pass0 (pa_cons (pv 0) (pa_cons pe_int pa_nil))))
      (pss_cons (ps_if (pt_cmpR op_lt (pv 1) pe_int (nomark _)) (pss_one (ps_ret pe_int)) pss_nil)
      (pss_cons (ps_if (pt_cmpR op_lt (pv 1) pe_int (nomark _)) (pss_one (ps_ret (pe_call (L.ok_l_take X) (hr.mono (by decide)) (by rfl) X.l_take.m X.l_take.F.kp X.l_take.b .nil pass0 (pa_cons (pv 0) (pa_cons pe_int pa_nil))))) pss_nil)
      (pss_cons (ps_if (pt_cmpR (op_eqP hr.units) (pv 1) pe_int (nomark _)) (pss_one (ps_ret (pe_call (L.ok_l_take X) (hr.mono (by decide)) (by rfl) X.l_take.m X.l_take.F.kp X.l_take.b .nil pass0 (pa_cons (pv 0) (pa_cons pe_int pa_nil))))) pss_nil)
      (pss_one (ps_ret (pe_op op_modN (pe_callTy call_int1 (by rfl) X.n_int (by decide +kernel) (pa_cons (pe_op op_addP (pe_op op_mulP (pe_call (L.ok_l_take X) (hr.mono (by decide)) (by rfl) X.l_take.m X.l_take.F.kp X.l_take.b .nil pass0 (pa_cons (pv 0) (pa_cons pe_int pa_nil))) pe_int) (pe_call (L.ok_l_take X) (hr.mono (by decide)) (by rfl) X.l_take.m X.l_take.F.kp X.l_take.b .nil pass0 (pa_cons (pv 0) (pa_cons pe_int pa_nil)))) pa_nil)) (pe_op op_addP (pe_op op_pow pe_int pe_int) pe_int))))))))
      (ds_seq (ds_asg (i := 1) (de_callD (ka := .W) (da_cons de_int da_nil) L.len_l_take))
      (ds_seq (ds_if (dt_test (k := .W) (de_op (k := .W) (ka := .W) (kb := .W) opd_lt (de_v (i := 1)) de_int)) (ds_ret de_int) ds_nx)
      (ds_seq (ds_if (dt_test (k := .W) (de_op (k := .W) (ka := .W) (kb := .W) opd_lt (de_v (i := 1)) de_int)) (ds_ret (de_callD (ka := .W) (da_cons de_int da_nil) L.len_l_take)) ds_nx)
      (ds_seq (ds_if (dt_test (k := .W) (de_op (k := .W) (ka := .W) (kb := .W) opd_eq (de_v (i := 1)) de_int)) (ds_ret (de_callD (ka := .W) (da_cons de_int da_nil) L.len_l_take)) ds_nx)
      (ds_ret (de_op (ka := .W) (kb := .W) opd_mod (de_cb (ka := .W) cad_int (da_cons (de_op (ka := .W) (kb := .W) opd_add (de_op (ka := .W) (kb := .W) opd_mul (de_callD (ka := .W) (da_cons de_int da_nil) L.len_l_take) de_int) (de_callD (ka := .W) (da_cons de_int da_nil) L.len_l_take)) da_nil)) (de_op (ka := .W) (kb := .W) opd_add (de_op (ka := .W) (kb := .W) opd_pow de_int de_int) de_int))))))) rfl h)
theorem ok_l_value (X : Tx T.K mg w) : FnOk P w T.K mg base CX0 2 X.l_value.f X.l_value.fd ["_law_draws", "_law_k"] (spD T 1 d_l_value) := by
  refine X.l_value.F.ok sc_l_value (fun vs H Q E h => spD_len h) (fun cdv A outer s H vs Q E hr h => fin_D (n := 1) (m := 2) (f := b_l_value)
      (pss_cons (ps_set (i := 2) L.sc_l_value.nd rfl (by first | exact .inl rfl | exact .inr rfl) (pe_call (L.ok_l_take X) (hr.mono (by decide)) (by rfl) X.l_take.m X.l_take.F.kp X.l_take.b .nil pass0 (pa_cons (pv 0) (pa_cons pe_int pa_nil))))
      (pss_cons (ps_if (pt_cmpR op_lt (pv 2) pe_int (nomark _)) (pss_one (ps_ret (pe_op op_addP pe_int (pv 1)))) pss_nil)
      (pss_cons (ps_if (pt_cmpR (op_eqP hr.units) (pv 2) pe_int (nomark _)) (pss_one (ps_ret (pe_op op_mulP pe_int (pe_call (L.ok_l_take X) (hr.mono (by decide)) (by rfl) X.l_take.m X.l_take.F.kp X.l_take.b .nil pass0 (pa_cons (pv 0) (pa_cons pe_int pa_nil)))))) pss_nil)
      (pss_cons (ps_if (pt_cmpR (op_eqP hr.units) (pv 2) pe_int (nomark _)) (pss_one (ps_ret (pe_op op_sub pe_int (pv 1)))) pss_nil)
      (pss_cons (ps_set (i := 3) L.sc_l_value.nd rfl (by first | exact .inl rfl | exact .inr rfl) (pe_op op_addP (pe_op op_mulP (pe_call (L.ok_l_take X) (hr.mono (by decide)) (by rfl) X.l_take.m X.l_take.F.kp X.l_take.b .nil pass0 (pa_cons (pv 0) (pa_cons pe_int pa_nil))) pe_int) (pe_call (L.ok_l_take X) (hr.mono (by decide)) (by rfl) X.l_take.m X.l_take.F.kp X.l_take.b .nil pass0 (pa_cons (pv 0) (pa_cons pe_int pa_nil)))))
      (pss_one (ps_ret (pe_op op_sub (pe_op op_addP (pe_op op_mulP (pv 3) pe_int) (pe_call (L.ok_l_take X) (hr.mono (by decide)) (by rfl) X.l_take.m X.l_take.F.kp X.l_take.b .nil pass0 (pa_cons (pv 0) (pa_cons pe_int pa_nil)))) (pe_op op_pow pe_int pe_int)))))))))
      (ds_seq (ds_asg (i := 2) (de_callD (ka := .W) (da_cons de_int da_nil) L.len_l_take))
      (ds_seq (ds_if (dt_test (k := .W) (de_op (k := .W) (ka := .W) (kb := .W) opd_lt (de_v (i := 2)) de_int)) (ds_ret (de_op (ka := .W) (kb := .W) opd_add de_int (de_v (i := 1)))) ds_nx)
      (ds_seq (ds_if (dt_test (k := .W) (de_op (k := .W) (ka := .W) (kb := .W) opd_eq (de_v (i := 2)) de_int)) (ds_ret (de_op (ka := .W) (kb := .W) opd_mul de_int (de_callD (ka := .W) (da_cons de_int da_nil) L.len_l_take))) ds_nx)
      (ds_seq (ds_if (dt_test (k := .W) (de_op (k := .W) (ka := .W) (kb := .W) opd_eq (de_v (i := 2)) de_int)) (ds_ret (de_op (ka := .W) (kb := .W) opd_sub de_int (de_v (i := 1)))) ds_nx)
      (ds_seq (ds_asg (i := 3) (de_op (ka := .W) (kb := .W) opd_add (de_op (ka := .W) (kb := .W) opd_mul (de_callD (ka := .W) (da_cons de_int da_nil) L.len_l_take) de_int) (de_callD (ka := .W) (da_cons de_int da_nil) L.len_l_take)))
      (ds_ret (de_op (ka := .W) (kb := .W) opd_sub (de_op (ka := .W) (kb := .W) opd_add (de_op (ka := .W) (kb := .W) opd_mul (de_v (i := 3)) de_int) (de_callD (ka := .W) (da_cons de_int da_nil) L.len_l_take)) (de_op (ka := .W) (kb := .W) opd_pow de_int de_int)))))))) rfl h)
theorem ok_l_table (X : Tx T.K mg w) : FnOk P w T.K mg base CX0 3 X.l_table.f X.l_table.fd ["_law_draws", "_law_most"] (spD T 1 d_l_table) := by
  refine X.l_table.F.ok sc_l_table (fun vs H Q E h => spD_len h) (fun cdv A outer s H vs Q E hr h => fin_D (n := 1) (m := 6) (f := b_l_table)
      (pss_cons (ps_set (i := 2) L.sc_l_table.nd rfl (by first | exact .inl rfl | exact .inr rfl) (pe_call (L.ok_l_take X) (hr.mono (by decide)) (by rfl) X.l_take.m X.l_take.F.kp X.l_take.b .nil pass0 (pa_cons (pv 0) (pa_cons pe_int pa_nil))))
      (pss_cons (ps_if (pt_cmpR (op_eqP hr.units) (pe_call (L.ok_l_take X) (hr.mono (by decide)) (by rfl) X.l_take.m X.l_take.F.kp X.l_take.b .nil pass0 (pa_cons (pv 0) (pa_cons pe_int pa_nil))) pe_int (nomark _)) (pss_one (ps_set (i := 2) L.sc_l_table.nd rfl (by first | exact .inl rfl | exact .inr rfl) (pe_call (L.ok_l_take X) (hr.mono (by decide)) (by rfl) X.l_take.m X.l_take.F.kp X.l_take.b .nil pass0 (pa_cons (pv 0) (pa_cons (pe_op op_addP (pv 1) pe_int) pa_nil))))) pss_nil)
      (pss_cons (ps_set (i := 3) L.sc_l_table.nd rfl (by first | exact .inl rfl | exact .inr rfl) (pe_op op_addP pe_int (pe_call (L.ok_l_take X) (hr.mono (by decide)) (by rfl) X.l_take.m X.l_take.F.kp X.l_take.b .nil pass0 (pa_cons (pv 0) (pa_cons pe_int pa_nil)))))
      (pss_cons (ps_set (i := 4) L.sc_l_table.nd rfl (by first | exact .inl rfl | exact .inr rfl) pe_int)
      (pss_cons (ps_set (i := 5) L.sc_l_table.nd rfl (by first | exact .inl rfl | exact .inr rfl) (pe_lst pa_nil))
      (pss_cons (ps_for PassesOwn.never rfl (pi_range1 (by rfl) X.n_range (pa_cons (pv 2) pa_nil)) (pg_name (i := 6) L.sc_l_table.nd rfl (by first | exact .inl rfl | exact .inr rfl)) (pss_cons (ps_set (i := 4) L.sc_l_table.nd rfl (by first | exact .inl rfl | exact .inr rfl) (pe_op op_addP (pv 4) (pe_call (L.ok_l_pause X) (hr.mono (by decide)) (by rfl) X.l_pause.m X.l_pause.F.kp X.l_pause.b .nil pass0 (pa_cons (pv 0) pa_nil))))
      (pss_cons (ps_set (i := 7) L.sc_l_table.nd rfl (by first | exact .inl rfl | exact .inr rfl) pe_non)
      (pss_cons (ps_if (pt_cmpR (op_eqP hr.units) (pe_call (L.ok_l_take X) (hr.mono (by decide)) (by rfl) X.l_take.m X.l_take.F.kp X.l_take.b .nil pass0 (pa_cons (pv 0) (pa_cons (pv 3) pa_nil))) pe_int (nomark _)) (pss_one (ps_set (i := 7) L.sc_l_table.nd rfl (by first | exact .inl rfl | exact .inr rfl) (pe_call (L.ok_l_value X) (hr.mono (by decide)) (by rfl) X.l_value.m X.l_value.F.kp X.l_value.b .nil pass0 (pa_cons (pv 0) (pa_cons (pv 6) pa_nil))))) pss_nil)
      (pss_one (ps_expr (pe_bm PySem.F.plainAttrs_list PySem.F.slot_list_append PySem.F.type_list_append mt_append (pv 5) (pa_cons (pe_tup (pa_cons (pv 4) (pa_cons (pe_ix ix_seq (pe_lst (pa_cons pe_int (pa_cons pe_int (pa_cons pe_int (pa_cons pe_int (pa_cons pe_int (pa_cons pe_int pa_nil))))))) (pe_call (L.ok_l_take X) (hr.mono (by decide)) (by rfl) X.l_take.m X.l_take.F.kp X.l_take.b .nil pass0 (pa_cons (pv 0) (pa_cons pe_int pa_nil))) (fun _ _ => rfl)) (pa_cons (pv 7) pa_nil)))) pa_nil))))))))
      (pss_one (ps_ret (pv 5)))))))))
      (ds_seq (ds_asg (i := 2) (de_callD (ka := .W) (da_cons de_int da_nil) L.len_l_take))
      (ds_seq (ds_if (dt_test (k := .W) (de_op (k := .W) (ka := .W) (kb := .W) opd_eq (de_callD (ka := .W) (da_cons de_int da_nil) L.len_l_take) de_int)) (ds_asg (i := 2) (de_callD (ka := .W) (da_cons (de_op (ka := .W) (kb := .W) opd_add (de_v (i := 1)) de_int) da_nil) L.len_l_take)) ds_nx)
      (ds_seq (ds_asg (i := 3) (de_op (ka := .W) (kb := .W) opd_add de_int (de_callD (ka := .W) (da_cons de_int da_nil) L.len_l_take)))
      (ds_seq (ds_asg (i := 4) de_int)
      (ds_seq (ds_own (i := 5) (do_lst da_nil))
      (ds_seq (ds_for (di_rg1 (k := .W) (da_cons (de_v (i := 2)) da_nil)) (dg_n (i := 6)) (ds_seq (ds_asg (i := 4) (de_op (ka := .W) (kb := .W) opd_add (de_v (i := 4)) (de_callD (ka := .W) da_nil L.len_l_pause)))
      (ds_seq (ds_asg (i := 7) de_non)
      (ds_seq (ds_if (dt_test (k := .W) (de_op (k := .W) (ka := .W) (kb := .W) opd_eq (de_callD (ka := .W) (da_cons (de_v (i := 3)) da_nil) L.len_l_take) de_int)) (ds_asg (i := 7) (de_callD (ka := .W) (da_cons (de_v (i := 6)) da_nil) L.len_l_value)) ds_nx)
      (ds_app (k := .W) (i := 5) (de_tup (da_cons (de_v (i := 4)) (da_cons (de_ix (kb := .W) (de_lst (da_cons de_int (da_cons de_int (da_cons de_int (da_cons de_int (da_cons de_int (da_cons de_int da_nil))))))) (de_callD (ka := .W) (da_cons de_int da_nil) L.len_l_take)) (da_cons (de_v (i := 7)) da_nil)))))))))
      (ds_frz 5 (ds_ret (de_vF (i := 5)))))))))) rfl h)
theorem ok_is_limit (X : Tx T.K mg w) : FnOk P w T.K mg base CX0 1 X.is_limit.f X.is_limit.fd ["number", "least", "most"] (spP T 3 d_is_limit) := by
  refine X.is_limit.F.ok sc_is_limit (fun vs H Q E h => spP_len h) (fun cdv A outer s H vs Q E hr h => fin_P (n := 3) (m := 0) (f := b_is_limit)
      (pss_one (ps_ret (pe_or (pe_cmpR op_isN (pv 0) pe_non (nomark _)) (pe_one (pe_chain op_le op_le (pv 1) (pv 0) (pv 2))))))
      (ds_ret (de_orV (ka := .W) (de_op (ka := .W) (kb := .W) opd_isN (de_v (i := 0)) de_non) (de_chain (ka := .W) (kb := .W) (kc := .W) opd_le opd_le (de_v (i := 1)) (de_v (i := 0)) (de_v (i := 2))))) rfl h)
theorem ok_check_step (X : Tx T.K mg w) : FnOk P w T.K mg base CX0 2 X.check_step.f X.check_step.fd ["step", "index"] (spP T 2 d_check_step) := by
  refine X.check_step.F.ok sc_check_step (fun vs H Q E h => spP_len h) (fun cdv A outer s H vs Q E hr h => fin_P (n := 2) (m := 4) (f := b_check_step)
      (pss_cons (ps_asg (pv 0) (pg_tup rfl (pgs_cons (pg_name (i := 2) L.sc_check_step.nd rfl (by first | exact .inl rfl | exact .inr rfl)) (pgs_cons (pg_name (i := 3) L.sc_check_step.nd rfl (by first | exact .inl rfl | exact .inr rfl)) (pgs_cons (pg_name (i := 4) L.sc_check_step.nd rfl (by first | exact .inl rfl | exact .inr rfl)) (pgs_cons (pg_name (i := 5) L.sc_check_step.nd rfl (by first | exact .inl rfl | exact .inr rfl)) pgs_nil))))))
      (pss_cons (ps_if (pt_cmpR (op_eqP hr.units) (pv 0) (pe_glob (v := .ref X.a_DROP_STEP) (by rfl) X.c_DROP_STEP rfl) (nomark _)) (pss_one ps_retN) pss_nil)
      (pss_cons (ps_if (PW.pt (pw_or (pt_cmpR op_notIn_seq (pv 2) (pe_glob (v := .ref X.a_FILL_WAYS) (by rfl) X.c_FILL_WAYS rfl) rfl) (pw_or1 (pt_not (pt_chain op_le op_le pe_int (pv 5) (pe_glob (v := .int 2) (by rfl) X.c_TOP_LEVEL ⟨_, rfl⟩)))))) (pss_one ps_never) pss_nil)
      (pss_one (ps_if (PW.pt (pw_or (pt_not (pt_truth (pe_call (L.ok_is_limit X) (hr.mono (by decide)) (by rfl) X.is_limit.m X.is_limit.F.kp X.is_limit.b .nil pass0 (pa_cons (pv 3) (pa_cons pe_int (pa_cons (pe_glob (v := .int 6) (by rfl) X.c_MOST_ROWS ⟨_, rfl⟩) pa_nil)))) (by intro _; rfl))) (pw_or1 (pt_not (pt_truth (pe_call (L.ok_is_limit X) (hr.mono (by decide)) (by rfl) X.is_limit.m X.is_limit.F.kp X.is_limit.b .nil pass0 (pa_cons (pv 4) (pa_cons pe_int (pa_cons (pe_glob (v := .int 1000000000) (by rfl) X.c_MOST_DAYS ⟨_, rfl⟩) pa_nil)))) (by intro _; rfl)))))) (pss_one ps_never) pss_nil)))))
      (ds_seq (ds_asgG (de_vS (i := 0)) (dg_t (dgsCons_len (dgsCons_len (dgsCons_len (dgsCons_len dgsNil_len)))) (dgs_cons (dg_n (i := 2)) (dgs_cons (dg_n (i := 3)) (dgs_cons (dg_n (i := 4)) (dgs_cons (dg_n (i := 5)) dgs_nil))))))
      (ds_seq (ds_if (dt_test (k := .W) (de_op (k := .W) (ka := .W) (kb := .W) opd_eq (de_v (i := 0)) (de_c X.q_DROP_STEP))) ds_retN ds_nx)
      (ds_seq (ds_if (dt_or (dt_test (k := .W) (de_op (k := .W) (ka := .W) (kb := .W) opd_notIn (de_v (i := 2)) (de_c X.q_FILL_WAYS))) (dt_not (dt_test (k := .W) (de_chain (k := .W) (ka := .W) (kb := .W) (kc := .W) opd_le opd_le de_int (de_v (i := 5)) de_int)))) ds_never ds_nx)
      (ds_if (dt_or (dt_not (dt_tru (k := .W) (de_call (ka := .W) (da_cons (de_v (i := 3)) (da_cons de_int (da_cons de_int da_nil))) (fun _ => .nil) L.len_is_limit))) (dt_not (dt_tru (k := .W) (de_call (ka := .W) (da_cons (de_v (i := 4)) (da_cons de_int (da_cons de_int da_nil))) (fun _ => .nil) L.len_is_limit)))) ds_never ds_nx)))) rfl h)
theorem ok_Script___init__ (X : Tx T.K mg w) : FnOk P w T.K mg base CX0 3 X.Script___init__.f X.Script___init__.fd ["self", "steps"] (spI T X.Script.C ["parts"] 1 scriptI) := by
  refine okD X.Script___init__.F sc_Script___init__ (fun vs H Q E h => spI_len h) (fun cdv A outer s H vs Q E hr h => fin_I (n := 1) (m := 2) (Fb := b_Script___init__)
      (pss_cons (ps_if (pt_cmpR op_gt (pe_callB call_len (by rfl) X.n_len (by decide +kernel) (pa_cons (pv 1) pa_nil)) (ClX.pe_cval (pe_glob (v := .ref X.Script.C) (by rfl) X.Script.m rfl)) (nomark _)) (pss_one ps_never) pss_nil)
      (pss_cons (ps_for PassesOwn.never rfl (pi_enumA (by rfl) X.n_enumerate (pa_cons (pv 1) pa_nil)) (pg_tup rfl (pgs_cons (pg_name (i := 2) L.sc_Script___init__.nd rfl (by first | exact .inl rfl | exact .inr rfl)) (pgs_cons (pg_name (i := 3) L.sc_Script___init__.nd rfl (by first | exact .inl rfl | exact .inr rfl)) pgs_nil))) (pss_one (ps_expr (pe_call (L.ok_check_step X) (hr.mono (by decide)) (by rfl) X.check_step.m X.check_step.F.kp X.check_step.b .nil pass0 (pa_cons (pv 3) (pa_cons (pv 2) pa_nil))))))
      (pss_cons (ps_fld (pv 0) (pe_callTy call_list_of (by rfl) X.n_list (by decide +kernel) (pa_cons (pv 1) pa_nil)) rfl) pss_nil)))
      (f_pre (ds_if (dt_test (k := .W) (de_op (k := .W) (ka := .W) (kb := .W) opd_gt (de_cb (ka := .W) cad_len (da_cons (de_v (i := 1)) da_nil)) (de_cval X.rd_Script X.cv_Script_MOST (fun _ _ => .int 6)))) ds_never ds_nx)
      (f_pre (ds_for (di_enumA (da_cons (de_vS (i := 1)) da_nil)) (dg_t (dgsCons_len (dgsCons_len dgsNil_len)) (dgs_cons (dg_n (i := 2)) (dgs_cons (dg_n (i := 3)) dgs_nil))) (ds_drop (k := .W) (de_call (ka := .W) (da_cons (de_v (i := 3)) (da_cons (de_v (i := 2)) da_nil)) (fun _ => .nil) L.len_check_step)))
      (f_store X.Script.cls X.na_Script_parts (by decide +kernel) (by decide) (DE.toF (DO.de (do_cb (ka := .W) cao_list (da_cons (de_v (i := 1)) da_nil)))) f_nil))) rfl scriptI_b h)
theorem ok_turned_step (X : Tx T.K mg w) : FnOk P w T.K mg base CX0 1 X.turned_step.f X.turned_step.fd ["step"] (spP T 1 d_turned_step) := by
  refine X.turned_step.F.ok sc_turned_step (fun vs H Q E h => spP_len h) (fun cdv A outer s H vs Q E hr h => fin_P (n := 1) (m := 2) (f := b_turned_step)
      (pss_cons (ps_asg (pv 0) (pg_star2 rfl (pg_name (i := 1) L.sc_turned_step.nd rfl (by first | exact .inl rfl | exact .inr rfl)) (pg_name (i := 2) L.sc_turned_step.nd rfl (by first | exact .inl rfl | exact .inr rfl))))
      (pss_one (ps_ret (pe_tup (pa_cons (pe_ix ix_kdict (pe_glob (v := .ref X.a_OPPOSITE) (by rfl) X.c_OPPOSITE rfl) (pv 1) (fun _ _ => rfl)) (StX.pa_star (pv 2) pa_nil))))))
      (ds_seq (ds_star (i := 1) (j := 2) (de_vS (i := 0)))
      (ds_ret (de_tup (da_cons (de_kd (w := w) (ka := .W) X.kd_OPPOSITE (de_v (i := 1))) (da_star (ka := .W) (de_v (i := 2)) da_nil))))) rfl h)
theorem ok_Script___invert__ (X : Tx T.K mg w) : FnOk P w T.K mg base CX0 5 X.Script___invert__.f X.Script___invert__.fd ["self"] (spP T 1 (d_Script___invert__ X.Script.C)) := by
  refine X.Script___invert__.F.ok sc_Script___invert__ (fun vs H Q E h => spP_len h) (fun cdv A outer s H vs Q E hr h => fin_P (n := 1) (m := 1) (f := b_Script___invert__ X.Script.C)
      (pss_one (ps_ret (pe_make (mk_atD X.Script X.Script___init__) (L.ok_Script___init__ X) (hr.mono (by decide)) (by rfl) X.Script.m X.Script___init__.b .nil pass0 (pa_cons (pe_lc (own := [("step", 1)]) rfl L.sc_Script___invert__.nd (pi_list (pe_fld (pv 0) rfl)) (blkOk_by (own := [("step", 1)]) (N := L.n_Script___invert__) (sc := defScope L.s_Script___invert__) (by decide +kernel)) (fun _ _ _ _ _ => (pg_name (i := 1) L.sc_Script___invert__.nd rfl (by first | exact .inl rfl | exact .inr rfl))) (fun _ _ _ _ _ => pts_nil) (fun _ _ _ _ _ => (pe_call (L.ok_turned_step X) (hr.mono (by decide)) (by rfl) X.turned_step.m X.turned_step.F.kp X.turned_step.b .nil pass0 (pa_cons (pv 1) pa_nil)))) pa_nil))))
      (ds_ret (de_make (ka := .W) (da_cons (DE.toW (DO.de (do_lc (own := [1]) (di_lst (de_fld X.Script.cls X.na_Script_parts (de_vS (i := 0)))) (dg_n (i := 1)) dt_yes (de_call (ka := .W) (da_cons (de_v (i := 1)) da_nil) (fun _ => .nil) L.len_turned_step) (by decide)))) da_nil) (fun _ => .nil) L.len_Script___init__)) rfl h)
theorem ok_Script___mul__ (X : Tx T.K mg w) : FnOk P w T.K mg base CX0 5 X.Script___mul__.f X.Script___mul__.fd ["self", "count"] (spP T 2 (d_Script___mul__ X.Script.C)) := by
  refine X.Script___mul__.F.ok sc_Script___mul__ (fun vs H Q E h => spP_len h) (fun cdv A outer s H vs Q E hr h => fin_P (n := 2) (m := 0) (f := b_Script___mul__ X.Script.C)
      (pss_cons (ps_if (pt_cmpR op_gt (pe_op op_mulP (pe_callB call_len (by rfl) X.n_len (by decide +kernel) (pa_cons (pe_fld (pv 0) rfl) pa_nil)) (pv 1)) (ClX.pe_cval (pe_glob (v := .ref X.Script.C) (by rfl) X.Script.m rfl)) (nomark _)) (pss_one ps_never) pss_nil)
      (pss_one (ps_ret (pe_make (mk_atD X.Script X.Script___init__) (L.ok_Script___init__ X) (hr.mono (by decide)) (by rfl) X.Script.m X.Script___init__.b .nil pass0 (pa_cons (pe_ifExp (pt_truth (pe_fld (pv 0) rfl) (by intro _; rfl)) (pe_op op_mulP (pe_fld (pv 0) rfl) (pv 1)) (pe_tup pa_nil)) pa_nil)))))
      (ds_seq (ds_if (dt_test (k := .W) (de_op (k := .W) (ka := .W) (kb := .W) opd_gt (de_op (ka := .W) (kb := .W) opd_mul (de_cb (ka := .W) cad_len (da_cons (de_fld X.Script.cls X.na_Script_parts (de_v (i := 0))) da_nil)) (de_v (i := 1))) (de_cval X.rd_Script X.cv_Script_MOST (fun _ _ => .int 6)))) ds_never ds_nx)
      (ds_ret (de_make (ka := .W) (da_cons (de_if (dt_tru (k := .W) (de_fld X.Script.cls X.na_Script_parts (de_v (i := 0)))) (DE.toW (DO.de (do_op (ka := .W) (kb := .W) opo_rep (de_fld X.Script.cls X.na_Script_parts (de_v (i := 0))) (de_v (i := 1))))) (de_tup da_nil)) da_nil) (fun _ => .nil) L.len_Script___init__))) rfl h)
theorem ok_Script___add__ (X : Tx T.K mg w) : FnOk P w T.K mg base CX0 5 X.Script___add__.f X.Script___add__.fd ["self", "other"] (spP T 2 (d_Script___add__ X.Script.C)) := by
  refine X.Script___add__.F.ok sc_Script___add__ (fun vs H Q E h => spP_len h) (fun cdv A outer s H vs Q E hr h => fin_P (n := 2) (m := 0) (f := b_Script___add__ X.Script.C)
      (pss_cons (ps_if (pt_not (pt_truth (pe_callB call_isi (by rfl) X.n_isinstance (by decide +kernel) (pa_cons (pv 1) (pa_cons (pe_glob (v := .ref X.Script.C) (by rfl) X.Script.m rfl) pa_nil))) (by intro _; rfl))) (pss_one ps_never) pss_nil)
      (pss_one (ps_ret (pe_make (mk_atD X.Script X.Script___init__) (L.ok_Script___init__ X) (hr.mono (by decide)) (by rfl) X.Script.m X.Script___init__.b .nil pass0 (pa_cons (pe_op op_addP (pe_fld (pv 0) rfl) (pe_fld (pv 1) rfl)) pa_nil)))))
      (ds_seq (ds_if (dt_not (dt_tru (k := .W) (de_cb (ka := .W) (cad_isiO (C := X.Script.C) X.ko_Script) (da_cons (de_v (i := 1)) (da_cons de_ref da_nil))))) ds_never ds_nx)
      (ds_ret (de_make (ka := .W) (da_cons (DE.toW (DO.de (do_op (ka := .W) (kb := .W) opo_cat (de_fld X.Script.cls X.na_Script_parts (de_v (i := 0))) (de_fld X.Script.cls X.na_Script_parts (de_v (i := 1)))))) da_nil) (fun _ => .nil) L.len_Script___init__))) rfl h)
theorem ok_written_step (X : Tx T.K mg w) : FnOk P w T.K mg base CX0 1 X.written_step.f X.written_step.fd ["step"] (spP T 1 d_written_step) := by
  refine X.written_step.F.ok sc_written_step (fun vs H Q E h => spP_len h) (fun cdv A outer s H vs Q E hr h => fin_P (n := 1) (m := 5) (f := b_written_step)
      (pss_cons (ps_asg (pv 0) (pg_tup rfl (pgs_cons (pg_name (i := 1) L.sc_written_step.nd rfl (by first | exact .inl rfl | exact .inr rfl)) (pgs_cons (pg_name (i := 2) L.sc_written_step.nd rfl (by first | exact .inl rfl | exact .inr rfl)) (pgs_cons (pg_name (i := 3) L.sc_written_step.nd rfl (by first | exact .inl rfl | exact .inr rfl)) (pgs_cons (pg_name (i := 4) L.sc_written_step.nd rfl (by first | exact .inl rfl | exact .inr rfl)) pgs_nil))))))
      (pss_cons (ps_set (i := 5) L.sc_written_step.nd rfl (by first | exact .inl rfl | exact .inr rfl) (pe_lst (pa_cons (pv 1) pa_nil)))
      (pss_cons (ps_if (pt_cmpR op_notN (pv 2) pe_non (nomark _)) (pss_one (ps_aug (i := 5) L.sc_written_step.nd rfl (by first | exact .inl rfl | exact .inr rfl) (pe_lst (pa_cons pe_str (pa_cons (pe_callTy call_str_int (by rfl) X.n_str (by decide +kernel) (pa_cons (pv 2) pa_nil)) pa_nil))) iop_ext)) pss_nil)
      (pss_cons (ps_if (pt_cmpR op_notN (pv 3) pe_non (nomark _)) (pss_one (ps_aug (i := 5) L.sc_written_step.nd rfl (by first | exact .inl rfl | exact .inr rfl) (pe_lst (pa_cons pe_str (pa_cons (pe_callTy call_str_int (by rfl) X.n_str (by decide +kernel) (pa_cons (pv 3) pa_nil)) pa_nil))) iop_ext)) pss_nil)
      (pss_cons (ps_if (pt_cmpR (op_neP hr.units) (pv 4) (pe_glob (v := .int 2) (by rfl) X.c_TOP_LEVEL ⟨_, rfl⟩) (nomark _)) (pss_one (ps_aug (i := 5) L.sc_written_step.nd rfl (by first | exact .inl rfl | exact .inr rfl) (pe_lst (pa_cons pe_str (pa_cons (pe_callTy call_str_int (by rfl) X.n_str (by decide +kernel) (pa_cons (pv 4) pa_nil)) pa_nil))) iop_ext)) pss_nil)
      (pss_one (ps_ret (pe_join pe_str (pv 5)))))))))
      (ds_seq (ds_asgG (de_vS (i := 0)) (dg_t (dgsCons_len (dgsCons_len (dgsCons_len (dgsCons_len dgsNil_len)))) (dgs_cons (dg_n (i := 1)) (dgs_cons (dg_n (i := 2)) (dgs_cons (dg_n (i := 3)) (dgs_cons (dg_n (i := 4)) dgs_nil))))))
      (ds_seq (ds_own (i := 5) (do_lst (da_cons (DE.n (k := .W) (de_v (i := 1))) da_nil)))
      (ds_seq (ds_if (dt_test (k := .W) (de_op (k := .W) (ka := .W) (kb := .W) opd_notN (de_v (i := 2)) de_non)) (ds_ext (i := 5) (k := .N) (de_lst (da_cons de_str (da_cons (de_cb (ka := .W) cad_str (da_cons (de_v (i := 2)) da_nil)) da_nil)))) ds_nx)
      (ds_seq (ds_if (dt_test (k := .W) (de_op (k := .W) (ka := .W) (kb := .W) opd_notN (de_v (i := 3)) de_non)) (ds_ext (i := 5) (k := .N) (de_lst (da_cons de_str (da_cons (de_cb (ka := .W) cad_str (da_cons (de_v (i := 3)) da_nil)) da_nil)))) ds_nx)
      (ds_seq (ds_if (dt_test (k := .W) (de_op (k := .W) (ka := .W) (kb := .W) opd_ne (de_v (i := 4)) de_int)) (ds_ext (i := 5) (k := .N) (de_lst (da_cons de_str (da_cons (de_cb (ka := .W) cad_str (da_cons (de_v (i := 4)) da_nil)) da_nil)))) ds_nx)
      (ds_ret (de_join (ka := .W) (kb := .W) de_str (de_v (i := 5))))))))) rfl h)
theorem ok_Script_written (X : Tx T.K mg w) : FnOk P w T.K mg base CX0 2 X.Script_written.f X.Script_written.fd ["self"] (spP T 1 (d_Script_written X.Script.C)) := by
  refine X.Script_written.F.ok sc_Script_written (fun vs H Q E h => spP_len h) (fun cdv A outer s H vs Q E hr h => fin_P (n := 1) (m := 1) (f := b_Script_written X.Script.C)
      (pss_one (ps_ret (pe_join pe_str (pe_lc (own := [("step", 1)]) rfl L.sc_Script_written.nd (pi_list (pe_fld (pv 0) rfl)) (blkOk_by (own := [("step", 1)]) (N := L.n_Script_written) (sc := defScope L.s_Script_written) (by decide +kernel)) (fun _ _ _ _ _ => (pg_name (i := 1) L.sc_Script_written.nd rfl (by first | exact .inl rfl | exact .inr rfl))) (fun _ _ _ _ _ => pts_nil) (fun _ _ _ _ _ => (pe_call (L.ok_written_step X) (hr.mono (by decide)) (by rfl) X.written_step.m X.written_step.F.kp X.written_step.b .nil pass0 (pa_cons (pv 1) pa_nil)))))))
      (ds_ret (de_join (ka := .W) (kb := .W) de_str (DE.toW (DO.de (do_lc (own := [1]) (di_lst (de_fld X.Script.cls X.na_Script_parts (de_vS (i := 0)))) (dg_n (i := 1)) dt_yes (de_call (ka := .W) (da_cons (de_v (i := 1)) da_nil) (fun _ => .nil) L.len_written_step) (by decide)))))) rfl h)
theorem ok_read_number (X : Tx T.K mg w) : FnOk P w T.K mg base CX0 1 X.read_number.f X.read_number.fd ["word"] (spP T 1 d_read_number) := by
  refine X.read_number.F.ok sc_read_number (fun vs H Q E h => spP_len h) (fun cdv A outer s H vs Q E hr h => fin_P (n := 1) (m := 0) (f := b_read_number)
      (pss_cons (ps_if (PW.pt (pw_and (pt_truth (pe_bm0 PySem.F.plainAttrs_str PySem.F.slot_str_isascii PySem.F.type_str_isascii mt_isascii (pv 0)) (by intro _; rfl)) (pw_and (pt_truth (pe_bm0 PySem.F.plainAttrs_str PySem.F.slot_str_isdigit PySem.F.type_str_isdigit mt_isdigit (pv 0)) (by intro _; rfl)) (pw_and1 (pt_cmpR op_le (pe_callB call_len (by rfl) X.n_len (by decide +kernel) (pa_cons (pv 0) pa_nil)) pe_int (nomark _)))))) (pss_one (ps_ret (pe_callTy call_int_str (by rfl) X.n_int (by decide +kernel) (pa_cons (pv 0) pa_nil)))) pss_nil)
      (pss_one (ps_ret (pe_un un_neg pe_int))))
      (ds_seq (ds_if (dt_and (dt_tru (k := .W) (de_m0 (ka := .W) (de_v (i := 0)))) (dt_and (dt_tru (k := .W) (de_m0 (ka := .W) (de_v (i := 0)))) (dt_test (k := .W) (de_op (k := .W) (ka := .W) (kb := .W) opd_le (de_cb (ka := .W) cad_len (da_cons (de_v (i := 0)) da_nil)) de_int)))) (ds_ret (de_cb (ka := .W) cad_intS (da_cons (de_v (i := 0)) da_nil))) ds_nx)
      (ds_ret (de_un (ka := .W) und_neg de_int))) rfl h)
theorem ok_read_step (X : Tx T.K mg w) : FnOk P w T.K mg base CX0 3 X.read_step.f X.read_step.fd ["line", "index"] (spP T 2 d_read_step) := by
  refine X.read_step.F.ok sc_read_step (fun vs H Q E h => spP_len h) (fun cdv A outer s H vs Q E hr h => fin_P (n := 2) (m := 6) (f := b_read_step)
      (pss_cons (ps_asg (pe_split (pv 0) pe_str) (pg_star2L rfl (pg_name (i := 2) L.sc_read_step.nd rfl (by first | exact .inl rfl | exact .inr rfl)) (pg_name (i := 3) L.sc_read_step.nd rfl (by first | exact .inl rfl | exact .inr rfl))))
      (pss_cons (ps_set (i := 4) L.sc_read_step.nd rfl (by first | exact .inl rfl | exact .inr rfl) (pe_disp (pps_cons pe_str pe_non (pps_cons pe_str pe_non (pps_cons pe_str (pe_glob (v := .int 2) (by rfl) X.c_TOP_LEVEL ⟨_, rfl⟩) pps_nil))) rfl rfl (by simp) (by decide)))
      (pss_cons (ps_for PassesOwn.never rfl (pi_zip (by rfl) X.n_zip (pa_cons (pe_step2 (l := none) (pv 3) po_none (fun _ _ => ⟨rfl, rfl⟩)) (pa_cons (pe_step2 (l := (some 1)) (pv 3) (po_some pe_int) (fun _ _ => ⟨_, rfl, rfl, rfl⟩)) pa_nil))) (pg_tup rfl (pgs_cons (pg_name (i := 5) L.sc_read_step.nd rfl (by first | exact .inl rfl | exact .inr rfl)) (pgs_cons (pg_name (i := 6) L.sc_read_step.nd rfl (by first | exact .inl rfl | exact .inr rfl)) pgs_nil))) (pss_one (ps_if (pt_cmp (pc_din (hu_of hr) (pv 5) (pv 4)) rfl) (pss_one (ps_dput (hu_of hr) (pv 4) (pv 5) (pe_call (L.ok_read_number X) (hr.mono (by decide)) (by rfl) X.read_number.m X.read_number.F.kp X.read_number.b .nil pass0 (pa_cons (pv 6) pa_nil)) rfl)) pss_nil)))
      (pss_cons (ps_set (i := 7) L.sc_read_step.nd rfl (by first | exact .inl rfl | exact .inr rfl) (pe_tup (pa_cons (pv 2) (pa_cons (pe_dget (hu_of hr) (pv 4) pe_str (by intro _ _; rfl)) (pa_cons (pe_dget (hu_of hr) (pv 4) pe_str (by intro _ _; rfl)) (pa_cons (pe_dget (hu_of hr) (pv 4) pe_str (by intro _ _; rfl)) pa_nil))))))
      (pss_cons (ps_try_thru0 (pss_one (ps_expr (pe_call (L.ok_check_step X) (hr.mono (by decide)) (by rfl) X.check_step.m X.check_step.F.kp X.check_step.b .nil pass0 (pa_cons (pv 7) (pa_cons (pv 1) pa_nil))))))
      (pss_cons (ps_if (pt_cmpR (op_neP hr.units) (pe_call (L.ok_written_step X) (hr.mono (by decide)) (by rfl) X.written_step.m X.written_step.F.kp X.written_step.b .nil pass0 (pa_cons (pv 7) pa_nil)) (pv 0) (nomark _)) (pss_one ps_never) pss_nil)
      (pss_one (ps_ret (pv 7)))))))))
      (ds_seq (ds_starL (i := 2) (j := 3) (DE.toS (DE.toF (DO.de (do_split (ka := .W) (kb := .W) (de_v (i := 0)) de_str)))))
      (ds_seq (ds_newd (i := 4) (ks := ["rows", "days", "reach"]) (vs := [.non, .non, .int 2]) (ds := [.non, .non, .int 2]) (by decide +kernel) rfl (by decide) rfl (fun _ _ => (.cons .non (.cons .non (.cons (.int _) .nil)))) rfl)
      (ds_seq (ds_for (di_zip (da_cons (DE.toS (DE.toF (DO.de (do_step2 (k := .W) (l := none) (de_v (i := 3)))))) (da_cons (DE.toS (DE.toF (DO.de (do_step2 (k := .W) (l := (some 1)) (de_v (i := 3)))))) da_nil))) (dg_t (dgsCons_len (dgsCons_len dgsNil_len)) (dgs_cons (dg_n (i := 5)) (dgs_cons (dg_n (i := 6)) dgs_nil))) (ds_if (dt_test (k := .W) (de_din (k := .W) (ka := .W) (kb := .W) (de_v (i := 5)) (de_v (i := 4)))) (ds_dput (i := 4) (k := .W) (kb := .W) (de_v (i := 5)) (de_call (ka := .W) (da_cons (de_v (i := 6)) da_nil) (fun _ => .nil) L.len_read_number)) ds_nx))
      (ds_seq (ds_asg (i := 7) (de_tup (da_cons (DE.toF (DE.n (k := .W) (de_v (i := 2)))) (da_cons (de_dget (ka := .W) (kb := .W) (de_v (i := 4)) de_str) (da_cons (de_dget (ka := .W) (kb := .W) (de_v (i := 4)) de_str) (da_cons (de_dget (ka := .W) (kb := .W) (de_v (i := 4)) de_str) da_nil))))))
      (ds_seq (ds_drop (k := .W) (de_call (ka := .W) (da_cons (de_v (i := 7)) (da_cons (de_v (i := 1)) da_nil)) (fun _ => .nil) L.len_check_step))
      (ds_seq (ds_if (dt_test (k := .W) (de_op (k := .W) (ka := .W) (kb := .W) opd_ne (de_call (ka := .W) (da_cons (de_v (i := 7)) da_nil) (fun _ => .nil) L.len_written_step) (de_v (i := 0)))) ds_never ds_nx)
      (ds_ret (DE.toF (DE.n (k := .W) (de_v (i := 7))))))))))) rfl h)
theorem ok_Script_read (X : Tx T.K mg w) : FnOk P w T.K mg base CX0 5 X.Script_read.f X.Script_read.fd ["cls", "text"] (spP T 2 (d_Script_read X.Script.C)) := by
  refine X.Script_read.F.ok sc_Script_read (fun vs H Q E h => spP_len h) (fun cdv A outer s H vs Q E hr h => fin_P (n := 2) (m := 3) (f := b_Script_read X.Script.C)
      (pss_cons (ps_set (i := 2) L.sc_Script_read.nd rfl (by first | exact .inl rfl | exact .inr rfl) (pe_ifExp (pt_truth (pv 1) (by intro _; rfl)) (pe_split (pv 1) pe_str) (pe_lst pa_nil)))
      (pss_cons (ps_if (pt_cmpR op_gt (pe_callB call_len (by rfl) X.n_len (by decide +kernel) (pa_cons (pv 2) pa_nil)) (ClX.pe_cval (pv 0)) (nomark _)) (pss_one ps_never) pss_nil)
      (pss_one (ps_ret (pe_makeV0 (i := 0) (mk_atD X.Script X.Script___init__) (L.ok_Script___init__ X) (hr.mono (by decide)) rfl (.inl rfl) X.Script___init__.b .nil pass0 (pa_cons (pe_lc (own := [("index", 3), ("line", 4)]) rfl L.sc_Script_read.nd (pi_enum (by rfl) X.n_enumerate (pa_cons (pv 2) pa_nil)) (blkOk_by (own := [("index", 3), ("line", 4)]) (N := L.n_Script_read) (sc := defScope L.s_Script_read) (by decide +kernel)) (fun _ _ _ _ _ => (pg_tup rfl (pgs_cons (pg_name (i := 3) L.sc_Script_read.nd rfl (by first | exact .inl rfl | exact .inr rfl)) (pgs_cons (pg_name (i := 4) L.sc_Script_read.nd rfl (by first | exact .inl rfl | exact .inr rfl)) pgs_nil)))) (fun _ _ _ _ _ => pts_nil) (fun _ _ _ _ _ => (pe_call (L.ok_read_step X) (hr.mono (by decide)) (by rfl) X.read_step.m X.read_step.F.kp X.read_step.b .nil pass0 (pa_cons (pv 4) (pa_cons (pv 3) pa_nil))))) pa_nil))))))
      (ds_seq (ds_asg (i := 2) (de_if (dt_tru (k := .W) (de_v (i := 1))) (DE.toF (DO.de (do_split (ka := .W) (kb := .W) (de_v (i := 1)) de_str))) (de_lst da_nil)))
      (ds_seq (ds_if (dt_test (k := .W) (de_op (k := .W) (ka := .W) (kb := .W) opd_gt (de_cb (ka := .W) cad_len (da_cons (de_v (i := 2)) da_nil)) (de_cvalV (i := 0) (C := X.Script.C) X.rd_Script X.cv_Script_MOST (fun _ _ => .int 6)))) ds_never ds_nx)
      (ds_ret (de_makeV0 (i := 0) (ka := .W) (da_cons (DE.toW (DO.de (do_lc (own := [3, 4]) (di_enum (da_cons (de_vS (i := 2)) da_nil)) (dg_t (dgsCons_len (dgsCons_len dgsNil_len)) (dgs_cons (dg_n (i := 3)) (dgs_cons (dg_n (i := 4)) dgs_nil))) dt_yes (de_call (ka := .W) (da_cons (de_v (i := 4)) (da_cons (de_v (i := 3)) da_nil)) (fun _ => .nil) L.len_read_step) (by decide)))) da_nil) (fun _ => .nil) L.len_Script___init__)))) rfl h)
theorem ok_l_made (X : Tx T.K mg w) : FnOk P w T.K mg base CX0 6 X.l_made.f X.l_made.fd ["_law_draws", "_law_steps_here"] (spD T 1 (d_l_made X.Script.C)) := by
  refine X.l_made.F.ok sc_l_made (fun vs H Q E h => spD_len h) (fun cdv A outer s H vs Q E hr h => fin_D (n := 1) (m := 2) (f := b_l_made X.Script.C)
      (pss_cons (ps_set (i := 2) L.sc_l_made.nd rfl (by first | exact .inl rfl | exact .inr rfl) (pe_make (mk_atD X.Script X.Script___init__) (L.ok_Script___init__ X) (hr.mono (by decide)) (by rfl) X.Script.m X.Script___init__.b .nil pass0 (pa_cons (pv 1) pa_nil)))
      (pss_cons (ps_set (i := 3) L.sc_l_made.nd rfl (by first | exact .inl rfl | exact .inr rfl) (pe_call (L.ok_l_take X) (hr.mono (by decide)) (by rfl) X.l_take.m X.l_take.F.kp X.l_take.b .nil pass0 (pa_cons (pv 0) (pa_cons pe_int pa_nil))))
      (pss_cons (ps_if (pt_cmpR (op_eqP hr.units) (pv 3) pe_int (nomark _)) (pss_one (ps_ret (ClX.pe_cmeth (pe_glob (v := .ref X.Script.C) (by rfl) X.Script.m rfl) X.rd_Script X.Script_read.cm (fnR_at (L.ok_Script_read X) X.Script_read.b) (hr.mono (by decide)) pass0 (pa_cons (pe_meth0 (pv 2) X.Script.cls (meth_at X.Script_written) (L.ok_Script_written X) (hr.mono (by decide)) X.Script_written.b .nil pass0) pa_nil)))) pss_nil)
      (pss_cons (ps_if (pt_cmpR (op_eqP hr.units) (pv 3) pe_int (nomark _)) (pss_one (ps_ret (pe_un (un_invOwn (meth_at X.Script___invert__) (L.ok_Script___invert__ X) (hr.mono (by decide)) X.Script___invert__.b pass0) (pe_un (un_invOwn (meth_at X.Script___invert__) (L.ok_Script___invert__ X) (hr.mono (by decide)) X.Script___invert__.b pass0) (pv 2))))) pss_nil)
      (pss_cons (ps_if (pt_cmpR (op_eqP hr.units) (pv 3) pe_int (nomark _)) (pss_one (ps_ret (pe_op (op_mulOwn X.mulw_Script (meth_at X.Script___mul__) (L.ok_Script___mul__ X) (hr.mono (by decide)) X.Script___mul__.b pass0) (pv 2) pe_int))) pss_nil)
      (pss_cons (ps_if (pt_cmpR (op_eqP hr.units) (pv 3) pe_int (nomark _)) (pss_one (ps_ret (pe_op (op_addOwn (meth_at X.Script___add__) X.sf_Script (L.ok_Script___add__ X) (hr.mono (by decide)) X.Script___add__.b pass0) (pe_make0 (mk_atD X.Script X.Script___init__) (L.ok_Script___init__ X) (hr.mono (by decide)) (by rfl) X.Script.m X.b0_Script (.cons (show L2.RelV (.ref X.dE_Script) (Value.ref X.dE_Script) from rfl) .nil) pass0) (pv 2)))) pss_nil)
      (pss_one (ps_ret (pv 2)))))))))
      (ds_seq (ds_asg (i := 2) (de_make (ka := .W) (da_cons (de_v (i := 1)) da_nil) (fun _ => .nil) L.len_Script___init__))
      (ds_seq (ds_asg (i := 3) (de_callD (ka := .W) (da_cons de_int da_nil) L.len_l_take))
      (ds_seq (ds_if (dt_test (k := .W) (de_op (k := .W) (ka := .W) (kb := .W) opd_eq (de_v (i := 3)) de_int)) (ds_ret (de_cmeth (C := X.Script.C) (F := (L.d_Script_read X.Script.C)) (ka := .W) (da_cons (de_meth0 (ka := .W) (C := X.Script.C) (m := "written") (F := (L.d_Script_written X.Script.C)) (de_v (i := 2))) da_nil) (L.len_Script_read X.Script.C))) ds_nx)
      (ds_seq (ds_if (dt_test (k := .W) (de_op (k := .W) (ka := .W) (kb := .W) opd_eq (de_v (i := 3)) de_int)) (ds_ret (de_un (ka := .W) (ud_own (C := X.Script.C) (F := (L.d_Script___invert__ X.Script.C))) (de_un (ka := .W) (ud_own (C := X.Script.C) (F := (L.d_Script___invert__ X.Script.C))) (de_v (i := 2))))) ds_nx)
      (ds_seq (ds_if (dt_test (k := .W) (de_op (k := .W) (ka := .W) (kb := .W) opd_eq (de_v (i := 3)) de_int)) (ds_ret (de_op (ka := .W) (kb := .W) (opd_ownI (C := X.Script.C) (F := (L.d_Script___mul__ X.Script.C))) (de_v (i := 2)) de_int)) ds_nx)
      (ds_seq (ds_if (dt_test (k := .W) (de_op (k := .W) (ka := .W) (kb := .W) opd_eq (de_v (i := 3)) de_int)) (ds_ret (de_op (ka := .W) (kb := .W) (opd_own (C := X.Script.C) (F := (L.d_Script___add__ X.Script.C))) (de_make (ka := .W) da_nil (fun H => .cons (X.de_Script H) .nil) L.len_Script___init__) (de_v (i := 2)))) ds_nx)
      (ds_ret (de_vF (i := 2))))))))) rfl h)
theorem ok_l_above (X : Tx T.K mg w) : FnOk P w T.K mg base CX0 1 X.l_above.f X.l_above.fd ["_law_table_here", "_law_source", "_law_k", "_law_step_here"] (spP T 4 d_l_above) := by
  refine X.l_above.F.ok sc_l_above (fun vs H Q E h => spP_len h) (fun cdv A outer s H vs Q E hr h => fin_P (n := 4) (m := 4) (f := b_l_above)
      (pss_cons (ps_set (i := 4) L.sc_l_above.nd rfl (by first | exact .inl rfl | exact .inr rfl) (pe_ix ix_seq (pe_ix ix_seq (pv 0) (pv 2) (fun _ _ => rfl)) pe_int (fun _ _ => rfl)))
      (pss_cons (ps_for PassesOwn.never rfl (pi_range3 (by rfl) X.n_range (pa_cons (pe_op op_sub (pv 2) pe_int) (pa_cons (pe_un un_neg pe_int) (pa_cons (pe_un un_neg pe_int) pa_nil)))) (pg_name (i := 5) L.sc_l_above.nd rfl (by first | exact .inl rfl | exact .inr rfl)) (pss_cons (ps_if (pt_cmpR op_ge (pe_ix ix_seq (pv 1) (pv 5) (fun _ _ => rfl)) pe_int (nomark _)) (pss_cons (ps_set (i := 6) L.sc_l_above.nd rfl (by first | exact .inl rfl | exact .inr rfl) (pe_or (pe_cmpR op_isN (pe_ix ix_seq (pv 3) pe_int (fun _ _ => rfl)) pe_non (nomark _)) (pe_one (pe_cmpR op_le (pe_op op_sub (pv 2) (pv 5)) (pe_ix ix_seq (pv 3) pe_int (fun _ _ => rfl)) (nomark _)))))
      (pss_cons (ps_set (i := 7) L.sc_l_above.nd rfl (by first | exact .inl rfl | exact .inr rfl) (pe_or (pe_cmpR op_isN (pe_ix ix_seq (pv 3) pe_int (fun _ _ => rfl)) pe_non (nomark _)) (pe_one (pe_cmpR op_le (pe_op op_sub (pe_ix ix_seq (pe_ix ix_seq (pv 0) (pv 2) (fun _ _ => rfl)) pe_int (fun _ _ => rfl)) (pe_ix ix_seq (pe_ix ix_seq (pv 0) (pe_ix ix_seq (pv 1) (pv 5) (fun _ _ => rfl)) (fun _ _ => rfl)) pe_int (fun _ _ => rfl))) (pe_ix ix_seq (pv 3) pe_int (fun _ _ => rfl)) (nomark _)))))
      (pss_one (ps_ret (pe_ifExp (PW.pt (pw_and (pt_truth (pv 6) (by intro _; rfl)) (pw_and (pt_truth (pv 7) (by intro _; rfl)) (pw_and1 (pt_cmpR op_le (pv 4) (pe_ix ix_seq (pv 3) pe_int (fun _ _ => rfl)) (nomark _)))))) (pv 5) (pe_un un_neg pe_int)))))) pss_nil)
      (pss_one (ps_if (pt_cmpR op_gt (pe_ix ix_seq (pe_ix ix_seq (pv 0) (pv 5) (fun _ _ => rfl)) pe_int (fun _ _ => rfl)) (pv 4) (nomark _)) (pss_one (ps_set (i := 4) L.sc_l_above.nd rfl (by first | exact .inl rfl | exact .inr rfl) (pe_ix ix_seq (pe_ix ix_seq (pv 0) (pv 5) (fun _ _ => rfl)) pe_int (fun _ _ => rfl)))) pss_nil))))
      (pss_one (ps_ret (pe_un un_neg pe_int)))))
      (ds_seq (ds_asg (i := 4) (DE.toF (DE.n (k := .W) (de_ix (kb := .W) (de_ix (kb := .W) (de_v (i := 0)) (de_v (i := 2))) de_int))))
      (ds_seq (ds_for (di_rg3 (k := .W) (da_cons (de_op (ka := .W) (kb := .W) opd_sub (de_v (i := 2)) de_int) (da_cons (de_un (ka := .W) und_neg de_int) (da_cons (de_un (ka := .W) und_neg de_int) da_nil)))) (dg_n (i := 5)) (ds_seq (ds_if (dt_test (k := .W) (de_op (k := .W) (ka := .W) (kb := .W) opd_ge (de_ix (kb := .W) (de_v (i := 1)) (de_v (i := 5))) de_int)) (ds_seq (ds_asg (i := 6) (de_orV (ka := .W) (de_op (ka := .W) (kb := .W) opd_isN (de_ix (kb := .W) (de_v (i := 3)) de_int) de_non) (de_op (ka := .W) (kb := .W) opd_le (de_op (ka := .W) (kb := .W) opd_sub (de_v (i := 2)) (de_v (i := 5))) (de_ix (kb := .W) (de_v (i := 3)) de_int))))
      (ds_seq (ds_asg (i := 7) (de_orV (ka := .W) (de_op (ka := .W) (kb := .W) opd_isN (de_ix (kb := .W) (de_v (i := 3)) de_int) de_non) (de_op (ka := .W) (kb := .W) opd_le (de_op (ka := .W) (kb := .W) opd_sub (de_ix (kb := .W) (de_ix (kb := .W) (de_v (i := 0)) (de_v (i := 2))) de_int) (de_ix (kb := .W) (de_ix (kb := .W) (de_v (i := 0)) (de_ix (kb := .W) (de_v (i := 1)) (de_v (i := 5)))) de_int)) (de_ix (kb := .W) (de_v (i := 3)) de_int))))
      (ds_ret (de_if (dt_and (dt_tru (k := .W) (de_v (i := 6))) (dt_and (dt_tru (k := .W) (de_v (i := 7))) (dt_test (k := .W) (de_op (k := .W) (ka := .W) (kb := .W) opd_le (de_v (i := 4)) (de_ix (kb := .W) (de_v (i := 3)) de_int))))) (DE.toF (DE.n (k := .W) (de_v (i := 5)))) (de_un (ka := .W) und_neg de_int))))) ds_nx)
      (ds_if (dt_test (k := .W) (de_op (k := .W) (ka := .W) (kb := .W) opd_gt (de_ix (kb := .W) (de_ix (kb := .W) (de_v (i := 0)) (de_v (i := 5))) de_int) (de_v (i := 4)))) (ds_asg (i := 4) (DE.toF (DE.n (k := .W) (de_ix (kb := .W) (de_ix (kb := .W) (de_v (i := 0)) (de_v (i := 5))) de_int)))) ds_nx)))
      (ds_ret (de_un (ka := .W) und_neg de_int)))) rfl h)
theorem ok_l_below (X : Tx T.K mg w) : FnOk P w T.K mg base CX0 1 X.l_below.f X.l_below.fd ["_law_table_here", "_law_source", "_law_k", "_law_step_here"] (spP T 4 d_l_below) := by
  refine X.l_below.F.ok sc_l_below (fun vs H Q E h => spP_len h) (fun cdv A outer s H vs Q E hr h => fin_P (n := 4) (m := 4) (f := b_l_below)
      (pss_cons (ps_set (i := 4) L.sc_l_below.nd rfl (by first | exact .inl rfl | exact .inr rfl) pe_int)
      (pss_cons (ps_for PassesOwn.never rfl (pi_range2 (by rfl) X.n_range (pa_cons (pe_op op_addP (pv 2) pe_int) (pa_cons (pe_callB call_len (by rfl) X.n_len (by decide +kernel) (pa_cons (pv 0) pa_nil)) pa_nil))) (pg_name (i := 5) L.sc_l_below.nd rfl (by first | exact .inl rfl | exact .inr rfl)) (pss_cons (ps_if (pt_cmpR op_gt (pe_ix ix_seq (pe_ix ix_seq (pv 0) (pv 5) (fun _ _ => rfl)) pe_int (fun _ _ => rfl)) (pv 4) (nomark _)) (pss_one (ps_set (i := 4) L.sc_l_below.nd rfl (by first | exact .inl rfl | exact .inr rfl) (pe_ix ix_seq (pe_ix ix_seq (pv 0) (pv 5) (fun _ _ => rfl)) pe_int (fun _ _ => rfl)))) pss_nil)
      (pss_one (ps_if (pt_cmpR op_ge (pe_ix ix_seq (pv 1) (pv 5) (fun _ _ => rfl)) pe_int (nomark _)) (pss_cons (ps_set (i := 6) L.sc_l_below.nd rfl (by first | exact .inl rfl | exact .inr rfl) (pe_or (pe_cmpR op_isN (pe_ix ix_seq (pv 3) pe_int (fun _ _ => rfl)) pe_non (nomark _)) (pe_one (pe_cmpR op_le (pe_op op_sub (pv 5) (pv 2)) (pe_ix ix_seq (pv 3) pe_int (fun _ _ => rfl)) (nomark _)))))
      (pss_cons (ps_set (i := 7) L.sc_l_below.nd rfl (by first | exact .inl rfl | exact .inr rfl) (pe_or (pe_cmpR op_isN (pe_ix ix_seq (pv 3) pe_int (fun _ _ => rfl)) pe_non (nomark _)) (pe_one (pe_cmpR op_le (pe_op op_sub (pe_ix ix_seq (pe_ix ix_seq (pv 0) (pe_ix ix_seq (pv 1) (pv 5) (fun _ _ => rfl)) (fun _ _ => rfl)) pe_int (fun _ _ => rfl)) (pe_ix ix_seq (pe_ix ix_seq (pv 0) (pv 2) (fun _ _ => rfl)) pe_int (fun _ _ => rfl))) (pe_ix ix_seq (pv 3) pe_int (fun _ _ => rfl)) (nomark _)))))
      (pss_one (ps_ret (pe_ifExp (PW.pt (pw_and (pt_truth (pv 6) (by intro _; rfl)) (pw_and (pt_truth (pv 7) (by intro _; rfl)) (pw_and1 (pt_cmpR op_le (pv 4) (pe_ix ix_seq (pv 3) pe_int (fun _ _ => rfl)) (nomark _)))))) (pv 5) (pe_un un_neg pe_int)))))) pss_nil))))
      (pss_one (ps_ret (pe_un un_neg pe_int)))))
      (ds_seq (ds_asg (i := 4) de_int)
      (ds_seq (ds_for (di_rg2 (k := .W) (da_cons (de_op (ka := .W) (kb := .W) opd_add (de_v (i := 2)) de_int) (da_cons (de_cb (ka := .W) cad_len (da_cons (de_v (i := 0)) da_nil)) da_nil))) (dg_n (i := 5)) (ds_seq (ds_if (dt_test (k := .W) (de_op (k := .W) (ka := .W) (kb := .W) opd_gt (de_ix (kb := .W) (de_ix (kb := .W) (de_v (i := 0)) (de_v (i := 5))) de_int) (de_v (i := 4)))) (ds_asg (i := 4) (DE.toF (DE.n (k := .W) (de_ix (kb := .W) (de_ix (kb := .W) (de_v (i := 0)) (de_v (i := 5))) de_int)))) ds_nx)
      (ds_if (dt_test (k := .W) (de_op (k := .W) (ka := .W) (kb := .W) opd_ge (de_ix (kb := .W) (de_v (i := 1)) (de_v (i := 5))) de_int)) (ds_seq (ds_asg (i := 6) (de_orV (ka := .W) (de_op (ka := .W) (kb := .W) opd_isN (de_ix (kb := .W) (de_v (i := 3)) de_int) de_non) (de_op (ka := .W) (kb := .W) opd_le (de_op (ka := .W) (kb := .W) opd_sub (de_v (i := 5)) (de_v (i := 2))) (de_ix (kb := .W) (de_v (i := 3)) de_int))))
      (ds_seq (ds_asg (i := 7) (de_orV (ka := .W) (de_op (ka := .W) (kb := .W) opd_isN (de_ix (kb := .W) (de_v (i := 3)) de_int) de_non) (de_op (ka := .W) (kb := .W) opd_le (de_op (ka := .W) (kb := .W) opd_sub (de_ix (kb := .W) (de_ix (kb := .W) (de_v (i := 0)) (de_ix (kb := .W) (de_v (i := 1)) (de_v (i := 5)))) de_int) (de_ix (kb := .W) (de_ix (kb := .W) (de_v (i := 0)) (de_v (i := 2))) de_int)) (de_ix (kb := .W) (de_v (i := 3)) de_int))))
      (ds_ret (de_if (dt_and (dt_tru (k := .W) (de_v (i := 6))) (dt_and (dt_tru (k := .W) (de_v (i := 7))) (dt_test (k := .W) (de_op (k := .W) (ka := .W) (kb := .W) opd_le (de_v (i := 4)) (de_ix (kb := .W) (de_v (i := 3)) de_int))))) (DE.toF (DE.n (k := .W) (de_v (i := 5)))) (de_un (ka := .W) und_neg de_int))))) ds_nx)))
      (ds_ret (de_un (ka := .W) und_neg de_int)))) rfl h)
theorem ok_l_pick (X : Tx T.K mg w) : FnOk P w T.K mg base CX0 1 X.l_pick.f X.l_pick.fd ["_law_way", "_law_k", "_law_above_here", "_law_below_here"] (spP T 4 d_l_pick) := by
  refine X.l_pick.F.ok sc_l_pick (fun vs H Q E h => spP_len h) (fun cdv A outer s H vs Q E hr h => fin_P (n := 4) (m := 0) (f := b_l_pick)
      (pss_cons (ps_if (pt_cmpR (op_eqP hr.units) (pv 0) pe_str (nomark _)) (pss_one (ps_ret (pv 2))) pss_nil)
      (pss_cons (ps_if (pt_cmpR (op_eqP hr.units) (pv 0) pe_str (nomark _)) (pss_one (ps_ret (pv 3))) pss_nil)
      (pss_cons (ps_if (PW.pt (pw_or (pt_cmpR op_lt (pv 2) pe_int (nomark _)) (pw_or1 (pt_cmpR op_lt (pv 3) pe_int (nomark _))))) (pss_one (ps_ret (pe_ifExp (pt_cmpR op_lt (pv 3) pe_int (nomark _)) (pv 2) (pv 3)))) pss_nil)
      (pss_cons (ps_if (pt_cmpR (op_eqP hr.units) (pe_op op_sub (pv 1) (pv 2)) (pe_op op_sub (pv 3) (pv 1)) (nomark _)) (pss_one (ps_ret (pe_ifExp (pt_cmpR (op_eqP hr.units) (pv 0) pe_str (nomark _)) (pv 2) (pv 3)))) pss_nil)
      (pss_one (ps_ret (pe_ifExp (pt_cmpR op_lt (pe_op op_sub (pv 1) (pv 2)) (pe_op op_sub (pv 3) (pv 1)) (nomark _)) (pv 2) (pv 3))))))))
      (ds_seq (ds_if (dt_test (k := .W) (de_op (k := .W) (ka := .W) (kb := .W) opd_eq (de_v (i := 0)) de_str)) (ds_ret (DE.toF (DE.n (k := .W) (de_v (i := 2))))) ds_nx)
      (ds_seq (ds_if (dt_test (k := .W) (de_op (k := .W) (ka := .W) (kb := .W) opd_eq (de_v (i := 0)) de_str)) (ds_ret (DE.toF (DE.n (k := .W) (de_v (i := 3))))) ds_nx)
      (ds_seq (ds_if (dt_or (dt_test (k := .W) (de_op (k := .W) (ka := .W) (kb := .W) opd_lt (de_v (i := 2)) de_int)) (dt_test (k := .W) (de_op (k := .W) (ka := .W) (kb := .W) opd_lt (de_v (i := 3)) de_int))) (ds_ret (de_if (dt_test (k := .W) (de_op (k := .W) (ka := .W) (kb := .W) opd_lt (de_v (i := 3)) de_int)) (DE.toF (DE.n (k := .W) (de_v (i := 2)))) (DE.toF (DE.n (k := .W) (de_v (i := 3)))))) ds_nx)
      (ds_seq (ds_if (dt_test (k := .W) (de_op (k := .W) (ka := .W) (kb := .W) opd_eq (de_op (ka := .W) (kb := .W) opd_sub (de_v (i := 1)) (de_v (i := 2))) (de_op (ka := .W) (kb := .W) opd_sub (de_v (i := 3)) (de_v (i := 1))))) (ds_ret (de_if (dt_test (k := .W) (de_op (k := .W) (ka := .W) (kb := .W) opd_eq (de_v (i := 0)) de_str)) (DE.toF (DE.n (k := .W) (de_v (i := 2)))) (DE.toF (DE.n (k := .W) (de_v (i := 3)))))) ds_nx)
      (ds_ret (de_if (dt_test (k := .W) (de_op (k := .W) (ka := .W) (kb := .W) opd_lt (de_op (ka := .W) (kb := .W) opd_sub (de_v (i := 1)) (de_v (i := 2))) (de_op (ka := .W) (kb := .W) opd_sub (de_v (i := 3)) (de_v (i := 1))))) (DE.toF (DE.n (k := .W) (de_v (i := 2)))) (DE.toF (DE.n (k := .W) (de_v (i := 3)))))))))) rfl h)
theorem ok_l_sources (X : Tx T.K mg w) : FnOk P w T.K mg base CX0 2 X.l_sources.f X.l_sources.fd ["_law_steps_here", "_law_table_here"] (spP T 2 d_l_sources) := by
  refine X.l_sources.F.ok sc_l_sources (fun vs H Q E h => spP_len h) (fun cdv A outer s H vs Q E hr h => fin_P (n := 2) (m := 10) (f := b_l_sources)
      (pss_cons (ps_setLc (i := 2) (own := [("_law_k", 3)]) rfl L.sc_l_sources.nd rfl rfl (sw_true rfl rfl rfl (by decide +kernel)) (pi_range1 (by rfl) X.n_range (pa_cons (pe_callB call_len (by rfl) X.n_len (by decide +kernel) (pa_cons (pv 1) pa_nil)) pa_nil)) (blkOk_by (own := [("_law_k", 3)]) (N := L.n_l_sources) (sc := defScope L.s_l_sources) (by decide +kernel)) (fun _ _ _ _ _ => (pg_name (i := 3) L.sc_l_sources.nd rfl (by first | exact .inl rfl | exact .inr rfl))) (fun _ _ _ _ _ => pts_nil) (fun _ _ _ _ _ => (pe_ifExp (pt_cmpR op_notN (pe_ix ix_seq (pe_ix ix_seq (pv 1) (pv 3) (fun _ _ => rfl)) pe_int (fun _ _ => rfl)) pe_non (nomark _)) (pv 3) (pe_un un_neg pe_int))))
      (pss_cons (ps_setLc (i := 4) (own := [("_law_row", 5)]) rfl L.sc_l_sources.nd rfl rfl (sw_true rfl rfl rfl (by decide +kernel)) (pi_list (pv 1)) (blkOk_by (own := [("_law_row", 5)]) (N := L.n_l_sources) (sc := defScope L.s_l_sources) (by decide +kernel)) (fun _ _ _ _ _ => (pg_name (i := 5) L.sc_l_sources.nd rfl (by first | exact .inl rfl | exact .inr rfl))) (fun _ _ _ _ _ => pts_nil) (fun _ _ _ _ _ => (pe_un un_neg pe_int)))
      (pss_cons (ps_for PassesOwn.never rfl (pi_range1 (by rfl) X.n_range (pa_cons (pe_callB call_len (by rfl) X.n_len (by decide +kernel) (pa_cons (pv 0) pa_nil)) pa_nil)) (pg_name (i := 6) L.sc_l_sources.nd rfl (by first | exact .inl rfl | exact .inr rfl)) (pss_cons (ps_set (i := 7) L.sc_l_sources.nd rfl (by first | exact .inl rfl | exact .inr rfl) (pe_ix ix_seq (pv 0) (pv 6) (fun _ _ => rfl)))
      (pss_cons (ps_if (pt_cmpR (op_eqP hr.units) (pe_ix ix_seq (pv 7) pe_int (fun _ _ => rfl)) pe_str (nomark _)) (pss_one (ps_ret (pe_tup (pa_cons (pv 2) (pa_cons (pv 4) (pa_cons (pv 6) pa_nil)))))) pss_nil)
      (pss_cons (ps_set (i := 8) L.sc_l_sources.nd rfl (by first | exact .inl rfl | exact .inr rfl) (pe_callTy call_list_of (by rfl) X.n_list (by decide +kernel) (pa_cons (pv 2) pa_nil)))
      (pss_one (ps_for PassesOwn.never rfl (pi_range1 (by rfl) X.n_range (pa_cons (pe_callB call_len (by rfl) X.n_len (by decide +kernel) (pa_cons (pv 1) pa_nil)) pa_nil)) (pg_name (i := 3) L.sc_l_sources.nd rfl (by first | exact .inl rfl | exact .inr rfl)) (pss_one (ps_if (pt_cmpR op_lt (pe_ix ix_seq (pv 8) (pv 3) (fun _ _ => rfl)) pe_int (nomark _)) (pss_cons (ps_set (i := 9) L.sc_l_sources.nd rfl (by first | exact .inl rfl | exact .inr rfl) (pe_call (L.ok_l_above X) (hr.mono (by decide)) (by rfl) X.l_above.m X.l_above.F.kp X.l_above.b .nil pass0 (pa_cons (pv 1) (pa_cons (pv 8) (pa_cons (pv 3) (pa_cons (pv 7) pa_nil))))))
      (pss_cons (ps_set (i := 10) L.sc_l_sources.nd rfl (by first | exact .inl rfl | exact .inr rfl) (pe_call (L.ok_l_below X) (hr.mono (by decide)) (by rfl) X.l_below.m X.l_below.F.kp X.l_below.b .nil pass0 (pa_cons (pv 1) (pa_cons (pv 8) (pa_cons (pv 3) (pa_cons (pv 7) pa_nil))))))
      (pss_cons (ps_set (i := 11) L.sc_l_sources.nd rfl (by first | exact .inl rfl | exact .inr rfl) (pe_call (L.ok_l_pick X) (hr.mono (by decide)) (by rfl) X.l_pick.m X.l_pick.F.kp X.l_pick.b .nil pass0 (pa_cons (pe_ix ix_seq (pv 7) pe_int (fun _ _ => rfl)) (pa_cons (pv 3) (pa_cons (pv 9) (pa_cons (pv 10) pa_nil))))))
      (pss_one (ps_if (pt_cmpR op_ge (pv 11) pe_int (nomark _)) (pss_cons (ps_asg (pe_ix ix_seq (pv 8) (pv 11) (fun _ _ => rfl)) (pg_sub (pv 2) (pv 3) set_list))
      (pss_one (ps_asg (pv 6) (pg_sub (pv 4) (pv 3) set_list)))) pss_nil))))) pss_nil))))))))
      (pss_one (ps_ret (pe_tup (pa_cons (pv 2) (pa_cons (pv 4) (pa_cons (pe_un un_neg pe_int) pa_nil)))))))))
      (ds_seq (ds_own (i := 2) (do_lc (own := [3]) (di_rg1 (k := .W) (da_cons (de_cb (ka := .W) cad_len (da_cons (de_v (i := 1)) da_nil)) da_nil)) (dg_n (i := 3)) dt_yes (de_if (dt_test (k := .W) (de_op (k := .W) (ka := .W) (kb := .W) opd_notN (de_ix (kb := .W) (de_ix (kb := .W) (de_v (i := 1)) (de_v (i := 3))) de_int) de_non)) (DE.n (k := .W) (de_v (i := 3))) (de_un (ka := .W) und_neg de_int)) (by decide)))
      (ds_seq (ds_own (i := 4) (do_lc (own := [5]) (di_lst (de_vS (i := 1))) (dg_n (i := 5)) dt_yes (de_un (ka := .W) und_neg de_int) (by decide)))
      (ds_seq (ds_for (di_rg1 (k := .W) (da_cons (de_cb (ka := .W) cad_len (da_cons (de_v (i := 0)) da_nil)) da_nil)) (dg_n (i := 6)) (ds_seq (ds_asg (i := 7) (DE.toF (DE.n (k := .W) (de_ix (kb := .W) (de_v (i := 0)) (de_v (i := 6))))))
      (ds_seq (ds_if (dt_test (k := .W) (de_op (k := .W) (ka := .W) (kb := .W) opd_eq (de_ix (kb := .W) (de_v (i := 7)) de_int) de_str)) (ds_frz 4 (ds_frz 2 (ds_ret (de_tup (da_cons (de_vF (i := 2)) (da_cons (de_vF (i := 4)) (da_cons (DE.toF (DE.n (k := .W) (de_v (i := 6)))) da_nil))))))) ds_nx)
      (ds_seq (ds_asg (i := 8) (DE.toF (DO.de (do_cb (ka := .W) cao_list (da_cons (de_v (i := 2)) da_nil)))))
      (ds_for (di_rg1 (k := .W) (da_cons (de_cb (ka := .W) cad_len (da_cons (de_v (i := 1)) da_nil)) da_nil)) (dg_n (i := 3)) (ds_if (dt_test (k := .W) (de_op (k := .W) (ka := .W) (kb := .W) opd_lt (de_ix (kb := .W) (de_v (i := 8)) (de_v (i := 3))) de_int)) (ds_seq (ds_asg (i := 9) (de_call (ka := .W) (da_cons (de_v (i := 1)) (da_cons (de_v (i := 8)) (da_cons (de_v (i := 3)) (da_cons (de_v (i := 7)) da_nil)))) (fun _ => .nil) L.len_l_above))
      (ds_seq (ds_asg (i := 10) (de_call (ka := .W) (da_cons (de_v (i := 1)) (da_cons (de_v (i := 8)) (da_cons (de_v (i := 3)) (da_cons (de_v (i := 7)) da_nil)))) (fun _ => .nil) L.len_l_below))
      (ds_seq (ds_asg (i := 11) (de_call (ka := .W) (da_cons (de_ix (kb := .W) (de_v (i := 7)) de_int) (da_cons (de_v (i := 3)) (da_cons (de_v (i := 9)) (da_cons (de_v (i := 10)) da_nil)))) (fun _ => .nil) L.len_l_pick))
      (ds_if (dt_test (k := .W) (de_op (k := .W) (ka := .W) (kb := .W) opd_ge (de_v (i := 11)) de_int)) (ds_seq (ds_setI (k := .W) (kb := .W) (i := 2) (de_ix (kb := .W) (de_v (i := 8)) (de_v (i := 11))) (de_v (i := 3)))
      (ds_setI (k := .W) (kb := .W) (i := 4) (de_v (i := 6)) (de_v (i := 3)))) ds_nx)))) ds_nx))))))
      (ds_frz 4 (ds_frz 2 (ds_ret (de_tup (da_cons (de_vF (i := 2)) (da_cons (de_vF (i := 4)) (da_cons (de_un (ka := .W) und_neg de_int) da_nil)))))))))) rfl h)
theorem ok_l_shown (X : Tx T.K mg w) : FnOk P w T.K mg base CX0 3 X.l_shown.f X.l_shown.fd ["_law_steps_here", "_law_table_here"] (spP T 2 d_l_shown) := by
  refine X.l_shown.F.ok sc_l_shown (fun vs H Q E h => spP_len h) (fun cdv A outer s H vs Q E hr h => fin_P (n := 2) (m := 5) (f := b_l_shown)
      (pss_cons (ps_asg (pe_call (L.ok_l_sources X) (hr.mono (by decide)) (by rfl) X.l_sources.m X.l_sources.F.kp X.l_sources.b .nil pass0 (pa_cons (pv 0) (pa_cons (pv 1) pa_nil))) (pg_tup rfl (pgs_cons (pg_name (i := 2) L.sc_l_shown.nd rfl (by first | exact .inl rfl | exact .inr rfl)) (pgs_cons (pg_name (i := 3) L.sc_l_shown.nd rfl (by first | exact .inl rfl | exact .inr rfl)) (pgs_cons (pg_name (i := 4) L.sc_l_shown.nd rfl (by first | exact .inl rfl | exact .inr rfl)) pgs_nil)))))
      (pss_cons (ps_set (i := 5) L.sc_l_shown.nd rfl (by first | exact .inl rfl | exact .inr rfl) (pe_ifExp (pt_cmpR op_lt (pv 4) pe_int (nomark _)) pe_non pe_str))
      (pss_one (ps_ret (pe_lc (own := [("_law_at", 6)]) rfl L.sc_l_shown.nd (pi_list (pv 2)) (blkOk_by (own := [("_law_at", 6)]) (N := L.n_l_shown) (sc := defScope L.s_l_shown) (by decide +kernel)) (fun _ _ _ _ _ => (pg_name (i := 6) L.sc_l_shown.nd rfl (by first | exact .inl rfl | exact .inr rfl))) (fun _ _ _ _ _ => pts_nil) (fun _ _ _ _ _ => (pe_ifExp (pt_cmpR op_lt (pv 6) pe_int (nomark _)) (pv 5) (pe_ix ix_seq (pe_ix ix_seq (pv 1) (pv 6) (fun _ _ => rfl)) pe_int (fun _ _ => rfl)))))))))
      (ds_seq (ds_asgG (de_call (ka := .W) (da_cons (de_v (i := 0)) (da_cons (de_v (i := 1)) da_nil)) (fun _ => .nil) L.len_l_sources) (dg_t (dgsCons_len (dgsCons_len (dgsCons_len dgsNil_len))) (dgs_cons (dg_n (i := 2)) (dgs_cons (dg_n (i := 3)) (dgs_cons (dg_n (i := 4)) dgs_nil)))))
      (ds_seq (ds_asg (i := 5) (de_if (dt_test (k := .W) (de_op (k := .W) (ka := .W) (kb := .W) opd_lt (de_v (i := 4)) de_int)) de_non de_str))
      (ds_ret (DE.toF (DO.de (do_lc (own := [6]) (di_lst (de_vS (i := 2))) (dg_n (i := 6)) dt_yes (de_if (dt_test (k := .W) (de_op (k := .W) (ka := .W) (kb := .W) opd_lt (de_v (i := 6)) de_int)) (DE.n (k := .W) (de_v (i := 5))) (DE.n (k := .W) (de_ix (kb := .W) (de_ix (kb := .W) (de_v (i := 1)) (de_v (i := 6))) de_int))) (by decide))))))) rfl h)
theorem ok_l_remains (X : Tx T.K mg w) : FnOk P w T.K mg base CX0 4 X.l_remains.f X.l_remains.fd ["_law_steps_here", "_law_table_here"] (spP T 2 d_l_remains) := by
  refine X.l_remains.F.ok sc_l_remains (fun vs H Q E h => spP_len h) (fun cdv A outer s H vs Q E hr h => fin_P (n := 2) (m := 4) (f := b_l_remains)
      (pss_cons (ps_set (i := 2) L.sc_l_remains.nd rfl (by first | exact .inl rfl | exact .inr rfl) (pe_call (L.ok_l_shown X) (hr.mono (by decide)) (by rfl) X.l_shown.m X.l_shown.F.kp X.l_shown.b .nil pass0 (pa_cons (pv 0) (pa_cons (pv 1) pa_nil))))
      (pss_cons (ps_set (i := 3) L.sc_l_remains.nd rfl (by first | exact .inl rfl | exact .inr rfl) pe_int)
      (pss_cons (ps_set (i := 4) L.sc_l_remains.nd rfl (by first | exact .inl rfl | exact .inr rfl) (pe_lst pa_nil))
      (pss_cons (ps_for PassesOwn.never rfl (pi_range1 (by rfl) X.n_range (pa_cons (pe_callB call_len (by rfl) X.n_len (by decide +kernel) (pa_cons (pv 1) pa_nil)) pa_nil)) (pg_name (i := 5) L.sc_l_remains.nd rfl (by first | exact .inl rfl | exact .inr rfl)) (pss_cons (ps_if (pt_cmpR op_gt (pe_ix ix_seq (pe_ix ix_seq (pv 1) (pv 5) (fun _ _ => rfl)) pe_int (fun _ _ => rfl)) (pv 3) (nomark _)) (pss_one (ps_set (i := 3) L.sc_l_remains.nd rfl (by first | exact .inl rfl | exact .inr rfl) (pe_ix ix_seq (pe_ix ix_seq (pv 1) (pv 5) (fun _ _ => rfl)) pe_int (fun _ _ => rfl)))) pss_nil)
      (pss_one (ps_if (pt_cmpR (op_neP hr.units) (pe_ix ix_seq (pv 2) (pv 5) (fun _ _ => rfl)) pe_str (nomark _)) (pss_cons (ps_expr (pe_bm PySem.F.plainAttrs_list PySem.F.slot_list_append PySem.F.type_list_append mt_append (pv 4) (pa_cons (pe_tup (pa_cons (pe_ix ix_seq (pe_ix ix_seq (pv 1) (pv 5) (fun _ _ => rfl)) pe_int (fun _ _ => rfl)) (pa_cons (pv 3) (pa_cons (pe_ix ix_seq (pv 2) (pv 5) (fun _ _ => rfl)) pa_nil)))) pa_nil)))
      (pss_one (ps_set (i := 3) L.sc_l_remains.nd rfl (by first | exact .inl rfl | exact .inr rfl) pe_int))) pss_nil))))
      (pss_one (ps_ret (pv 4)))))))
      (ds_seq (ds_asg (i := 2) (de_call (ka := .W) (da_cons (de_v (i := 0)) (da_cons (de_v (i := 1)) da_nil)) (fun _ => .nil) L.len_l_shown))
      (ds_seq (ds_asg (i := 3) de_int)
      (ds_seq (ds_own (i := 4) (do_lst da_nil))
      (ds_seq (ds_for (di_rg1 (k := .W) (da_cons (de_cb (ka := .W) cad_len (da_cons (de_v (i := 1)) da_nil)) da_nil)) (dg_n (i := 5)) (ds_seq (ds_if (dt_test (k := .W) (de_op (k := .W) (ka := .W) (kb := .W) opd_gt (de_ix (kb := .W) (de_ix (kb := .W) (de_v (i := 1)) (de_v (i := 5))) de_int) (de_v (i := 3)))) (ds_asg (i := 3) (DE.toF (DE.n (k := .W) (de_ix (kb := .W) (de_ix (kb := .W) (de_v (i := 1)) (de_v (i := 5))) de_int)))) ds_nx)
      (ds_if (dt_test (k := .W) (de_op (k := .W) (ka := .W) (kb := .W) opd_ne (de_ix (kb := .W) (de_v (i := 2)) (de_v (i := 5))) de_str)) (ds_seq (ds_app (k := .W) (i := 4) (de_tup (da_cons (de_ix (kb := .W) (de_ix (kb := .W) (de_v (i := 1)) (de_v (i := 5))) de_int) (da_cons (de_v (i := 3)) (da_cons (de_ix (kb := .W) (de_v (i := 2)) (de_v (i := 5))) da_nil)))))
      (ds_asg (i := 3) de_int)) ds_nx)))
      (ds_frz 4 (ds_ret (de_vF (i := 4)))))))) rfl h)
theorem ok_l_same (X : Tx T.K mg w) : ∀ k : Nat, FnOk P w T.K mg base CX0 k X.l_same.f X.l_same.fd ["_law_told", "_law_due"] (spP T 2 (d_l_same k))
  | 0 => ⟨fun vs H Q E h => spP_len h, fun A outer s H args us vs Q E hr he hb hv h => by obtain ⟨ds, _, _, h3⟩ := h; exact h3.elim⟩
  | k + 1 => by
    have IH := ok_l_same X k
    have lenF := L.len_l_same k
    refine X.l_same.F.ok sc_l_same (fun vs H Q E h => spP_len h) (fun cdv A outer s H vs Q E hr h => fin_P (n := 2) (m := 1) (f := b_l_same (d_l_same k))
      (pss_cons (ps_if (PW.pt (pw_or (pt_truth (pe_callB call_isi (by rfl) X.n_isinstance (by decide +kernel) (pa_cons (pv 1) (pa_cons (pe_bltn (v := .ty "tuple") (by rfl) X.n_tuple (by decide +kernel) rfl) pa_nil))) (by intro _; rfl)) (pw_or1 (pt_truth (pe_callB call_isi (by rfl) X.n_isinstance (by decide +kernel) (pa_cons (pv 1) (pa_cons (pe_bltn (v := .ty "list") (by rfl) X.n_list (by decide +kernel) rfl) pa_nil))) (by intro _; rfl))))) (pss_cons (ps_if (PW.pt (pw_and (pt_truth (pe_callB call_isi (by rfl) X.n_isinstance (by decide +kernel) (pa_cons (pv 1) (pa_cons (pe_bltn (v := .ty "tuple") (by rfl) X.n_tuple (by decide +kernel) rfl) pa_nil))) (by intro _; rfl)) (pw_and1 (pt_not (pt_truth (pe_callB call_isi (by rfl) X.n_isinstance (by decide +kernel) (pa_cons (pv 0) (pa_cons (pe_bltn (v := .ty "tuple") (by rfl) X.n_tuple (by decide +kernel) rfl) pa_nil))) (by intro _; rfl)))))) (pss_one (ps_ret pe_bl)) pss_nil)
      (pss_cons (ps_if (PW.pt (pw_and (pt_truth (pe_callB call_isi (by rfl) X.n_isinstance (by decide +kernel) (pa_cons (pv 1) (pa_cons (pe_bltn (v := .ty "list") (by rfl) X.n_list (by decide +kernel) rfl) pa_nil))) (by intro _; rfl)) (pw_and1 (pt_not (pt_truth (pe_callB call_isi (by rfl) X.n_isinstance (by decide +kernel) (pa_cons (pv 0) (pa_cons (pe_bltn (v := .ty "list") (by rfl) X.n_list (by decide +kernel) rfl) pa_nil))) (by intro _; rfl)))))) (pss_one (ps_ret pe_bl)) pss_nil)
      (pss_cons (ps_if (pt_cmpR (op_neP hr.units) (pe_callB call_len (by rfl) X.n_len (by decide +kernel) (pa_cons (pv 0) pa_nil)) (pe_callB call_len (by rfl) X.n_len (by decide +kernel) (pa_cons (pv 1) pa_nil)) (nomark _)) (pss_one (ps_ret pe_bl)) pss_nil)
      (pss_cons (ps_for PassesOwn.never rfl (pi_range1 (by rfl) X.n_range (pa_cons (pe_callB call_len (by rfl) X.n_len (by decide +kernel) (pa_cons (pv 1) pa_nil)) pa_nil)) (pg_name (i := 2) L.sc_l_same.nd rfl (by first | exact .inl rfl | exact .inr rfl)) (pss_one (ps_if (pt_not (pt_truth (pe_call IH (hr.mono (by omega)) (by rfl) X.l_same.m X.l_same.F.kp X.l_same.b .nil pass0 (pa_cons (pe_ix ix_seq (pv 0) (pv 2) (fun _ _ => rfl)) (pa_cons (pe_ix ix_seq (pv 1) (pv 2) (fun _ _ => rfl)) pa_nil))) (by intro _; rfl))) (pss_one (ps_ret pe_bl)) pss_nil)))
      (pss_one (ps_ret pe_bl)))))) pss_nil)
      (pss_cons (ps_if (pt_cmpR op_isN (pv 1) pe_non (nomark _)) (pss_one (ps_ret (pe_cmpR op_isN (pv 0) pe_non (nomark _)))) pss_nil)
      (pss_cons (ps_if (PW.pt (pw_or (pt_cmpR op_isTF (pv 1) pe_bl (nomark _)) (pw_or1 (pt_cmpR op_isTF (pv 1) pe_bl (nomark _))))) (pss_one (ps_ret (pe_and (pe_callB call_isi (by rfl) X.n_isinstance (by decide +kernel) (pa_cons (pv 0) (pa_cons (pe_bltn (v := .ty "bool") (by rfl) X.n_bool (by decide +kernel) rfl) pa_nil))) (pe_one (pe_cmpR (op_eqP hr.units) (pv 0) (pv 1) (nomark _)))))) pss_nil)
      (pss_cons (ps_if (pt_truth (pe_callB call_isi (by rfl) X.n_isinstance (by decide +kernel) (pa_cons (pv 1) (pa_cons (pe_bltn (v := .ty "str") (by rfl) X.n_str (by decide +kernel) rfl) pa_nil))) (by intro _; rfl)) (pss_one (ps_ret (pe_and (pe_callB call_isi (by rfl) X.n_isinstance (by decide +kernel) (pa_cons (pv 0) (pa_cons (pe_bltn (v := .ty "str") (by rfl) X.n_str (by decide +kernel) rfl) pa_nil))) (pe_one (pe_cmpR (op_eqP hr.units) (pv 0) (pv 1) (nomark _)))))) pss_nil)
      (pss_one (ps_ret (pe_and (pe_callB call_isi (by rfl) X.n_isinstance (by decide +kernel) (pa_cons (pv 0) (pa_cons (pe_bltn (v := .ty "int") (by rfl) X.n_int (by decide +kernel) rfl) pa_nil))) (pe_and (pe_not (pe_callB call_isi (by rfl) X.n_isinstance (by decide +kernel) (pa_cons (pv 0) (pa_cons (pe_bltn (v := .ty "bool") (by rfl) X.n_bool (by decide +kernel) rfl) pa_nil)))) (pe_one (pe_cmpR (op_eqP hr.units) (pv 0) (pv 1) (nomark _)))))))))))
      (ds_seq (ds_if (dt_or (dt_tru (k := .W) (de_cb (ka := .W) cad_isi (da_cons (de_v (i := 1)) (da_cons de_ty da_nil)))) (dt_tru (k := .W) (de_cb (ka := .W) cad_isi (da_cons (de_v (i := 1)) (da_cons de_ty da_nil))))) (ds_seq (ds_if (dt_and (dt_tru (k := .W) (de_cb (ka := .W) cad_isi (da_cons (de_v (i := 1)) (da_cons de_ty da_nil)))) (dt_not (dt_tru (k := .W) (de_cb (ka := .W) cad_isi (da_cons (de_v (i := 0)) (da_cons de_ty da_nil)))))) (ds_ret de_bl) ds_nx)
      (ds_seq (ds_if (dt_and (dt_tru (k := .W) (de_cb (ka := .W) cad_isi (da_cons (de_v (i := 1)) (da_cons de_ty da_nil)))) (dt_not (dt_tru (k := .W) (de_cb (ka := .W) cad_isi (da_cons (de_v (i := 0)) (da_cons de_ty da_nil)))))) (ds_ret de_bl) ds_nx)
      (ds_seq (ds_if (dt_test (k := .W) (de_op (k := .W) (ka := .W) (kb := .W) opd_ne (de_cb (ka := .W) cad_len (da_cons (de_v (i := 0)) da_nil)) (de_cb (ka := .W) cad_len (da_cons (de_v (i := 1)) da_nil)))) (ds_ret de_bl) ds_nx)
      (ds_seq (ds_for (di_rg1 (k := .W) (da_cons (de_cb (ka := .W) cad_len (da_cons (de_v (i := 1)) da_nil)) da_nil)) (dg_n (i := 2)) (ds_if (dt_not (dt_tru (k := .W) (de_call (ka := .W) (da_cons (de_ix (kb := .W) (de_v (i := 0)) (de_v (i := 2))) (da_cons (de_ix (kb := .W) (de_v (i := 1)) (de_v (i := 2))) da_nil)) (fun _ => .nil) lenF))) (ds_ret de_bl) ds_nx))
      (ds_ret de_bl))))) ds_nx)
      (ds_seq (ds_if (dt_test (k := .W) (de_op (k := .W) (ka := .W) (kb := .W) opd_isN (de_v (i := 1)) de_non)) (ds_ret (de_op (ka := .W) (kb := .W) opd_isN (de_v (i := 0)) de_non)) ds_nx)
      (ds_seq (ds_if (dt_or (dt_test (k := .W) (de_op (k := .W) (ka := .W) (kb := .W) opd_isTF (de_v (i := 1)) de_bl)) (dt_test (k := .W) (de_op (k := .W) (ka := .W) (kb := .W) opd_isTF (de_v (i := 1)) de_bl))) (ds_ret (de_andV (ka := .W) (de_cb (ka := .W) cad_isi (da_cons (de_v (i := 0)) (da_cons de_ty da_nil))) (de_op (ka := .W) (kb := .W) opd_eq (de_v (i := 0)) (de_v (i := 1))))) ds_nx)
      (ds_seq (ds_if (dt_tru (k := .W) (de_cb (ka := .W) cad_isi (da_cons (de_v (i := 1)) (da_cons de_ty da_nil)))) (ds_ret (de_andV (ka := .W) (de_cb (ka := .W) cad_isi (da_cons (de_v (i := 0)) (da_cons de_ty da_nil))) (de_op (ka := .W) (kb := .W) opd_eq (de_v (i := 0)) (de_v (i := 1))))) ds_nx)
      (ds_ret (de_andV (ka := .W) (de_cb (ka := .W) cad_isi (da_cons (de_v (i := 0)) (da_cons de_ty da_nil))) (de_andV (ka := .W) (de_notV (ka := .W) (de_cb (ka := .W) cad_isi (da_cons (de_v (i := 0)) (da_cons de_ty da_nil)))) (de_op (ka := .W) (kb := .W) opd_eq (de_v (i := 0)) (de_v (i := 1)))))))))) rfl h)
theorem ok_law (X : Tx T.K mg w) (hm : ∀ ns : List Int, ns.length ≤ 63 → ∃ d x Γ', d_l_pool [.fz (ns.map D.int)] = .ok d ∧ drOf d = some x ∧ b_law X.Script.C (Slot.im (.fz (ns.map D.int)) :: Slot.dr x :: List.replicate 6 .emp) = .ok (.rt (.bl true), Γ')) :
    FnOk P w T.K mg base CX0 8 X.law.f X.law.fd ["_law_script"] (spLaw T.K) := by
  refine X.law.F.ok sc_law (fun vs H Q E h => spLaw_len h) (fun cdv A outer s H vs Q E hr h => law_fin (m := 6) (f2 := b_law X.Script.C)
      (pss_cons (ps_set (i := 1) L.sc_law.nd rfl (by first | exact .inl rfl | exact .inr rfl) (pe_call (L.ok_l_pool X) (hr.mono (by decide)) (by rfl) X.l_pool.m X.l_pool.F.kp X.l_pool.b .nil pass0 (pa_cons (pv 0) pa_nil)))
      (pss_cons (ps_set (i := 2) L.sc_law.nd rfl (by first | exact .inl rfl | exact .inr rfl) (pe_call (L.ok_l_steps X) (hr.mono (by decide)) (by rfl) X.l_steps.m X.l_steps.F.kp X.l_steps.b .nil pass0 (pa_cons (pv 1) (pa_cons pe_int (pa_cons pe_int pa_nil)))))
      (pss_cons (ps_if (PW.pt (pw_and (pt_cmpR (op_eqP hr.units) (pe_call (L.ok_l_take X) (hr.mono (by decide)) (by rfl) X.l_take.m X.l_take.F.kp X.l_take.b .nil pass0 (pa_cons (pv 1) (pa_cons pe_int pa_nil))) pe_int (nomark _)) (pw_and1 (pt_cmpR op_lt (pe_callB call_len (by rfl) X.n_len (by decide +kernel) (pa_cons (pv 2) pa_nil)) pe_int (nomark _))))) (pss_one (ps_expr (pe_bm PySem.F.plainAttrs_list PySem.F.slot_list_append PySem.F.type_list_append mt_append (pv 2) (pa_cons (pe_tup (pa_cons pe_str (pa_cons pe_non (pa_cons pe_non (pa_cons pe_int pa_nil))))) pa_nil)))) pss_nil)
      (pss_cons (ps_set (i := 3) L.sc_law.nd rfl (by first | exact .inl rfl | exact .inr rfl) (pe_call (L.ok_l_table X) (hr.mono (by decide)) (by rfl) X.l_table.m X.l_table.F.kp X.l_table.b .nil pass0 (pa_cons (pv 1) (pa_cons pe_int pa_nil))))
      (pss_cons (ps_set (i := 4) L.sc_law.nd rfl (by first | exact .inl rfl | exact .inr rfl) (pe_call (L.ok_l_made X) (hr.mono (by decide)) (by rfl) X.l_made.m X.l_made.F.kp X.l_made.b .nil pass0 (pa_cons (pv 1) (pa_cons (pv 2) pa_nil))))
      (pss_cons (ps_set (i := 5) L.sc_law.nd rfl (by first | exact .inl rfl | exact .inr rfl) (pe_callTy call_list_of (by rfl) X.n_list (by decide +kernel) (pa_cons (pv 3) pa_nil)))
      (pss_cons (ps_set (i := 6) L.sc_law.nd rfl (by first | exact .inl rfl | exact .inr rfl) (pe_call (L.ok_l_remains X) (hr.mono (by decide)) (by rfl) X.l_remains.m X.l_remains.F.kp X.l_remains.b .nil pass0 (pa_cons (pv 2) (pa_cons (pv 3) pa_nil))))
      (pss_cons (ps_set (i := 7) L.sc_law.nd rfl (by first | exact .inl rfl | exact .inr rfl) (StX.pe_callO (pv 4) ⟨X.Script___call__.at_, X.Script___call__.fn, X.fi_Script___call__⟩ (fnR_at (L.ok_Script___call__ X) X.Script___call__.b) (hr.mono (by decide)) pass0 (pa_cons (pv 5) pa_nil)))
      (pss_cons (ps_if (PW.pt (pw_or (pt_not (pt_truth (pe_call (L.ok_l_same X 7) (hr.mono (by decide)) (by rfl) X.l_same.m X.l_same.F.kp X.l_same.b .nil pass0 (pa_cons (pv 7) (pa_cons (pv 6) pa_nil))) (by intro _; rfl))) (pw_or1 (pt_not (pt_truth (pe_call (L.ok_l_same X 7) (hr.mono (by decide)) (by rfl) X.l_same.m X.l_same.F.kp X.l_same.b .nil pass0 (pa_cons (pv 5) (pa_cons (pv 3) pa_nil))) (by intro _; rfl)))))) (pss_one (ps_ret pe_bl)) pss_nil)
      (pss_cons (ps_expr (pe_bm PySem.F.plainAttrs_list PySem.F.slot_list_append PySem.F.type_list_append mt_append (pv 7) (pa_cons (pe_tup (pa_cons pe_int (pa_cons pe_int (pa_cons pe_int pa_nil)))) pa_nil)))
      (pss_cons (ps_if (pt_not (pt_truth (pe_call (L.ok_l_same X 7) (hr.mono (by decide)) (by rfl) X.l_same.m X.l_same.F.kp X.l_same.b .nil pass0 (pa_cons (StX.pe_callO (pv 4) ⟨X.Script___call__.at_, X.Script___call__.fn, X.fi_Script___call__⟩ (fnR_at (L.ok_Script___call__ X) X.Script___call__.b) (hr.mono (by decide)) pass0 (pa_cons (pv 5) pa_nil)) (pa_cons (pv 6) pa_nil))) (by intro _; rfl))) (pss_one (ps_ret pe_bl)) pss_nil)
      (pss_cons (ps_expr (pe_bm PySem.F.plainAttrs_list PySem.F.slot_list_append PySem.F.type_list_append mt_append (pv 5) (pa_cons (pe_tup (pa_cons (pe_op op_pow pe_int pe_int) (pa_cons pe_int (pa_cons pe_int pa_nil)))) pa_nil)))
      (pss_cons (ps_if (pt_not (pt_truth (pe_call (L.ok_l_same X 7) (hr.mono (by decide)) (by rfl) X.l_same.m X.l_same.F.kp X.l_same.b .nil pass0 (pa_cons (StX.pe_callO (pv 4) ⟨X.Script___call__.at_, X.Script___call__.fn, X.fi_Script___call__⟩ (fnR_at (L.ok_Script___call__ X) X.Script___call__.b) (hr.mono (by decide)) pass0 (pa_cons (pv 5) pa_nil)) (pa_cons (pe_call (L.ok_l_remains X) (hr.mono (by decide)) (by rfl) X.l_remains.m X.l_remains.F.kp X.l_remains.b .nil pass0 (pa_cons (pv 2) (pa_cons (pv 5) pa_nil))) pa_nil))) (by intro _; rfl))) (pss_one (ps_ret pe_bl)) pss_nil)
      (pss_cons (ps_asg (pe_tup (pa_cons pe_int (pa_cons pe_int (pa_cons pe_int pa_nil)))) (pg_sub (pv 5) pe_int set_list))
      (pss_cons (ps_if (pt_not (pt_truth (pe_call (L.ok_l_same X 7) (hr.mono (by decide)) (by rfl) X.l_same.m X.l_same.F.kp X.l_same.b .nil pass0 (pa_cons (StX.pe_callO (pv 4) ⟨X.Script___call__.at_, X.Script___call__.fn, X.fi_Script___call__⟩ (fnR_at (L.ok_Script___call__ X) X.Script___call__.b) (hr.mono (by decide)) pass0 (pa_cons (pv 5) pa_nil)) (pa_cons (pe_call (L.ok_l_remains X) (hr.mono (by decide)) (by rfl) X.l_remains.m X.l_remains.F.kp X.l_remains.b .nil pass0 (pa_cons (pv 2) (pa_cons (pv 5) pa_nil))) pa_nil))) (by intro _; rfl))) (pss_one (ps_ret pe_bl)) pss_nil)
      (pss_one (ps_ret (pe_call (L.ok_l_same X 7) (hr.mono (by decide)) (by rfl) X.l_same.m X.l_same.F.kp X.l_same.b .nil pass0 (pa_cons (StX.pe_callO (pe_make (mk_atD X.Script X.Script___init__) (L.ok_Script___init__ X) (hr.mono (by decide)) (by rfl) X.Script.m X.Script___init__.b .nil pass0 (pa_cons (pv 2) pa_nil)) ⟨X.Script___call__.at_, X.Script___call__.fn, X.fi_Script___call__⟩ (fnR_at (L.ok_Script___call__ X) X.Script___call__.b) (hr.mono (by decide)) pass0 (pa_cons (pe_slice sl_any (pv 3) po_none (po_some pe_int)) pa_nil)) (pa_cons (pe_call (L.ok_l_remains X) (hr.mono (by decide)) (by rfl) X.l_remains.m X.l_remains.F.kp X.l_remains.b .nil pass0 (pa_cons (pv 2) (pa_cons (pe_slice sl_any (pv 3) po_none (po_some pe_int)) pa_nil))) pa_nil))))))))))))))))))))
      (ds_seq (ds_own (i := 2) (do_callD (ka := .W) (da_cons de_int (da_cons de_int da_nil)) L.len_l_steps))
      (ds_seq (ds_if (dt_and (dt_test (k := .W) (de_op (k := .W) (ka := .W) (kb := .W) opd_eq (de_callD (ka := .W) (da_cons de_int da_nil) L.len_l_take) de_int)) (dt_test (k := .W) (de_op (k := .W) (ka := .W) (kb := .W) opd_lt (de_cb (ka := .W) cad_len (da_cons (de_v (i := 2)) da_nil)) de_int))) (ds_app (k := .W) (i := 2) (de_tup (da_cons de_str (da_cons de_non (da_cons de_non (da_cons de_int da_nil)))))) ds_nx)
      (ds_seq (ds_asg (i := 3) (de_callD (ka := .W) (da_cons de_int da_nil) L.len_l_table))
      (ds_seq (ds_asg (i := 4) (de_callD (ka := .W) (da_cons (de_v (i := 2)) da_nil) (L.len_l_made X.Script.C)))
      (ds_seq (ds_own (i := 5) (do_cb (ka := .W) cao_list (da_cons (de_v (i := 3)) da_nil)))
      (ds_seq (ds_asg (i := 6) (de_call (ka := .W) (da_cons (de_v (i := 2)) (da_cons (de_v (i := 3)) da_nil)) (fun _ => .nil) L.len_l_remains))
      (ds_seq (ds_own (i := 7) (do_callOO (C := X.Script.C) (ka := .W) (kb := .W) (F := (L.d_Script___call__ X.Script.C)) (de_v (i := 4)) (da_cons (de_v (i := 5)) da_nil) (L.len_Script___call__ X.Script.C)))
      (ds_seq (ds_if (dt_or (dt_not (dt_tru (k := .W) (de_call (ka := .W) (da_cons (de_v (i := 7)) (da_cons (de_v (i := 6)) da_nil)) (fun _ => .nil) (L.len_l_same 7)))) (dt_not (dt_tru (k := .W) (de_call (ka := .W) (da_cons (de_v (i := 5)) (da_cons (de_v (i := 3)) da_nil)) (fun _ => .nil) (L.len_l_same 7))))) (ds_ret de_bl) ds_nx)
      (ds_seq (ds_app (k := .W) (i := 7) (de_tup (da_cons de_int (da_cons de_int (da_cons de_int da_nil)))))
      (ds_seq (ds_if (dt_not (dt_tru (k := .W) (de_call (ka := .W) (da_cons (de_callO (C := X.Script.C) (ka := .W) (kb := .W) (F := (L.d_Script___call__ X.Script.C)) (de_v (i := 4)) (da_cons (de_v (i := 5)) da_nil) (L.len_Script___call__ X.Script.C)) (da_cons (de_v (i := 6)) da_nil)) (fun _ => .nil) (L.len_l_same 7)))) (ds_ret de_bl) ds_nx)
      (ds_seq (ds_app (k := .W) (i := 5) (de_tup (da_cons (de_op (ka := .W) (kb := .W) opd_pow de_int de_int) (da_cons de_int (da_cons de_int da_nil)))))
      (ds_seq (ds_if (dt_not (dt_tru (k := .W) (de_call (ka := .W) (da_cons (de_callO (C := X.Script.C) (ka := .W) (kb := .W) (F := (L.d_Script___call__ X.Script.C)) (de_v (i := 4)) (da_cons (de_v (i := 5)) da_nil) (L.len_Script___call__ X.Script.C)) (da_cons (de_call (ka := .W) (da_cons (de_v (i := 2)) (da_cons (de_v (i := 5)) da_nil)) (fun _ => .nil) L.len_l_remains) da_nil)) (fun _ => .nil) (L.len_l_same 7)))) (ds_ret de_bl) ds_nx)
      (ds_seq (ds_setI (k := .W) (kb := .W) (i := 5) (de_tup (da_cons de_int (da_cons de_int (da_cons de_int da_nil)))) de_int)
      (ds_seq (ds_if (dt_not (dt_tru (k := .W) (de_call (ka := .W) (da_cons (de_callO (C := X.Script.C) (ka := .W) (kb := .W) (F := (L.d_Script___call__ X.Script.C)) (de_v (i := 4)) (da_cons (de_v (i := 5)) da_nil) (L.len_Script___call__ X.Script.C)) (da_cons (de_call (ka := .W) (da_cons (de_v (i := 2)) (da_cons (de_v (i := 5)) da_nil)) (fun _ => .nil) L.len_l_remains) da_nil)) (fun _ => .nil) (L.len_l_same 7)))) (ds_ret de_bl) ds_nx)
      (ds_ret (de_call (ka := .W) (da_cons (de_callO (C := X.Script.C) (ka := .W) (kb := .W) (F := (L.d_Script___call__ X.Script.C)) (de_make (ka := .W) (da_cons (de_v (i := 2)) da_nil) (fun _ => .nil) L.len_Script___init__) (da_cons (DE.toW (DO.de (do_sl (k := .W) (de_v (i := 3)) dp_none (dp_some (k := .W) de_int)))) da_nil) (L.len_Script___call__ X.Script.C)) (da_cons (de_call (ka := .W) (da_cons (de_v (i := 2)) (da_cons (DE.toW (DO.de (do_sl (k := .W) (de_v (i := 3)) dp_none (dp_some (k := .W) de_int)))) da_nil)) (fun _ => .nil) L.len_l_remains) da_nil)) (fun _ => .nil) (L.len_l_same 7))))))))))))))))) rfl hm h)
end
end L

set_option Elab.async false
set_option linter.all false
set_option maxRecDepth 100000
set_option maxHeartbeats 4000000
namespace L
open PySem PySem.Spec PyProof.Rows L2 DL
theorem mk_all {w : World}  {K : PySem.W.Frag} {h : Heap} {mg : Str → Option Value} (X : K.In h) (G : h.Ns mainGlobals mg) {C_Script : Addr} {fo_Script ro_Script : Option Value} {rg_Script : Addr} {tk_Script_MOST : Tok} {f0 : Addr} {od0 an0 : Option Addr} {sl0 : Array (Option Value)} {oc0 kV0 dc0 pm0 cd0 ct0 : Value} {f1 : Addr} {od1 an1 : Option Addr} {sl1 : Array (Option Value)} {oc1 kV1 dc1 pm1 cd1 ct1 : Value} {f2 : Addr} {od2 an2 : Option Addr} {sl2 : Array (Option Value)} {oc2 kV2 dc2 pm2 cd2 ct2 : Value} {f3 : Addr} {od3 an3 : Option Addr} {sl3 : Array (Option Value)} {oc3 kV3 dc3 pm3 cd3 ct3 : Value} {f4 : Addr} {od4 an4 : Option Addr} {sl4 : Array (Option Value)} {oc4 kV4 dc4 pm4 cd4 ct4 : Value} {f5 : Addr} {od5 an5 : Option Addr} {sl5 : Array (Option Value)} {oc5 kV5 dc5 pm5 cd5 ct5 : Value} {f6 : Addr} {od6 an6 : Option Addr} {sl6 : Array (Option Value)} {oc6 kV6 dc6 pm6 cd6 ct6 : Value} {f7 : Addr} {od7 an7 : Option Addr} {sl7 : Array (Option Value)} {oc7 kV7 dc7 pm7 cd7 ct7 : Value} {f8 : Addr} {od8 an8 : Option Addr} {sl8 : Array (Option Value)} {oc8 kV8 dc8 pm8 cd8 ct8 : Value} {f9 : Addr} {od9 an9 : Option Addr} {sl9 : Array (Option Value)} {oc9 kV9 dc9 pm9 cd9 ct9 : Value} {f10 : Addr} {od10 an10 : Option Addr} {sl10 : Array (Option Value)} {oc10 kV10 dc10 pm10 cd10 ct10 : Value} {f11 : Addr} {od11 an11 : Option Addr} {sl11 : Array (Option Value)} {oc11 kV11 dc11 pm11 cd11 ct11 : Value} {f12 : Addr} {od12 an12 : Option Addr} {sl12 : Array (Option Value)} {oc12 kV12 dc12 pm12 cd12 ct12 : Value} {f13 : Addr} {od13 an13 : Option Addr} {sl13 : Array (Option Value)} {oc13 kV13 dc13 pm13 cd13 ct13 : Value} {f14 : Addr} {od14 an14 : Option Addr} {sl14 : Array (Option Value)} {oc14 kV14 dc14 pm14 cd14 ct14 : Value} {f15 : Addr} {od15 an15 : Option Addr} {sl15 : Array (Option Value)} {oc15 kV15 dc15 pm15 cd15 ct15 : Value} {f16 : Addr} {od16 an16 : Option Addr} {sl16 : Array (Option Value)} {oc16 kV16 dc16 pm16 cd16 ct16 : Value} {f17 : Addr} {od17 an17 : Option Addr} {sl17 : Array (Option Value)} {oc17 kV17 dc17 pm17 cd17 ct17 : Value} {f18 : Addr} {od18 an18 : Option Addr} {sl18 : Array (Option Value)} {oc18 kV18 dc18 pm18 cd18 ct18 : Value} {f19 : Addr} {od19 an19 : Option Addr} {sl19 : Array (Option Value)} {oc19 kV19 dc19 pm19 cd19 ct19 : Value} {f20 : Addr} {od20 an20 : Option Addr} {sl20 : Array (Option Value)} {oc20 kV20 dc20 pm20 cd20 ct20 : Value} {f21 : Addr} {od21 an21 : Option Addr} {sl21 : Array (Option Value)} {oc21 kV21 dc21 pm21 cd21 ct21 : Value} {f22 : Addr} {od22 an22 : Option Addr} {sl22 : Array (Option Value)} {oc22 kV22 dc22 pm22 cd22 ct22 : Value} {dT22 dE22 : Addr} {odT22 : Option Addr} {slT22 : Array (Option Value)} {ocT22 : Value} {nT22 : Nat} {f23 : Addr} {od23 an23 : Option Addr} {sl23 : Array (Option Value)} {oc23 kV23 dc23 pm23 cd23 ct23 : Value} {f24 : Addr} {od24 an24 : Option Addr} {sl24 : Array (Option Value)} {oc24 kV24 dc24 pm24 cd24 ct24 : Value} {f25 : Addr} {od25 an25 : Option Addr} {sl25 : Array (Option Value)} {oc25 kV25 dc25 pm25 cd25 ct25 : Value} {f26 : Addr} {od26 an26 : Option Addr} {sl26 : Array (Option Value)} {oc26 kV26 dc26 pm26 cd26 ct26 : Value} {f27 : Addr} {od27 an27 : Option Addr} {sl27 : Array (Option Value)} {oc27 kV27 dc27 pm27 cd27 ct27 : Value} {f28 : Addr} {od28 an28 : Option Addr} {sl28 : Array (Option Value)} {oc28 kV28 dc28 pm28 cd28 ct28 : Value} {f29 : Addr} {od29 an29 : Option Addr} {sl29 : Array (Option Value)} {oc29 kV29 dc29 pm29 cd29 ct29 : Value} {f30 : Addr} {od30 an30 : Option Addr} {sl30 : Array (Option Value)} {oc30 kV30 dc30 pm30 cd30 ct30 : Value} {f31 : Addr} {od31 an31 : Option Addr} {sl31 : Array (Option Value)} {oc31 kV31 dc31 pm31 cd31 ct31 : Value} {p31 : Addr} {rs31 : List Value} {f32 : Addr} {od32 an32 : Option Addr} {sl32 : Array (Option Value)} {oc32 kV32 dc32 pm32 cd32 ct32 : Value} {f33 : Addr} {od33 an33 : Option Addr} {sl33 : Array (Option Value)} {oc33 kV33 dc33 pm33 cd33 ct33 : Value} {f34 : Addr} {od34 an34 : Option Addr} {sl34 : Array (Option Value)} {oc34 kV34 dc34 pm34 cd34 ct34 : Value} {f35 : Addr} {od35 an35 : Option Addr} {sl35 : Array (Option Value)} {oc35 kV35 dc35 pm35 cd35 ct35 : Value} {f36 : Addr} {od36 an36 : Option Addr} {sl36 : Array (Option Value)} {oc36 kV36 dc36 pm36 cd36 ct36 : Value} {f37 : Addr} {od37 an37 : Option Addr} {sl37 : Array (Option Value)} {oc37 kV37 dc37 pm37 cd37 ct37 : Value} {f38 : Addr} {od38 an38 : Option Addr} {sl38 : Array (Option Value)} {oc38 kV38 dc38 pm38 cd38 ct38 : Value} {f39 : Addr} {od39 an39 : Option Addr} {sl39 : Array (Option Value)} {oc39 kV39 dc39 pm39 cd39 ct39 : Value} {f40 : Addr} {od40 an40 : Option Addr} {sl40 : Array (Option Value)} {oc40 kV40 dc40 pm40 cd40 ct40 : Value} {a_DROP_STEP : Addr} {od_DROP_STEP : Option Addr} {sl_DROP_STEP : Array (Option Value)} {n_DROP_STEP : Nat} {t_DROP_STEP0 : Tok} {t_DROP_STEP3 : Tok} {a_FILL_WAYS : Addr} {od_FILL_WAYS : Option Addr} {sl_FILL_WAYS : Array (Option Value)} {n_FILL_WAYS : Nat} {t_FILL_WAYS0 : Tok} {t_FILL_WAYS1 : Tok} {t_FILL_WAYS2 : Tok} {t_FILL_WAYS3 : Tok} {t_MOST_DAY : Tok} {t_MOST_DAYS : Tok} {t_MOST_LEVEL : Tok} {t_MOST_ROWS : Tok} {t_MOST_VALUE : Tok} {t_TOP_LEVEL : Tok} {a_OPPOSITE : Addr} {es_OPPOSITE : Array DictEntry} {en_OPPOSITE : Nat} {tv_OPPOSITE_0 : Tok} {tv_OPPOSITE_1 : Tok} {tv_OPPOSITE_2 : Tok} {tv_OPPOSITE_3 : Tok} {tv_OPPOSITE_4 : Tok} {odE_Script : Option Addr} {nE_Script : Nat} {slE_Script : Array (Option Value)}
    (a_Script : PySem.W.nsIn K mainGlobals "Script" = some (some (.ref C_Script)))
    (pg_Script : PySem.W.plainGet K C_Script Str.empty = true)
    (hd_Script : PySem.W.hasDictIn K C_Script = true)
    (po_Script : PySem.W.plainOver K C_Script = true)
    (sa_Script : PySem.W.findIn K (.ref C_Script) "__setattr__" = some (some (.builtin "object.__setattr__")))
    (mk_Script : PySem.W.makesIn K C_Script = true)
    (kc_Script : PySem.W.keepIn K (.ref C_Script) = true)
    (cr_Script : PySem.W.readsIn K C_Script (.type "type") = true)
    (ga_Script : PySem.W.specialIn K (.ref C_Script) "__getattribute__" = some (some (.builtin "type.__getattribute__")))
    (na_Script_parts : PySem.W.findIn K (.ref C_Script) "parts" = some none)
    (koa_Script : PySem.W.findIn K (.ref C_Script) "__class__" = some (some (.builtin "object.__class__")))
    (kon_Script : PySem.W.specialIn K (.builtin "object.__class__") "__get__" = some (some (.builtin "getset_descriptor.__get__")))
    (kot_Script : PySem.W.takesIn K (.builtin "object.__class__") = some true)
    (kom_Script : PySem.W.mroIn K C_Script (.type "object") = some true)
    (sfm_Script : PySem.W.selfFirst K C_Script = true)
    (mr_Script : PySem.W.findIn K (.ref C_Script) (dunderR "mul") = some (some (.ref rg_Script)))
    (mh1_Script : PySem.W.findIn K (.type "int") (PySem.dunder "mul") = some fo_Script)
    (mh2_Script : PySem.W.findIn K (.type "int") (dunderR "mul") = some ro_Script)
    (mhs_Script : PySem.W.subIn K (.type "int") (.ref C_Script) = some false)
    (sf_Script : PySem.W.selfFirst K C_Script = true)
    (cv_Script_MOST : PySem.W.findCls K (.ref C_Script) (.type "type") "MOST" = some (.val (.int 6 tk_Script_MOST)))
    (a0 : PySem.W.findIn K (.ref C_Script) "__iter__" = some (some (.ref f0)))
    (i0 : PySem.W.isFn K (.ref f0) = true)
    (l0 : K.lookup f0 = some ⟨oc0, od0, .func (PySem.W.fnOf "__iter__" "Script.__iter__" (defArgs s_Script___iter__) (defBody s_Script___iter__) (defScope s_Script___iter__) .none kV0 dc0 pm0 an0 cd0 ct0), sl0⟩)
    (c0 : PySem.W.codeIn K cd0 "Script.__iter__" = true)
    (k0 : PySem.W.keepIn K (.ref f0) = true)
    (a1 : PySem.W.findIn K (.ref C_Script) "__len__" = some (some (.ref f1)))
    (i1 : PySem.W.isFn K (.ref f1) = true)
    (l1 : K.lookup f1 = some ⟨oc1, od1, .func (PySem.W.fnOf "__len__" "Script.__len__" (defArgs s_Script___len__) (defBody s_Script___len__) (defScope s_Script___len__) .none kV1 dc1 pm1 an1 cd1 ct1), sl1⟩)
    (c1 : PySem.W.codeIn K cd1 "Script.__len__" = true)
    (k1 : PySem.W.keepIn K (.ref f1) = true)
    (a2 : PySem.W.nsIn K mainGlobals "check_value" = some (some (.ref f2)))
    (l2 : K.lookup f2 = some ⟨oc2, od2, .func (PySem.W.fnOf "check_value" "check_value" (defArgs s_check_value) (defBody s_check_value) (defScope s_check_value) .none kV2 dc2 pm2 an2 cd2 ct2), sl2⟩)
    (c2 : PySem.W.codeIn K cd2 "check_value" = true)
    (k2 : PySem.W.keepIn K (.ref f2) = true)
    (a3 : PySem.W.nsIn K mainGlobals "check_rows" = some (some (.ref f3)))
    (l3 : K.lookup f3 = some ⟨oc3, od3, .func (PySem.W.fnOf "check_rows" "check_rows" (defArgs s_check_rows) (defBody s_check_rows) (defScope s_check_rows) .none kV3 dc3 pm3 an3 cd3 ct3), sl3⟩)
    (c3 : PySem.W.codeIn K cd3 "check_rows" = true)
    (k3 : PySem.W.keepIn K (.ref f3) = true)
    (a4 : PySem.W.nsIn K mainGlobals "in_time" = some (some (.ref f4)))
    (l4 : K.lookup f4 = some ⟨oc4, od4, .func (PySem.W.fnOf "in_time" "in_time" (defArgs s_in_time) (defBody s_in_time) (defScope s_in_time) .none kV4 dc4 pm4 an4 cd4 ct4), sl4⟩)
    (c4 : PySem.W.codeIn K cd4 "in_time" = true)
    (k4 : PySem.W.keepIn K (.ref f4) = true)
    (a5 : PySem.W.nsIn K mainGlobals "from_above" = some (some (.ref f5)))
    (l5 : K.lookup f5 = some ⟨oc5, od5, .func (PySem.W.fnOf "from_above" "from_above" (defArgs s_from_above) (defBody s_from_above) (defScope s_from_above) .none kV5 dc5 pm5 an5 cd5 ct5), sl5⟩)
    (c5 : PySem.W.codeIn K cd5 "from_above" = true)
    (k5 : PySem.W.keepIn K (.ref f5) = true)
    (a6 : PySem.W.nsIn K mainGlobals "from_below" = some (some (.ref f6)))
    (l6 : K.lookup f6 = some ⟨oc6, od6, .func (PySem.W.fnOf "from_below" "from_below" (defArgs s_from_below) (defBody s_from_below) (defScope s_from_below) .none kV6 dc6 pm6 an6 cd6 ct6), sl6⟩)
    (c6 : PySem.W.codeIn K cd6 "from_below" = true)
    (k6 : PySem.W.keepIn K (.ref f6) = true)
    (a7 : PySem.W.nsIn K mainGlobals "chosen" = some (some (.ref f7)))
    (l7 : K.lookup f7 = some ⟨oc7, od7, .func (PySem.W.fnOf "chosen" "chosen" (defArgs s_chosen) (defBody s_chosen) (defScope s_chosen) .none kV7 dc7 pm7 an7 cd7 ct7), sl7⟩)
    (c7 : PySem.W.codeIn K cd7 "chosen" = true)
    (k7 : PySem.W.keepIn K (.ref f7) = true)
    (a8 : PySem.W.nsIn K mainGlobals "run_steps" = some (some (.ref f8)))
    (l8 : K.lookup f8 = some ⟨oc8, od8, .func (PySem.W.fnOf "run_steps" "run_steps" (defArgs s_run_steps) (defBody s_run_steps) (defScope s_run_steps) .none kV8 dc8 pm8 an8 cd8 ct8), sl8⟩)
    (c8 : PySem.W.codeIn K cd8 "run_steps" = true)
    (k8 : PySem.W.keepIn K (.ref f8) = true)
    (a9 : PySem.W.nsIn K mainGlobals "cells" = some (some (.ref f9)))
    (l9 : K.lookup f9 = some ⟨oc9, od9, .func (PySem.W.fnOf "cells" "cells" (defArgs s_cells) (defBody s_cells) (defScope s_cells) .none kV9 dc9 pm9 an9 cd9 ct9), sl9⟩)
    (c9 : PySem.W.codeIn K cd9 "cells" = true)
    (k9 : PySem.W.keepIn K (.ref f9) = true)
    (a10 : PySem.W.nsIn K mainGlobals "left_table" = some (some (.ref f10)))
    (l10 : K.lookup f10 = some ⟨oc10, od10, .func (PySem.W.fnOf "left_table" "left_table" (defArgs s_left_table) (defBody s_left_table) (defScope s_left_table) .none kV10 dc10 pm10 an10 cd10 ct10), sl10⟩)
    (c10 : PySem.W.codeIn K cd10 "left_table" = true)
    (k10 : PySem.W.keepIn K (.ref f10) = true)
    (a11 : PySem.W.findIn K (.ref C_Script) "__call__" = some (some (.ref f11)))
    (i11 : PySem.W.isFn K (.ref f11) = true)
    (fi11 : PySem.W.fnIn K f11 = true)
    (l11 : K.lookup f11 = some ⟨oc11, od11, .func (PySem.W.fnOf "__call__" "Script.__call__" (defArgs s_Script___call__) (defBody s_Script___call__) (defScope s_Script___call__) .none kV11 dc11 pm11 an11 cd11 ct11), sl11⟩)
    (c11 : PySem.W.codeIn K cd11 "Script.__call__" = true)
    (k11 : PySem.W.keepIn K (.ref f11) = true)
    (a12 : PySem.W.nsIn K mainGlobals "_law_pool" = some (some (.ref f12)))
    (l12 : K.lookup f12 = some ⟨oc12, od12, .func (PySem.W.fnOf "_law_pool" "_law_pool" (defArgs s_l_pool) (defBody s_l_pool) (defScope s_l_pool) .none kV12 dc12 pm12 an12 cd12 ct12), sl12⟩)
    (c12 : PySem.W.codeIn K cd12 "_law_pool" = true)
    (k12 : PySem.W.keepIn K (.ref f12) = true)
    (a13 : PySem.W.nsIn K mainGlobals "_law_take" = some (some (.ref f13)))
    (l13 : K.lookup f13 = some ⟨oc13, od13, .func (PySem.W.fnOf "_law_take" "_law_take" (defArgs s_l_take) (defBody s_l_take) (defScope s_l_take) .none kV13 dc13 pm13 an13 cd13 ct13), sl13⟩)
    (c13 : PySem.W.codeIn K cd13 "_law_take" = true)
    (k13 : PySem.W.keepIn K (.ref f13) = true)
    (a14 : PySem.W.nsIn K mainGlobals "_law_span" = some (some (.ref f14)))
    (l14 : K.lookup f14 = some ⟨oc14, od14, .func (PySem.W.fnOf "_law_span" "_law_span" (defArgs s_l_span) (defBody s_l_span) (defScope s_l_span) .none kV14 dc14 pm14 an14 cd14 ct14), sl14⟩)
    (c14 : PySem.W.codeIn K cd14 "_law_span" = true)
    (k14 : PySem.W.keepIn K (.ref f14) = true)
    (a15 : PySem.W.nsIn K mainGlobals "_law_step" = some (some (.ref f15)))
    (l15 : K.lookup f15 = some ⟨oc15, od15, .func (PySem.W.fnOf "_law_step" "_law_step" (defArgs s_l_step) (defBody s_l_step) (defScope s_l_step) .none kV15 dc15 pm15 an15 cd15 ct15), sl15⟩)
    (c15 : PySem.W.codeIn K cd15 "_law_step" = true)
    (k15 : PySem.W.keepIn K (.ref f15) = true)
    (a16 : PySem.W.nsIn K mainGlobals "_law_steps" = some (some (.ref f16)))
    (l16 : K.lookup f16 = some ⟨oc16, od16, .func (PySem.W.fnOf "_law_steps" "_law_steps" (defArgs s_l_steps) (defBody s_l_steps) (defScope s_l_steps) .none kV16 dc16 pm16 an16 cd16 ct16), sl16⟩)
    (c16 : PySem.W.codeIn K cd16 "_law_steps" = true)
    (k16 : PySem.W.keepIn K (.ref f16) = true)
    (a17 : PySem.W.nsIn K mainGlobals "_law_pause" = some (some (.ref f17)))
    (l17 : K.lookup f17 = some ⟨oc17, od17, .func (PySem.W.fnOf "_law_pause" "_law_pause" (defArgs s_l_pause) (defBody s_l_pause) (defScope s_l_pause) .none kV17 dc17 pm17 an17 cd17 ct17), sl17⟩)
    (c17 : PySem.W.codeIn K cd17 "_law_pause" = true)
    (k17 : PySem.W.keepIn K (.ref f17) = true)
    (a18 : PySem.W.nsIn K mainGlobals "_law_value" = some (some (.ref f18)))
    (l18 : K.lookup f18 = some ⟨oc18, od18, .func (PySem.W.fnOf "_law_value" "_law_value" (defArgs s_l_value) (defBody s_l_value) (defScope s_l_value) .none kV18 dc18 pm18 an18 cd18 ct18), sl18⟩)
    (c18 : PySem.W.codeIn K cd18 "_law_value" = true)
    (k18 : PySem.W.keepIn K (.ref f18) = true)
    (a19 : PySem.W.nsIn K mainGlobals "_law_table" = some (some (.ref f19)))
    (l19 : K.lookup f19 = some ⟨oc19, od19, .func (PySem.W.fnOf "_law_table" "_law_table" (defArgs s_l_table) (defBody s_l_table) (defScope s_l_table) .none kV19 dc19 pm19 an19 cd19 ct19), sl19⟩)
    (c19 : PySem.W.codeIn K cd19 "_law_table" = true)
    (k19 : PySem.W.keepIn K (.ref f19) = true)
    (a20 : PySem.W.nsIn K mainGlobals "is_limit" = some (some (.ref f20)))
    (l20 : K.lookup f20 = some ⟨oc20, od20, .func (PySem.W.fnOf "is_limit" "is_limit" (defArgs s_is_limit) (defBody s_is_limit) (defScope s_is_limit) .none kV20 dc20 pm20 an20 cd20 ct20), sl20⟩)
    (c20 : PySem.W.codeIn K cd20 "is_limit" = true)
    (k20 : PySem.W.keepIn K (.ref f20) = true)
    (a21 : PySem.W.nsIn K mainGlobals "check_step" = some (some (.ref f21)))
    (l21 : K.lookup f21 = some ⟨oc21, od21, .func (PySem.W.fnOf "check_step" "check_step" (defArgs s_check_step) (defBody s_check_step) (defScope s_check_step) .none kV21 dc21 pm21 an21 cd21 ct21), sl21⟩)
    (c21 : PySem.W.codeIn K cd21 "check_step" = true)
    (k21 : PySem.W.keepIn K (.ref f21) = true)
    (a22 : PySem.W.findIn K (.ref C_Script) "__init__" = some (some (.ref f22)))
    (i22 : PySem.W.isFn K (.ref f22) = true)
    (l22 : K.lookup f22 = some ⟨oc22, od22, .func (PySem.W.fnOf "__init__" "Script.__init__" (defArgs s_Script___init__) (defBody s_Script___init__) (defScope s_Script___init__) (.ref dT22) kV22 dc22 pm22 an22 cd22 ct22), sl22⟩)
    (t22 : K.lookup dT22 = some ⟨ocT22, odT22, .seq #[.ref dE22] nT22, slT22⟩)
    (c22 : PySem.W.codeIn K cd22 "Script.__init__" = true)
    (k22 : PySem.W.keepIn K (.ref f22) = true)
    (a23 : PySem.W.nsIn K mainGlobals "turned_step" = some (some (.ref f23)))
    (l23 : K.lookup f23 = some ⟨oc23, od23, .func (PySem.W.fnOf "turned_step" "turned_step" (defArgs s_turned_step) (defBody s_turned_step) (defScope s_turned_step) .none kV23 dc23 pm23 an23 cd23 ct23), sl23⟩)
    (c23 : PySem.W.codeIn K cd23 "turned_step" = true)
    (k23 : PySem.W.keepIn K (.ref f23) = true)
    (a24 : PySem.W.findIn K (.ref C_Script) "__invert__" = some (some (.ref f24)))
    (i24 : PySem.W.isFn K (.ref f24) = true)
    (l24 : K.lookup f24 = some ⟨oc24, od24, .func (PySem.W.fnOf "__invert__" "Script.__invert__" (defArgs s_Script___invert__) (defBody s_Script___invert__) (defScope s_Script___invert__) .none kV24 dc24 pm24 an24 cd24 ct24), sl24⟩)
    (c24 : PySem.W.codeIn K cd24 "Script.__invert__" = true)
    (k24 : PySem.W.keepIn K (.ref f24) = true)
    (a25 : PySem.W.findIn K (.ref C_Script) "__mul__" = some (some (.ref f25)))
    (i25 : PySem.W.isFn K (.ref f25) = true)
    (l25 : K.lookup f25 = some ⟨oc25, od25, .func (PySem.W.fnOf "__mul__" "Script.__mul__" (defArgs s_Script___mul__) (defBody s_Script___mul__) (defScope s_Script___mul__) .none kV25 dc25 pm25 an25 cd25 ct25), sl25⟩)
    (c25 : PySem.W.codeIn K cd25 "Script.__mul__" = true)
    (k25 : PySem.W.keepIn K (.ref f25) = true)
    (a26 : PySem.W.findIn K (.ref C_Script) "__add__" = some (some (.ref f26)))
    (i26 : PySem.W.isFn K (.ref f26) = true)
    (l26 : K.lookup f26 = some ⟨oc26, od26, .func (PySem.W.fnOf "__add__" "Script.__add__" (defArgs s_Script___add__) (defBody s_Script___add__) (defScope s_Script___add__) .none kV26 dc26 pm26 an26 cd26 ct26), sl26⟩)
    (c26 : PySem.W.codeIn K cd26 "Script.__add__" = true)
    (k26 : PySem.W.keepIn K (.ref f26) = true)
    (a27 : PySem.W.nsIn K mainGlobals "written_step" = some (some (.ref f27)))
    (l27 : K.lookup f27 = some ⟨oc27, od27, .func (PySem.W.fnOf "written_step" "written_step" (defArgs s_written_step) (defBody s_written_step) (defScope s_written_step) .none kV27 dc27 pm27 an27 cd27 ct27), sl27⟩)
    (c27 : PySem.W.codeIn K cd27 "written_step" = true)
    (k27 : PySem.W.keepIn K (.ref f27) = true)
    (a28 : PySem.W.findIn K (.ref C_Script) "written" = some (some (.ref f28)))
    (i28 : PySem.W.isFn K (.ref f28) = true)
    (l28 : K.lookup f28 = some ⟨oc28, od28, .func (PySem.W.fnOf "written" "Script.written" (defArgs s_Script_written) (defBody s_Script_written) (defScope s_Script_written) .none kV28 dc28 pm28 an28 cd28 ct28), sl28⟩)
    (c28 : PySem.W.codeIn K cd28 "Script.written" = true)
    (k28 : PySem.W.keepIn K (.ref f28) = true)
    (a29 : PySem.W.nsIn K mainGlobals "read_number" = some (some (.ref f29)))
    (l29 : K.lookup f29 = some ⟨oc29, od29, .func (PySem.W.fnOf "read_number" "read_number" (defArgs s_read_number) (defBody s_read_number) (defScope s_read_number) .none kV29 dc29 pm29 an29 cd29 ct29), sl29⟩)
    (c29 : PySem.W.codeIn K cd29 "read_number" = true)
    (k29 : PySem.W.keepIn K (.ref f29) = true)
    (a30 : PySem.W.nsIn K mainGlobals "read_step" = some (some (.ref f30)))
    (l30 : K.lookup f30 = some ⟨oc30, od30, .func (PySem.W.fnOf "read_step" "read_step" (defArgs s_read_step) (defBody s_read_step) (defScope s_read_step) .none kV30 dc30 pm30 an30 cd30 ct30), sl30⟩)
    (c30 : PySem.W.codeIn K cd30 "read_step" = true)
    (k30 : PySem.W.keepIn K (.ref f30) = true)
    (a31 : PySem.W.findCls K (.ref C_Script) (.type "type") "read" = some (.get (.builtin "classmethod.__get__") (.ref p31) .none (.ref C_Script)))
    (rc31 : PySem.W.recIn K p31 "classmethod" = some (.ref f31 :: rs31))
    (fi31 : PySem.W.fnIn K f31 = true)
    (l31 : K.lookup f31 = some ⟨oc31, od31, .func (PySem.W.fnOf "read" "Script.read" (defArgs s_Script_read) (defBody s_Script_read) (defScope s_Script_read) .none kV31 dc31 pm31 an31 cd31 ct31), sl31⟩)
    (c31 : PySem.W.codeIn K cd31 "Script.read" = true)
    (k31 : PySem.W.keepIn K (.ref f31) = true)
    (a32 : PySem.W.nsIn K mainGlobals "_law_made" = some (some (.ref f32)))
    (l32 : K.lookup f32 = some ⟨oc32, od32, .func (PySem.W.fnOf "_law_made" "_law_made" (defArgs s_l_made) (defBody s_l_made) (defScope s_l_made) .none kV32 dc32 pm32 an32 cd32 ct32), sl32⟩)
    (c32 : PySem.W.codeIn K cd32 "_law_made" = true)
    (k32 : PySem.W.keepIn K (.ref f32) = true)
    (a33 : PySem.W.nsIn K mainGlobals "_law_above" = some (some (.ref f33)))
    (l33 : K.lookup f33 = some ⟨oc33, od33, .func (PySem.W.fnOf "_law_above" "_law_above" (defArgs s_l_above) (defBody s_l_above) (defScope s_l_above) .none kV33 dc33 pm33 an33 cd33 ct33), sl33⟩)
    (c33 : PySem.W.codeIn K cd33 "_law_above" = true)
    (k33 : PySem.W.keepIn K (.ref f33) = true)
    (a34 : PySem.W.nsIn K mainGlobals "_law_below" = some (some (.ref f34)))
    (l34 : K.lookup f34 = some ⟨oc34, od34, .func (PySem.W.fnOf "_law_below" "_law_below" (defArgs s_l_below) (defBody s_l_below) (defScope s_l_below) .none kV34 dc34 pm34 an34 cd34 ct34), sl34⟩)
    (c34 : PySem.W.codeIn K cd34 "_law_below" = true)
    (k34 : PySem.W.keepIn K (.ref f34) = true)
    (a35 : PySem.W.nsIn K mainGlobals "_law_pick" = some (some (.ref f35)))
    (l35 : K.lookup f35 = some ⟨oc35, od35, .func (PySem.W.fnOf "_law_pick" "_law_pick" (defArgs s_l_pick) (defBody s_l_pick) (defScope s_l_pick) .none kV35 dc35 pm35 an35 cd35 ct35), sl35⟩)
    (c35 : PySem.W.codeIn K cd35 "_law_pick" = true)
    (k35 : PySem.W.keepIn K (.ref f35) = true)
    (a36 : PySem.W.nsIn K mainGlobals "_law_sources" = some (some (.ref f36)))
    (l36 : K.lookup f36 = some ⟨oc36, od36, .func (PySem.W.fnOf "_law_sources" "_law_sources" (defArgs s_l_sources) (defBody s_l_sources) (defScope s_l_sources) .none kV36 dc36 pm36 an36 cd36 ct36), sl36⟩)
    (c36 : PySem.W.codeIn K cd36 "_law_sources" = true)
    (k36 : PySem.W.keepIn K (.ref f36) = true)
    (a37 : PySem.W.nsIn K mainGlobals "_law_shown" = some (some (.ref f37)))
    (l37 : K.lookup f37 = some ⟨oc37, od37, .func (PySem.W.fnOf "_law_shown" "_law_shown" (defArgs s_l_shown) (defBody s_l_shown) (defScope s_l_shown) .none kV37 dc37 pm37 an37 cd37 ct37), sl37⟩)
    (c37 : PySem.W.codeIn K cd37 "_law_shown" = true)
    (k37 : PySem.W.keepIn K (.ref f37) = true)
    (a38 : PySem.W.nsIn K mainGlobals "_law_remains" = some (some (.ref f38)))
    (l38 : K.lookup f38 = some ⟨oc38, od38, .func (PySem.W.fnOf "_law_remains" "_law_remains" (defArgs s_l_remains) (defBody s_l_remains) (defScope s_l_remains) .none kV38 dc38 pm38 an38 cd38 ct38), sl38⟩)
    (c38 : PySem.W.codeIn K cd38 "_law_remains" = true)
    (k38 : PySem.W.keepIn K (.ref f38) = true)
    (a39 : PySem.W.nsIn K mainGlobals "_law_same" = some (some (.ref f39)))
    (l39 : K.lookup f39 = some ⟨oc39, od39, .func (PySem.W.fnOf "_law_same" "_law_same" (defArgs s_l_same) (defBody s_l_same) (defScope s_l_same) .none kV39 dc39 pm39 an39 cd39 ct39), sl39⟩)
    (c39 : PySem.W.codeIn K cd39 "_law_same" = true)
    (k39 : PySem.W.keepIn K (.ref f39) = true)
    (a40 : PySem.W.nsIn K mainGlobals "law" = some (some (.ref f40)))
    (l40 : K.lookup f40 = some ⟨oc40, od40, .func (PySem.W.fnOf "law" "law" (defArgs s_law) (defBody s_law) (defScope s_law) .none kV40 dc40 pm40 an40 cd40 ct40), sl40⟩)
    (c40 : PySem.W.codeIn K cd40 "law" = true)
    (k40 : PySem.W.keepIn K (.ref f40) = true)
    (c_DROP_STEP : PySem.W.nsIn K mainGlobals "DROP_STEP" = some (some (.ref a_DROP_STEP)))
    (l_DROP_STEP : K.lookup a_DROP_STEP = some ⟨.type "tuple", od_DROP_STEP, .seq #[.str "drop" t_DROP_STEP0, .none, .none, .int 2 t_DROP_STEP3] n_DROP_STEP, sl_DROP_STEP⟩)
    (c_FILL_WAYS : PySem.W.nsIn K mainGlobals "FILL_WAYS" = some (some (.ref a_FILL_WAYS)))
    (l_FILL_WAYS : K.lookup a_FILL_WAYS = some ⟨.type "tuple", od_FILL_WAYS, .seq #[.str "down" t_FILL_WAYS0, .str "up" t_FILL_WAYS1, .str "near_above" t_FILL_WAYS2, .str "near_below" t_FILL_WAYS3] n_FILL_WAYS, sl_FILL_WAYS⟩)
    (c_MOST_DAY : PySem.W.nsIn K mainGlobals "MOST_DAY" = some (some (.int 1000000000000 t_MOST_DAY)))
    (c_MOST_DAYS : PySem.W.nsIn K mainGlobals "MOST_DAYS" = some (some (.int 1000000000 t_MOST_DAYS)))
    (c_MOST_LEVEL : PySem.W.nsIn K mainGlobals "MOST_LEVEL" = some (some (.int 2 t_MOST_LEVEL)))
    (c_MOST_ROWS : PySem.W.nsIn K mainGlobals "MOST_ROWS" = some (some (.int 6 t_MOST_ROWS)))
    (c_MOST_VALUE : PySem.W.nsIn K mainGlobals "MOST_VALUE" = some (some (.int 1000000000000 t_MOST_VALUE)))
    (c_TOP_LEVEL : PySem.W.nsIn K mainGlobals "TOP_LEVEL" = some (some (.int 2 t_TOP_LEVEL)))
    (c_OPPOSITE : PySem.W.nsIn K mainGlobals "OPPOSITE" = some (some (.ref a_OPPOSITE)))
    (l_OPPOSITE : K.lookup a_OPPOSITE = some ⟨.type "dict", none, .dict es_OPPOSITE en_OPPOSITE, #[]⟩)
    (kk_OPPOSITE : PySem.W.KeysLit w.params es_OPPOSITE.toList)
    (v_OPPOSITE_0 : PySem.W.nsIn K a_OPPOSITE "down" = some (some (.str "up" tv_OPPOSITE_0)))
    (v_OPPOSITE_1 : PySem.W.nsIn K a_OPPOSITE "up" = some (some (.str "down" tv_OPPOSITE_1)))
    (v_OPPOSITE_2 : PySem.W.nsIn K a_OPPOSITE "near_above" = some (some (.str "near_below" tv_OPPOSITE_2)))
    (v_OPPOSITE_3 : PySem.W.nsIn K a_OPPOSITE "near_below" = some (some (.str "near_above" tv_OPPOSITE_3)))
    (v_OPPOSITE_4 : PySem.W.nsIn K a_OPPOSITE "drop" = some (some (.str "drop" tv_OPPOSITE_4)))
    (lE_Script : K.lookup dE22 = some ⟨.type "tuple", odE_Script, .seq #[] nE_Script, slE_Script⟩)
    (n_abs : PySem.W.nsIn K mainGlobals "abs" = some none)
    (n_bool : PySem.W.nsIn K mainGlobals "bool" = some none)
    (n_enumerate : PySem.W.nsIn K mainGlobals "enumerate" = some none)
    (n_int : PySem.W.nsIn K mainGlobals "int" = some none)
    (n_isinstance : PySem.W.nsIn K mainGlobals "isinstance" = some none)
    (n_iter : PySem.W.nsIn K mainGlobals "iter" = some none)
    (n_len : PySem.W.nsIn K mainGlobals "len" = some none)
    (n_list : PySem.W.nsIn K mainGlobals "list" = some none)
    (n_range : PySem.W.nsIn K mainGlobals "range" = some none)
    (n_reversed : PySem.W.nsIn K mainGlobals "reversed" = some none)
    (n_str : PySem.W.nsIn K mainGlobals "str" = some none)
    (n_tuple : PySem.W.nsIn K mainGlobals "tuple" = some none)
    (n_zip : PySem.W.nsIn K mainGlobals "zip" = some none) : ∃ T : Tx K mg w, T.law.f = f40 ∧ T.law.fd = (PySem.W.fnOf "law" "law" (defArgs s_law) (defBody s_law) (defScope s_law) .none kV40 dc40 pm40 an40 cd40 ct40) := ⟨{
    Script := ⟨C_Script, PySem.W.mg_of X G a_Script, ⟨pg_Script, hd_Script, po_Script, sa_Script⟩, mk_Script, kc_Script⟩,
    mc_Script := .type "type",
    rd_Script := ⟨cr_Script, ga_Script⟩,
    na_Script_parts := na_Script_parts,
    ko_Script := ⟨⟨pg_Script, hd_Script, po_Script, sa_Script⟩, koa_Script, kon_Script, kot_Script, kom_Script⟩,
    mulw_Script := ⟨sfm_Script, _, mr_Script, .inr ⟨_, rfl⟩, _, mh1_Script, _, mh2_Script, mhs_Script⟩,
    sf_Script := sf_Script,
    uv_Script_MOST := .int 6 tk_Script_MOST,
    cv_Script_MOST := ⟨cv_Script_MOST, ⟨_, rfl⟩⟩,
    Script___iter__ := ⟨f0, _, fun_mk (st := s_Script___iter__) l0 c0 k0, a0, i0, (fun_mk (st := s_Script___iter__) l0 c0 k0).binds (ps := ["self"]) fun _ _ _ _ _ _ us hl => match us, hl with | [_], _ => rfl⟩,
    Script___len__ := ⟨f1, _, fun_mk (st := s_Script___len__) l1 c1 k1, a1, i1, (fun_mk (st := s_Script___len__) l1 c1 k1).binds (ps := ["self"]) fun _ _ _ _ _ _ us hl => match us, hl with | [_], _ => rfl⟩,
    check_value := ⟨f2, _, fun_mk (st := s_check_value) l2 c2 k2, PySem.W.mg_of X G a2, (fun_mk (st := s_check_value) l2 c2 k2).binds (ps := ["value", "index"]) fun _ _ _ _ _ _ us hl => match us, hl with | [_, _], _ => rfl⟩,
    check_rows := ⟨f3, _, fun_mk (st := s_check_rows) l3 c3 k3, PySem.W.mg_of X G a3, (fun_mk (st := s_check_rows) l3 c3 k3).binds (ps := ["rows", "day", "start"]) fun _ _ _ _ _ _ us hl => match us, hl with | [_, _, _], _ => rfl⟩,
    in_time := ⟨f4, _, fun_mk (st := s_in_time) l4 c4 k4, PySem.W.mg_of X G a4, (fun_mk (st := s_in_time) l4 c4 k4).binds (ps := ["table", "source", "near", "index", "days"]) fun _ _ _ _ _ _ us hl => match us, hl with | [_, _, _, _, _], _ => rfl⟩,
    from_above := ⟨f5, _, fun_mk (st := s_from_above) l5 c5 k5, PySem.W.mg_of X G a5, (fun_mk (st := s_from_above) l5 c5 k5).binds (ps := ["table", "source", "step"]) fun _ _ _ _ _ _ us hl => match us, hl with | [_, _, _], _ => rfl⟩,
    from_below := ⟨f6, _, fun_mk (st := s_from_below) l6 c6 k6, PySem.W.mg_of X G a6, (fun_mk (st := s_from_below) l6 c6 k6).binds (ps := ["table", "source", "step"]) fun _ _ _ _ _ _ us hl => match us, hl with | [_, _, _], _ => rfl⟩,
    chosen := ⟨f7, _, fun_mk (st := s_chosen) l7 c7 k7, PySem.W.mg_of X G a7, (fun_mk (st := s_chosen) l7 c7 k7).binds (ps := ["way", "index", "above", "below"]) fun _ _ _ _ _ _ us hl => match us, hl with | [_, _, _, _], _ => rfl⟩,
    run_steps := ⟨f8, _, fun_mk (st := s_run_steps) l8 c8 k8, PySem.W.mg_of X G a8, (fun_mk (st := s_run_steps) l8 c8 k8).binds (ps := ["steps", "table"]) fun _ _ _ _ _ _ us hl => match us, hl with | [_, _], _ => rfl⟩,
    cells := ⟨f9, _, fun_mk (st := s_cells) l9 c9 k9, PySem.W.mg_of X G a9, (fun_mk (st := s_cells) l9 c9 k9).binds (ps := ["script", "table"]) fun _ _ _ _ _ _ us hl => match us, hl with | [_, _], _ => rfl⟩,
    left_table := ⟨f10, _, fun_mk (st := s_left_table) l10 c10 k10, PySem.W.mg_of X G a10, (fun_mk (st := s_left_table) l10 c10 k10).binds (ps := ["script", "table"]) fun _ _ _ _ _ _ us hl => match us, hl with | [_, _], _ => rfl⟩,
    fi_Script___call__ := fi11,
    Script___call__ := ⟨f11, _, fun_mk (st := s_Script___call__) l11 c11 k11, a11, i11, (fun_mk (st := s_Script___call__) l11 c11 k11).binds (ps := ["self", "table"]) fun _ _ _ _ _ _ us hl => match us, hl with | [_, _], _ => rfl⟩,
    l_pool := ⟨f12, _, fun_mk (st := s_l_pool) l12 c12 k12, PySem.W.mg_of X G a12, (fun_mk (st := s_l_pool) l12 c12 k12).binds (ps := ["_law_script"]) fun _ _ _ _ _ _ us hl => match us, hl with | [_], _ => rfl⟩,
    l_take := ⟨f13, _, fun_mk (st := s_l_take) l13 c13 k13, PySem.W.mg_of X G a13, (fun_mk (st := s_l_take) l13 c13 k13).binds (ps := ["_law_draws", "_law_many"]) fun _ _ _ _ _ _ us hl => match us, hl with | [_, _], _ => rfl⟩,
    l_span := ⟨f14, _, fun_mk (st := s_l_span) l14 c14 k14, PySem.W.mg_of X G a14, (fun_mk (st := s_l_span) l14 c14 k14).binds (ps := ["_law_draws"]) fun _ _ _ _ _ _ us hl => match us, hl with | [_], _ => rfl⟩,
    l_step := ⟨f15, _, fun_mk (st := s_l_step) l15 c15 k15, PySem.W.mg_of X G a15, (fun_mk (st := s_l_step) l15 c15 k15).binds (ps := ["_law_draws"]) fun _ _ _ _ _ _ us hl => match us, hl with | [_], _ => rfl⟩,
    l_steps := ⟨f16, _, fun_mk (st := s_l_steps) l16 c16 k16, PySem.W.mg_of X G a16, (fun_mk (st := s_l_steps) l16 c16 k16).binds (ps := ["_law_draws", "_law_least", "_law_most"]) fun _ _ _ _ _ _ us hl => match us, hl with | [_, _, _], _ => rfl⟩,
    l_pause := ⟨f17, _, fun_mk (st := s_l_pause) l17 c17 k17, PySem.W.mg_of X G a17, (fun_mk (st := s_l_pause) l17 c17 k17).binds (ps := ["_law_draws"]) fun _ _ _ _ _ _ us hl => match us, hl with | [_], _ => rfl⟩,
    l_value := ⟨f18, _, fun_mk (st := s_l_value) l18 c18 k18, PySem.W.mg_of X G a18, (fun_mk (st := s_l_value) l18 c18 k18).binds (ps := ["_law_draws", "_law_k"]) fun _ _ _ _ _ _ us hl => match us, hl with | [_, _], _ => rfl⟩,
    l_table := ⟨f19, _, fun_mk (st := s_l_table) l19 c19 k19, PySem.W.mg_of X G a19, (fun_mk (st := s_l_table) l19 c19 k19).binds (ps := ["_law_draws", "_law_most"]) fun _ _ _ _ _ _ us hl => match us, hl with | [_, _], _ => rfl⟩,
    is_limit := ⟨f20, _, fun_mk (st := s_is_limit) l20 c20 k20, PySem.W.mg_of X G a20, (fun_mk (st := s_is_limit) l20 c20 k20).binds (ps := ["number", "least", "most"]) fun _ _ _ _ _ _ us hl => match us, hl with | [_, _, _], _ => rfl⟩,
    check_step := ⟨f21, _, fun_mk (st := s_check_step) l21 c21 k21, PySem.W.mg_of X G a21, (fun_mk (st := s_check_step) l21 c21 k21).binds (ps := ["step", "index"]) fun _ _ _ _ _ _ us hl => match us, hl with | [_, _], _ => rfl⟩,
    Script___init__ := ⟨f22, _, [.ref dE22], (fun_mkD (st := s_Script___init__) (dvs := [.ref dE22]) (its := [.ref dE22]) l22 c22 k22 (List.cons_ne_nil _ _) t22 (.cons rfl (.nil))), a22, i22, (binds_all (n := 1) (fun_mkD (st := s_Script___init__) (dvs := [.ref dE22]) (its := [.ref dE22]) l22 c22 k22 (List.cons_ne_nil _ _) t22 (.cons rfl (.nil))) (List.cons_ne_nil _ _) rfl fun _ _ _ _ _ _ _ us its h1 h2 => match us, h1, its, h2 with | [_, _], _, [_], _ => ⟨_, rfl, rfl⟩)⟩,
    b0_Script := binds_ref (fun_mkD (st := s_Script___init__) (dvs := [.ref dE22]) (its := [.ref dE22]) l22 c22 k22 (List.cons_ne_nil _ _) t22 (.cons rfl (.nil))) (ps := ["self", "steps"]) rfl fun _ _ _ _ _ _ _ us its h1 h2 => match us, h1, its, h2 with | [_], _, [_], _ => ⟨_, rfl, rfl⟩,
    turned_step := ⟨f23, _, fun_mk (st := s_turned_step) l23 c23 k23, PySem.W.mg_of X G a23, (fun_mk (st := s_turned_step) l23 c23 k23).binds (ps := ["step"]) fun _ _ _ _ _ _ us hl => match us, hl with | [_], _ => rfl⟩,
    Script___invert__ := ⟨f24, _, fun_mk (st := s_Script___invert__) l24 c24 k24, a24, i24, (fun_mk (st := s_Script___invert__) l24 c24 k24).binds (ps := ["self"]) fun _ _ _ _ _ _ us hl => match us, hl with | [_], _ => rfl⟩,
    Script___mul__ := ⟨f25, _, fun_mk (st := s_Script___mul__) l25 c25 k25, a25, i25, (fun_mk (st := s_Script___mul__) l25 c25 k25).binds (ps := ["self", "count"]) fun _ _ _ _ _ _ us hl => match us, hl with | [_, _], _ => rfl⟩,
    Script___add__ := ⟨f26, _, fun_mk (st := s_Script___add__) l26 c26 k26, a26, i26, (fun_mk (st := s_Script___add__) l26 c26 k26).binds (ps := ["self", "other"]) fun _ _ _ _ _ _ us hl => match us, hl with | [_, _], _ => rfl⟩,
    written_step := ⟨f27, _, fun_mk (st := s_written_step) l27 c27 k27, PySem.W.mg_of X G a27, (fun_mk (st := s_written_step) l27 c27 k27).binds (ps := ["step"]) fun _ _ _ _ _ _ us hl => match us, hl with | [_], _ => rfl⟩,
    Script_written := ⟨f28, _, fun_mk (st := s_Script_written) l28 c28 k28, a28, i28, (fun_mk (st := s_Script_written) l28 c28 k28).binds (ps := ["self"]) fun _ _ _ _ _ _ us hl => match us, hl with | [_], _ => rfl⟩,
    read_number := ⟨f29, _, fun_mk (st := s_read_number) l29 c29 k29, PySem.W.mg_of X G a29, (fun_mk (st := s_read_number) l29 c29 k29).binds (ps := ["word"]) fun _ _ _ _ _ _ us hl => match us, hl with | [_], _ => rfl⟩,
    read_step := ⟨f30, _, fun_mk (st := s_read_step) l30 c30 k30, PySem.W.mg_of X G a30, (fun_mk (st := s_read_step) l30 c30 k30).binds (ps := ["line", "index"]) fun _ _ _ _ _ _ us hl => match us, hl with | [_, _], _ => rfl⟩,
    Script_read := ⟨f31, p31, _, fun_mk (st := s_Script_read) l31 c31 k31, ⟨a31, ⟨_, rc31⟩, fi31⟩, (fun_mk (st := s_Script_read) l31 c31 k31).binds (ps := ["cls", "text"]) fun _ _ _ _ _ _ us hl => match us, hl with | [_, _], _ => rfl⟩,
    l_made := ⟨f32, _, fun_mk (st := s_l_made) l32 c32 k32, PySem.W.mg_of X G a32, (fun_mk (st := s_l_made) l32 c32 k32).binds (ps := ["_law_draws", "_law_steps_here"]) fun _ _ _ _ _ _ us hl => match us, hl with | [_, _], _ => rfl⟩,
    l_above := ⟨f33, _, fun_mk (st := s_l_above) l33 c33 k33, PySem.W.mg_of X G a33, (fun_mk (st := s_l_above) l33 c33 k33).binds (ps := ["_law_table_here", "_law_source", "_law_k", "_law_step_here"]) fun _ _ _ _ _ _ us hl => match us, hl with | [_, _, _, _], _ => rfl⟩,
    l_below := ⟨f34, _, fun_mk (st := s_l_below) l34 c34 k34, PySem.W.mg_of X G a34, (fun_mk (st := s_l_below) l34 c34 k34).binds (ps := ["_law_table_here", "_law_source", "_law_k", "_law_step_here"]) fun _ _ _ _ _ _ us hl => match us, hl with | [_, _, _, _], _ => rfl⟩,
    l_pick := ⟨f35, _, fun_mk (st := s_l_pick) l35 c35 k35, PySem.W.mg_of X G a35, (fun_mk (st := s_l_pick) l35 c35 k35).binds (ps := ["_law_way", "_law_k", "_law_above_here", "_law_below_here"]) fun _ _ _ _ _ _ us hl => match us, hl with | [_, _, _, _], _ => rfl⟩,
    l_sources := ⟨f36, _, fun_mk (st := s_l_sources) l36 c36 k36, PySem.W.mg_of X G a36, (fun_mk (st := s_l_sources) l36 c36 k36).binds (ps := ["_law_steps_here", "_law_table_here"]) fun _ _ _ _ _ _ us hl => match us, hl with | [_, _], _ => rfl⟩,
    l_shown := ⟨f37, _, fun_mk (st := s_l_shown) l37 c37 k37, PySem.W.mg_of X G a37, (fun_mk (st := s_l_shown) l37 c37 k37).binds (ps := ["_law_steps_here", "_law_table_here"]) fun _ _ _ _ _ _ us hl => match us, hl with | [_, _], _ => rfl⟩,
    l_remains := ⟨f38, _, fun_mk (st := s_l_remains) l38 c38 k38, PySem.W.mg_of X G a38, (fun_mk (st := s_l_remains) l38 c38 k38).binds (ps := ["_law_steps_here", "_law_table_here"]) fun _ _ _ _ _ _ us hl => match us, hl with | [_, _], _ => rfl⟩,
    l_same := ⟨f39, _, fun_mk (st := s_l_same) l39 c39 k39, PySem.W.mg_of X G a39, (fun_mk (st := s_l_same) l39 c39 k39).binds (ps := ["_law_told", "_law_due"]) fun _ _ _ _ _ _ us hl => match us, hl with | [_, _], _ => rfl⟩,
    law := ⟨f40, _, fun_mk (st := s_law) l40 c40 k40, PySem.W.mg_of X G a40, (fun_mk (st := s_law) l40 c40 k40).binds (ps := ["_law_script"]) fun _ _ _ _ _ _ us hl => match us, hl with | [_], _ => rfl⟩,
    a_DROP_STEP := a_DROP_STEP,
    c_DROP_STEP := PySem.W.mg_of X G c_DROP_STEP,
    q_DROP_STEP := fun E H => .tup (vs := [.str "drop", .non, .non, .int 2]) (.inr ⟨_, _, _, l_DROP_STEP, rfl, rfl, (by show 4 ≤ sizeLine; decide), .cons ⟨_, rfl⟩ (.cons rfl (.cons rfl (.cons ⟨_, rfl⟩ (.nil))))⟩) (.cons (.str _) (.cons (.non) (.cons (.non) (.cons (.int _) (.nil))))),
    a_FILL_WAYS := a_FILL_WAYS,
    c_FILL_WAYS := PySem.W.mg_of X G c_FILL_WAYS,
    q_FILL_WAYS := fun E H => .tup (vs := [.str "down", .str "up", .str "near_above", .str "near_below"]) (.inr ⟨_, _, _, l_FILL_WAYS, rfl, rfl, (by show 4 ≤ sizeLine; decide), .cons ⟨_, rfl⟩ (.cons ⟨_, rfl⟩ (.cons ⟨_, rfl⟩ (.cons ⟨_, rfl⟩ (.nil))))⟩) (.cons (.str _) (.cons (.str _) (.cons (.str _) (.cons (.str _) (.nil))))),
    t_MOST_DAY := t_MOST_DAY,
    c_MOST_DAY := PySem.W.mg_of X G c_MOST_DAY,
    t_MOST_DAYS := t_MOST_DAYS,
    c_MOST_DAYS := PySem.W.mg_of X G c_MOST_DAYS,
    t_MOST_LEVEL := t_MOST_LEVEL,
    c_MOST_LEVEL := PySem.W.mg_of X G c_MOST_LEVEL,
    t_MOST_ROWS := t_MOST_ROWS,
    c_MOST_ROWS := PySem.W.mg_of X G c_MOST_ROWS,
    t_MOST_VALUE := t_MOST_VALUE,
    c_MOST_VALUE := PySem.W.mg_of X G c_MOST_VALUE,
    t_TOP_LEVEL := t_TOP_LEVEL,
    c_TOP_LEVEL := PySem.W.mg_of X G c_TOP_LEVEL,
    a_OPPOSITE := a_OPPOSITE,
    c_OPPOSITE := PySem.W.mg_of X G c_OPPOSITE,
    kd_OPPOSITE := kd_of l_OPPOSITE kk_OPPOSITE (kd_cons (v := .str "up") v_OPPOSITE_0 ⟨_, rfl⟩ (fun _ _ => .str _) (kd_cons (v := .str "down") v_OPPOSITE_1 ⟨_, rfl⟩ (fun _ _ => .str _) (kd_cons (v := .str "near_below") v_OPPOSITE_2 ⟨_, rfl⟩ (fun _ _ => .str _) (kd_cons (v := .str "near_above") v_OPPOSITE_3 ⟨_, rfl⟩ (fun _ _ => .str _) (kd_cons (v := .str "drop") v_OPPOSITE_4 ⟨_, rfl⟩ (fun _ _ => .str _) kd_nil))))),
    dE_Script := dE22,
    de_Script := fun H => .tup (vs := []) (.inr ⟨_, _, _, lE_Script, rfl, rfl, (by show 0 ≤ sizeLine; decide), .nil⟩) .nil,
    n_abs := PySem.W.mg_none_of X G n_abs,
    n_bool := PySem.W.mg_none_of X G n_bool,
    n_enumerate := PySem.W.mg_none_of X G n_enumerate,
    n_int := PySem.W.mg_none_of X G n_int,
    n_isinstance := PySem.W.mg_none_of X G n_isinstance,
    n_iter := PySem.W.mg_none_of X G n_iter,
    n_len := PySem.W.mg_none_of X G n_len,
    n_list := PySem.W.mg_none_of X G n_list,
    n_range := PySem.W.mg_none_of X G n_range,
    n_reversed := PySem.W.mg_none_of X G n_reversed,
    n_str := PySem.W.mg_none_of X G n_str,
    n_tuple := PySem.W.mg_none_of X G n_tuple,
    n_zip := PySem.W.mg_none_of X G n_zip }, rfl, rfl⟩
theorem law_ok {l : PySem.W.OpenLaw} {w : World} {K : PySem.W.Frag} {mg : Str → Option Value} {fa f : Addr} {kV dc pm cd ct : Value} {an : Option Addr} (X : ∃ T : Tx K mg w, T.law.f = f ∧ T.law.fd = (PySem.W.fnOf "law" "law" (defArgs s_law) (defBody s_law) (defScope s_law) .none kV dc pm an cd ct)) (hfa : mg "law" = some (.ref fa)) :
    ∃ fd : FuncData, (∀ (s : Shared) (v : Value), BindsTo s fd ⟨[v], []⟩ [("_law_script", v)]) ∧ ∀ base : Heap, K.In base → base.Ns mainGlobals mg → FnOk l.prog w K mg base CX0 8 fa fd ["_law_script"] (spLaw K) := by
  obtain ⟨T, h1, h2⟩ := X
  have e := hfa.symm.trans T.law.m
  cases e
  refine ⟨T.law.fd, fun s v => by rw [h2]; exact .of_eq rfl, fun base _ _ => ok_law (T := ⟨K, fun _ => 0⟩) T (law_true)⟩
theorem walk {l : PySem.W.OpenLaw} {q : Program} {loose : List Str} {XP : (Str → Option Value) → Heap → Prop} {YP : World → Heap → Prop} {d : DefRec} {K : Params → PySem.W.Frag} (hn : l.most = some 63) (hdf : d.params.defaults = [])
    (hY : ∀ (w : World) (h : Heap), YP w h → (K w.params).In h)
    (F : ∀ (w : World) (mg : Str → Option Value) (fa : Addr) (h : Heap), (K w.params).In h → h.Ns mainGlobals mg → mg d.name = some (.ref fa) →
      ∃ fd : FuncData, (∀ (s : Shared) (u : Value), BindsTo s fd ⟨[u], []⟩ [("_law_script", u)]) ∧ ∀ base : Heap, (K w.params).In base → base.Ns mainGlobals mg → FnOk l.prog w (K w.params) mg base CX0 8 fa fd ["_law_script"] (spLaw (K w.params))) :
    PySem.W.WalkO q loose XP YP l.row.toRowW d [] (fun f vs => PySem.call f vs) :=
  L2.walk_of (n := 63) (k := 8) (x := "_law_script") (CX := fun _ => CX0) (sp := fun w => spLaw (K w.params)) hn (by decide) hdf ⟨rfl, by decide, by decide⟩ hY F (fun _ _ a ns hl _ hS => ⟨a, ns, rfl, hS, hl, fun _ => rfl⟩) fun _ _ _ _ _ z => z
end L
open PySem PySem.W PyProof.Rows
set_option maxRecDepth 100000 in
set_option maxHeartbeats 0 in
theorem PySem.Challenge.cw_fillrace_k10_left_table_holds : PySem.Challenge.rw_fillrace_k10_left_table.Holds := by
  w_on; o_law; k_head; (case hw => w_witness2)
  k_fill
  refine L.walk (l := PySem.Challenge.rw_fillrace_k10_left_table) rfl rfl (fun w h Y => PySem.W.kIn_of Y) ?F
  case F =>
    intro w mg fa h KX G hmg
    refine' L.law_ok (L.mk_all KX G ?a_Script ?pg_Script ?hd_Script ?po_Script ?sa_Script ?mk_Script ?kc_Script ?cr_Script ?ga_Script ?na_Script_parts ?koa_Script ?kon_Script ?kot_Script ?kom_Script ?sfm_Script ?mr_Script ?mh1_Script ?mh2_Script ?mhs_Script ?sf_Script ?cv_Script_MOST ?a0 ?i0 ?l0 ?c0 ?k0 ?a1 ?i1 ?l1 ?c1 ?k1 ?a2 ?l2 ?c2 ?k2 ?a3 ?l3 ?c3 ?k3 ?a4 ?l4 ?c4 ?k4 ?a5 ?l5 ?c5 ?k5 ?a6 ?l6 ?c6 ?k6 ?a7 ?l7 ?c7 ?k7 ?a8 ?l8 ?c8 ?k8 ?a9 ?l9 ?c9 ?k9 ?a10 ?l10 ?c10 ?k10 ?a11 ?i11 ?fi11 ?l11 ?c11 ?k11 ?a12 ?l12 ?c12 ?k12 ?a13 ?l13 ?c13 ?k13 ?a14 ?l14 ?c14 ?k14 ?a15 ?l15 ?c15 ?k15 ?a16 ?l16 ?c16 ?k16 ?a17 ?l17 ?c17 ?k17 ?a18 ?l18 ?c18 ?k18 ?a19 ?l19 ?c19 ?k19 ?a20 ?l20 ?c20 ?k20 ?a21 ?l21 ?c21 ?k21 ?a22 ?i22 ?l22 ?t22 ?c22 ?k22 ?a23 ?l23 ?c23 ?k23 ?a24 ?i24 ?l24 ?c24 ?k24 ?a25 ?i25 ?l25 ?c25 ?k25 ?a26 ?i26 ?l26 ?c26 ?k26 ?a27 ?l27 ?c27 ?k27 ?a28 ?i28 ?l28 ?c28 ?k28 ?a29 ?l29 ?c29 ?k29 ?a30 ?l30 ?c30 ?k30 ?a31 ?rc31 ?fi31 ?l31 ?c31 ?k31 ?a32 ?l32 ?c32 ?k32 ?a33 ?l33 ?c33 ?k33 ?a34 ?l34 ?c34 ?k34 ?a35 ?l35 ?c35 ?k35 ?a36 ?l36 ?c36 ?k36 ?a37 ?l37 ?c37 ?k37 ?a38 ?l38 ?c38 ?k38 ?a39 ?l39 ?c39 ?k39 ?a40 ?l40 ?c40 ?k40 ?c_DROP_STEP ?l_DROP_STEP ?c_FILL_WAYS ?l_FILL_WAYS ?c_MOST_DAY ?c_MOST_DAYS ?c_MOST_LEVEL ?c_MOST_ROWS ?c_MOST_VALUE ?c_TOP_LEVEL ?c_OPPOSITE ?l_OPPOSITE ?kk_OPPOSITE ?v_OPPOSITE_0 ?v_OPPOSITE_1 ?v_OPPOSITE_2 ?v_OPPOSITE_3 ?v_OPPOSITE_4 ?lE_Script ?n_abs ?n_bool ?n_enumerate ?n_int ?n_isinstance ?n_iter ?n_len ?n_list ?n_range ?n_reversed ?n_str ?n_tuple ?n_zip) hmg
    (case a_Script => k_is)
    (case pg_Script => k_is)
    (case hd_Script => k_is)
    (case po_Script => k_is)
    (case sa_Script => k_is)
    (case mk_Script => k_is)
    (case kc_Script => k_is)
    (case cr_Script => k_is)
    (case ga_Script => k_is)
    (case na_Script_parts => k_is)
    (case koa_Script => k_is)
    (case kon_Script => k_is)
    (case kot_Script => k_is)
    (case kom_Script => k_is)
    (case sfm_Script => k_is)
    (case mr_Script => k_is)
    (case mh1_Script => k_is)
    (case mh2_Script => k_is)
    (case mhs_Script => k_is)
    (case sf_Script => k_is)
    (case cv_Script_MOST => k_is)
    (case a0 => k_is)
    (case i0 => k_is)
    (case l0 => k_is)
    (case c0 => k_is)
    (case k0 => k_is)
    (case a1 => k_is)
    (case i1 => k_is)
    (case l1 => k_is)
    (case c1 => k_is)
    (case k1 => k_is)
    (case a2 => k_is)
    (case l2 => k_is)
    (case c2 => k_is)
    (case k2 => k_is)
    (case a3 => k_is)
    (case l3 => k_is)
    (case c3 => k_is)
    (case k3 => k_is)
    (case a4 => k_is)
    (case l4 => k_is)
    (case c4 => k_is)
    (case k4 => k_is)
    (case a5 => k_is)
    (case l5 => k_is)
    (case c5 => k_is)
    (case k5 => k_is)
    (case a6 => k_is)
    (case l6 => k_is)
    (case c6 => k_is)
    (case k6 => k_is)
    (case a7 => k_is)
    (case l7 => k_is)
    (case c7 => k_is)
    (case k7 => k_is)
    (case a8 => k_is)
    (case l8 => k_is)
    (case c8 => k_is)
    (case k8 => k_is)
    (case a9 => k_is)
    (case l9 => k_is)
    (case c9 => k_is)
    (case k9 => k_is)
    (case a10 => k_is)
    (case l10 => k_is)
    (case c10 => k_is)
    (case k10 => k_is)
    (case a11 => k_is)
    (case i11 => k_is)
    (case fi11 => k_is)
    (case l11 => k_is)
    (case c11 => k_is)
    (case k11 => k_is)
    (case a12 => k_is)
    (case l12 => k_is)
    (case c12 => k_is)
    (case k12 => k_is)
    (case a13 => k_is)
    (case l13 => k_is)
    (case c13 => k_is)
    (case k13 => k_is)
    (case a14 => k_is)
    (case l14 => k_is)
    (case c14 => k_is)
    (case k14 => k_is)
    (case a15 => k_is)
    (case l15 => k_is)
    (case c15 => k_is)
    (case k15 => k_is)
    (case a16 => k_is)
    (case l16 => k_is)
    (case c16 => k_is)
    (case k16 => k_is)
    (case a17 => k_is)
    (case l17 => k_is)
    (case c17 => k_is)
    (case k17 => k_is)
    (case a18 => k_is)
    (case l18 => k_is)
    (case c18 => k_is)
    (case k18 => k_is)
    (case a19 => k_is)
    (case l19 => k_is)
    (case c19 => k_is)
    (case k19 => k_is)
    (case a20 => k_is)
    (case l20 => k_is)
    (case c20 => k_is)
    (case k20 => k_is)
    (case a21 => k_is)
    (case l21 => k_is)
    (case c21 => k_is)
    (case k21 => k_is)
    (case a22 => k_is)
    (case i22 => k_is)
    (case l22 => k_is)
    (case t22 => k_is)
    (case c22 => k_is)
    (case k22 => k_is)
    (case a23 => k_is)
    (case l23 => k_is)
    (case c23 => k_is)
    (case k23 => k_is)
    (case a24 => k_is)
    (case i24 => k_is)
    (case l24 => k_is)
    (case c24 => k_is)
    (case k24 => k_is)
    (case a25 => k_is)
    (case i25 => k_is)
    (case l25 => k_is)
    (case c25 => k_is)
    (case k25 => k_is)
    (case a26 => k_is)
    (case i26 => k_is)
    (case l26 => k_is)
    (case c26 => k_is)
    (case k26 => k_is)
    (case a27 => k_is)
    (case l27 => k_is)
    (case c27 => k_is)
    (case k27 => k_is)
    (case a28 => k_is)
    (case i28 => k_is)
    (case l28 => k_is)
    (case c28 => k_is)
    (case k28 => k_is)
    (case a29 => k_is)
    (case l29 => k_is)
    (case c29 => k_is)
    (case k29 => k_is)
    (case a30 => k_is)
    (case l30 => k_is)
    (case c30 => k_is)
    (case k30 => k_is)
    (case a31 => k_is)
    (case rc31 => k_is)
    (case fi31 => k_is)
    (case l31 => k_is)
    (case c31 => k_is)
    (case k31 => k_is)
    (case a32 => k_is)
    (case l32 => k_is)
    (case c32 => k_is)
    (case k32 => k_is)
    (case a33 => k_is)
    (case l33 => k_is)
    (case c33 => k_is)
    (case k33 => k_is)
    (case a34 => k_is)
    (case l34 => k_is)
    (case c34 => k_is)
    (case k34 => k_is)
    (case a35 => k_is)
    (case l35 => k_is)
    (case c35 => k_is)
    (case k35 => k_is)
    (case a36 => k_is)
    (case l36 => k_is)
    (case c36 => k_is)
    (case k36 => k_is)
    (case a37 => k_is)
    (case l37 => k_is)
    (case c37 => k_is)
    (case k37 => k_is)
    (case a38 => k_is)
    (case l38 => k_is)
    (case c38 => k_is)
    (case k38 => k_is)
    (case a39 => k_is)
    (case l39 => k_is)
    (case c39 => k_is)
    (case k39 => k_is)
    (case a40 => k_is)
    (case l40 => k_is)
    (case c40 => k_is)
    (case k40 => k_is)
    (case c_DROP_STEP => k_is)
    (case l_DROP_STEP => k_is)
    (case c_FILL_WAYS => k_is)
    (case l_FILL_WAYS => k_is)
    (case c_MOST_DAY => k_is)
    (case c_MOST_DAYS => k_is)
    (case c_MOST_LEVEL => k_is)
    (case c_MOST_ROWS => k_is)
    (case c_MOST_VALUE => k_is)
    (case c_TOP_LEVEL => k_is)
    (case c_OPPOSITE => k_is)
    (case l_OPPOSITE => k_is)
    (case kk_OPPOSITE => k_keys)
    (case v_OPPOSITE_0 => k_is)
    (case v_OPPOSITE_1 => k_is)
    (case v_OPPOSITE_2 => k_is)
    (case v_OPPOSITE_3 => k_is)
    (case v_OPPOSITE_4 => k_is)
    (case lE_Script => k_is)
    (case n_abs => k_is)
    (case n_bool => k_is)
    (case n_enumerate => k_is)
    (case n_int => k_is)
    (case n_isinstance => k_is)
    (case n_iter => k_is)
    (case n_len => k_is)
    (case n_list => k_is)
    (case n_range => k_is)
    (case n_reversed => k_is)
    (case n_str => k_is)
    (case n_tuple => k_is)
    (case n_zip => k_is)

