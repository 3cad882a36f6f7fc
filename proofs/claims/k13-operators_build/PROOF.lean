import PyProof.Rows.All
import Wide.All
import OpenK.AllK
import Wide.FinOn
import HandS.HeadWalk
import HandS.ForMost
import HandS.ForExc
import HandS.ExcOwn
import HandS.CallSlots
import HandS.TupAny
import HandS.TupLe
import HandS.Deep
import HandS.Style
import HandS.Flow
import HandS.MakeKw
import HandS.MakeKwOnly
import OpenK.KMeth
import KE.KOpsOwn
import HandS.IsInst
import HandS.Zip
import HandS.Text
import HandS.TryOnly
import HandS.FStr
import HandS.Strs
import HandS.RaiseMore
import HandS.SortInts
import HandS.More
import KE.GoesEnum
import HandS.DictComp
import HandS.Star
import PyProof.CollectStr
import PyProof.ListStr
import HandS.Defaults
import HandS.HeadHook1
import HandS.HeadHook2
import HandS.Ends
import HandS.Words
import HandS.WordsExc
import HandS.Head0
import HandS.Head1
import HandS.Head2
import HandS.HeadEnd
import KE.KStateDown
import PySem.Challenge.RW_levelwalks_k13_operators_build
set_option Elab.async false
set_option linter.all false
set_option maxRecDepth 100000
set_option maxHeartbeats 0
/-! DL1: data by content (D), a store of mutable cells, how they lie in the abstract heap (Rep, Rl), readings over them (tD). -/
namespace DL
open PySem PySem.Spec PyProof.Rows L2

inductive D where
  | non | bl (b : Bool) | int (i : Int) | str (x : Str)
  | tup (xs : List D) | lst (xs : List D) | klst (xs : List D)
  | dct (tk : Nat) (kvs : List (D × D))
  | ins (c : Nat) (fs : List (Str × D))
  | loc (n : Nat) | cls (c : Nat) | ty (n : String)
  deriving Inhabited
inductive Cell where
  | lst (xs : List D) | dct (tk : Nat) (kvs : List (D × D)) | ins (c : Nat) (fs : List (Str × D)) | dead
  deriving Inhabited
def Cell.live : Cell → Bool
  | .dead => false
  | _ => true
abbrev Store := List Cell
structure XD where
  cls : Nat
  fs : List (Str × D)
inductive Res (α : Type) where
  | ok (a : α) | err (x : XD)
abbrev Ev (α : Type) := Store → Option (Res α × Store)
abbrev Rho := List (Option D)
def Ev.ret {α : Type} (a : α) : Ev α := fun μ => some (.ok a, μ)
def Ev.bind {α β : Type} (m : Ev α) (k : α → Ev β) : Ev β := fun μ => match m μ with
  | none => none
  | some (.ok a, μ1) => k a μ1
  | some (.err x, μ1) => some (.err x, μ1)
/-- a partial operation that raises nothing -/
def Ev.op {α : Type} (o : Store → Option (α × Store)) : Ev α := fun μ => match o μ with
  | none => none
  | some (a, μ1) => some (.ok a, μ1)
theorem Ev.bind_ok {α β : Type} {m : Ev α} {k : α → Ev β} {μ μ1 : Store} {a : α} (h : m μ = some (.ok a, μ1)) : (m.bind k) μ = k a μ1 := by
  unfold Ev.bind; rw [h]
theorem Ev.bind_err {α β : Type} {m : Ev α} {k : α → Ev β} {μ μ1 : Store} {x : XD} (h : m μ = some (.err x, μ1)) : (m.bind k) μ = some (.err x, μ1) := by
  unfold Ev.bind; rw [h]
/-- how a bind came to its end -/
theorem Ev.bind_inv {α β : Type} {m : Ev α} {k : α → Ev β} {μ μ' : Store} {r : Res β} (h : (m.bind k) μ = some (r, μ')) :
    (∃ a μ1, m μ = some (.ok a, μ1) ∧ k a μ1 = some (r, μ')) ∨ (∃ x, m μ = some (.err x, μ') ∧ r = .err x) := by
  unfold Ev.bind at h
  cases e : m μ with
  | none => rw [e] at h; cases h
  | some p =>
    obtain ⟨r1, μ1⟩ := p
    rw [e] at h
    cases r1 with
    | ok a => exact .inl ⟨a, μ1, rfl, h⟩
    | err x =>
      cases h
      exact .inr ⟨x, rfl, rfl⟩
theorem Ev.op_inv {α : Type} {o : Store → Option (α × Store)} {μ μ' : Store} {r : Res α} (h : Ev.op o μ = some (r, μ')) : ∃ a, o μ = some (a, μ') ∧ r = .ok a := by
  unfold Ev.op at h
  cases e : o μ with
  | none => rw [e] at h; cases h
  | some p => obtain ⟨a, μ1⟩ := p; rw [e] at h; cases h; exact ⟨a, rfl, rfl⟩

/-- the written part, and where the classes stand -/
structure Rc where
  K : PySem.W.Frag
  cA : Nat → Addr
  /-- objects that nobody may change meanwhile -/
  P : Hp
abbrev Rc.wP (R : Rc) (P : Hp) : Rc := { R with P := P }

def kD : Key → D
  | .inl i => .int i
  | .inr x => .str x

/-- a tuple that stands in the heap or in the written part -/
def TuA (K : PySem.W.Frag) (F : Hp) (a : Addr) (xs : List V) : Prop := F a = some (.tup xs) ∨
  ∃ o its n, K.lookup a = some o ∧ o.cls = .type "tuple" ∧ o.data = .seq its n ∧ its.size ≤ sizeLine ∧ Vals xs its.toList
theorem TuA.sq {K : PySem.W.Frag} {F : Hp} {a : Addr} {xs : List V} (h : TuA K F a xs) : SqT K F a xs := by
  rcases h with h | h
  · exact .inl (.inl h)
  · exact .inr h
theorem TuA.mono {K : PySem.W.Frag} {F F' : Hp} {a : Addr} {xs : List V} (h : TuA K F a xs) (e : Same F F') : TuA K F' a xs := by
  rcases h with h | h
  · exact .inl (e _ _ h)
  · exact .inr h
/-- what a value is, by content; α: where the cells of the store stand, F: the objects that stay -/
inductive Rep (R : Rc) (α : List Addr) (F : Hp) : V → D → Prop where
  | non : Rep R α F .non .non
  | bl (b : Bool) : Rep R α F (.bl b) (.bl b)
  | int (i : Int) : Rep R α F (.int i) (.int i)
  | str (x : Str) : Rep R α F (.str x) (.str x)
  | tup {a : Addr} {vs : List V} {ds : List D} (h : TuA R.K F a vs) (hl : vs.length = ds.length) (hi : ∀ (i : Nat) v d, vs[i]? = some v → ds[i]? = some d → Rep R α F v d) : Rep R α F (.ref a) (.tup ds)
  | lst {a : Addr} {vs : List V} {ds : List D} (h : F a = some (.lst vs)) (hl : vs.length = ds.length) (hi : ∀ (i : Nat) v d, vs[i]? = some v → ds[i]? = some d → Rep R α F v d) : Rep R α F (.ref a) (.lst ds)
  | klst {a : Addr} {vs : List V} {ds : List D} (h : SqL R.K F a vs) (hl : vs.length = ds.length) (hi : ∀ (i : Nat) v d, vs[i]? = some v → ds[i]? = some d → Rep R α F v d) : Rep R α F (.ref a) (.klst ds)
  | dK {a : Addr} {kvs : List (Key × V)} {es : List (D × D)} (h : F a = some (.dK kvs)) (hl : kvs.length = es.length) (hk : ∀ (i : Nat) p q, kvs[i]? = some p → es[i]? = some q → q.1 = kD p.1) (hi : ∀ (i : Nat) p q, kvs[i]? = some p → es[i]? = some q → Rep R α F p.2 q.2) : Rep R α F (.ref a) (.dct 0 es)
  | dT {a : Addr} {kvs : List (List Key × V)} {es : List (D × D)} (h : F a = some (.dT kvs)) (hl : kvs.length = es.length) (hk : ∀ (i : Nat) p q, kvs[i]? = some p → es[i]? = some q → q.1 = .tup (p.1.map kD)) (hi : ∀ (i : Nat) p q, kvs[i]? = some p → es[i]? = some q → Rep R α F p.2 q.2) : Rep R α F (.ref a) (.dct 1 es)
  | ins {a dx : Addr} {c : Nat} {gs : List (Str × V)} {fs : List (Str × D)} (h : F a = some (.ins (R.cA c) dx gs)) (hl : gs.length = fs.length) (hk : ∀ (i : Nat) p q, gs[i]? = some p → fs[i]? = some q → p.1 = q.1) (hi : ∀ (i : Nat) p q, gs[i]? = some p → fs[i]? = some q → Rep R α F p.2 q.2) : Rep R α F (.ref a) (.ins c fs)
  | loc {n : Nat} {a : Addr} (h : α[n]? = some a) : Rep R α F (.ref a) (.loc n)
  | cls (c : Nat) : Rep R α F (.ref (R.cA c)) (.cls c)
  | ty (n : String) : Rep R α F (.ty n) (.ty n)

theorem Same.sqT {K : PySem.W.Frag} {H H' : Hp} {a : Addr} {xs : List V} (e : Same H H') (h : SqT K H a xs) : SqT K H' a xs := by
  rcases h with (h | ⟨o, h⟩) | h
  · exact .inl (.inl (e _ _ h))
  · exact .inl (.inr ⟨o, e _ _ h⟩)
  · exact .inr h
section
variable {R : Rc} {α α' : List Addr} {F F' : Hp}
theorem Rep.mono {v : V} {d : D} (h : Rep R α F v d) (ha : α <+: α') (hF : Same F F') : Rep R α' F' v d := by
  induction h with
  | non => exact .non
  | bl b => exact .bl b
  | int i => exact .int i
  | str x => exact .str x
  | tup h hl hi ih => exact .tup (h.mono hF) hl ih
  | lst h hl hi ih => exact .lst (hF _ _ h) hl ih
  | klst h hl hi ih => exact .klst (hF.seq h) hl ih
  | dK h hl hk hi ih => exact .dK (hF _ _ h) hl hk ih
  | dT h hl hk hi ih => exact .dT (hF _ _ h) hl hk ih
  | ins h hl hk hi ih => exact .ins (hF _ _ h) hl hk ih
  | loc h =>
    obtain ⟨t, rfl⟩ := ha
    refine .loc ?_
    rw [List.getElem?_append_left (List.getElem?_eq_some_iff.mp h).1]
    exact h
  | cls c => exact .cls c
  | ty n => exact .ty n
end
/-- lists, item by item -/
abbrev RepL (R : Rc) (α : List Addr) (F : Hp) : List V → List D → Prop := Paired (Rep R α F)
abbrev RepF (R : Rc) (α : List Addr) (F : Hp) : List (Str × V) → List (Str × D) → Prop := Paired fun p q => p.1 = q.1 ∧ Rep R α F p.2 q.2
theorem paired_of {α β : Type} {P : α → β → Prop} : ∀ {xs : List α} {ys : List β}, xs.length = ys.length → (∀ (i : Nat) x y, xs[i]? = some x → ys[i]? = some y → P x y) → Paired P xs ys
  | [], [], _, _ => .nil
  | [], _ :: _, h, _ => by simp at h
  | _ :: _, [], h, _ => by simp at h
  | x :: xs, y :: ys, h, hi => .cons (hi 0 x y rfl rfl) (paired_of (by simpa using h) fun i a b e1 e2 => hi (i + 1) a b (by simpa using e1) (by simpa using e2))
theorem paired_ix {α β : Type} {P : α → β → Prop} : ∀ {xs : List α} {ys : List β}, Paired P xs ys → ∀ (i : Nat) x y, xs[i]? = some x → ys[i]? = some y → P x y
  | _, _, .nil, i, x, y, e, _ => by simp at e
  | _, _, .cons h t, 0, x, y, e1, e2 => by simp at e1 e2; subst e1; subst e2; exact h
  | _, _, .cons h t, i + 1, x, y, e1, e2 => paired_ix t i x y (by simpa using e1) (by simpa using e2)
theorem paired_left {α β : Type} {P : α → β → Prop} : ∀ {xs : List α} {ys : List β}, Paired P xs ys → ∀ (i : Nat) y, ys[i]? = some y → ∃ x, xs[i]? = some x ∧ P x y
  | _, _, .nil, i, y, e => by simp at e
  | _, _, .cons h t, 0, y, e => by simp at e; subst e; exact ⟨_, rfl, h⟩
  | _, _, .cons h t, i + 1, y, e => by
    obtain ⟨x, e1, e2⟩ := paired_left t i y (by simpa using e)
    exact ⟨x, by simpa using e1, e2⟩
theorem paired_append {α β : Type} {P : α → β → Prop} : ∀ {xs xs' : List α} {ys ys' : List β}, Paired P xs ys → Paired P xs' ys' → Paired P (xs ++ xs') (ys ++ ys')
  | _, _, _, _, .nil, h => h
  | _, _, _, _, .cons a t, h => .cons a (paired_append t h)
theorem paired_take {α β : Type} {P : α → β → Prop} : ∀ {xs : List α} {ys : List β} (n : Nat), Paired P xs ys → Paired P (xs.take n) (ys.take n)
  | _, _, 0, _ => .nil
  | _, _, _ + 1, .nil => .nil
  | _, _, n + 1, .cons a t => .cons a (paired_take n t)
theorem paired_drop {α β : Type} {P : α → β → Prop} : ∀ {xs : List α} {ys : List β} (n : Nat), Paired P xs ys → Paired P (xs.drop n) (ys.drop n)
  | _, _, 0, h => h
  | _, _, _ + 1, .nil => .nil
  | _, _, n + 1, .cons a t => paired_drop n t
theorem paired_set {α β : Type} {P : α → β → Prop} {a : α} {b : β} (h : P a b) : ∀ {xs : List α} {ys : List β} (n : Nat), Paired P xs ys → Paired P (xs.set n a) (ys.set n b)
  | _, _, _, .nil => .nil
  | _, _, 0, .cons _ t => .cons h t
  | _, _, n + 1, .cons q t => .cons q (paired_set h n t)
theorem paired_erase {α β : Type} {P : α → β → Prop} : ∀ {xs : List α} {ys : List β} (n : Nat), Paired P xs ys → Paired P (xs.eraseIdx n) (ys.eraseIdx n)
  | _, _, _, .nil => .nil
  | _, _, 0, .cons _ t => t
  | _, _, n + 1, .cons q t => .cons q (paired_erase n t)
theorem paired_dropLast {α β : Type} {P : α → β → Prop} {xs : List α} {ys : List β} (h : Paired P xs ys) : Paired P xs.dropLast ys.dropLast := by
  rw [List.dropLast_eq_take, List.dropLast_eq_take, ← h.length]
  exact paired_take _ h
theorem paired_reverse {α β : Type} {P : α → β → Prop} : ∀ {xs : List α} {ys : List β}, Paired P xs ys → Paired P xs.reverse ys.reverse
  | _, _, .nil => .nil
  | _, _, .cons a t => by
    rw [List.reverse_cons, List.reverse_cons]
    exact paired_append (paired_reverse t) (.cons a .nil)
theorem RepL.mono {R : Rc} {α α' : List Addr} {F F' : Hp} {vs : List V} {ds : List D} (h : RepL R α F vs ds) (ha : α <+: α') (hF : Same F F') : RepL R α' F' vs ds := Paired.mapP h fun _ _ x => x.mono ha hF
theorem RepF.mono {R : Rc} {α α' : List Addr} {F F' : Hp} {vs : List (Str × V)} {ds : List (Str × D)} (h : RepF R α F vs ds) (ha : α <+: α') (hF : Same F F') : RepF R α' F' vs ds := Paired.mapP h fun _ _ x => ⟨x.1, x.2.mono ha hF⟩
section
variable {R : Rc} {α : List Addr} {F : Hp}
theorem Rep.mkTup {a : Addr} {vs : List V} {ds : List D} (h : TuA R.K F a vs) (r : RepL R α F vs ds) : Rep R α F (.ref a) (.tup ds) := .tup h r.length (paired_ix r)
theorem Rep.mkLst {a : Addr} {vs : List V} {ds : List D} (h : F a = some (.lst vs)) (r : RepL R α F vs ds) : Rep R α F (.ref a) (.lst ds) := .lst h r.length (paired_ix r)
theorem Rep.mkIns {a dx : Addr} {c : Nat} {gs : List (Str × V)} {fs : List (Str × D)} (h : F a = some (.ins (R.cA c) dx gs)) (r : RepF R α F gs fs) : Rep R α F (.ref a) (.ins c fs) := .ins h r.length (fun i p q e1 e2 => (paired_ix r i p q e1 e2).1) (fun i p q e1 e2 => (paired_ix r i p q e1 e2).2)
theorem Rep.tup_inv {v : V} {ds : List D} (h : Rep R α F v (.tup ds)) : ∃ a vs, v = .ref a ∧ TuA R.K F a vs ∧ RepL R α F vs ds := by
  cases h with
  | tup h hl hi => exact ⟨_, _, rfl, h, paired_of hl hi⟩
theorem Rep.lst_inv {v : V} {ds : List D} (h : Rep R α F v (.lst ds)) : ∃ a vs, v = .ref a ∧ F a = some (.lst vs) ∧ RepL R α F vs ds := by
  cases h with
  | lst h hl hi => exact ⟨_, _, rfl, h, paired_of hl hi⟩
theorem Rep.klst_inv {v : V} {ds : List D} (h : Rep R α F v (.klst ds)) : ∃ a vs, v = .ref a ∧ SqL R.K F a vs ∧ RepL R α F vs ds := by
  cases h with
  | klst h hl hi => exact ⟨_, _, rfl, h, paired_of hl hi⟩
theorem Rep.ins_inv {v : V} {c : Nat} {fs : List (Str × D)} (h : Rep R α F v (.ins c fs)) : ∃ a dx gs, v = .ref a ∧ F a = some (.ins (R.cA c) dx gs) ∧ RepF R α F gs fs := by
  cases h with
  | ins h hl hk hi => exact ⟨_, _, _, rfl, h, paired_of hl fun i p q e1 e2 => ⟨hk i p q e1 e2, hi i p q e1 e2⟩⟩
theorem Rep.loc_inv {v : V} {n : Nat} (h : Rep R α F v (.loc n)) : ∃ a, v = .ref a ∧ α[n]? = some a := by
  cases h with
  | loc h => exact ⟨_, rfl, h⟩
end

theorem Rep.wP {R : Rc} {α : List Addr} {F P : Hp} {v : V} {d : D} (h : Rep R α F v d) : Rep (R.wP P) α F v d := by
  induction h with
  | non => exact .non
  | bl b => exact .bl b
  | int i => exact .int i
  | str x => exact .str x
  | tup h hl hi ih => exact .tup h hl ih
  | lst h hl hi ih => exact .lst h hl ih
  | klst h hl hi ih => exact .klst h hl ih
  | dK h hl hk hi ih => exact .dK h hl hk ih
  | dT h hl hk hi ih => exact .dT h hl hk ih
  | ins h hl hk hi ih => exact .ins h hl hk ih
  | loc h => exact .loc h
  | cls c => exact .cls c
  | ty n => exact .ty n
theorem Rep.uP {R : Rc} {α : List Addr} {F P : Hp} {v : V} {d : D} (h : Rep (R.wP P) α F v d) : Rep R α F v d := h.wP (P := R.P)
/-! ### the store -/
def DOk (R : Rc) (α : List Addr) (F : Hp) (o : HO) (tk : Nat) (es : List (D × D)) : Prop :=
  (tk = 0 ∧ ∃ kvs, o = .dK kvs ∧ Paired (fun p q => q.1 = kD p.1 ∧ Rep R α F p.2 q.2) kvs es) ∨ (tk = 1 ∧ ∃ kvs, o = .dT kvs ∧ Paired (fun p q => q.1 = D.tup (p.1.map kD) ∧ Rep R α F p.2 q.2) kvs es)
theorem DOk.mono {R : Rc} {α α' : List Addr} {F F' : Hp} {o : HO} {tk : Nat} {es : List (D × D)} (h : DOk R α F o tk es) (ha : α <+: α') (hF : Same F F') : DOk R α' F' o tk es := by
  rcases h with ⟨e, kvs, h1, h2⟩ | ⟨e, kvs, h1, h2⟩
  · exact .inl ⟨e, kvs, h1, Paired.mapP h2 fun _ _ x => ⟨x.1, x.2.mono ha hF⟩⟩
  · exact .inr ⟨e, kvs, h1, Paired.mapP h2 fun _ _ x => ⟨x.1, x.2.mono ha hF⟩⟩
def CellOk (R : Rc) (α : List Addr) (F : Hp) (H : Hp) (a : Addr) : Cell → Prop
  | .lst ds => ∃ vs, H a = some (.lst vs) ∧ RepL R α F vs ds
  | .dct tk es => ∃ o, H a = some o ∧ DOk R α F o tk es
  | .ins c fs => ∃ dx gs, H a = some (.ins (R.cA c) dx gs) ∧ RepF R α F gs fs
  | .dead => True
structure Rl (R : Rc) (α : List Addr) (F : Hp) (μ : Store) (H : Hp) : Prop where
  sub : Same F H
  len : α.length = μ.length
  cell : ∀ (n : Nat) a c, α[n]? = some a → μ[n]? = some c → CellOk R α F H a c
  inj : ∀ (n m : Nat) a c c', α[n]? = some a → α[m]? = some a → μ[n]? = some c → μ[m]? = some c' → c.live = true → c'.live = true → n = m
  out : ∀ (n : Nat) a c, α[n]? = some a → μ[n]? = some c → c.live = true → F a = none
  prot : Same R.P H
  pout : ∀ (n : Nat) a c, α[n]? = some a → μ[n]? = some c → c.live = true → R.P a = none
  pf : ∀ a o, R.P a = some o → F a = none
section
variable {R : Rc} {α : List Addr} {F H : Hp} {μ : Store}
theorem CellOk.mono {α' : List Addr} {F' : Hp} {a : Addr} {c : Cell} (h : CellOk R α F H a c) (ha : α <+: α') (hF : Same F F') : CellOk R α' F' H a c := by
  cases c with
  | lst ds => obtain ⟨vs, h1, h2⟩ := h; exact ⟨vs, h1, h2.mono ha hF⟩
  | dct tk es => obtain ⟨o, h1, h2⟩ := h; exact ⟨o, h1, h2.mono ha hF⟩
  | ins c fs => obtain ⟨dx, gs, h1, h2⟩ := h; exact ⟨dx, gs, h1, h2.mono ha hF⟩
  | dead => trivial
theorem CellOk.there {a : Addr} {c : Cell} (h : CellOk R α F H a c) (hl : c.live = true) : ∃ o, H a = some o := by
  cases c with
  | lst ds => obtain ⟨vs, h1, _⟩ := h; exact ⟨_, h1⟩
  | dct tk es => obtain ⟨o, h1, _⟩ := h; exact ⟨_, h1⟩
  | ins c fs => obtain ⟨dx, gs, h1, _⟩ := h; exact ⟨_, h1⟩
  | dead => cases hl
theorem CellOk.heap {H' : Hp} {a : Addr} {c : Cell} (h : CellOk R α F H a c) (e : c.live = true → H' a = H a) : CellOk R α F H' a c := by
  cases c with
  | lst ds => obtain ⟨vs, h1, h2⟩ := h; exact ⟨vs, (e rfl).trans h1, h2⟩
  | dct tk es => obtain ⟨o, h1, h2⟩ := h; exact ⟨o, (e rfl).trans h1, h2⟩
  | ins c fs => obtain ⟨dx, gs, h1, h2⟩ := h; exact ⟨dx, gs, (e rfl).trans h1, h2⟩
  | dead => trivial
theorem same_upd {H : Hp} {p : Addr} {o : HO} (h : H p = none) : Same H (upd H p o) := fun b x e => by
  rw [upd_ne (ne_of_none e h)]
  exact e
theorem Rl.fresh (h : Rl R α F μ H) {p : Addr} (hp : H p = none) : F p = none := by
  cases e : F p with
  | none => rfl
  | some o => rw [h.sub _ _ e] at hp; cases hp
/-- a new object that will stay -/
theorem Rl.new (h : Rl R α F μ H) {p : Addr} {o : HO} (hp : H p = none) : Rl R α (upd F p o) μ (upd H p o) where
  sub := fun b x e => by
    by_cases hb : b = p
    · subst hb; rw [upd_same] at e ⊢; exact e
    · rw [upd_ne hb] at e ⊢; exact h.sub _ _ e
  len := h.len
  cell := fun n a c e1 e2 => by
    refine ((h.cell n a c e1 e2).mono (List.prefix_refl _) (same_upd (h.fresh hp))).heap fun hl => ?_
    obtain ⟨o', ho⟩ := (h.cell n a c e1 e2).there hl
    exact upd_ne (ne_of_none ho hp)
  inj := h.inj
  out := fun n a c e1 e2 e3 => by
    obtain ⟨o', ho⟩ := (h.cell n a c e1 e2).there e3
    rw [upd_ne (ne_of_none ho hp)]
    exact h.out n a c e1 e2 e3
  prot := fun b x e => by rw [upd_ne (ne_of_none (h.prot _ _ e) hp)]; exact h.prot _ _ e
  pout := h.pout
  pf := fun b x e => by rw [upd_ne (ne_of_none (h.prot _ _ e) hp)]; exact h.pf _ _ e
/-- a new object of which nothing is told -/
theorem Rl.newU (h : Rl R α F μ H) {p : Addr} {o : HO} (hp : H p = none) : Rl R α F μ (upd H p o) where
  sub := fun b x e => by
    rw [upd_ne (ne_of_none (h.sub _ _ e) hp)]
    exact h.sub _ _ e
  len := h.len
  cell := fun n a c e1 e2 => by
    refine (h.cell n a c e1 e2).heap fun hl => ?_
    obtain ⟨o', ho⟩ := (h.cell n a c e1 e2).there hl
    exact upd_ne (ne_of_none ho hp)
  inj := h.inj
  out := h.out
  prot := fun b x e => by rw [upd_ne (ne_of_none (h.prot _ _ e) hp)]; exact h.prot _ _ e
  pout := h.pout
  pf := h.pf
/-- a new cell -/
theorem Rl.newCell (h : Rl R α F μ H) {p : Addr} {o : HO} {c : Cell} (hp : H p = none) (hc : CellOk R (α ++ [p]) F (upd H p o) p c) : Rl R (α ++ [p]) F (μ ++ [c]) (upd H p o) := by
  have hu := h.newU (o := o) hp
  have key : ∀ (n : Nat) a c', (α ++ [p])[n]? = some a → (μ ++ [c])[n]? = some c' → (α[n]? = some a ∧ μ[n]? = some c') ∨ (n = μ.length ∧ a = p ∧ c' = c) := fun n a c' e1 e2 => by
    by_cases hn : n < μ.length
    · rw [List.getElem?_append_left (by rw [h.len]; exact hn)] at e1
      rw [List.getElem?_append_left hn] at e2
      exact .inl ⟨e1, e2⟩
    · have hlt := (List.getElem?_eq_some_iff.mp e2).1
      rw [List.length_append, List.length_singleton] at hlt
      have e : n = μ.length := by omega
      subst e
      rw [List.getElem?_append_right (Nat.le_refl _), Nat.sub_self] at e2
      rw [← h.len, List.getElem?_append_right (Nat.le_refl _), Nat.sub_self] at e1
      simp at e1 e2
      exact .inr ⟨rfl, e1.symm, e2.symm⟩
  have np : ∀ (n : Nat) a c', α[n]? = some a → μ[n]? = some c' → c'.live = true → a ≠ p := fun n a c' e1 e2 e3 => by
    obtain ⟨o', ho⟩ := (h.cell n a c' e1 e2).there e3
    exact ne_of_none ho hp
  refine ⟨hu.sub, by simp [h.len], fun n a c' e1 e2 => ?_, fun n m a c1 c2 e1 e2 e3 e4 l1 l2 => ?_, fun n a c' e1 e2 e3 => ?_, hu.prot, fun n a c' e1 e2 e3 => ?_, h.pf⟩
  · rcases key n a c' e1 e2 with ⟨e1, e2⟩ | ⟨rfl, rfl, rfl⟩
    · exact (hu.cell n a c' e1 e2).mono (List.prefix_append _ _) (Same.refl _)
    · exact hc
  · rcases key n a c1 e1 e3 with ⟨e1, e3⟩ | ⟨rfl, rfl, rfl⟩
    · rcases key m a c2 e2 e4 with ⟨e2, e4⟩ | ⟨rfl, rfl, rfl⟩
      · exact h.inj n m a c1 c2 e1 e2 e3 e4 l1 l2
      · exact absurd rfl (np n _ c1 (by assumption) (by assumption) l1)
    · rcases key m _ c2 e2 e4 with ⟨e2, e4⟩ | ⟨rfl, _, rfl⟩
      · exact absurd rfl (np m _ c2 (by assumption) (by assumption) l2)
      · rfl
  · rcases key n a c' e1 e2 with ⟨e1, e2⟩ | ⟨rfl, rfl, rfl⟩
    · exact h.out n a c' e1 e2 e3
    · exact h.fresh hp
  · rcases key n a c' e1 e2 with ⟨e1, e2⟩ | ⟨rfl, rfl, rfl⟩
    · exact h.pout n a c' e1 e2 e3
    · cases q : R.P a with
      | none => rfl
      | some o => rw [h.prot _ _ q] at hp; cases hp
/-- a cell changed -/
theorem Rl.write (h : Rl R α F μ H) {n : Nat} {a : Addr} {o : HO} {c c' : Cell} (e1 : α[n]? = some a) (e2 : μ[n]? = some c) (hl : c.live = true) (hl' : c'.live = true) (hc : CellOk R α F (upd H a o) a c') :
    Rl R α F (μ.set n c') (upd H a o) := by
  have hn : n < μ.length := (List.getElem?_eq_some_iff.mp e2).1
  have hF : F a = none := h.out n a c e1 e2 hl
  have key : ∀ (m : Nat) b d, α[m]? = some b → (μ.set n c')[m]? = some d → (m = n ∧ b = a ∧ d = c') ∨ (m ≠ n ∧ μ[m]? = some d ∧ (d.live = true → b ≠ a)) := fun m b d q1 q2 => by
    by_cases hm : m = n
    · subst hm
      rw [e1] at q1; cases q1
      rw [List.getElem?_set_self hn] at q2; cases q2
      exact .inl ⟨rfl, rfl, rfl⟩
    · rw [List.getElem?_set_ne (Ne.symm hm)] at q2
      refine .inr ⟨hm, q2, fun hd z => hm ?_⟩
      subst z
      exact h.inj m n b d c q1 e1 q2 e2 hd hl
  refine ⟨fun b x e => ?_, by rw [List.length_set]; exact h.len, fun m b d q1 q2 => ?_, fun m k b d d' q1 q2 q3 q4 l1 l2 => ?_, fun m b d q1 q2 q3 => ?_, fun b x e => ?_, fun m b d q1 q2 q3 => ?_, h.pf⟩
  · have hb : b ≠ a := ne_of_none e hF
    rw [upd_ne hb]; exact h.sub _ _ e
  · rcases key m b d q1 q2 with ⟨rfl, rfl, rfl⟩ | ⟨hm, q2, hb⟩
    · exact hc
    · exact (h.cell m b d q1 q2).heap fun hd => upd_ne (hb hd)
  · rcases key m b d q1 q3 with ⟨rfl, rfl, rfl⟩ | ⟨hm, q3, hb⟩
    · rcases key k _ d' q2 q4 with ⟨rfl, _, _⟩ | ⟨hk, q4, hb'⟩
      · rfl
      · exact absurd rfl (hb' l2)
    · rcases key k b d' q2 q4 with ⟨rfl, rfl, rfl⟩ | ⟨hk, q4, hb'⟩
      · exact absurd rfl (hb l1)
      · exact h.inj m k b d d' q1 q2 q3 q4 l1 l2
  · rcases key m b d q1 q2 with ⟨rfl, rfl, rfl⟩ | ⟨hm, q2, hb⟩
    · exact hF
    · exact h.out m b d q1 q2 q3
  · have hb : b ≠ a := ne_of_none e (h.pout n a c e1 e2 hl)
    rw [upd_ne hb]; exact h.prot _ _ e
  · rcases key m b d q1 q2 with ⟨rfl, rfl, rfl⟩ | ⟨hm, q2, hb⟩
    · exact h.pout m b c e1 e2 hl
    · exact h.pout m b d q1 q2 q3
/-- a cell is written no more: it stays -/
theorem Rl.freeze (h : Rl R α F μ H) {n : Nat} {a : Addr} {o : HO} {c : Cell} (e1 : α[n]? = some a) (e2 : μ[n]? = some c) (hl : c.live = true) (ho : H a = some o) : Rl R α (upd F a o) (μ.set n .dead) H := by
  have hn : n < μ.length := (List.getElem?_eq_some_iff.mp e2).1
  have hF : F a = none := h.out n a c e1 e2 hl
  have key : ∀ (m : Nat) b d, α[m]? = some b → (μ.set n .dead)[m]? = some d → (m = n ∧ d = .dead) ∨ (m ≠ n ∧ μ[m]? = some d ∧ (d.live = true → b ≠ a)) := fun m b d q1 q2 => by
    by_cases hm : m = n
    · subst hm
      rw [List.getElem?_set_self hn] at q2; cases q2
      exact .inl ⟨rfl, rfl⟩
    · rw [List.getElem?_set_ne (Ne.symm hm)] at q2
      refine .inr ⟨hm, q2, fun hd z => hm ?_⟩
      subst z
      exact h.inj m n b d c q1 e1 q2 e2 hd hl
  refine ⟨fun b x e => ?_, by rw [List.length_set]; exact h.len, fun m b d q1 q2 => ?_, fun m k b d d' q1 q2 q3 q4 l1 l2 => ?_, fun m b d q1 q2 q3 => ?_, h.prot, fun m b d q1 q2 q3 => ?_, fun b x e => ?_⟩
  · by_cases hb : b = a
    · subst hb; rw [upd_same] at e; cases e; exact ho
    · rw [upd_ne hb] at e; exact h.sub _ _ e
  · rcases key m b d q1 q2 with ⟨rfl, rfl⟩ | ⟨hm, q2, hb⟩
    · trivial
    · exact (h.cell m b d q1 q2).mono (List.prefix_refl _) (same_upd hF)
  · rcases key m b d q1 q3 with ⟨rfl, rfl⟩ | ⟨hm, q3, hb⟩
    · cases l1
    · rcases key k b d' q2 q4 with ⟨rfl, rfl⟩ | ⟨hk, q4, hb'⟩
      · cases l2
      · exact h.inj m k b d d' q1 q2 q3 q4 l1 l2
  · rcases key m b d q1 q2 with ⟨rfl, rfl⟩ | ⟨hm, q2, hb⟩
    · cases q3
    · rw [upd_ne (hb q3)]; exact h.out m b d q1 q2 q3
  · rcases key m b d q1 q2 with ⟨rfl, rfl⟩ | ⟨hm, q2, hb⟩
    · cases q3
    · exact h.pout m b d q1 q2 q3
  · have hb : b ≠ a := ne_of_none e (h.pout n a c e1 e2 hl)
    rw [upd_ne hb]; exact h.pf _ _ e
end

/-! ### readings -/
def EnvR (R : Rc) (α : List Addr) (F : Hp) (σ : L2.St) (ρ : Rho) : Prop := ρ.length = σ.length ∧ ∀ (i : Nat) d, ρ[i]? = some (some d) → ∃ v, σ[i]? = some (some v) ∧ Rep R α F v d
def Nx (R : Rc) (α : List Addr) (F : Hp) (μ' : Store) (α' : List Addr) (F' H' : Hp) : Prop := α <+: α' ∧ Same F F' ∧ Rl R α' F' μ' H'
def XOk (R : Rc) (α : List Addr) (F H : Hp) (cls : Value) (dd : Option Addr) (x : XD) : Prop :=
  cls = .ref (R.cA x.cls) ∧ ((dd = none ∧ x.fs = []) ∨ ∃ a gs, dd = some a ∧ H a = some (.xd gs) ∧ RepF R α F gs x.fs)
def Post (R : Rc) (W : WX) (σ : L2.St) (α : List Addr) (F : Hp) (Q : VK) : Res D → Store → Prop
  | .ok d, μ' => ∀ α' F' H' v, Nx R α F μ' α' F' H' → Rep R α' F' v d → Q v H'
  | .err x, μ' => ∀ α' F' H' cls dd, Nx R α F μ' α' F' H' → XOk R α' F' H' cls dd x → W cls dd σ H'
def PostL (R : Rc) (W : WX) (σ : L2.St) (α : List Addr) (F : Hp) (Q : List V → Hp → Prop) : Res (List D) → Store → Prop
  | .ok ds, μ' => ∀ α' F' H' vs, Nx R α F μ' α' F' H' → RepL R α' F' vs ds → Q vs H'
  | .err x, μ' => ∀ α' F' H' cls dd, Nx R α F μ' α' F' H' → XOk R α' F' H' cls dd x → W cls dd σ H'
def PostB (R : Rc) (W : WX) (σ : L2.St) (α : List Addr) (F : Hp) (Q : Bool → Hp → Prop) : Res Bool → Store → Prop
  | .ok b, μ' => ∀ α' F' H', Nx R α F μ' α' F' H' → Q b H'
  | .err x, μ' => ∀ α' F' H' cls dd, Nx R α F μ' α' F' H' → XOk R α' F' H' cls dd x → W cls dd σ H'
def tD (R : Rc) (W : WX) (m : Rho → Ev D) : TE := fun σ H Q => ∃ α F μ ρ r μ', EnvR R α F σ ρ ∧ Rl R α F μ H ∧ m ρ μ = some (r, μ') ∧ Post R W σ α F Q r μ'
def tDL (R : Rc) (W : WX) (m : Rho → Ev (List D)) : TA := fun σ H Q => ∃ α F μ ρ r μ', EnvR R α F σ ρ ∧ Rl R α F μ H ∧ m ρ μ = some (r, μ') ∧ PostL R W σ α F Q r μ'
def tDB (R : Rc) (W : WX) (m : Rho → Ev Bool) : TT := fun σ H Q => ∃ α F μ ρ r μ', EnvR R α F σ ρ ∧ Rl R α F μ H ∧ m ρ μ = some (r, μ') ∧ PostB R W σ α F Q r μ'

section
variable {R : Rc} {α α1 α2 : List Addr} {F F1 F2 H H1 H2 : Hp} {μ μ1 μ2 : Store}
theorem EnvR.mono {σ : L2.St} {ρ : Rho} (h : EnvR R α F σ ρ) (n : Nx R α F μ1 α1 F1 H1) : EnvR R α1 F1 σ ρ := ⟨h.1, fun i d e => let ⟨v, e1, r⟩ := h.2 i d e; ⟨v, e1, r.mono n.1 n.2.1⟩⟩
theorem Nx.refl (h : Rl R α F μ H) : Nx R α F μ α F H := ⟨List.prefix_refl _, Same.refl _, h⟩
theorem Nx.trans (a : Nx R α F μ1 α1 F1 H1) (b : Nx R α1 F1 μ2 α2 F2 H2) : Nx R α F μ2 α2 F2 H2 := ⟨a.1.trans b.1, a.2.1.trans b.2.1, b.2.2⟩
theorem Nx.rep {v : V} {d : D} (a : Nx R α F μ1 α1 F1 H1) (h : Rep R α F v d) : Rep R α1 F1 v d := h.mono a.1 a.2.1
theorem Nx.repL {v : List V} {d : List D} (a : Nx R α F μ1 α1 F1 H1) (h : RepL R α F v d) : RepL R α1 F1 v d := h.mono a.1 a.2.1
theorem Nx.new {p : Addr} {o : HO} (h : Rl R α F μ H) (hp : H p = none) : Nx R α F μ α (upd F p o) (upd H p o) := ⟨List.prefix_refl _, same_upd (h.fresh hp), h.new hp⟩
theorem Post.weak {W : WX} {σ : L2.St} {Q : VK} {r : Res D} {μ' : Store} (a : Nx R α F μ1 α1 F1 H1) (p : Post R W σ α F Q r μ') : Post R W σ α1 F1 Q r μ' := by
  cases r with
  | ok d => exact fun α' F' H' v n rr => p α' F' H' v (a.trans n) rr
  | err x => exact fun α' F' H' cls dd n rr => p α' F' H' cls dd (a.trans n) rr
theorem PostL.weak {W : WX} {σ : L2.St} {Q : List V → Hp → Prop} {r : Res (List D)} {μ' : Store} (a : Nx R α F μ1 α1 F1 H1) (p : PostL R W σ α F Q r μ') : PostL R W σ α1 F1 Q r μ' := by
  cases r with
  | ok d => exact fun α' F' H' v n rr => p α' F' H' v (a.trans n) rr
  | err x => exact fun α' F' H' cls dd n rr => p α' F' H' cls dd (a.trans n) rr
theorem PostB.weak {W : WX} {σ : L2.St} {Q : Bool → Hp → Prop} {r : Res Bool} {μ' : Store} (a : Nx R α F μ1 α1 F1 H1) (p : PostB R W σ α F Q r μ') : PostB R W σ α1 F1 Q r μ' := by
  cases r with
  | ok d => exact fun α' F' H' n => p α' F' H' (a.trans n)
  | err x => exact fun α' F' H' cls dd n rr => p α' F' H' cls dd (a.trans n) rr
end
/-! ### judgements over data -/
def PED (R : Rc) (X : Cx) (W : WX) (e : Expr) (m : Rho → Ev D) : Prop := PE X e (tD R W m)
def PAD (R : Rc) (X : Cx) (W : WX) (es : List Expr) (m : Rho → Ev (List D)) : Prop := PA X es (tDL R W m)
def PTD (R : Rc) (X : Cx) (W : WX) (e : Expr) (m : Rho → Ev Bool) : Prop := PT X e (tDB R W m)
theorem pe_imp {X : Cx} {e : Expr} {t t' : TE} (h : PE X e t) (i : ∀ σ H Q, t' σ H Q → t σ H Q) : PE X e t' := ⟨fun pins s σ H Q I w => h.run pins s σ H Q I (i σ H Q w)⟩
theorem pa_imp {X : Cx} {e : List Expr} {t t' : TA} (h : PA X e t) (i : ∀ σ H Q, t' σ H Q → t σ H Q) : PA X e t' := ⟨fun pos pins s σ H Q I w => h.run pos pins s σ H Q I (i σ H Q w)⟩
theorem pt_imp {X : Cx} {e : Expr} {t t' : TT} (h : PT X e t) (i : ∀ σ H Q, t' σ H Q → t σ H Q) : PT X e t' := ⟨fun pins s σ H Q I w => h.run pins s σ H Q I (i σ H Q w)⟩
theorem ps_imp {X : Cx} {e : Stmt} {t t' : TS} (h : PS X e t) (i : ∀ D σ H, t' D σ H → t D σ H) : PS X e t' := ⟨fun pins s σ H D I w => h.run pins s σ H D I (i D σ H w)⟩
theorem pss_imp {X : Cx} {e : List Stmt} {t t' : TS} (h : PSs X e t) (i : ∀ D σ H, t' D σ H → t D σ H) : PSs X e t' := ⟨fun pins s σ H D I w => h.run pins s σ H D I (i D σ H w)⟩
end DL
/-! DL2: rules for names, constants, operators by values, displays. -/
namespace DL
open PySem PySem.Spec PyProof.Rows L2
variable {R : Rc} {X : Cx} {W : WX}

/-! ### names and constants -/
def mVar (i : Nat) : Rho → Ev D := fun ρ μ => match ρ[i]? with
  | some (some d) => some (.ok d, μ)
  | _ => none
def mC (d : D) : Rho → Ev D := fun _ μ => some (.ok d, μ)
theorem ped_of {e : Expr} {t : TE} {m : Rho → Ev D} (h : PE X e t)
    (i : ∀ σ H Q α F μ ρ r μ', EnvR R α F σ ρ → Rl R α F μ H → m ρ μ = some (r, μ') → Post R W σ α F Q r μ' → t σ H Q) : PED R X W e m :=
  pe_imp h fun σ H Q ⟨α, F, μ, ρ, r, μ', he, hl, hm, hp⟩ => i σ H Q α F μ ρ r μ' he hl hm hp
theorem ped_var {i : Nat} {x : Str} {pos : Pos} (hN : X.N[i]? = some x) (hv : Vis X.env.scope x) (hd : (x == ("__debug__" : Str)) = false) (hcd : (x == ("__classdict__" : Str)) = false) : PED R X W (.Name x pos) (mVar i) :=
  ped_of (pe_var hN hv hd hcd) fun σ H Q α F μ ρ r μ' he hl hm hp => by
    unfold mVar at hm
    split at hm
    · rename_i d e
      cases hm
      obtain ⟨v, e1, rr⟩ := he.2 i d e
      exact ⟨v, e1, hp α F H v (Nx.refl hl) rr⟩
    · cases hm
theorem ped_c {e : Expr} {v : V} {d : D} (h : PE X e (tC v)) (hr : ∀ α F, Rep R α F v d) : PED R X W e (mC d) :=
  ped_of h fun σ H Q α F μ ρ r μ' he hl hm hp => by
    cases hm
    exact hp α F H v (Nx.refl hl) (hr α F)
theorem ped_int {i j pos} : PED R X W (.Constant (.int i) j pos) (mC (.int i)) := ped_c pe_int fun _ _ => .int i
theorem ped_bl {i j pos} : PED R X W (.Constant (.bool i) j pos) (mC (.bl i)) := ped_c pe_bl fun _ _ => .bl i
theorem ped_non {j pos} : PED R X W (.Constant .none j pos) (mC .non) := ped_c pe_non fun _ _ => .non
theorem ped_str {i j pos} : PED R X W (.Constant (.str i) j pos) (mC (.str i)) := ped_c pe_str fun _ _ => .str i

/-! ### operators by values -/
abbrev Op1 := D → Store → Option (D × Store)
abbrev Op2 := D → D → Store → Option (D × Store)
abbrev OpN := List D → Store → Option (D × Store)
def PostV (R : Rc) (α : List Addr) (F : Hp) (μ' : Store) (d : D) (Q : VK) : Prop := ∀ α' F' H' v, Nx R α F μ' α' F' H' → Rep R α' F' v d → Q v H'
def rD2 (R : Rc) (f : Op2) : R2 := fun x y H Q => ∃ α F μ d1 d2 d μ', Rl R α F μ H ∧ Rep R α F x d1 ∧ Rep R α F y d2 ∧ f d1 d2 μ = some (d, μ') ∧ PostV R α F μ' d Q
def rD1 (R : Rc) (f : Op1) : V → Hp → VK → Prop := fun x H Q => ∃ α F μ d1 d μ', Rl R α F μ H ∧ Rep R α F x d1 ∧ f d1 μ = some (d, μ') ∧ PostV R α F μ' d Q
def rDN (R : Rc) (f : OpN) : List V → Hp → VK → Prop := fun xs H Q => ∃ α F μ ds d μ', Rl R α F μ H ∧ RepL R α F xs ds ∧ f ds μ = some (d, μ') ∧ PostV R α F μ' d Q
def mOp2 (f : Op2) (ma mb : Rho → Ev D) : Rho → Ev D := fun ρ => (ma ρ).bind fun a => (mb ρ).bind fun b => Ev.op (f a b)
def mOp1 (f : Op1) (ma : Rho → Ev D) : Rho → Ev D := fun ρ => (ma ρ).bind fun a => Ev.op (f a)
theorem top2 {f : Op2} {ma mb : Rho → Ev D} {σ : L2.St} {H : Hp} {Q : VK} {α F μ ρ r μ'} (he : EnvR R α F σ ρ) (hl : Rl R α F μ H) (hm : mOp2 f ma mb ρ μ = some (r, μ')) (hp : Post R W σ α F Q r μ') :
    tOp (rD2 R f) (tD R W ma) (tD R W mb) σ H Q := by
  rcases Ev.bind_inv hm with ⟨a, μ1, e1, hm⟩ | ⟨x, e1, rfl⟩
  · refine ⟨α, F, μ, ρ, _, μ1, he, hl, e1, fun α1 F1 H1 v1 n1 r1 => ?_⟩
    rcases Ev.bind_inv hm with ⟨b, μ2, e2, hm⟩ | ⟨x, e2, rfl⟩
    · refine ⟨α1, F1, μ1, ρ, _, μ2, he.mono n1, n1.2.2, e2, fun α2 F2 H2 v2 n2 r2 => ?_⟩
      obtain ⟨d, e3, rfl⟩ := Ev.op_inv hm
      exact ⟨α2, F2, μ2, a, b, d, μ', n2.2.2, n2.rep r1, r2, e3, fun α' F' H' v n rr => hp α' F' H' v (n1.trans (n2.trans n)) rr⟩
    · exact ⟨α1, F1, μ1, ρ, _, μ', he.mono n1, n1.2.2, e2, Post.weak n1 hp⟩
  · exact ⟨α, F, μ, ρ, _, μ', he, hl, e1, hp⟩
theorem ped_bin {op : Operator} {f : Op2} {a b : Expr} {ma mb : Rho → Ev D} {pos : Pos} (ho : OpR X (binaryOp op) (rD2 R f)) (ha : PED R X W a ma) (hb : PED R X W b mb) : PED R X W (.BinOp a op b pos) (mOp2 f ma mb) :=
  ped_of (pe_op ho ha hb) fun σ H Q α F μ ρ r μ' he hl hm hp => top2 he hl hm hp
theorem ped_cmp {op : CmpOp} {f : Op2} {a b : Expr} {ma mb : Rho → Ev D} {pos : Pos} (ho : OpR X (compareOp op) (rD2 R f)) (ha : PED R X W a ma) (hb : PED R X W b mb) (hm : behindInMarks op b = false) : PED R X W (.Compare a [op] [b] pos) (mOp2 f ma mb) :=
  ped_of (pe_cmpR ho ha hb hm) fun σ H Q α F μ ρ r μ' he hl hm hp => top2 he hl hm hp
theorem ped_ix {f : Op2} {a b : Expr} {ma mb : Rho → Ev D} {pos : Pos} (ho : IxR X (rD2 R f)) (ha : PED R X W a ma) (hb : PED R X W b mb) (hs : PlainIx b) : PED R X W (.Subscript a b pos) (mOp2 f ma mb) :=
  ped_of (pe_ix ho ha hb hs) fun σ H Q α F μ ρ r μ' he hl hm hp => top2 he hl hm hp
theorem ped_un {op : UnaryOp} {f : Op1} {a : Expr} {ma : Rho → Ev D} {pos : Pos} (ho : UnR X (unaryOp op) (rD1 R f)) (ha : PED R X W a ma) : PED R X W (.UnaryOp op a pos) (mOp1 f ma) :=
  ped_of (pe_un ho ha) fun σ H Q α F μ ρ r μ' he hl hm hp => by
    rcases Ev.bind_inv hm with ⟨a, μ1, e1, hm⟩ | ⟨x, e1, rfl⟩
    · refine ⟨α, F, μ, ρ, _, μ1, he, hl, e1, fun α1 F1 H1 v1 n1 r1 => ?_⟩
      obtain ⟨d, e3, rfl⟩ := Ev.op_inv hm
      exact ⟨α1, F1, μ1, a, d, μ', n1.2.2, r1, e3, fun α' F' H' v n rr => hp α' F' H' v (n1.trans n) rr⟩
    · exact ⟨α, F, μ, ρ, _, μ', he, hl, e1, hp⟩

/-! ### argument lists, displays -/
def mNil : Rho → Ev (List D) := fun _ μ => some (.ok [], μ)
def mCons (m : Rho → Ev D) (r : Rho → Ev (List D)) : Rho → Ev (List D) := fun ρ => (m ρ).bind fun d => (r ρ).bind fun ds => Ev.ret (d :: ds)
theorem pad_nil : PAD R X W [] mNil := pa_imp pa_nil fun σ H Q ⟨α, F, μ, ρ, r, μ', he, hl, hm, hp⟩ => by
  cases hm
  exact hp α F H [] (Nx.refl hl) .nil
theorem pad_cons {e : Expr} {es : List Expr} {m : Rho → Ev D} {r : Rho → Ev (List D)} (ha : PED R X W e m) (hr : PAD R X W es r) (hs : starEach (e :: es) X.env = (false, eval e X.env) :: starEach es X.env) : PAD R X W (e :: es) (mCons m r) :=
  pa_imp (pa_cons ha hr hs) fun σ H Q ⟨α, F, μ, ρ, r, μ', he, hl, hm, hp⟩ => by
    rcases Ev.bind_inv hm with ⟨a, μ1, e1, hm⟩ | ⟨x, e1, rfl⟩
    · refine ⟨α, F, μ, ρ, _, μ1, he, hl, e1, fun α1 F1 H1 v1 n1 r1 => ?_⟩
      rcases Ev.bind_inv hm with ⟨ds, μ2, e2, hm⟩ | ⟨x, e2, rfl⟩
      · cases hm
        exact ⟨α1, F1, μ1, ρ, _, _, he.mono n1, n1.2.2, e2, fun α2 F2 H2 vs n2 r2 => hp α2 F2 H2 _ (n1.trans n2) (.cons (n2.rep r1) r2)⟩
      · exact ⟨α1, F1, μ1, ρ, _, _, he.mono n1, n1.2.2, e2, fun α2 F2 H2 cls dd n2 x2 => hp α2 F2 H2 cls dd (n1.trans n2) x2⟩
    · exact ⟨α, F, μ, ρ, _, _, he, hl, e1, hp⟩
def oTup : OpN := fun ds μ => if ds.length ≤ sizeLine then some (.tup ds, μ) else none
def oLst : OpN := fun ds μ => if ds.length ≤ sizeLine then some (.lst ds, μ) else none
def oNewL : OpN := fun ds μ => if ds.length ≤ sizeLine then some (.loc μ.length, μ ++ [.lst ds]) else none
def mN (f : OpN) (m : Rho → Ev (List D)) : Rho → Ev D := fun ρ => (m ρ).bind fun ds => Ev.op (f ds)
/-- a reading that takes a list of values, by an operation over data -/
theorem topN {f : OpN} {m : Rho → Ev (List D)} {σ : L2.St} {H : Hp} {Q : VK} {α F μ ρ r μ'} (he : EnvR R α F σ ρ) (hl : Rl R α F μ H) (hm : mN f m ρ μ = some (r, μ')) (hp : Post R W σ α F Q r μ') :
    tDL R W m σ H (fun xs H1 => rDN R f xs H1 Q) := by
  rcases Ev.bind_inv hm with ⟨ds, μ1, e1, hm⟩ | ⟨x, e1, rfl⟩
  · refine ⟨α, F, μ, ρ, _, μ1, he, hl, e1, fun α1 F1 H1 v1 n1 r1 => ?_⟩
    obtain ⟨d, e3, rfl⟩ := Ev.op_inv hm
    exact ⟨α1, F1, μ1, ds, d, μ', n1.2.2, r1, e3, fun α' F' H' v n rr => hp α' F' H' v (n1.trans n) rr⟩
  · exact ⟨α, F, μ, ρ, _, _, he, hl, e1, hp⟩
theorem tDL_imp {m : Rho → Ev (List D)} {σ : L2.St} {H : Hp} {Q Q' : List V → Hp → Prop} (h : tDL R W m σ H Q) (i : ∀ xs H, Q xs H → Q' xs H) : tDL R W m σ H Q' := by
  obtain ⟨α, F, μ, ρ, r, μ', he, hl, hm, hp⟩ := h
  refine ⟨α, F, μ, ρ, r, μ', he, hl, hm, ?_⟩
  cases r with
  | ok d => exact fun α' F' H' v n rr => i _ _ (hp α' F' H' v n rr)
  | err x => exact hp
/-- a pure new object -/
theorem postv_new {α : List Addr} {F H : Hp} {μ : Store} {p : Addr} {o : HO} {d : D} {Q : VK} (hl : Rl R α F μ H) (hq : PostV R α F μ d Q) (hp : H p = none) (hr : Rep R α (upd F p o) (.ref p) d) : Q (.ref p) (upd H p o) :=
  hq α (upd F p o) (upd H p o) (.ref p) (Nx.new hl hp) hr
theorem ped_tup {es : List Expr} {m : Rho → Ev (List D)} {x1 pos} (h : PAD R X W es m) : PED R X W (.Tuple es x1 pos) (mN oTup m) :=
  ped_of (pe_tup h) fun σ H Q α F μ ρ r μ' he hl hm hp => tDL_imp (topN he hl hm hp) fun xs H1 ⟨α, F, μ, ds, d, μ', hl, rl, e, hq⟩ => by
    unfold oTup at e
    split at e
    · rename_i hz
      cases e
      refine ⟨by rw [rl.length]; exact hz, fun p hp => postv_new hl hq hp ?_⟩
      exact .mkTup (.inl upd_same) (rl.mono (List.prefix_refl _) (same_upd (hl.fresh hp)))
    · cases e
theorem ped_lst {es : List Expr} {m : Rho → Ev (List D)} {pos} (h : PAD R X W es m) : PED R X W (.List es pos) (mN oLst m) :=
  ped_of (pe_lst h) fun σ H Q α F μ ρ r μ' he hl hm hp => tDL_imp (topN he hl hm hp) fun xs H1 ⟨α, F, μ, ds, d, μ', hl, rl, e, hq⟩ => by
    unfold oLst at e
    split at e
    · rename_i hz
      cases e
      refine ⟨by rw [rl.length]; exact hz, fun p hp => postv_new hl hq hp ?_⟩
      exact .mkLst upd_same (rl.mono (List.prefix_refl _) (same_upd (hl.fresh hp)))
    · cases e
/-- a new cell as a value -/
theorem postv_cell {α : List Addr} {F H : Hp} {μ : Store} {p : Addr} {o : HO} {c : Cell} {Q : VK} (hl : Rl R α F μ H) (hq : PostV R α F (μ ++ [c]) (.loc μ.length) Q) (hp : H p = none) (hc : CellOk R (α ++ [p]) F (upd H p o) p c) : Q (.ref p) (upd H p o) := by
  refine hq (α ++ [p]) F (upd H p o) (.ref p) ⟨List.prefix_append _ _, Same.refl _, hl.newCell hp hc⟩ (.loc ?_)
  rw [← hl.len, List.getElem?_append_right (Nat.le_refl _), Nat.sub_self]
  rfl
theorem ped_newL {es : List Expr} {m : Rho → Ev (List D)} {pos} (h : PAD R X W es m) : PED R X W (.List es pos) (mN oNewL m) :=
  ped_of (pe_lst h) fun σ H Q α F μ ρ r μ' he hl hm hp => tDL_imp (topN he hl hm hp) fun xs H1 ⟨α, F, μ, ds, d, μ', hl, rl, e, hq⟩ => by
    unfold oNewL at e
    split at e
    · rename_i hz
      cases e
      exact ⟨by rw [rl.length]; exact hz, fun p hp => postv_cell hl hq hp ⟨xs, upd_same, rl.mono (List.prefix_append _ _) (Same.refl _)⟩⟩
    · cases e
end DL
/-! DL3: operators over data. -/
namespace DL
open PySem PySem.Spec PyProof.Rows L2
variable {R : Rc} {X : Cx} {W : WX}

/-- the items of a list that stands in the heap -/
def lsOf (d : D) (μ : Store) : Option (List D) := match d with
  | .lst ds => some ds
  | .loc n => (match μ[n]? with
    | some (.lst ds) => some ds
    | _ => none)
  | _ => none
/-- .. or in the written part -/
def sqOf (d : D) (μ : Store) : Option (List D) := match d with
  | .klst ds => some ds
  | d => lsOf d μ
section
variable {α : List Addr} {F H : Hp} {μ : Store}
theorem lsOf_ok (hl : Rl R α F μ H) {x : V} {d : D} {ds : List D} (r : Rep R α F x d) (e : lsOf d μ = some ds) : ∃ a vs, x = .ref a ∧ H a = some (.lst vs) ∧ RepL R α F vs ds := by
  cases d with
  | lst xs =>
    cases e
    obtain ⟨a, vs, rfl, h, rl⟩ := r.lst_inv
    exact ⟨a, vs, rfl, hl.sub _ _ h, rl⟩
  | loc n =>
    obtain ⟨a, rfl, ha⟩ := r.loc_inv
    simp only [lsOf] at e
    split at e
    · rename_i xs q
      cases e
      obtain ⟨vs, h1, h2⟩ := hl.cell n a _ ha q
      exact ⟨a, vs, rfl, h1, h2⟩
    · cases e
  | _ => cases e
theorem sqOf_ok (hl : Rl R α F μ H) {x : V} {d : D} {ds : List D} (r : Rep R α F x d) (e : sqOf d μ = some ds) : ∃ a vs, x = .ref a ∧ SqL R.K H a vs ∧ RepL R α F vs ds := by
  have key : lsOf d μ = some ds → ∃ a vs, x = .ref a ∧ SqL R.K H a vs ∧ RepL R α F vs ds := fun e => by
    obtain ⟨a, vs, rfl, h, rl⟩ := lsOf_ok hl r e
    exact ⟨a, vs, rfl, SqL.of h, rl⟩
  cases d with
  | klst xs =>
    cases e
    obtain ⟨a, vs, rfl, h, rl⟩ := r.klst_inv
    exact ⟨a, vs, rfl, hl.sub.seq h, rl⟩
  | _ => exact key e
theorem tup_ok (hl : Rl R α F μ H) {x : V} {ds : List D} (r : Rep R α F x (.tup ds)) : ∃ a vs, x = .ref a ∧ SqT R.K H a vs ∧ RepL R α F vs ds := by
  obtain ⟨a, vs, rfl, h, rl⟩ := r.tup_inv
  exact ⟨a, vs, rfl, (h.mono hl.sub).sq, rl⟩
theorem tup_okA (hl : Rl R α F μ H) {x : V} {ds : List D} (r : Rep R α F x (.tup ds)) : ∃ a vs, x = .ref a ∧ TuA R.K H a vs ∧ RepL R α F vs ds := by
  obtain ⟨a, vs, rfl, h, rl⟩ := r.tup_inv
  exact ⟨a, vs, rfl, h.mono hl.sub, rl⟩
theorem PostV.here {d : D} {Q : VK} {v : V} (h : PostV R α F μ d Q) (hl : Rl R α F μ H) (r : Rep R α F v d) : Q v H := h α F H v (Nx.refl hl) r
end
def guardD {α : Type} (b : Bool) (x : α) : Option α := if b then some x else none
theorem guardD_some {α : Type} {b : Bool} {x y : α} (h : guardD b x = some y) : b = true ∧ x = y := by
  unfold guardD at h
  split at h
  · cases h; exact ⟨by assumption, rfl⟩
  · cases h

/-! ### + -/
def addD : Op2
  | .int i, .int j, μ => some (.int (i + j), μ)
  | .str a, .str b, μ => guardD (decide (a.length + b.length ≤ sizeLine)) (.str (a ++ b), μ)
  | .tup a, .tup b, μ => guardD (decide (a.length + b.length ≤ sizeLine)) (.tup (a ++ b), μ)
  | a, b, μ => match lsOf a μ, lsOf b μ with
    | some xs, some ys => guardD (decide (xs.length + ys.length ≤ sizeLine)) (.lst (xs ++ ys), μ)
    | _, _ => none
theorem op_addD (hK : X.K = R.K) : OpR X (binaryOp .Add) (rD2 R addD) := by
  intro pins s σ H x y v u Q I rx ry ⟨α, F, μ, d1, d2, d, μ', hl, r1, r2, e, hq⟩
  have lists : ∀ {xs ys : List D}, lsOf d1 μ = some xs → lsOf d2 μ = some ys → guardD (decide (xs.length + ys.length ≤ sizeLine)) (D.lst (xs ++ ys), μ) = some (d, μ') →
      wpAny (model X.prog X.w) X.A (binaryOp .Add v u) (EP X pins σ Q) X.xe s := fun {xs ys} h1 h2 e => by
    obtain ⟨hz, e⟩ := guardD_some e
    cases e
    obtain ⟨a, vs, rfl, ha, la⟩ := lsOf_ok hl r1 h1
    obtain ⟨b, ws, rfl, hb, lb⟩ := lsOf_ok hl r2 h2
    refine op_cat pins s σ H _ _ v u Q I rx ry ⟨a, b, vs, ws, rfl, rfl, ha, hb, ?_, fun p hp => postv_new hl hq hp (.mkLst upd_same ?_)⟩
    · rw [la.length, lb.length]; exact of_decide_eq_true hz
    · exact RepL.mono (paired_append la lb) (List.prefix_refl _) (same_upd (hl.fresh hp))
  have tups : ∀ {xs ys : List D}, d1 = .tup xs → d2 = .tup ys → guardD (decide (xs.length + ys.length ≤ sizeLine)) (D.tup (xs ++ ys), μ) = some (d, μ') →
      wpAny (model X.prog X.w) X.A (binaryOp .Add v u) (EP X pins σ Q) X.xe s := fun {xs ys} h1 h2 e => by
    subst h1 h2
    obtain ⟨hz, e⟩ := guardD_some e
    cases e
    obtain ⟨a, vs, rfl, ha, la⟩ := tup_ok hl r1
    obtain ⟨b, ws, rfl, hb, lb⟩ := tup_ok hl r2
    refine op_catA pins s σ H _ _ v u Q I rx ry ⟨a, b, vs, ws, rfl, rfl, hK ▸ ha, hK ▸ hb, ?_, fun z => ?_, fun _ z => ?_, fun _ _ p hp => postv_new hl hq hp (.mkTup (.inl upd_same) ?_)⟩
    · rw [la.length, lb.length]; exact of_decide_eq_true hz
    · subst z
      have e0 : xs = [] := List.length_eq_zero_iff.mp (by rw [← la.length]; rfl)
      subst e0
      exact hq.here hl (by simpa using r2)
    · subst z
      have e0 : ys = [] := List.length_eq_zero_iff.mp (by rw [← lb.length]; rfl)
      subst e0
      exact hq.here hl (by simpa using r1)
    · exact RepL.mono (paired_append la lb) (List.prefix_refl _) (same_upd (hl.fresh hp))
  cases d1 with
  | int i =>
    cases d2 with
    | int j =>
      cases e; cases r1; cases r2
      exact op_add pins s σ H _ _ v u Q I rx ry ⟨i, j, rfl, rfl, hq.here hl (.int _)⟩
    | _ => simp [addD, lsOf] at e
  | str a =>
    cases d2 with
    | str b =>
      obtain ⟨hz, e⟩ := guardD_some e
      cases e; cases r1; cases r2
      exact op_add_str pins s σ H _ _ v u Q I rx ry ⟨a, b, rfl, rfl, of_decide_eq_true hz, hq.here hl (.str _)⟩
    | _ => simp [addD, lsOf] at e
  | tup xs =>
    cases d2 with
    | tup ys => exact tups rfl rfl e
    | _ => simp [addD, lsOf] at e
  | lst xs =>
    cases d2 with
    | lst ys => exact lists (xs := xs) (ys := ys) rfl rfl e
    | loc m =>
      simp only [addD] at e
      split at e
      · exact lists (by assumption) (by assumption) e
      · cases e
    | _ => simp [addD, lsOf] at e
  | loc n =>
    have e' : (match lsOf (.loc n) μ, lsOf d2 μ with
      | some xs, some ys => guardD (decide (xs.length + ys.length ≤ sizeLine)) (D.lst (xs ++ ys), μ)
      | _, _ => none) = some (d, μ') := by cases d2 <;> exact e
    split at e'
    · exact lists (by assumption) (by assumption) e'
    · cases e'
  | _ => cases d2 <;> simp [addD, lsOf] at e

/-! ### ints -/
def intOp (c : Int → Int → Bool) (g : Int → Int → Int) : Op2
  | .int i, .int j, μ => guardD (c i j) (.int (g i j), μ)
  | _, _, _ => none
theorem op_intD {f : Value → Value → Sem Value} {C : Int → Int → Prop} {c : Int → Int → Bool} {g : Int → Int → Int} (h : OpR X f (rI C fun i j => .int (g i j))) (hc : ∀ i j, c i j = true → C i j) : OpR X f (rD2 R (intOp c g)) := by
  intro pins s σ H x y v u Q I rx ry ⟨α, F, μ, d1, d2, d, μ', hl, r1, r2, e, hq⟩
  cases d1 with
  | int i =>
    cases d2 with
    | int j =>
      obtain ⟨hz, e⟩ := guardD_some e
      cases e; cases r1; cases r2
      exact h pins s σ H _ _ v u Q I rx ry ⟨i, j, rfl, rfl, hc i j hz, hq.here hl (.int _)⟩
    | _ => cases e
  | _ => cases d2 <;> cases e
def rI_of0 {f : Value → Value → Sem Value} {g : Int → Int → V} (h : OpR X f (rI0 g)) : OpR X f (rI (fun _ _ => True) g) := by
  intro pins s σ H x y v u Q I rx ry ⟨i, j, e1, e2, _, q⟩
  exact h pins s σ H x y v u Q I rx ry ⟨i, j, e1, e2, q⟩
def smallI (i : Int) : Bool := decide (-(2 ^ 64) < i) && decide (i < 2 ^ 64)
def subD : Op2 := intOp (fun _ _ => true) (· - ·)
def mulI : Op2 := intOp (fun i j => smallI i || smallI j) (· * ·)
def fdivD : Op2 := intOp (fun _ j => decide (0 < j) && decide (j < 1073741824)) (· / ·)
def modD : Op2 := intOp (fun _ j => decide (0 < j)) (· % ·)
def powC (i j : Int) : Bool := decide (0 ≤ j) && decide (j ≤ 1000000) && decide (i.natAbs < 2 ^ 64)
def powD : Op2 := intOp powC (fun i j => i ^ j.toNat)
def shlD : Op2 := intOp powC (fun i j => i * 2 ^ j.toNat)
def shrD : Op2 := intOp (fun _ j => decide (0 ≤ j)) (fun i j => i / 2 ^ j.toNat)
def andD : Op2 := intOp (fun _ _ => true) Builtin.bitAnd
def orD : Op2 := intOp (fun _ _ => true) Builtin.bitOr
def xorD : Op2 := intOp (fun _ _ => true) Builtin.bitXor
theorem smallI_ok {i : Int} (h : smallI i = true) : -(2 ^ 64) < i ∧ i < 2 ^ 64 := by
  unfold smallI at h
  simp only [Bool.and_eq_true, decide_eq_true_eq] at h
  exact h
theorem powC_ok {i j : Int} (h : powC i j = true) : CPow i j := by
  unfold powC at h
  simp only [Bool.and_eq_true, decide_eq_true_eq] at h
  exact ⟨h.1.1, h.1.2, h.2⟩
theorem op_subD : OpR X (binaryOp .Sub) (rD2 R subD) := op_intD (rI_of0 op_sub) fun _ _ _ => trivial
theorem op_mulI : OpR X (binaryOp .Mult) (rD2 R mulI) := op_intD op_mul fun i j h => by
  rcases Bool.or_eq_true_iff.mp h with h | h
  · exact .inl (smallI_ok h)
  · exact .inr (smallI_ok h)
theorem op_fdivD : OpR X (binaryOp .FloorDiv) (rD2 R fdivD) := op_intD op_fdiv fun i j h => by
  simp only [Bool.and_eq_true, decide_eq_true_eq] at h
  exact h
theorem op_modD : OpR X (binaryOp .Mod) (rD2 R modD) := op_intD op_mod fun i j h => of_decide_eq_true h
theorem op_powD : OpR X (binaryOp .Pow) (rD2 R powD) := op_intD op_pow fun i j h => powC_ok h
theorem op_shlD : OpR X (binaryOp .LShift) (rD2 R shlD) := op_intD op_shl fun i j h => powC_ok h
theorem op_shrD : OpR X (binaryOp .RShift) (rD2 R shrD) := op_intD op_shr fun i j h => of_decide_eq_true h
theorem op_andD : OpR X (binaryOp .BitAnd) (rD2 R andD) := op_intD (rI_of0 op_and) fun _ _ _ => trivial
theorem op_orD : OpR X (binaryOp .BitOr) (rD2 R orD) := op_intD (rI_of0 op_or) fun _ _ _ => trivial
theorem op_xorD : OpR X (binaryOp .BitXor) (rD2 R xorD) := op_intD (rI_of0 op_xor) fun _ _ _ => trivial
/-- two operations, the second where the first says nothing -/
def orOp (f g : Op2) : Op2 := fun a b μ => match f a b μ with
  | some r => some r
  | none => g a b μ
theorem op_orD2 {f : Value → Value → Sem Value} {o1 o2 : Op2} (h1 : OpR X f (rD2 R o1)) (h2 : OpR X f (rD2 R o2)) : OpR X f (rD2 R (orOp o1 o2)) := by
  intro pins s σ H x y v u Q I rx ry ⟨α, F, μ, d1, d2, d, μ', hl, r1, r2, e, hq⟩
  unfold orOp at e
  split at e
  · rename_i r q
    cases e
    exact h1 pins s σ H x y v u Q I rx ry ⟨α, F, μ, d1, d2, d, μ', hl, r1, r2, q, hq⟩
  · exact h2 pins s σ H x y v u Q I rx ry ⟨α, F, μ, d1, d2, d, μ', hl, r1, r2, e, hq⟩
/-- xs * n -/
def repD : Op2 := fun a b μ => match lsOf a μ, b with
  | some xs, .int k => guardD (decide (-(2 ^ 63) ≤ k) && decide (k < 2 ^ 63) && decide (xs.length * k.toNat ≤ sizeLine)) (.lst (List.replicate k.toNat xs).flatten, μ)
  | _, _ => none
theorem paired_rep {α β : Type} {P : α → β → Prop} {xs : List α} {ys : List β} (h : Paired P xs ys) : ∀ k : Nat, Paired P (List.replicate k xs).flatten (List.replicate k ys).flatten
  | 0 => .nil
  | k + 1 => by
    simp only [List.replicate_succ, List.flatten_cons]
    exact paired_append h (paired_rep h k)
theorem op_repD : OpR X (binaryOp .Mult) (rD2 R repD) := by
  intro pins s σ H x y v u Q I rx ry ⟨α, F, μ, d1, d2, d, μ', hl, r1, r2, e, hq⟩
  unfold repD at e
  split at e
  · rename_i xs k h1
    obtain ⟨hz, e⟩ := guardD_some e
    simp only [Bool.and_eq_true, decide_eq_true_eq] at hz
    cases e
    cases r2
    obtain ⟨a, vs, rfl, ha, la⟩ := lsOf_ok hl r1 h1
    refine op_rep pins s σ H _ _ v u Q I rx ry ⟨a, k, vs, rfl, rfl, ha, hz.1.1, hz.1.2, ?_, fun p hp => postv_new hl hq hp (.mkLst upd_same ?_)⟩
    · rw [la.length]; exact hz.2
    · exact RepL.mono (paired_rep la k.toNat) (List.prefix_refl _) (same_upd (hl.fresh hp))
  · cases e
def mulD : Op2 := orOp mulI repD
theorem op_mulD : OpR X (binaryOp .Mult) (rD2 R mulD) := op_orD2 op_mulI op_repD
/-- the operators -/
def binD : Operator → Op2
  | .Add => addD | .Sub => subD | .Mult => mulD | .FloorDiv => fdivD | .Mod => modD | .Pow => powD | .LShift => shlD | .RShift => shrD | .BitAnd => andD | .BitOr => orD | .BitXor => xorD
  | _ => fun _ _ _ => none
theorem op_binD (hK : X.K = R.K) (op : Operator) : OpR X (binaryOp op) (rD2 R (binD op)) := by
  cases op with
  | Add => exact op_addD hK
  | Sub => exact op_subD
  | Mult => exact op_mulD
  | FloorDiv => exact op_fdivD
  | Mod => exact op_modD
  | Pow => exact op_powD
  | LShift => exact op_shlD
  | RShift => exact op_shrD
  | BitAnd => exact op_andD
  | BitOr => exact op_orD
  | BitXor => exact op_xorD
  | _ => exact fun pins s σ H x y v u Q I rx ry ⟨α, F, μ, d1, d2, d, μ', hl, r1, r2, e, hq⟩ => nomatch e
/-! ### - and ~ -/
def negD : Op1
  | .int i, μ => some (.int (-i), μ)
  | _, _ => none
def invD : Op1
  | .int i, μ => some (.int (Builtin.bitNot i), μ)
  | _, _ => none
theorem op_negD : UnR X (unaryOp .USub) (rD1 R negD) := by
  intro pins s σ H x v Q I rx ⟨α, F, μ, d1, d, μ', hl, r1, e, hq⟩
  cases d1 with
  | int i => cases e; cases r1; exact un_neg pins s σ H _ v Q I rx ⟨i, rfl, hq.here hl (.int _)⟩
  | _ => cases e
theorem op_invD : UnR X (unaryOp .Invert) (rD1 R invD) := by
  intro pins s σ H x v Q I rx ⟨α, F, μ, d1, d, μ', hl, r1, e, hq⟩
  cases d1 with
  | int i => cases e; cases r1; exact un_inv pins s σ H _ v Q I rx ⟨i, rfl, hq.here hl (.int _)⟩
  | _ => cases e
end DL
/-! DL4: comparisons over data. -/
namespace DL
open PySem PySem.Spec PyProof.Rows L2
variable {R : Rc} {X : Cx} {W : WX}

/-! ### == -/
mutual
def eqb : D → D → Bool
  | .non, .non => true
  | .bl a, .bl b => a == b
  | .bl a, .int j => (if a then 1 else 0) == j
  | .int i, .bl b => i == (if b then 1 else 0)
  | .int i, .int j => i == j
  | .str x, .str y => x == y
  | .tup xs, .tup ys => eqbL xs ys
  | .lst xs, .lst ys => eqbL xs ys
  | .lst xs, .klst ys => eqbL xs ys
  | .klst xs, .lst ys => eqbL xs ys
  | .klst xs, .klst ys => eqbL xs ys
  | _, _ => false
def eqbL : List D → List D → Bool
  | [], [] => true
  | x :: xs, y :: ys => eqb x y && eqbL xs ys
  | _, _ => false
end
/-- data of a depth of at most n: no dicts, no instances, no cells -/
def dOk : Nat → D → Bool
  | _, .non => true
  | _, .bl _ => true
  | _, .int _ => true
  | _, .str _ => true
  | n + 1, .tup xs => xs.all (dOk n)
  | n + 1, .lst xs => xs.all (dOk n)
  | n + 1, .klst xs => xs.all (dOk n)
  | _, _ => false
/-- the pair at j -/
def prEq (xs ys : List D) (j : Nat) : Bool := match xs[j]?, ys[j]? with
  | some x, some y => eqb x y
  | _, _ => false
theorem eqbL_eq : ∀ xs ys : List D, ((List.range (min xs.length ys.length)).all (prEq xs ys) && xs.length == ys.length) = eqbL xs ys
  | [], [] => rfl
  | [], _ :: _ => by simp [eqbL]
  | _ :: _, [] => by simp [eqbL]
  | x :: xs, y :: ys => by
    have ih := eqbL_eq xs ys
    rw [eqbL, ← ih]
    have e : min (x :: xs).length (y :: ys).length = min xs.length ys.length + 1 := by simp only [List.length_cons]; omega
    rw [e, List.range_succ_eq_map, List.all_cons, List.all_map]
    have e2 : (prEq (x :: xs) (y :: ys) ∘ Nat.succ) = prEq xs ys := by funext j; simp [prEq]
    rw [e2]
    have e3 : ((x :: xs).length == (y :: ys).length) = (xs.length == ys.length) := by simp
    rw [e3]
    have e4 : prEq (x :: xs) (y :: ys) 0 = eqb x y := rfl
    rw [e4, Bool.and_assoc]
theorem eqbL_len {xs ys : List D} (h : xs.length ≠ ys.length) : eqbL xs ys = false := by
  rw [← eqbL_eq]; simp [h]
theorem eqbL_same {xs ys : List D} (h : xs.length = ys.length) : (List.range xs.length).all (prEq xs ys) = eqbL xs ys := by
  have := eqbL_eq xs ys
  rw [← h, Nat.min_self] at this
  simpa using this
mutual
theorem eqb_refl : ∀ (n : Nat) (d : D), dOk n d = true → eqb d d = true
  | _, .non, _ => rfl
  | _, .bl b, _ => by simp [eqb]
  | _, .int _, _ => by simp [eqb]
  | _, .str _, _ => by simp [eqb]
  | n + 1, .tup xs, h => by rw [eqb]; exact eqbL_refl n xs (by simpa [dOk] using h)
  | n + 1, .lst xs, h => by rw [eqb]; exact eqbL_refl n xs (by simpa [dOk] using h)
  | n + 1, .klst xs, h => by rw [eqb]; exact eqbL_refl n xs (by simpa [dOk] using h)
  | 0, .tup xs, h => by simp [dOk] at h
  | 0, .lst xs, h => by simp [dOk] at h
  | 0, .klst xs, h => by simp [dOk] at h
  | n, .dct _ _, h => by cases n <;> simp [dOk] at h
  | n, .ins _ _, h => by cases n <;> simp [dOk] at h
  | n, .loc _, h => by cases n <;> simp [dOk] at h
  | n, .cls _, h => by cases n <;> simp [dOk] at h
  | n, .ty _, h => by cases n <;> simp [dOk] at h
theorem eqbL_refl : ∀ (n : Nat) (xs : List D), (∀ x ∈ xs, dOk n x = true) → eqbL xs xs = true
  | _, [], _ => rfl
  | n, x :: xs, h => by
    rw [eqbL, eqb_refl n x (h x (by simp)), eqbL_refl n xs fun y hy => h y (by simp [hy])]
    rfl
end

/-! ### views: what a value is to ==, at the heap as it is -/
inductive Vw (R : Rc) (α : List Addr) (F H : Hp) : V → D → Prop
  | non : Vw R α F H .non .non
  | bl (b : Bool) : Vw R α F H (.bl b) (.bl b)
  | int (i : Int) : Vw R α F H (.int i) (.int i)
  | str (x : Str) : Vw R α F H (.str x) (.str x)
  | tup {a vs ds} (h : SqT R.K H a vs) (r : RepL R α F vs ds) : Vw R α F H (.ref a) (.tup ds)
  | lst {a vs ds} (h : SqL R.K H a vs) (r : RepL R α F vs ds) : Vw R α F H (.ref a) (.lst ds)
def vwD (d : D) (μ : Store) : Option D := match d with
  | .non => some .non
  | .bl b => some (.bl b)
  | .int i => some (.int i)
  | .str x => some (.str x)
  | .tup ds => some (.tup ds)
  | .lst ds => some (.lst ds)
  | .klst ds => some (.lst ds)
  | .loc n => (match μ[n]? with
    | some (.lst ds) => some (.lst ds)
    | _ => none)
  | _ => none
theorem vw_ok {α : List Addr} {F H : Hp} {μ : Store} (hl : Rl R α F μ H) {x : V} {d d' : D} (r : Rep R α F x d) (e : vwD d μ = some d') : Vw R α F H x d' := by
  cases d with
  | non => cases e; cases r; exact .non
  | bl b => cases e; cases r; exact .bl _
  | int b => cases e; cases r; exact .int _
  | str b => cases e; cases r; exact .str _
  | tup b => cases e; obtain ⟨a, vs, rfl, h, rl⟩ := tup_ok hl r; exact .tup h rl
  | lst b => cases e; obtain ⟨a, vs, rfl, h, rl⟩ := sqOf_ok hl r (ds := b) rfl; exact .lst h rl
  | klst b => cases e; obtain ⟨a, vs, rfl, h, rl⟩ := sqOf_ok hl r (ds := b) rfl; exact .lst h rl
  | loc n =>
    simp only [vwD] at e
    split at e
    · rename_i ds q
      cases e
      obtain ⟨a, vs, rfl, h, rl⟩ := sqOf_ok hl r (ds := ds) (by simp only [sqOf, lsOf, q])
      exact .lst h rl
    · cases e
  | _ => cases e
/-- data as it is seen -/
def nrm : D → D
  | .klst xs => .lst xs
  | d => d
theorem eqb_nrm (a b : D) : eqb (nrm a) (nrm b) = eqb a b := by
  cases a <;> cases b <;> simp [nrm, eqb]
theorem dOk_nrm {n : Nat} {d : D} (h : dOk n d = true) : dOk n (nrm d) = true := by
  cases d <;> (try exact h)
  cases n <;> simp_all [dOk, nrm]
theorem vw_data {n : Nat} {d : D} {μ : Store} (h : dOk n d = true) : vwD d μ = some (nrm d) := by
  cases d <;> first | rfl | (cases n <;> simp [dOk] at h)

theorem vals_ix {vs : List V} {its : List Value} (r : Vals vs its) {j : Nat} (h1 : j < its.toArray.size) : ∃ v, vs[j]? = some v ∧ RelV v its.toArray[j] := by
  have h2 : j < its.length := by simpa using h1
  have h3 : j < vs.length := by rw [r.length]; exact h2
  obtain ⟨u, e, ru⟩ := Vals.get r (List.getElem?_eq_getElem h3)
  refine ⟨_, List.getElem?_eq_getElem h3, ?_⟩
  rw [List.getElem?_eq_getElem h2] at e
  have e' := Option.some.inj e
  simpa [e'] using ru
section
variable {pins : List (Addr × Obj)} {σ : L2.St} {α : List Addr} {F H : Hp} {μ : Store} {s : Shared}
/-- elementwise -/
theorem els {I1 : Inv X pins σ H s} {A : Around} {n : Nat} {vs ws : List V} {ds es : List D} {its its' : List Value}
    (ih : ∀ (d1 d2 : D) (x1 x2 : V) (u1 u2 : Value), Rep R α F x1 d1 → Rep R α F x2 d2 → RelV x1 u1 → RelV x2 u2 → dOk n d1 = true → dOk n d2 = true → SeqAt.EqAt A s u1 u2 (eqb d1 d2))
    (r1 : RepL R α F vs ds) (r2 : RepL R α F ws es) (v1 : Vals vs its) (v2 : Vals ws its') (o1 : ∀ d ∈ ds, dOk n d = true) (o2 : ∀ d ∈ es, dOk n d = true) :
    ∀ j (h1 : j < its.toArray.size) (h2 : j < its'.toArray.size), SeqAt.EqAt A s its.toArray[j] its'.toArray[j] (prEq ds es j) := fun j h1 h2 => by
  obtain ⟨x1, e1, q1⟩ := vals_ix v1 h1
  obtain ⟨x2, e2, q2⟩ := vals_ix v2 h2
  have hd1 : j < ds.length := by rw [← r1.length, v1.length]; simpa using h1
  have hd2 : j < es.length := by rw [← r2.length, v2.length]; simpa using h2
  have g1 : ds[j]? = some ds[j] := List.getElem?_eq_getElem hd1
  have g2 : es[j]? = some es[j] := List.getElem?_eq_getElem hd2
  have e : prEq ds es j = eqb ds[j] es[j] := by unfold prEq; rw [g1, g2]
  rw [e]
  exact ih _ _ x1 x2 _ _ (paired_ix r1 j _ _ e1 g1) (paired_ix r2 j _ _ e2 g2) q1 q2 (o1 _ (List.getElem_mem hd1)) (o2 _ (List.getElem_mem hd2))
/-- what stands at one place is one thing -/
theorem rep_same (hK : X.K = R.K) (I : Inv X pins σ H s) (hl : Rl R α F μ H) : ∀ (n : Nat) (d1 d2 : D) (x : V), Rep R α F x d1 → Rep R α F x d2 → dOk n d1 = true → dOk n d2 = true → nrm d1 = nrm d2 ∨ eqb d1 d2 = true := by
  intro n
  induction n with
  | zero =>
    intro d1 d2 x r1 r2 o1 o2
    cases d1 <;> simp [dOk] at o1 <;> cases d2 <;> simp [dOk] at o2 <;> cases r1 <;> cases r2 <;> first | exact .inl rfl | exact .inr rfl
  | succ n ih =>
    have lists : ∀ {vs : List V} {ds es : List D}, RepL R α F vs ds → RepL R α F vs es → (∀ d ∈ ds, dOk n d = true) → (∀ d ∈ es, dOk n d = true) → eqbL ds es = true := by
      intro vs
      induction vs with
      | nil => intro ds es p1 p2 _ _; cases p1; cases p2; rfl
      | cons v vs ihv =>
        intro ds es p1 p2 o1 o2
        cases p1 with
        | cons a1 t1 =>
          cases p2 with
          | cons a2 t2 =>
            rw [eqbL, ihv t1 t2 (fun d hd => o1 d (by simp [hd])) (fun d hd => o2 d (by simp [hd]))]
            rw [Bool.and_true]
            rcases ih _ _ v a1 a2 (o1 _ (by simp)) (o2 _ (by simp)) with z | z
            · rw [← eqb_nrm, z]
              exact eqb_refl n _ (dOk_nrm (o2 _ (by simp)))
            · exact z
    intro d1 d2 x r1 r2 o1 o2
    have V1 := vw_ok hl r1 (vw_data o1)
    have V2 := vw_ok hl r2 (vw_data o2)
    have O1 := dOk_nrm o1
    have O2 := dOk_nrm o2
    rw [← eqb_nrm]
    generalize nrm d1 = c1 at *
    generalize nrm d2 = c2 at *
    cases V1 with
    | tup h p1 =>
      cases V2 with
      | tup h' p2 =>
        have e := I.tuple_inj (hK ▸ h) (hK ▸ h')
        subst e
        right
        rw [eqb]
        exact lists p1 p2 (by simpa [dOk] using O1) (by simpa [dOk] using O2)
      | lst h' p2 =>
        obtain ⟨its, _, q1, _⟩ := I.tuple (hK ▸ h)
        obtain ⟨its2, _, q2, _⟩ := I.list (hK ▸ h')
        exact absurd rfl (SeqAt.ne_of_list_tuple q2.isList q1)
    | lst h p1 =>
      cases V2 with
      | lst h' p2 =>
        have e := I.list_inj (hK ▸ h) (hK ▸ h')
        subst e
        right
        rw [eqb]
        exact lists p1 p2 (by simpa [dOk] using O1) (by simpa [dOk] using O2)
      | tup h' p2 =>
        obtain ⟨its, _, q1, _⟩ := I.tuple (hK ▸ h')
        obtain ⟨its2, _, q2, _⟩ := I.list (hK ▸ h)
        exact absurd rfl (SeqAt.ne_of_list_tuple q2.isList q1)
    | non => cases V2; exact .inl rfl
    | bl b => cases V2; exact .inl rfl
    | int b => cases V2; exact .inl rfl
    | str b => cases V2; exact .inl rfl
end
end DL
/-! DL5: == , in over data, as the machine does it. -/
namespace DL
open PySem PySem.Spec PyProof.Rows L2
variable {R : Rc} {X : Cx} {W : WX}
section
variable {pins : List (Addr × Obj)} {σ : L2.St} {α : List Addr} {F H : Hp} {μ : Store} {s : Shared}
theorem in1_units {A : Around} {n : Nat} (h : A.units + (n + 1) < cLine) : A.in1.units + n < cLine := by
  show A.units + 1 + n < cLine
  omega
/-- == of two views, given that of their items -/
theorem eqAtV (hK : X.K = R.K) (I : Inv X pins σ H s) (hl : Rl R α F μ H) {A : Around} {n : Nat} {d1 d2 : D} {x1 x2 : V} {u1 u2 : Value}
    (ih : ∀ (d1 d2 : D) (x1 x2 : V) (u1 u2 : Value), Rep R α F x1 d1 → Rep R α F x2 d2 → RelV x1 u1 → RelV x2 u2 → dOk n d1 = true → dOk n d2 = true → SeqAt.EqAt A.in1 s u1 u2 (eqb d1 d2))
    (same : ∀ {vs : List V} {ds es : List D}, RepL R α F vs ds → RepL R α F vs es → (∀ d ∈ ds, dOk n d = true) → (∀ d ∈ es, dOk n d = true) → eqbL ds es = true)
    (hu : A.units < cLine) (V1 : Vw R α F H x1 d1) (V2 : Vw R α F H x2 d2) (q1 : RelV x1 u1) (q2 : RelV x2 u2) (o1 : dOk (n + 1) d1 = true) (o2 : dOk (n + 1) d2 = true) : SeqAt.EqAt A s u1 u2 (eqb d1 d2) := by
  cases V1 with
  | non =>
    cases q1
    cases V2 with
    | non => cases q2; exact SeqAt.EqAt.same _
    | bl b => cases q2; exact SeqAt.EqAt.none_bool b
    | int b => obtain ⟨t, rfl⟩ := q2; exact SeqAt.EqAt.none_int b t
    | str b => obtain ⟨t, rfl⟩ := q2; exact SeqAt.EqAt.none_str b t
    | tup h r => cases q2; obtain ⟨its, _, p, _⟩ := I.tuple (hK ▸ h); exact SeqAt.EqAt.none_tuple p hu
    | lst h r => cases q2; obtain ⟨its, _, p, _⟩ := I.list (hK ▸ h); exact SeqAt.EqAt.none_list p.isList hu
  | bl a =>
    cases q1
    cases V2 with
    | non => cases q2; exact SeqAt.EqAt.bool_none a
    | bl b => cases q2; exact SeqAt.EqAt.bool_bool a b
    | int b => obtain ⟨t, rfl⟩ := q2; exact SeqAt.EqAt.bool_int a b t
    | str b => obtain ⟨t, rfl⟩ := q2; exact SeqAt.EqAt.bool_str a b t
    | tup h r => cases q2; obtain ⟨its, _, p, _⟩ := I.tuple (hK ▸ h); exact SeqAt.EqAt.bool_tuple a p hu
    | lst h r => cases q2; obtain ⟨its, _, p, _⟩ := I.list (hK ▸ h); exact SeqAt.EqAt.bool_list a p.isList hu
  | int a =>
    obtain ⟨t1, rfl⟩ := q1
    cases V2 with
    | non => cases q2; exact SeqAt.EqAt.int_none a t1
    | bl b => cases q2; exact SeqAt.EqAt.int_bool a t1 b
    | int b => obtain ⟨t, rfl⟩ := q2; exact SeqAt.EqAt.int_int a t1 b t
    | str b => obtain ⟨t, rfl⟩ := q2; exact SeqAt.EqAt.int_str a t1 b t
    | tup h r => cases q2; obtain ⟨its, _, p, _⟩ := I.tuple (hK ▸ h); exact SeqAt.EqAt.int_tuple a t1 p hu
    | lst h r => cases q2; obtain ⟨its, _, p, _⟩ := I.list (hK ▸ h); exact SeqAt.EqAt.int_list a t1 p.isList hu
  | str a =>
    obtain ⟨t1, rfl⟩ := q1
    cases V2 with
    | non => cases q2; exact SeqAt.EqAt.str_none a t1
    | bl b => cases q2; exact SeqAt.EqAt.str_bool a t1 b
    | int b => obtain ⟨t, rfl⟩ := q2; exact SeqAt.EqAt.str_int a t1 b t
    | str b => obtain ⟨t, rfl⟩ := q2; exact SeqAt.EqAt.str_str a t1 b t
    | tup h r => cases q2; obtain ⟨its, _, p, _⟩ := I.tuple (hK ▸ h); exact SeqAt.EqAt.str_tuple a t1 p hu
    | lst h r => cases q2; obtain ⟨its, _, p, _⟩ := I.list (hK ▸ h); exact SeqAt.EqAt.str_list a t1 p.isList hu
  | @tup a vs ds h r =>
    cases q1
    obtain ⟨its, v1, p, _⟩ := I.tuple (hK ▸ h)
    cases V2 with
    | non => cases q2; exact SeqAt.EqAt.tuple_none p hu
    | bl b => cases q2; exact SeqAt.EqAt.tuple_bool b p hu
    | int b => obtain ⟨t, rfl⟩ := q2; exact SeqAt.EqAt.tuple_int b t p hu
    | str b => obtain ⟨t, rfl⟩ := q2; exact SeqAt.EqAt.tuple_str b t p hu
    | lst h' r' => cases q2; obtain ⟨its2, _, p2, _⟩ := I.list (hK ▸ h'); exact SeqAt.EqAt.tuple_list p p2.isList hu
    | @tup b ws es h' r' =>
      cases q2
      obtain ⟨its2, v2, p2, _⟩ := I.tuple (hK ▸ h')
      have O1 : ∀ d ∈ ds, dOk n d = true := by simpa [dOk] using o1
      have O2 : ∀ d ∈ es, dOk n d = true := by simpa [dOk] using o2
      show SeqAt.EqAt A s _ _ (eqb (.tup ds) (.tup es))
      rw [eqb]
      by_cases hab : a = b
      · subst hab
        have e := I.tuple_inj (hK ▸ h) (hK ▸ h')
        subst e
        rw [same r r' O1 O2]
        exact SeqAt.EqAt.same _
      · have z := SeqAt.RcAt.tuples (A := A) p p2 hu (els (I1 := I) ih r r' v1 v2 O1 O2)
        have n1 : its.toArray.size = ds.length := by rw [List.size_toArray, ← v1.length, r.length]
        have n2 : its2.toArray.size = es.length := by rw [List.size_toArray, ← v2.length, r'.length]
        rw [n1, n2, eqbL_eq] at z
        exact SeqAt.EqAt.of_refs hab z
  | @lst a vs ds h r =>
    cases q1
    obtain ⟨its, v1, p, _⟩ := I.list (hK ▸ h)
    cases V2 with
    | non => cases q2; exact SeqAt.EqAt.list_none p.isList hu
    | bl b => cases q2; exact SeqAt.EqAt.list_bool b p.isList hu
    | int b => obtain ⟨t, rfl⟩ := q2; exact SeqAt.EqAt.list_int b t p.isList hu
    | str b => obtain ⟨t, rfl⟩ := q2; exact SeqAt.EqAt.list_str b t p.isList hu
    | tup h' r' => cases q2; obtain ⟨its2, _, p2, _⟩ := I.tuple (hK ▸ h'); exact SeqAt.EqAt.list_tuple p.isList p2 hu
    | @lst b ws es h' r' =>
      cases q2
      obtain ⟨its2, v2, p2, _⟩ := I.list (hK ▸ h')
      have O1 : ∀ d ∈ ds, dOk n d = true := by simpa [dOk] using o1
      have O2 : ∀ d ∈ es, dOk n d = true := by simpa [dOk] using o2
      show SeqAt.EqAt A s _ _ (eqb (.lst ds) (.lst es))
      rw [eqb]
      have n1 : its.toArray.size = ds.length := by rw [List.size_toArray, ← v1.length, r.length]
      have n2 : its2.toArray.size = es.length := by rw [List.size_toArray, ← v2.length, r'.length]
      by_cases hab : a = b
      · subst hab
        have e := I.list_inj (hK ▸ h) (hK ▸ h')
        subst e
        rw [same r r' O1 O2]
        exact SeqAt.EqAt.same _
      · by_cases hsz : ds.length = es.length
        · have z := SeqAt.RcAt.lists (A := A) p.isList p2.isList (by rw [n1, n2]; exact hsz) hu (els (I1 := I) ih r r' v1 v2 O1 O2)
          rw [n1, eqbL_same hsz] at z
          exact SeqAt.EqAt.of_refs hab z
        · rw [eqbL_len hsz]
          exact SeqAt.EqAt.of_refs hab (SeqAt.RcAt.lists_lengths p.isList p2.isList (by rw [n1, n2]; simpa using hsz) hu)
theorem same_lists (hK : X.K = R.K) (I : Inv X pins σ H s) (hl : Rl R α F μ H) (n : Nat) : ∀ {vs : List V} {ds es : List D}, RepL R α F vs ds → RepL R α F vs es → (∀ d ∈ ds, dOk n d = true) → (∀ d ∈ es, dOk n d = true) → eqbL ds es = true
  | _, _, _, .nil, p2, _, _ => by cases p2; rfl
  | _, _, _, .cons a1 t1, p2, o1, o2 => by
    cases p2 with
    | cons a2 t2 =>
      rw [eqbL, same_lists hK I hl n t1 t2 (fun d hd => o1 d (by simp [hd])) (fun d hd => o2 d (by simp [hd])), Bool.and_true]
      rcases rep_same hK I hl n _ _ _ a1 a2 (o1 _ (by simp)) (o2 _ (by simp)) with z | z
      · rw [← eqb_nrm, z]
        exact eqb_refl n _ (dOk_nrm (o2 _ (by simp)))
      · exact z
theorem eqAtD (hK : X.K = R.K) (I : Inv X pins σ H s) (hl : Rl R α F μ H) : ∀ (n : Nat) (A : Around), A.units + n < cLine → ∀ (d1 d2 : D) (x1 x2 : V) (u1 u2 : Value), Rep R α F x1 d1 → Rep R α F x2 d2 → RelV x1 u1 → RelV x2 u2 → dOk n d1 = true → dOk n d2 = true → SeqAt.EqAt A s u1 u2 (eqb d1 d2)
  | 0, A, hu, d1, d2, x1, x2, u1, u2, r1, r2, q1, q2, o1, o2 => by
    have h1 : flatV x1 = true ∧ dOk 1 d1 = true := by cases d1 <;> simp [dOk] at o1 <;> cases r1 <;> exact ⟨rfl, rfl⟩
    have h2 : flatV x2 = true ∧ dOk 1 d2 = true := by cases d2 <;> simp [dOk] at o2 <;> cases r2 <;> exact ⟨rfl, rfl⟩
    have e : eqV x1 x2 = eqb d1 d2 := by
      cases d1 <;> simp [dOk] at o1 <;> cases d2 <;> simp [dOk] at o2 <;> cases r1 <;> cases r2 <;> simp [eqV, eqb]
    rw [← e]
    exact eqAt_V q1 q2 h1.1 h2.1
  | n + 1, A, hu, d1, d2, x1, x2, u1, u2, r1, r2, q1, q2, o1, o2 => by
    rw [← eqb_nrm]
    exact eqAtV hK I hl (eqAtD hK I hl n A.in1 (in1_units hu)) (same_lists hK I hl n) (by omega) (vw_ok hl r1 (vw_data o1)) (vw_ok hl r2 (vw_data o2)) q1 q2 (dOk_nrm o1) (dOk_nrm o2)
/-- .. of things as they are now (a list in a cell too) -/
theorem eqAtS (hK : X.K = R.K) (I : Inv X pins σ H s) (hl : Rl R α F μ H) {A : Around} (hu : A.units + 60 < cLine) {d1 d2 c1 c2 : D} {x1 x2 : V} {u1 u2 : Value} (r1 : Rep R α F x1 d1) (r2 : Rep R α F x2 d2) (q1 : RelV x1 u1) (q2 : RelV x2 u2)
    (w1 : vwD d1 μ = some c1) (w2 : vwD d2 μ = some c2) (o1 : dOk 60 c1 = true) (o2 : dOk 60 c2 = true) : SeqAt.EqAt A s u1 u2 (eqb c1 c2) :=
  eqAtV hK I hl (n := 59) (eqAtD hK I hl 59 A.in1 (by show A.units + 1 + 59 < cLine; omega)) (same_lists hK I hl 59) (by omega) (vw_ok hl r1 w1) (vw_ok hl r2 w2) q1 q2 o1 o2
end
end DL
/-! DL6: the comparison operators over data. -/
namespace DL
open PySem PySem.Spec PyProof.Rows L2
variable {R : Rc} {X : Cx} {W : WX}
section
variable {pins : List (Addr × Obj)} {σ : L2.St} {α : List Addr} {F H : Hp} {μ : Store} {s : Shared}
theorem rcV (hK : X.K = R.K) (I : Inv X pins σ H s) (hl : Rl R α F μ H) {A : Around} {n : Nat} {d1 d2 : D} {x1 x2 : V} {u1 u2 : Value}
    (ih : ∀ (d1 d2 : D) (x1 x2 : V) (u1 u2 : Value), Rep R α F x1 d1 → Rep R α F x2 d2 → RelV x1 u1 → RelV x2 u2 → dOk n d1 = true → dOk n d2 = true → SeqAt.EqAt A.in1 s u1 u2 (eqb d1 d2))
    (hu : A.units < cLine) (V1 : Vw R α F H x1 d1) (V2 : Vw R α F H x2 d2) (q1 : RelV x1 u1) (q2 : RelV x2 u2) (o1 : dOk (n + 1) d1 = true) (o2 : dOk (n + 1) d2 = true) : SeqAt.RcAt A s u1 u2 (eqb d1 d2) := by
  cases V1 with
  | non =>
    cases q1
    cases V2 with
    | non => cases q2; exact SeqAt.RcAt.none_none
    | bl b => cases q2; exact SeqAt.RcAt.none_bool b
    | int b => obtain ⟨t, rfl⟩ := q2; exact SeqAt.RcAt.none_int b t
    | str b => obtain ⟨t, rfl⟩ := q2; exact SeqAt.RcAt.none_str b t
    | tup h r => cases q2; obtain ⟨its, _, p, _⟩ := I.tuple (hK ▸ h); exact SeqAt.RcAt.none_tuple p hu
    | lst h r => cases q2; obtain ⟨its, _, p, _⟩ := I.list (hK ▸ h); exact SeqAt.RcAt.none_list p.isList hu
  | bl a =>
    cases q1
    cases V2 with
    | non => cases q2; exact SeqAt.RcAt.bool_none a
    | bl b => cases q2; exact SeqAt.RcAt.bool_bool a b
    | int b => obtain ⟨t, rfl⟩ := q2; exact SeqAt.RcAt.bool_int a b t
    | str b => obtain ⟨t, rfl⟩ := q2; exact SeqAt.RcAt.bool_str a b t
    | tup h r => cases q2; obtain ⟨its, _, p, _⟩ := I.tuple (hK ▸ h); exact SeqAt.RcAt.bool_tuple a p hu
    | lst h r => cases q2; obtain ⟨its, _, p, _⟩ := I.list (hK ▸ h); exact SeqAt.RcAt.bool_list a p.isList hu
  | int a =>
    obtain ⟨t1, rfl⟩ := q1
    cases V2 with
    | non => cases q2; exact SeqAt.RcAt.int_none a t1
    | bl b => cases q2; exact SeqAt.RcAt.int_bool a t1 b
    | int b => obtain ⟨t, rfl⟩ := q2; exact SeqAt.RcAt.int_int a t1 b t
    | str b => obtain ⟨t, rfl⟩ := q2; exact SeqAt.RcAt.int_str a t1 b t
    | tup h r => cases q2; obtain ⟨its, _, p, _⟩ := I.tuple (hK ▸ h); exact SeqAt.RcAt.int_tuple a t1 p hu
    | lst h r => cases q2; obtain ⟨its, _, p, _⟩ := I.list (hK ▸ h); exact SeqAt.RcAt.int_list a t1 p.isList hu
  | str a =>
    obtain ⟨t1, rfl⟩ := q1
    cases V2 with
    | non => cases q2; exact SeqAt.RcAt.str_none a t1
    | bl b => cases q2; exact SeqAt.RcAt.str_bool a t1 b
    | int b => obtain ⟨t, rfl⟩ := q2; exact SeqAt.RcAt.str_int a t1 b t
    | str b => obtain ⟨t, rfl⟩ := q2; exact SeqAt.RcAt.str_str a t1 b t
    | tup h r => cases q2; obtain ⟨its, _, p, _⟩ := I.tuple (hK ▸ h); exact SeqAt.RcAt.str_tuple a t1 p hu
    | lst h r => cases q2; obtain ⟨its, _, p, _⟩ := I.list (hK ▸ h); exact SeqAt.RcAt.str_list a t1 p.isList hu
  | @tup a vs ds h r =>
    cases q1
    obtain ⟨its, v1, p, _⟩ := I.tuple (hK ▸ h)
    cases V2 with
    | non => cases q2; exact SeqAt.RcAt.tuple_none p hu
    | bl b => cases q2; exact SeqAt.RcAt.tuple_bool b p hu
    | int b => obtain ⟨t, rfl⟩ := q2; exact SeqAt.RcAt.tuple_int b t p hu
    | str b => obtain ⟨t, rfl⟩ := q2; exact SeqAt.RcAt.tuple_str b t p hu
    | lst h' r' => cases q2; obtain ⟨its2, _, p2, _⟩ := I.list (hK ▸ h'); exact SeqAt.RcAt.tuple_list p p2.isList hu
    | @tup b ws es h' r' =>
      cases q2
      obtain ⟨its2, v2, p2, _⟩ := I.tuple (hK ▸ h')
      have O1 : ∀ d ∈ ds, dOk n d = true := by simpa [dOk] using o1
      have O2 : ∀ d ∈ es, dOk n d = true := by simpa [dOk] using o2
      have n1 : its.toArray.size = ds.length := by rw [List.size_toArray, ← v1.length, r.length]
      have n2 : its2.toArray.size = es.length := by rw [List.size_toArray, ← v2.length, r'.length]
      show SeqAt.RcAt A s _ _ (eqb (.tup ds) (.tup es))
      rw [eqb]
      have z := SeqAt.RcAt.tuples (A := A) p p2 hu (els (I1 := I) ih r r' v1 v2 O1 O2)
      rw [n1, n2, eqbL_eq] at z
      exact z
  | @lst a vs ds h r =>
    cases q1
    obtain ⟨its, v1, p, _⟩ := I.list (hK ▸ h)
    cases V2 with
    | non => cases q2; exact SeqAt.RcAt.list_none p.isList hu
    | bl b => cases q2; exact SeqAt.RcAt.list_bool b p.isList hu
    | int b => obtain ⟨t, rfl⟩ := q2; exact SeqAt.RcAt.list_int b t p.isList hu
    | str b => obtain ⟨t, rfl⟩ := q2; exact SeqAt.RcAt.list_str b t p.isList hu
    | tup h' r' => cases q2; obtain ⟨its2, _, p2, _⟩ := I.tuple (hK ▸ h'); exact SeqAt.RcAt.list_tuple p.isList p2 hu
    | @lst b ws es h' r' =>
      cases q2
      obtain ⟨its2, v2, p2, _⟩ := I.list (hK ▸ h')
      have O1 : ∀ d ∈ ds, dOk n d = true := by simpa [dOk] using o1
      have O2 : ∀ d ∈ es, dOk n d = true := by simpa [dOk] using o2
      have n1 : its.toArray.size = ds.length := by rw [List.size_toArray, ← v1.length, r.length]
      have n2 : its2.toArray.size = es.length := by rw [List.size_toArray, ← v2.length, r'.length]
      show SeqAt.RcAt A s _ _ (eqb (.lst ds) (.lst es))
      rw [eqb]
      by_cases hsz : ds.length = es.length
      · have z := SeqAt.RcAt.lists (A := A) p.isList p2.isList (by rw [n1, n2]; exact hsz) hu (els (I1 := I) ih r r' v1 v2 O1 O2)
        rw [n1, eqbL_same hsz] at z
        exact z
      · rw [eqbL_len hsz]
        exact SeqAt.RcAt.lists_lengths p.isList p2.isList (by rw [n1, n2]; simpa using hsz) hu
theorem rcNeV (hK : X.K = R.K) (I : Inv X pins σ H s) (hl : Rl R α F μ H) {A : Around} {n : Nat} {d1 d2 : D} {x1 x2 : V} {u1 u2 : Value}
    (ih : ∀ (d1 d2 : D) (x1 x2 : V) (u1 u2 : Value), Rep R α F x1 d1 → Rep R α F x2 d2 → RelV x1 u1 → RelV x2 u2 → dOk n d1 = true → dOk n d2 = true → SeqAt.EqAt A.in1 s u1 u2 (eqb d1 d2))
    (hu : A.units < cLine) (V1 : Vw R α F H x1 d1) (V2 : Vw R α F H x2 d2) (q1 : RelV x1 u1) (q2 : RelV x2 u2) (o1 : dOk (n + 1) d1 = true) (o2 : dOk (n + 1) d2 = true) : SeqAt.RcNeAt A s u1 u2 (!eqb d1 d2) := by
  cases V1 with
  | non =>
    cases q1
    cases V2 with
    | non => cases q2; exact SeqAt.RcNeAt.none_none
    | bl b => cases q2; exact SeqAt.RcNeAt.none_bool b
    | int b => obtain ⟨t, rfl⟩ := q2; exact SeqAt.RcNeAt.none_int b t
    | str b => obtain ⟨t, rfl⟩ := q2; exact SeqAt.RcNeAt.none_str b t
    | tup h r => cases q2; obtain ⟨its, _, p, _⟩ := I.tuple (hK ▸ h); exact SeqAt.RcNeAt.none_tuple p hu
    | lst h r => cases q2; obtain ⟨its, _, p, _⟩ := I.list (hK ▸ h); exact SeqAt.RcNeAt.none_list p.isList hu
  | bl a =>
    cases q1
    cases V2 with
    | non => cases q2; exact SeqAt.RcNeAt.bool_none a
    | bl b => cases q2; exact SeqAt.RcNeAt.bool_bool a b
    | int b => obtain ⟨t, rfl⟩ := q2; exact SeqAt.RcNeAt.bool_int a b t
    | str b => obtain ⟨t, rfl⟩ := q2; exact SeqAt.RcNeAt.bool_str a b t
    | tup h r => cases q2; obtain ⟨its, _, p, _⟩ := I.tuple (hK ▸ h); exact SeqAt.RcNeAt.bool_tuple a p hu
    | lst h r => cases q2; obtain ⟨its, _, p, _⟩ := I.list (hK ▸ h); exact SeqAt.RcNeAt.bool_list a p.isList hu
  | int a =>
    obtain ⟨t1, rfl⟩ := q1
    cases V2 with
    | non => cases q2; exact SeqAt.RcNeAt.int_none a t1
    | bl b => cases q2; exact SeqAt.RcNeAt.int_bool a t1 b
    | int b => obtain ⟨t, rfl⟩ := q2; exact SeqAt.RcNeAt.int_int a t1 b t
    | str b => obtain ⟨t, rfl⟩ := q2; exact SeqAt.RcNeAt.int_str a t1 b t
    | tup h r => cases q2; obtain ⟨its, _, p, _⟩ := I.tuple (hK ▸ h); exact SeqAt.RcNeAt.int_tuple a t1 p hu
    | lst h r => cases q2; obtain ⟨its, _, p, _⟩ := I.list (hK ▸ h); exact SeqAt.RcNeAt.int_list a t1 p.isList hu
  | str a =>
    obtain ⟨t1, rfl⟩ := q1
    cases V2 with
    | non => cases q2; exact SeqAt.RcNeAt.str_none a t1
    | bl b => cases q2; exact SeqAt.RcNeAt.str_bool a t1 b
    | int b => obtain ⟨t, rfl⟩ := q2; exact SeqAt.RcNeAt.str_int a t1 b t
    | str b => obtain ⟨t, rfl⟩ := q2; exact SeqAt.RcNeAt.str_str a t1 b t
    | tup h r => cases q2; obtain ⟨its, _, p, _⟩ := I.tuple (hK ▸ h); exact SeqAt.RcNeAt.str_tuple a t1 p hu
    | lst h r => cases q2; obtain ⟨its, _, p, _⟩ := I.list (hK ▸ h); exact SeqAt.RcNeAt.str_list a t1 p.isList hu
  | @tup a vs ds h r =>
    cases q1
    obtain ⟨its, v1, p, _⟩ := I.tuple (hK ▸ h)
    cases V2 with
    | non => cases q2; exact SeqAt.RcNeAt.tuple_none p hu
    | bl b => cases q2; exact SeqAt.RcNeAt.tuple_bool b p hu
    | int b => obtain ⟨t, rfl⟩ := q2; exact SeqAt.RcNeAt.tuple_int b t p hu
    | str b => obtain ⟨t, rfl⟩ := q2; exact SeqAt.RcNeAt.tuple_str b t p hu
    | lst h' r' => cases q2; obtain ⟨its2, _, p2, _⟩ := I.list (hK ▸ h'); exact SeqAt.RcNeAt.tuple_list p p2.isList hu
    | @tup b ws es h' r' =>
      cases q2
      obtain ⟨its2, v2, p2, _⟩ := I.tuple (hK ▸ h')
      have O1 : ∀ d ∈ ds, dOk n d = true := by simpa [dOk] using o1
      have O2 : ∀ d ∈ es, dOk n d = true := by simpa [dOk] using o2
      have n1 : its.toArray.size = ds.length := by rw [List.size_toArray, ← v1.length, r.length]
      have n2 : its2.toArray.size = es.length := by rw [List.size_toArray, ← v2.length, r'.length]
      show SeqAt.RcNeAt A s _ _ (!eqb (.tup ds) (.tup es))
      rw [eqb]
      have z := SeqAt.RcNeAt.tuples (A := A) p p2 hu (els (I1 := I) ih r r' v1 v2 O1 O2)
      rw [n1, n2, eqbL_eq] at z
      exact z
  | @lst a vs ds h r =>
    cases q1
    obtain ⟨its, v1, p, _⟩ := I.list (hK ▸ h)
    cases V2 with
    | non => cases q2; exact SeqAt.RcNeAt.list_none p.isList hu
    | bl b => cases q2; exact SeqAt.RcNeAt.list_bool b p.isList hu
    | int b => obtain ⟨t, rfl⟩ := q2; exact SeqAt.RcNeAt.list_int b t p.isList hu
    | str b => obtain ⟨t, rfl⟩ := q2; exact SeqAt.RcNeAt.list_str b t p.isList hu
    | tup h' r' => cases q2; obtain ⟨its2, _, p2, _⟩ := I.tuple (hK ▸ h'); exact SeqAt.RcNeAt.list_tuple p.isList p2 hu
    | @lst b ws es h' r' =>
      cases q2
      obtain ⟨its2, v2, p2, _⟩ := I.list (hK ▸ h')
      have O1 : ∀ d ∈ ds, dOk n d = true := by simpa [dOk] using o1
      have O2 : ∀ d ∈ es, dOk n d = true := by simpa [dOk] using o2
      have n1 : its.toArray.size = ds.length := by rw [List.size_toArray, ← v1.length, r.length]
      have n2 : its2.toArray.size = es.length := by rw [List.size_toArray, ← v2.length, r'.length]
      show SeqAt.RcNeAt A s _ _ (!eqb (.lst ds) (.lst es))
      rw [eqb]
      by_cases hsz : ds.length = es.length
      · have z := SeqAt.RcNeAt.lists (A := A) p.isList p2.isList (by rw [n1, n2]; exact hsz) hu (els (I1 := I) ih r r' v1 v2 O1 O2)
        rw [n1, eqbL_same hsz] at z
        exact z
      · rw [eqbL_len hsz]
        exact SeqAt.RcNeAt.lists_lengths p.isList p2.isList (by rw [n1, n2]; simpa using hsz) hu
end
/-- == and != -/
def eqS (d1 d2 : D) (μ : Store) : Option Bool := match vwD d1 μ, vwD d2 μ with
  | some c1, some c2 => guardD (dOk 60 c1 && dOk 60 c2) (eqb c1 c2)
  | _, _ => none
def eqD : Op2 := fun a b μ => (eqS a b μ).map fun r => (.bl r, μ)
def neD : Op2 := fun a b μ => (eqS a b μ).map fun r => (.bl (!r), μ)
theorem eqS_inv {d1 d2 : D} {μ : Store} {b : Bool} (h : eqS d1 d2 μ = some b) : ∃ c1 c2, vwD d1 μ = some c1 ∧ vwD d2 μ = some c2 ∧ dOk 60 c1 = true ∧ dOk 60 c2 = true ∧ b = eqb c1 c2 := by
  unfold eqS at h
  split at h
  · rename_i c1 c2 e1 e2
    obtain ⟨z, e⟩ := guardD_some h
    simp only [Bool.and_eq_true] at z
    exact ⟨c1, c2, e1, e2, z.1, z.2, e.symm⟩
  · cases h
theorem op_eqDD (hK : X.K = R.K) (hu : X.A.units + 64 < cLine) : OpR X (compareOp .Eq) (rD2 R eqD) := by
  intro pins s σ H x y v u Q I rx ry ⟨α, F, μ, d1, d2, d, μ', hl, r1, r2, e, hq⟩
  cases z : eqS d1 d2 μ with
  | none => unfold eqD at e; rw [z] at e; cases e
  | some b =>
    unfold eqD at e; rw [z] at e; cases e
    obtain ⟨c1, c2, w1, w2, o1, o2, rfl⟩ := eqS_inv z
    have t : wpAny (model X.prog X.w) X.A (compareOp .Eq v u) (EP X pins σ Q) X.xe s := rcV hK I hl (n := 59) (eqAtD hK I hl 59 X.A.in1 (by show X.A.units + 1 + 59 < cLine; omega)) (by omega) (vw_ok hl r1 w1) (vw_ok hl r2 w2) rx ry o1 o2 X.prog X.w X.xe _ ⟨.bl _, H, I, rfl, hq.here hl (.bl _)⟩
    exact t
theorem op_neDD (hK : X.K = R.K) (hu : X.A.units + 64 < cLine) : OpR X (compareOp .NotEq) (rD2 R neD) := by
  intro pins s σ H x y v u Q I rx ry ⟨α, F, μ, d1, d2, d, μ', hl, r1, r2, e, hq⟩
  cases z : eqS d1 d2 μ with
  | none => unfold neD at e; rw [z] at e; cases e
  | some b =>
    unfold neD at e; rw [z] at e; cases e
    obtain ⟨c1, c2, w1, w2, o1, o2, rfl⟩ := eqS_inv z
    have t : wpAny (model X.prog X.w) X.A (compareOp .NotEq v u) (EP X pins σ Q) X.xe s := rcNeV hK I hl (n := 59) (eqAtD hK I hl 59 X.A.in1 (by show X.A.units + 1 + 59 < cLine; omega)) (by omega) (vw_ok hl r1 w1) (vw_ok hl r2 w2) rx ry o1 o2 X.prog X.w X.xe _ ⟨.bl _, H, I, rfl, hq.here hl (.bl _)⟩
    exact t
/-! ### in -/
/-- the items of a list or tuple -/
def itOf (d : D) (μ : Store) : Option (List D) := match d with
  | .tup ds => some ds
  | d => sqOf d μ
def inS (d1 d2 : D) (μ : Store) : Option Bool := match vwD d1 μ, itOf d2 μ with
  | some c1, some ds => guardD (dOk 60 c1 && ds.all (dOk 60)) (ds.any fun z => eqb z c1)
  | _, _ => none
def inStr (a b : Str) : Bool := !(Builtin.Str.occurrences b a 0 b.length 1).isEmpty
def inD : Op2
  | .str a, .str b, μ => some (.bl (inStr a b), μ)
  | a, b, μ => (inS a b μ).map fun r => (.bl r, μ)
def notInD : Op2
  | .str a, .str b, μ => some (.bl (!inStr a b), μ)
  | a, b, μ => (inS a b μ).map fun r => (.bl (!r), μ)
theorem itOf_ok {α : List Addr} {F H : Hp} {μ : Store} (hl : Rl R α F μ H) {x : V} {d : D} {ds : List D} (r : Rep R α F x d) (e : itOf d μ = some ds) : ∃ a vs, x = .ref a ∧ (SqL R.K H a vs ∨ SqT R.K H a vs) ∧ RepL R α F vs ds := by
  have key : sqOf d μ = some ds → ∃ a vs, x = .ref a ∧ (SqL R.K H a vs ∨ SqT R.K H a vs) ∧ RepL R α F vs ds := fun e => by
    obtain ⟨a, vs, rfl, h, rl⟩ := sqOf_ok hl r e
    exact ⟨a, vs, rfl, .inl h, rl⟩
  cases d with
  | tup xs =>
    cases e
    obtain ⟨a, vs, rfl, h, rl⟩ := tup_ok hl r
    exact ⟨a, vs, rfl, .inr h, rl⟩
  | _ => exact key e
/-- the machine's own look at each item -/
theorem in_core (hK : X.K = R.K) (hu : X.A.units + 64 < cLine) {pins : List (Addr × Obj)} {s : Shared} {σ : L2.St} {H : Hp} {x y : V} {v u : Value} (I : Inv X pins σ H s) (rx : RelV x v) (ry : RelV y u) {α F μ} {d1 d2 : D} {b : Bool}
    (hl : Rl R α F μ H) (r1 : Rep R α F x d1) (r2 : Rep R α F y d2) (e : inS d1 d2 μ = some b) :
    ∃ (a : Addr) (its : List Value) (f : Value → Bool), u = .ref a ∧ ((∃ vs, PlainL s.heap a its.toArray ∧ SqL R.K H a vs) ∨ IsTup s.heap a its.toArray) ∧ (∀ w ∈ its, SeqAt.EqAt X.A.in1 s w v (f w)) ∧ its.any f = b := by
  unfold inS at e
  split at e
  · rename_i c1 ds w1 i2
    obtain ⟨z, e⟩ := guardD_some e
    simp only [Bool.and_eq_true, List.all_eq_true] at z
    obtain ⟨o1, o2⟩ := z
    subst e
    obtain ⟨a, vs, rfl, hsq, rl⟩ := itOf_ok hl r2 i2
    cases ry
    have main : ∀ its : List Value, Vals vs its → ∃ f : Value → Bool, (∀ w ∈ its, SeqAt.EqAt X.A.in1 s w v (f w)) ∧ its.any f = ds.any fun z => eqb z c1 := fun its hv => by
      have one : ∀ (j : Nat) (w : Value) (z : D), its[j]? = some w → ds[j]? = some z → SeqAt.EqAt X.A.in1 s w v (eqb z c1) := fun j w z e1 e2 => by
        obtain ⟨x2, e3, r3⟩ := paired_left rl j z e2
        obtain ⟨w', e4, q4⟩ := Vals.get hv e3
        rw [e1] at e4; cases e4
        have t := eqAtS (A := X.A.in1) hK I hl (show X.A.units + 1 + 60 < cLine by omega) r3 r1 q4 rx (vw_data (o2 z (List.mem_of_getElem? e2))) w1 (dOk_nrm (o2 z (List.mem_of_getElem? e2))) o1
        have e5 : eqb (nrm z) c1 = eqb z c1 := by cases z <;> cases c1 <;> simp [nrm, eqb]
        rw [e5] at t
        exact t
      have ln : its.length = ds.length := by rw [← hv.length, rl.length]
      refine ⟨fun w => @decide (∃ j : Nat, ∃ z, its[j]? = some w ∧ ds[j]? = some z ∧ eqb z c1 = true) (Classical.propDecidable _), fun w hw => ?_, ?_⟩
      · by_cases h : ∃ j : Nat, ∃ z, its[j]? = some w ∧ ds[j]? = some z ∧ eqb z c1 = true
        · dsimp only
          rw [@decide_eq_true _ (Classical.propDecidable _) h]
          obtain ⟨j, z, e1, e2, e3⟩ := h
          rw [← e3]
          exact one j w z e1 e2
        · dsimp only
          rw [@decide_eq_false _ (Classical.propDecidable _) h]
          obtain ⟨j, hj, ej⟩ := List.getElem_of_mem hw
          have e1 : its[j]? = some w := by rw [List.getElem?_eq_getElem hj, ej]
          have hd : j < ds.length := by omega
          have e2 : ds[j]? = some ds[j] := List.getElem?_eq_getElem hd
          have e3 : eqb ds[j] c1 = false := by
            cases q : eqb ds[j] c1 with
            | false => rfl
            | true => exact absurd ⟨j, ds[j], e1, e2, q⟩ h
          rw [← e3]
          exact one j w _ e1 e2
      · rw [Bool.eq_iff_iff, List.any_eq_true, List.any_eq_true]
        constructor
        · rintro ⟨w, hw, h⟩
          obtain ⟨j, z, e1, e2, e3⟩ := @of_decide_eq_true _ (Classical.propDecidable _) h
          exact ⟨z, List.mem_of_getElem? e2, e3⟩
        · rintro ⟨z, hz, h⟩
          obtain ⟨j, hj, ej⟩ := List.getElem_of_mem hz
          have hi : j < its.length := by omega
          refine ⟨its[j], List.getElem_mem hi, @decide_eq_true _ (Classical.propDecidable _) ⟨j, z, List.getElem?_eq_getElem hi, ?_, h⟩⟩
          rw [List.getElem?_eq_getElem hj, ej]
    rcases hsq with h | h
    · obtain ⟨its, hv, p, _⟩ := I.list (hK ▸ h)
      obtain ⟨f, h1, h2⟩ := main its hv
      exact ⟨a, its, f, rfl, .inl ⟨vs, p, h⟩, h1, h2⟩
    · obtain ⟨its, hv, p, _⟩ := I.tuple (hK ▸ h)
      obtain ⟨f, h1, h2⟩ := main its hv
      exact ⟨a, its, f, rfl, .inr p, h1, h2⟩
  · cases e
theorem op_inDD (hK : X.K = R.K) (hu : X.A.units + 64 < cLine) : OpR X (compareOp .In) (rD2 R inD) := by
  intro pins s σ H x y v u Q I rx ry ⟨α, F, μ, d1, d2, d, μ', hl, r1, r2, e, hq⟩
  have key : (inS d1 d2 μ).map (fun r => (D.bl r, μ)) = some (d, μ') → wpAny (model X.prog X.w) X.A (compareOp .In v u) (EP X pins σ Q) X.xe s := fun e => by
    cases z : inS d1 d2 μ with
    | none => rw [z] at e; cases e
    | some b =>
      rw [z] at e; cases e
      obtain ⟨a, its, f, rfl, h, h1, h2⟩ := in_core hK hu I rx ry hl r1 r2 z
      have fin : EP X pins σ Q (.bool (its.toArray.any f)) s := ⟨.bl b, H, I, by rw [← h2]; simp; rfl, hq.here hl (.bl _)⟩
      rcases h with ⟨vs, p, _⟩ | p
      · exact SeqAt.in_listAt f p.isList (fun w hw => h1 w (by simpa using hw)) fin
      · exact SeqAt.in_tupleAt f p (fun w hw => h1 w (by simpa using hw)) fin
  cases d1 with
  | str a =>
    cases d2 with
    | str b => cases e; cases r1; cases r2; exact op_in_str pins s σ H _ _ v u Q I rx ry ⟨a, b, rfl, rfl, hq.here hl (.bl _)⟩
    | _ => exact key e
  | _ => exact key (by cases d2 <;> exact e)
theorem op_notInDD (hK : X.K = R.K) (hu : X.A.units + 64 < cLine) : OpR X (compareOp .NotIn) (rD2 R notInD) := by
  intro pins s σ H x y v u Q I rx ry ⟨α, F, μ, d1, d2, d, μ', hl, r1, r2, e, hq⟩
  have key : (inS d1 d2 μ).map (fun r => (D.bl (!r), μ)) = some (d, μ') → wpAny (model X.prog X.w) X.A (compareOp .NotIn v u) (EP X pins σ Q) X.xe s := fun e => by
    cases z : inS d1 d2 μ with
    | none => rw [z] at e; cases e
    | some b =>
      rw [z] at e; cases e
      obtain ⟨a, its, f, rfl, h, h1, h2⟩ := in_core hK hu I rx ry hl r1 r2 z
      have fin : EP X pins σ Q (.bool (!(its.toArray.any f))) s := ⟨.bl (!b), H, I, by rw [← h2]; simp; rfl, hq.here hl (.bl _)⟩
      rcases h with ⟨vs, p, _⟩ | p
      · exact SeqAt.notIn_listAt f p.isList (fun w hw => h1 w (by simpa using hw)) fin
      · exact SeqAt.notIn_tupleAt f p (fun w hw => h1 w (by simpa using hw)) fin
  cases d1 with
  | str a =>
    cases d2 with
    | str b => cases e; cases r1; cases r2; exact op_notin_str pins s σ H _ _ v u Q I rx ry ⟨a, b, rfl, rfl, hq.here hl (.bl _)⟩
    | _ => exact key e
  | _ => exact key (by cases d2 <;> exact e)
/-! ### is -/
def isD : Op2
  | .non, .non, μ => some (.bl true, μ)
  | .bl a, .bl b, μ => some (.bl (decide (a = b)), μ)
  | .loc _, .non, μ => some (.bl false, μ)
  | .dct _ _, .non, μ => some (.bl false, μ)
  | .ins _ _, .non, μ => some (.bl false, μ)
  | .tup _, .non, μ => some (.bl false, μ)
  | .lst _, .non, μ => some (.bl false, μ)
  | .int _, .non, μ => some (.bl false, μ)
  | .str _, .non, μ => some (.bl false, μ)
  | .bl _, .non, μ => some (.bl false, μ)
  | _, _, _ => none
def isNotD : Op2 := fun a b μ => match isD a b μ with
  | some (.bl r, μ) => some (.bl (!r), μ)
  | _ => none
theorem isD_inv {d1 d2 d : D} {μ μ' : Store} (h : isD d1 d2 μ = some (d, μ')) : μ' = μ ∧ ((∃ a b, d1 = .bl a ∧ d2 = .bl b ∧ d = .bl (decide (a = b))) ∨ (d2 = .non ∧ (∀ R α F x, Rep R α F x d1 → d = .bl (decide (x = .non))))) := by
  unfold isD at h
  split at h <;> first
    | (cases h; exact ⟨rfl, .inl ⟨_, _, rfl, rfl, rfl⟩⟩)
    | (cases h; exact ⟨rfl, .inr ⟨rfl, fun R α F x r => by cases r <;> rfl⟩⟩)
    | cases h
theorem op_isD : OpR X (compareOp .Is) (rD2 R isD) := by
  intro pins s σ H x y v u Q I rx ry ⟨α, F, μ, d1, d2, d, μ', hl, r1, r2, e, hq⟩
  obtain ⟨rfl, ⟨a, b, rfl, rfl, rfl⟩ | ⟨rfl, h⟩⟩ := isD_inv e
  · cases r1; cases r2
    exact op_isBl pins s σ H _ _ v u Q I rx ry ⟨a, b, rfl, rfl, hq.here hl (.bl _)⟩
  · cases r2
    have e := h R α F x r1
    subst e
    exact op_isN pins s σ H _ _ v u Q I rx ry ⟨rfl, hq.here hl (.bl _)⟩
theorem op_isNotD : OpR X (compareOp .IsNot) (rD2 R isNotD) := by
  intro pins s σ H x y v u Q I rx ry ⟨α, F, μ, d1, d2, d, μ', hl, r1, r2, e, hq⟩
  unfold isNotD at e
  split at e
  · rename_i r μ1 z
    cases e
    obtain ⟨rfl, ⟨a, b, rfl, rfl, e⟩ | ⟨rfl, h⟩⟩ := isD_inv z
    · cases e
      cases r1; cases r2
      exact op_notBl pins s σ H _ _ v u Q I rx ry ⟨a, b, rfl, rfl, hq.here hl (.bl _)⟩
    · cases r2
      have e := h R α F x r1
      cases e
      exact op_notN pins s σ H _ _ v u Q I rx ry ⟨rfl, hq.here hl (.bl _)⟩
  · cases e
end DL
/-! DL7: the order of ints, texts, tuples. -/
namespace DL
open PySem PySem.Spec PyProof.Rows L2
variable {R : Rc} {X : Cx} {W : WX}
def cI : CmpOp → Int → Int → Bool
  | .Lt, i, j => decide (i < j)
  | .LtE, i, j => decide (i ≤ j)
  | .Gt, i, j => decide (j < i)
  | .GtE, i, j => decide (j ≤ i)
  | _, _, _ => false
def cS : CmpOp → Str → Str → Bool
  | .Lt, i, j => decide (i.cps.toList < j.cps.toList)
  | .LtE, i, j => !decide (j.cps.toList < i.cps.toList)
  | .Gt, i, j => decide (j.cps.toList < i.cps.toList)
  | .GtE, i, j => !decide (i.cps.toList < j.cps.toList)
  | _, _, _ => false
def cN : CmpOp → Nat → Nat → Bool
  | .Lt, i, j => decide (i < j)
  | .LtE, i, j => decide (i ≤ j)
  | .Gt, i, j => decide (j < i)
  | .GtE, i, j => decide (j ≤ i)
  | _, _, _ => false
theorem cN_succ (op : CmpOp) (i j : Nat) : cN op (i + 1) (j + 1) = cN op i j := by
  cases op <;> simp [cN]
mutual
def ordD (op : CmpOp) : D → D → Option Bool
  | .int i, .int j => some (cI op i j)
  | .str a, .str b => some (cS op a b)
  | .tup xs, .tup ys => ordL op xs ys
  | _, _ => none
def ordL (op : CmpOp) : List D → List D → Option Bool
  | [], [] => some (cN op 0 0)
  | [], y :: ys => some (cN op 0 (ys.length + 1))
  | x :: xs, [] => some (cN op (xs.length + 1) 0)
  | x :: xs, y :: ys => match ordL op xs ys with
    | none => none
    | some r => if eqb x y then some r else ordD op x y
end
def prOrd (op : CmpOp) (xs ys : List D) (j : Nat) : Bool := match xs[j]?, ys[j]? with
  | some x, some y => (ordD op x y).getD false
  | _, _ => false
theorem lexAt_shift {e r e' r' : Nat → Bool} {z : Bool} : ∀ (k i : Nat), (∀ j, e (j + 1) = e' j) → (∀ j, r (j + 1) = r' j) → Ob.lexAt e r z (i + 1) k = Ob.lexAt e' r' z i k
  | 0, i, _, _ => rfl
  | k + 1, i, he, hr => by
    rw [Ob.lexAt_succ, Ob.lexAt_succ, he i, hr i, lexAt_shift k (i + 1) he hr]
theorem ordL_lex (op : CmpOp) : ∀ (xs ys : List D) (b : Bool), ordL op xs ys = some b → Ob.lexAt (prEq xs ys) (prOrd op xs ys) (cN op xs.length ys.length) 0 (min xs.length ys.length) = b ∧
    ∀ (j : Nat) x y, xs[j]? = some x → ys[j]? = some y → eqb x y = false → ∃ r, ordD op x y = some r
  | [], [], b, h => by rw [ordL] at h; cases h; exact ⟨rfl, fun j x y e => by simp at e⟩
  | [], y :: ys, b, h => by rw [ordL] at h; cases h; exact ⟨by simp [Ob.lexAt], fun j x y e => by simp at e⟩
  | x :: xs, [], b, h => by rw [ordL] at h; cases h; exact ⟨by simp [Ob.lexAt], fun j x y _ e => by simp at e⟩
  | x :: xs, y :: ys, b, h => by
    rw [ordL] at h
    split at h
    · cases h
    · rename_i r hr
      obtain ⟨i1, i2⟩ := ordL_lex op xs ys r hr
      have e : min (x :: xs).length (y :: ys).length = min xs.length ys.length + 1 := by simp only [List.length_cons]; omega
      refine ⟨?_, fun j u v e1 e2 e3 => ?_⟩
      · rw [e, Ob.lexAt_succ]
        have e0 : prEq (x :: xs) (y :: ys) 0 = eqb x y := rfl
        rw [e0]
        split at h
        · rename_i hx
          cases h
          rw [if_pos hx, List.length_cons, List.length_cons, cN_succ]
          rw [lexAt_shift _ 0 (e' := prEq xs ys) (r' := prOrd op xs ys) (fun j => by simp [prEq]) (fun j => by simp [prOrd])]
          exact i1
        · rename_i hx
          rw [if_neg hx]
          show (ordD op x y).getD false = b
          rw [h]; rfl
      · cases j with
        | zero =>
          simp at e1 e2
          subst e1 e2
          split at h
          · rename_i hx; rw [e3] at hx; cases hx
          · exact ⟨b, h⟩
        | succ j => exact i2 j u v (by simpa using e1) (by simpa using e2) e3
section
variable {pins : List (Addr × Obj)} {σ : L2.St} {α : List Addr} {F H : Hp} {μ : Store} {s : Shared}
def isOrd : CmpOp → Bool
  | .Lt => true | .LtE => true | .Gt => true | .GtE => true
  | _ => false
theorem rc_int {op : CmpOp} (ho : isOrd op = true) {A : Around} (i j : Int) (t u : Tok) : Ob.RcOp op A s (.int i t) (.int j u) (cI op i j) := by
  cases op <;> first | cases ho | skip
  · exact Ob.RcOp.lt_int i j t u
  · exact Ob.RcOp.le_int i j t u
  · exact Ob.RcOp.gt_int i j t u
  · exact Ob.RcOp.ge_int i j t u
theorem rc_str {op : CmpOp} (ho : isOrd op = true) {A : Around} (i j : Str) (t u : Tok) : Ob.RcOp op A s (.str i t) (.str j u) (cS op i j) := by
  cases op <;> first | cases ho | skip
  · exact fun _ _ _ _ h => (PyProof.Rows.lt_str h : wpAny _ _ (compareOp .Lt (.str i t) (.str j u)) _ _ _)
  · exact fun _ _ _ _ h => (PySem.P.le_str h : wpAny _ _ (compareOp .LtE (.str i t) (.str j u)) _ _ _)
  · exact fun _ _ _ _ h => (PySem.P.gt_str h : wpAny _ _ (compareOp .Gt (.str i t) (.str j u)) _ _ _)
  · exact fun _ _ _ _ h => (PySem.P.ge_str h : wpAny _ _ (compareOp .GtE (.str i t) (.str j u)) _ _ _)
theorem rcD (hK : X.K = R.K) (I : Inv X pins σ H s) (hl : Rl R α F μ H) {op : CmpOp} (ho : isOrd op = true) : ∀ (n : Nat) (A : Around), A.units + n < cLine → ∀ (d1 d2 : D) (x1 x2 : V) (u1 u2 : Value) (b : Bool), Rep R α F x1 d1 → Rep R α F x2 d2 → RelV x1 u1 → RelV x2 u2 →
    dOk n d1 = true → dOk n d2 = true → ordD op d1 d2 = some b → Ob.RcOp op A s u1 u2 b := by
  intro n
  induction n with
  | zero =>
    intro A hu d1 d2 x1 x2 u1 u2 b r1 r2 q1 q2 o1 o2 h
    cases d1 <;> simp [dOk] at o1 <;> cases d2 <;> simp [dOk] at o2 <;> simp [ordD] at h
    · subst h; cases r1; cases r2; obtain ⟨t, rfl⟩ := q1; obtain ⟨u, rfl⟩ := q2; exact rc_int ho _ _ t u
    · subst h; cases r1; cases r2; obtain ⟨t, rfl⟩ := q1; obtain ⟨u, rfl⟩ := q2; exact rc_str ho _ _ t u
  | succ n ih =>
    intro A hu d1 d2 x1 x2 u1 u2 b r1 r2 q1 q2 o1 o2 h
    cases d1 with
    | int i =>
      cases d2 with
      | int j => rw [ordD] at h; cases h; cases r1; cases r2; obtain ⟨t, rfl⟩ := q1; obtain ⟨u, rfl⟩ := q2; exact rc_int ho _ _ t u
      | _ => simp [ordD] at h
    | str i =>
      cases d2 with
      | str j => rw [ordD] at h; cases h; cases r1; cases r2; obtain ⟨t, rfl⟩ := q1; obtain ⟨u, rfl⟩ := q2; exact rc_str ho _ _ t u
      | _ => simp [ordD] at h
    | tup xs =>
      cases d2 with
      | tup ys =>
        rw [ordD] at h
        obtain ⟨g1, g2⟩ := ordL_lex op xs ys b h
        obtain ⟨a, vs, rfl, ha, la⟩ := tup_ok hl r1
        obtain ⟨b', ws, rfl, hb, lb⟩ := tup_ok hl r2
        cases q1; cases q2
        obtain ⟨its, v1, p, _⟩ := I.tuple (hK ▸ ha)
        obtain ⟨its2, v2, p2, _⟩ := I.tuple (hK ▸ hb)
        have O1 : ∀ d ∈ xs, dOk n d = true := by simpa [dOk] using o1
        have O2 : ∀ d ∈ ys, dOk n d = true := by simpa [dOk] using o2
        have n1 : its.toArray.size = xs.length := by rw [List.size_toArray, ← v1.length, la.length]
        have n2 : its2.toArray.size = ys.length := by rw [List.size_toArray, ← v2.length, lb.length]
        have he := els (I1 := I) (eqAtD hK I hl n A.in1 (in1_units hu)) la lb v1 v2 O1 O2
        have hr : ∀ j (h1 : j < its.toArray.size) (h2 : j < its2.toArray.size), prEq xs ys j = false → Ob.RcOp op A.in1 s its.toArray[j] its2.toArray[j] (prOrd op xs ys j) := fun j h1 h2 hne => by
          obtain ⟨z1, e1, w1⟩ := vals_ix v1 h1
          obtain ⟨z2, e2, w2⟩ := vals_ix v2 h2
          have hd1 : j < xs.length := by omega
          have hd2 : j < ys.length := by omega
          have k1 : xs[j]? = some xs[j] := List.getElem?_eq_getElem hd1
          have k2 : ys[j]? = some ys[j] := List.getElem?_eq_getElem hd2
          have e : prEq xs ys j = eqb xs[j] ys[j] := by unfold prEq; rw [k1, k2]
          rw [e] at hne
          obtain ⟨r, hr⟩ := g2 j _ _ k1 k2 hne
          have e' : prOrd op xs ys j = r := by unfold prOrd; rw [k1, k2]; show (ordD op xs[j] ys[j]).getD false = r; rw [hr]; rfl
          rw [e']
          exact ih A.in1 (in1_units hu) _ _ z1 z2 _ _ r (paired_ix la j _ _ e1 k1) (paired_ix lb j _ _ e2 k2) w1 w2 (O1 _ (List.getElem_mem hd1)) (O2 _ (List.getElem_mem hd2)) hr
        rw [← g1]
        cases op <;> first | cases ho | skip
        · have z := Ob.RcOp.tuples_lt (A := A) p p2 (by omega) he hr
          rw [n1, n2] at z; exact z
        · have z := Ob.RcOp.tuples_le (A := A) p p2 (by omega) he hr
          rw [n1, n2] at z; exact z
        · have z := Ob.RcOp.tuples_gt (A := A) p p2 (by omega) he hr
          rw [n1, n2] at z; exact z
        · have z := Ob.RcOp.tuples_ge (A := A) p p2 (by omega) he hr
          rw [n1, n2] at z; exact z
      | _ => simp [ordD] at h
    | _ => cases d2 <;> simp [ordD] at h
end
def ordOp (op : CmpOp) : Op2 := fun a b μ => match ordD op a b with
  | some r => guardD (dOk 60 a && dOk 60 b) (.bl r, μ)
  | none => none
theorem op_ordD (hK : X.K = R.K) (hu : X.A.units + 64 < cLine) {op : CmpOp} (ho : isOrd op = true) : OpR X (compareOp op) (rD2 R (ordOp op)) := by
  intro pins s σ H x y v u Q I rx ry ⟨α, F, μ, d1, d2, d, μ', hl, r1, r2, e, hq⟩
  unfold ordOp at e
  split at e
  · rename_i r hr
    obtain ⟨z, e⟩ := guardD_some e
    cases e
    simp only [Bool.and_eq_true] at z
    have t := rcD hK I hl ho 60 X.A (by omega) d1 d2 x y v u r r1 r2 rx ry z.1 z.2 hr X.prog X.w X.xe (EP X pins σ Q) ⟨.bl r, H, I, rfl, hq.here hl (.bl _)⟩
    cases op <;> first | exact t | cases ho
  · cases e
def cmpD : CmpOp → Op2
  | .Eq => eqD | .NotEq => neD | .In => inD | .NotIn => notInD | .Is => isD | .IsNot => isNotD
  | op => ordOp op
theorem op_cmpD (hK : X.K = R.K) (hu : X.A.units + 64 < cLine) (op : CmpOp) : OpR X (compareOp op) (rD2 R (cmpD op)) := by
  cases op with
  | Eq => exact op_eqDD hK hu
  | NotEq => exact op_neDD hK hu
  | In => exact op_inDD hK hu
  | NotIn => exact op_notInDD hK hu
  | Is => exact op_isD
  | IsNot => exact op_isNotD
  | Lt => exact op_ordD hK hu rfl
  | LtE => exact op_ordD hK hu rfl
  | Gt => exact op_ordD hK hu rfl
  | GtE => exact op_ordD hK hu rfl
end DL
/-! DL8: truth, tests, and, or, not, conditional expressions, chains. -/
namespace DL
open PySem PySem.Spec PyProof.Rows L2
variable {R : Rc} {X : Cx} {W : WX}
def truD (d : D) (μ : Store) : Option Bool := match d with
  | .non => some false
  | .bl b => some b
  | .int i => some (i != 0)
  | .str x => guardD (decide (x.length ≤ sizeLine)) ((x.length : Int) != 0)
  | .dct 0 kvs => some (!kvs.isEmpty)
  | .loc n => (match μ[n]? with
    | some (.lst ds) => some (!ds.isEmpty)
    | some (.dct 0 kvs) => some (!kvs.isEmpty)
    | _ => none)
  | d => (itOf d μ).map fun ds => !ds.isEmpty
theorem paired_empty {α β : Type} {P : α → β → Prop} {xs : List α} {ys : List β} (h : Paired P xs ys) : xs.isEmpty = ys.isEmpty := by cases h <;> rfl
theorem truD_ok {α : List Addr} {F H : Hp} {μ : Store} (hl : Rl R α F μ H) {x : V} {d : D} {b : Bool} (r : Rep R α F x d) (e : truD d μ = some b) : TruV R.K x H b := by
  have key : (itOf d μ).map (fun ds => !ds.isEmpty) = some b → TruV R.K x H b := fun e => by
    cases q : itOf d μ with
    | none => rw [q] at e; cases e
    | some ds =>
      rw [q] at e; cases e
      obtain ⟨a, vs, rfl, h, rl⟩ := itOf_ok hl r q
      rcases h with h | h
      · exact .inl ⟨vs, h, by rw [paired_empty rl]⟩
      · exact .inr (.inl ⟨vs, h, by rw [paired_empty rl]⟩)
  cases d with
  | non => cases e; cases r; rfl
  | bl b => cases e; cases r; rfl
  | int i => cases e; cases r; rfl
  | str x => obtain ⟨z, e⟩ := guardD_some e; subst e; cases r; exact ⟨of_decide_eq_true z, rfl⟩
  | dct tk kvs =>
    cases r with
    | dK h hlen hk hi =>
      cases e
      refine .inr (.inr ⟨_, hl.sub _ _ h, ?_⟩)
      rw [paired_empty (paired_of (P := fun _ _ => True) hlen fun _ _ _ _ _ => trivial)]
    | dT h hlen hk hi => simp [truD, itOf, sqOf, lsOf] at e
  | loc n =>
    obtain ⟨a, rfl, ha⟩ := r.loc_inv
    simp only [truD] at e
    split at e
    · rename_i ds q
      cases e
      obtain ⟨vs, h1, h2⟩ := hl.cell n a _ ha q
      exact .inl ⟨vs, SqL.of h1, by rw [paired_empty h2]⟩
    · rename_i kvs q
      cases e
      obtain ⟨o, h1, h2⟩ := hl.cell n a _ ha q
      rcases h2 with ⟨_, kv, rfl, p⟩ | ⟨z, _⟩
      · exact .inr (.inr ⟨kv, h1, by rw [paired_empty p]⟩)
      · cases z
    · cases e
  | _ => exact key e
def tru (d : D) : Ev Bool := Ev.op fun μ => (truD d μ).map fun b => (b, μ)
theorem tru_inv {d : D} {μ μ' : Store} {r : Res Bool} (h : tru d μ = some (r, μ')) : ∃ b, truD d μ = some b ∧ r = .ok b ∧ μ' = μ := by
  obtain ⟨b, e, rfl⟩ := Ev.op_inv h
  cases q : truD d μ with
  | none => rw [q] at e; cases e
  | some c => rw [q] at e; cases e; exact ⟨_, rfl, rfl, rfl⟩
theorem tru_of {d : D} {μ : Store} {b : Bool} (h : truD d μ = some b) : tru d μ = some (.ok b, μ) := by
  simp only [tru, Ev.op, h, Option.map_some]
def mTru (m : Rho → Ev D) : Rho → Ev Bool := fun ρ => (m ρ).bind tru
def mAnd (ma mb : Rho → Ev D) : Rho → Ev D := fun ρ => (ma ρ).bind fun a => (tru a).bind fun c => if c = true then mb ρ else Ev.ret a
def mOr (ma mb : Rho → Ev D) : Rho → Ev D := fun ρ => (ma ρ).bind fun a => (tru a).bind fun c => if c = true then Ev.ret a else mb ρ
def mNot (ma : Rho → Ev D) : Rho → Ev D := fun ρ => (ma ρ).bind fun a => (tru a).bind fun c => Ev.ret (.bl (!c))
def mIf (mc : Rho → Ev D) (ma mb : Rho → Ev D) : Rho → Ev D := fun ρ => (mTru mc ρ).bind fun c => if c = true then ma ρ else mb ρ

theorem ptd_of {e : Expr} {t : TT} {m : Rho → Ev Bool} (h : PT X e t)
    (i : ∀ σ H Q α F μ ρ r μ', EnvR R α F σ ρ → Rl R α F μ H → m ρ μ = some (r, μ') → PostB R W σ α F Q r μ' → t σ H Q) : PTD R X W e m :=
  pt_imp h fun σ H Q ⟨α, F, μ, ρ, r, μ', he, hl, hm, hp⟩ => i σ H Q α F μ ρ r μ' he hl hm hp
/-- an expression as a test, by its truth -/
theorem ptd_val (hK : X.K = R.K) {e : Expr} {m : Rho → Ev D} (h : PED R X W e m) (he : ∀ whole, isTrue e X.env whole = (do let v ← whole; standAt e.pos; holding [v] (truthy v))) : PTD R X W e (mTru m) :=
  ptd_of (pt_truth h he) fun σ H Q α F μ ρ r μ' hE hl hm hp => by
    rcases Ev.bind_inv hm with ⟨a, μ1, e1, hm⟩ | ⟨x, e1, rfl⟩
    · obtain ⟨b, hb, rfl, rfl⟩ := tru_inv hm
      exact ⟨α, F, μ, ρ, _, _, hE, hl, e1, fun α1 F1 H1 v1 n1 r1 => ⟨b, hK ▸ truD_ok n1.2.2 r1 hb, hp α1 F1 H1 n1⟩⟩
    · exact ⟨α, F, μ, ρ, _, _, hE, hl, e1, hp⟩
/-- a comparison as a test -/
theorem ptd_cmp {op : CmpOp} {f : Op2} {a b : Expr} {ma mb : Rho → Ev D} {pos : Pos} (ho : OpR X (compareOp op) (rD2 R f)) (hf : ∀ x y μ d μ', f x y μ = some (d, μ') → ∃ k, d = .bl k) (ha : PED R X W a ma) (hb : PED R X W b mb) (hm : behindInMarks op b = false) :
    PTD R X W (.Compare a [op] [b] pos) (mTru (mOp2 f ma mb)) :=
  ptd_of (pt_cmpR ho ha hb hm) fun σ H Q α F μ ρ r μ' hE hl hm hp => by
    rcases Ev.bind_inv hm with ⟨a, μ1, e1, hm⟩ | ⟨x, e1, rfl⟩
    · obtain ⟨b, hb, rfl, rfl⟩ := tru_inv hm
      have ha : ∃ k, a = .bl k := by
        rcases Ev.bind_inv e1 with ⟨_, _, _, e1⟩ | ⟨_, _, z⟩
        · rcases Ev.bind_inv e1 with ⟨_, _, _, e1⟩ | ⟨_, _, z⟩
          · obtain ⟨d, e, z⟩ := Ev.op_inv e1
            cases z
            exact hf _ _ _ _ _ e
          · cases z
        · cases z
      obtain ⟨k, rfl⟩ := ha
      cases hb
      refine top2 hE hl e1 fun α1 F1 H1 v1 n1 r1 => ?_
      cases r1
      exact ⟨_, rfl, hp α1 F1 H1 n1⟩
    · exact top2 hE hl e1 hp
theorem map_bl {o : Option Bool} {g : Bool → Bool} {μ μ' : Store} {d : D} (h : o.map (fun r => (D.bl (g r), μ)) = some (d, μ')) : ∃ k, d = .bl k := by
  cases o with
  | none => cases h
  | some b => cases h; exact ⟨_, rfl⟩
theorem cmpD_bl (op : CmpOp) : ∀ x y μ d μ', cmpD op x y μ = some (d, μ') → ∃ k, d = .bl k := by
  have ord : ∀ op x y μ d μ', ordOp op x y μ = some (d, μ') → ∃ k, d = .bl k := fun op x y μ d μ' h => by
    unfold ordOp at h
    split at h
    · obtain ⟨_, e⟩ := guardD_some h; cases e; exact ⟨_, rfl⟩
    · cases h
  intro x y μ d μ' h
  cases op with
  | Eq => exact map_bl (g := id) h
  | NotEq => exact map_bl (g := not) h
  | In =>
    simp only [cmpD] at h
    unfold inD at h
    split at h
    · cases h; exact ⟨_, rfl⟩
    · exact map_bl (g := id) h
  | NotIn =>
    simp only [cmpD] at h
    unfold notInD at h
    split at h
    · cases h; exact ⟨_, rfl⟩
    · exact map_bl (g := not) h
  | Is =>
    obtain ⟨_, ⟨_, _, _, _, e⟩ | ⟨e, _⟩⟩ := isD_inv h
    · exact ⟨_, e⟩
    · simp only [cmpD] at h
      unfold isD at h
      split at h <;> first | (cases h; exact ⟨_, rfl⟩) | cases h
  | IsNot =>
    simp only [cmpD] at h
    unfold isNotD at h
    split at h
    · cases h; exact ⟨_, rfl⟩
    · cases h
  | Lt => exact ord _ _ _ _ _ _ h
  | LtE => exact ord _ _ _ _ _ _ h
  | Gt => exact ord _ _ _ _ _ _ h
  | GtE => exact ord _ _ _ _ _ _ h
theorem ptd_not {a : Expr} {ma : Rho → Ev D} {pos : Pos} (ha : PTD R X W a (mTru ma)) : PTD R X W (.UnaryOp .Not a pos) (mTru (mNot ma)) :=
  ptd_of (pt_not ha) fun σ H Q α F μ ρ r μ' hE hl hm hp => by
    rcases Ev.bind_inv hm with ⟨a, μ1, e1, hm⟩ | ⟨x, e1, rfl⟩
    · obtain ⟨b, hb, rfl, rfl⟩ := tru_inv hm
      rcases Ev.bind_inv e1 with ⟨a0, μ2, e2, e1⟩ | ⟨_, _, z⟩
      · rcases Ev.bind_inv e1 with ⟨c, μ3, e3, e1⟩ | ⟨_, _, z⟩
        · cases e1
          cases hb
          exact ⟨α, F, μ, ρ, _, _, hE, hl, (Ev.bind_ok e2).trans e3, fun α1 F1 H1 n1 => hp α1 F1 H1 n1⟩
        · cases z
      · cases z
    · refine ⟨α, F, μ, ρ, .err x, _, hE, hl, ?_, fun α' F' H' cls dd n xx => hp α' F' H' cls dd n xx⟩
      rcases Ev.bind_inv e1 with ⟨a0, μ2, e2, e1⟩ | ⟨x', e2, z⟩
      · rcases Ev.bind_inv e1 with ⟨c, μ3, e3, e1⟩ | ⟨x', e3, z⟩
        · cases e1
        · cases z; exact (Ev.bind_ok e2).trans e3
      · cases z; exact Ev.bind_err e2
/-- and, or as tests: a chain of two -/
theorem pw_imp {e : Expr} {t t' : TT} (h : PW X e t) (i : ∀ σ H Q, t' σ H Q → t σ H Q) : PW X e t' := ⟨fun wh pins s σ H Q I w => h.run wh pins s σ H Q I (i σ H Q w)⟩
def PWD (R : Rc) (X : Cx) (W : WX) (e : Expr) (m : Rho → Ev Bool) : Prop := PW X e (tDB R W m)
theorem and_split {ma mb : Rho → Ev D} {σ : L2.St} {H : Hp} {Q : Bool → Hp → Prop} {α F μ ρ r μ'} (hE : EnvR R α F σ ρ) (hl : Rl R α F μ H) (hm : mTru (mAnd ma mb) ρ μ = some (r, μ')) (hp : PostB R W σ α F Q r μ') :
    tAnd (tDB R W (mTru ma)) (tDB R W (mTru mb)) σ H Q := by
  rcases Ev.bind_inv hm with ⟨a, μ1, e1, hm⟩ | ⟨x, e1, rfl⟩
  · rcases Ev.bind_inv e1 with ⟨a0, μ2, e2, e1⟩ | ⟨_, _, z⟩
    · rcases Ev.bind_inv e1 with ⟨c, μ3, e3, e1⟩ | ⟨_, _, z⟩
      · refine ⟨α, F, μ, ρ, _, _, hE, hl, (Ev.bind_ok e2).trans e3, fun α1 F1 H1 n1 => ?_⟩
        cases c with
        | true =>
          rw [if_pos rfl] at e1 ⊢
          exact ⟨α1, F1, μ3, ρ, _, _, hE.mono n1, n1.2.2, (Ev.bind_ok e1).trans hm, PostB.weak n1 hp⟩
        | false =>
          rw [if_neg Bool.false_ne_true] at e1 ⊢
          cases e1
          obtain ⟨b, hb, h1, h2⟩ := tru_inv e3
          subst h2
          cases h1
          obtain ⟨b', hb', rfl, rfl⟩ := tru_inv hm
          rw [hb] at hb'
          cases hb'
          exact hp α1 F1 H1 n1
      · cases z
    · cases z
  · rcases Ev.bind_inv e1 with ⟨a0, μ2, e2, e1⟩ | ⟨x', e2, z⟩
    · rcases Ev.bind_inv e1 with ⟨c, μ3, e3, e1⟩ | ⟨x', e3, z⟩
      · refine ⟨α, F, μ, ρ, _, _, hE, hl, (Ev.bind_ok e2).trans e3, fun α1 F1 H1 n1 => ?_⟩
        cases c with
        | true =>
          rw [if_pos rfl] at e1 ⊢
          exact ⟨α1, F1, μ3, ρ, _, _, hE.mono n1, n1.2.2, Ev.bind_err e1, PostB.weak n1 hp⟩
        | false => rw [if_neg Bool.false_ne_true] at e1; cases e1
      · cases z; exact ⟨α, F, μ, ρ, _, _, hE, hl, (Ev.bind_ok e2).trans e3, hp⟩
    · cases z; exact ⟨α, F, μ, ρ, _, _, hE, hl, Ev.bind_err e2, hp⟩
theorem or_split {ma mb : Rho → Ev D} {σ : L2.St} {H : Hp} {Q : Bool → Hp → Prop} {α F μ ρ r μ'} (hE : EnvR R α F σ ρ) (hl : Rl R α F μ H) (hm : mTru (mOr ma mb) ρ μ = some (r, μ')) (hp : PostB R W σ α F Q r μ') :
    tOr (tDB R W (mTru ma)) (tDB R W (mTru mb)) σ H Q := by
  rcases Ev.bind_inv hm with ⟨a, μ1, e1, hm⟩ | ⟨x, e1, rfl⟩
  · rcases Ev.bind_inv e1 with ⟨a0, μ2, e2, e1⟩ | ⟨_, _, z⟩
    · rcases Ev.bind_inv e1 with ⟨c, μ3, e3, e1⟩ | ⟨_, _, z⟩
      · refine ⟨α, F, μ, ρ, _, _, hE, hl, (Ev.bind_ok e2).trans e3, fun α1 F1 H1 n1 => ?_⟩
        cases c with
        | false =>
          rw [if_neg Bool.false_ne_true] at e1 ⊢
          exact ⟨α1, F1, μ3, ρ, _, _, hE.mono n1, n1.2.2, (Ev.bind_ok e1).trans hm, PostB.weak n1 hp⟩
        | true =>
          rw [if_pos rfl] at e1 ⊢
          cases e1
          obtain ⟨b, hb, h1, h2⟩ := tru_inv e3
          subst h2
          cases h1
          obtain ⟨b', hb', rfl, rfl⟩ := tru_inv hm
          rw [hb] at hb'
          cases hb'
          exact hp α1 F1 H1 n1
      · cases z
    · cases z
  · rcases Ev.bind_inv e1 with ⟨a0, μ2, e2, e1⟩ | ⟨x', e2, z⟩
    · rcases Ev.bind_inv e1 with ⟨c, μ3, e3, e1⟩ | ⟨x', e3, z⟩
      · refine ⟨α, F, μ, ρ, _, _, hE, hl, (Ev.bind_ok e2).trans e3, fun α1 F1 H1 n1 => ?_⟩
        cases c with
        | false =>
          rw [if_neg Bool.false_ne_true] at e1 ⊢
          exact ⟨α1, F1, μ3, ρ, _, _, hE.mono n1, n1.2.2, Ev.bind_err e1, PostB.weak n1 hp⟩
        | true => rw [if_pos rfl] at e1; cases e1
      · cases z; exact ⟨α, F, μ, ρ, _, _, hE, hl, (Ev.bind_ok e2).trans e3, hp⟩
    · cases z; exact ⟨α, F, μ, ρ, _, _, hE, hl, Ev.bind_err e2, hp⟩
section
variable {a b : Expr} {rest : List Expr} {pos : Pos} {ma mb mc : Rho → Ev D}
theorem pwd_and1 (ha : PTD R X W a (mTru ma)) : PWD R X W (.BoolOp .And [a] pos) (mTru ma) := pw_and1 ha
theorem pwd_or1 (ha : PTD R X W a (mTru ma)) : PWD R X W (.BoolOp .Or [a] pos) (mTru ma) := pw_or1 ha
theorem pwd_and (ha : PTD R X W a (mTru ma)) (hb : PWD R X W (.BoolOp .And (b :: rest) pos) (mTru mb)) : PWD R X W (.BoolOp .And (a :: b :: rest) pos) (mTru (mAnd ma mb)) :=
  pw_imp (pw_and ha hb) fun σ H Q ⟨α, F, μ, ρ, r, μ', he, hl, hm, hp⟩ => and_split he hl hm hp
theorem pwd_or (ha : PTD R X W a (mTru ma)) (hb : PWD R X W (.BoolOp .Or (b :: rest) pos) (mTru mb)) : PWD R X W (.BoolOp .Or (a :: b :: rest) pos) (mTru (mOr ma mb)) :=
  pw_imp (pw_or ha hb) fun σ H Q ⟨α, F, μ, ρ, r, μ', he, hl, hm, hp⟩ => or_split he hl hm hp
/-! values -/
theorem ped_one {op : BoolOp} (ha : PED R X W a ma) : PED R X W (.BoolOp op [a] pos) ma := pe_one ha
theorem ped_and (hK : X.K = R.K) (ha : PED R X W a ma) (hb : PED R X W (.BoolOp .And (b :: rest) pos) mb) : PED R X W (.BoolOp .And (a :: b :: rest) pos) (mAnd ma mb) :=
  ped_of (pe_andT ha hb) fun σ H Q α F μ ρ r μ' hE hl hm hp => by
    rcases Ev.bind_inv hm with ⟨a0, μ2, e2, e1⟩ | ⟨x, e2, rfl⟩
    · rcases Ev.bind_inv e1 with ⟨c, μ3, e3, e4⟩ | ⟨x, e3, rfl⟩
      · obtain ⟨b0, hb0, h1, h2⟩ := tru_inv e3
        subst h2; cases h1
        refine ⟨α, F, μ, ρ, _, _, hE, hl, e2, fun α1 F1 H1 v1 n1 r1 => ⟨c, hK ▸ truD_ok n1.2.2 r1 hb0, ?_⟩⟩
        cases c with
        | true =>
          rw [if_pos rfl] at e4 ⊢
          exact ⟨α1, F1, _, ρ, _, _, hE.mono n1, n1.2.2, e4, Post.weak n1 hp⟩
        | false =>
          rw [if_neg Bool.false_ne_true] at e4 ⊢
          cases e4
          exact hp α1 F1 H1 v1 n1 r1
      · obtain ⟨b0, hb0, h1, h2⟩ := tru_inv e3
        cases h1
    · exact ⟨α, F, μ, ρ, _, _, hE, hl, e2, hp⟩
theorem ped_or (hK : X.K = R.K) (ha : PED R X W a ma) (hb : PED R X W (.BoolOp .Or (b :: rest) pos) mb) : PED R X W (.BoolOp .Or (a :: b :: rest) pos) (mOr ma mb) :=
  ped_of (pe_orT ha hb) fun σ H Q α F μ ρ r μ' hE hl hm hp => by
    rcases Ev.bind_inv hm with ⟨a0, μ2, e2, e1⟩ | ⟨x, e2, rfl⟩
    · rcases Ev.bind_inv e1 with ⟨c, μ3, e3, e4⟩ | ⟨x, e3, rfl⟩
      · obtain ⟨b0, hb0, h1, h2⟩ := tru_inv e3
        subst h2; cases h1
        refine ⟨α, F, μ, ρ, _, _, hE, hl, e2, fun α1 F1 H1 v1 n1 r1 => ⟨c, hK ▸ truD_ok n1.2.2 r1 hb0, ?_⟩⟩
        cases c with
        | false =>
          rw [if_neg Bool.false_ne_true] at e4 ⊢
          exact ⟨α1, F1, _, ρ, _, _, hE.mono n1, n1.2.2, e4, Post.weak n1 hp⟩
        | true =>
          rw [if_pos rfl] at e4 ⊢
          cases e4
          exact hp α1 F1 H1 v1 n1 r1
      · obtain ⟨b0, hb0, h1, h2⟩ := tru_inv e3
        cases h1
    · exact ⟨α, F, μ, ρ, _, _, hE, hl, e2, hp⟩
theorem ped_not (hK : X.K = R.K) (ha : PED R X W a ma) : PED R X W (.UnaryOp .Not a pos) (mNot ma) :=
  ped_of (pe_notT ha) fun σ H Q α F μ ρ r μ' hE hl hm hp => by
    rcases Ev.bind_inv hm with ⟨a0, μ2, e2, e1⟩ | ⟨x, e2, rfl⟩
    · rcases Ev.bind_inv e1 with ⟨c, μ3, e3, e4⟩ | ⟨x, e3, rfl⟩
      · obtain ⟨b0, hb0, h1, h2⟩ := tru_inv e3
        subst h2; cases h1
        cases e4
        exact ⟨α, F, μ, ρ, _, _, hE, hl, e2, fun α1 F1 H1 v1 n1 r1 => ⟨c, hK ▸ truD_ok n1.2.2 r1 hb0, hp α1 F1 H1 _ n1 (.bl _)⟩⟩
      · obtain ⟨b0, hb0, h1, h2⟩ := tru_inv e3
        cases h1
    · exact ⟨α, F, μ, ρ, _, _, hE, hl, e2, hp⟩
theorem ped_if {c : Expr} (hc : PTD R X W c (mTru mc)) (ha : PED R X W a ma) (hb : PED R X W b mb) : PED R X W (.IfExp c a b pos) (mIf mc ma mb) :=
  ped_of (pe_ifExp hc ha hb) fun σ H Q α F μ ρ r μ' hE hl hm hp => by
    rcases Ev.bind_inv hm with ⟨c, μ1, e1, hm⟩ | ⟨x, e1, rfl⟩
    · refine ⟨α, F, μ, ρ, _, _, hE, hl, e1, fun α1 F1 H1 n1 => ?_⟩
      cases c with
      | true =>
        rw [if_pos rfl] at hm ⊢
        exact ⟨α1, F1, μ1, ρ, _, _, hE.mono n1, n1.2.2, hm, Post.weak n1 hp⟩
      | false =>
        rw [if_neg Bool.false_ne_true] at hm ⊢
        exact ⟨α1, F1, μ1, ρ, _, _, hE.mono n1, n1.2.2, hm, Post.weak n1 hp⟩
    · exact ⟨α, F, μ, ρ, _, _, hE, hl, e1, hp⟩
end
/-- a < b < c -/
def mChain (f g : Op2) (ma mb mc : Rho → Ev D) : Rho → Ev D := fun ρ => (ma ρ).bind fun a => (mb ρ).bind fun b => (Ev.op (f a b)).bind fun z => match z with
  | .bl true => (mc ρ).bind fun c => Ev.op (g b c)
  | .bl false => Ev.ret (.bl false)
  | _ => fun _ => none
theorem chain_split {f g : Op2} {ma mb mc : Rho → Ev D} {σ : L2.St} {H : Hp} {Q : VK} {α F μ ρ r μ'} (hE : EnvR R α F σ ρ) (hl : Rl R α F μ H) (hm : mChain f g ma mb mc ρ μ = some (r, μ')) (hp : Post R W σ α F Q r μ') :
    tChain (rD2 R f) (rD2 R g) (tD R W ma) (tD R W mb) (tD R W mc) σ H Q := by
  rcases Ev.bind_inv hm with ⟨a, μ1, e1, hm⟩ | ⟨x, e1, rfl⟩
  · refine ⟨α, F, μ, ρ, _, _, hE, hl, e1, fun α1 F1 H1 v1 n1 r1 => ?_⟩
    rcases Ev.bind_inv hm with ⟨b, μ2, e2, hm⟩ | ⟨x, e2, rfl⟩
    · refine ⟨α1, F1, μ1, ρ, _, _, hE.mono n1, n1.2.2, e2, fun α2 F2 H2 v2 n2 r2 => ?_⟩
      rcases Ev.bind_inv hm with ⟨z, μ3, e3, hm⟩ | ⟨x, e3, rfl⟩
      · obtain ⟨z', e3, q⟩ := Ev.op_inv e3
        cases q
        refine ⟨α2, F2, μ2, a, b, z, μ3, n2.2.2, n2.rep r1, r2, e3, fun α3 F3 H3 v3 n3 r3 => ?_⟩
        split at hm
        · cases r3
          refine ⟨true, rfl, ?_⟩
          rw [if_pos rfl]
          rcases Ev.bind_inv hm with ⟨c, μ4, e4, hm⟩ | ⟨x, e4, rfl⟩
          · refine ⟨α3, F3, μ3, ρ, _, _, ((hE.mono n1).mono n2).mono n3, n3.2.2, e4, fun α4 F4 H4 v4 n4 r4 => ?_⟩
            obtain ⟨d, e5, rfl⟩ := Ev.op_inv hm
            exact ⟨α4, F4, μ4, b, c, d, μ', n4.2.2, n4.rep (n3.rep r2), r4, e5, fun α' F' H' v n rr => hp α' F' H' v (n1.trans (n2.trans (n3.trans (n4.trans n)))) rr⟩
          · exact ⟨α3, F3, μ3, ρ, _, _, ((hE.mono n1).mono n2).mono n3, n3.2.2, e4, Post.weak (n1.trans (n2.trans n3)) hp⟩
        · cases r3
          cases hm
          refine ⟨false, rfl, ?_⟩
          rw [if_neg Bool.false_ne_true]
          exact hp α3 F3 H3 _ (n1.trans (n2.trans n3)) (.bl _)
        · cases hm
      · obtain ⟨z', e3, q⟩ := Ev.op_inv e3
        cases q
    · exact ⟨α1, F1, μ1, ρ, _, _, hE.mono n1, n1.2.2, e2, Post.weak n1 hp⟩
  · exact ⟨α, F, μ, ρ, _, _, hE, hl, e1, hp⟩
theorem ped_chain {op op' : CmpOp} {f g : Op2} {a b c : Expr} {ma mb mc : Rho → Ev D} {pos : Pos} (ho : OpR X (compareOp op) (rD2 R f)) (ho' : OpR X (compareOp op') (rD2 R g)) (ha : PED R X W a ma) (hb : PED R X W b mb) (hc : PED R X W c mc) (hm : lastMarks [op, op'] [b, c] = false) :
    PED R X W (.Compare a [op, op'] [b, c] pos) (mChain f g ma mb mc) :=
  ped_of (pe_chain ho ho' ha hb hc hm) fun σ H Q α F μ ρ r μ' hE hl hm hp => chain_split hE hl hm hp
theorem ptd_chain {op op' : CmpOp} {f g : Op2} {a b c : Expr} {ma mb mc : Rho → Ev D} {pos : Pos} (ho : OpR X (compareOp op) (rD2 R f)) (ho' : OpR X (compareOp op') (rD2 R g)) (hg : ∀ x y μ d μ', g x y μ = some (d, μ') → ∃ k, d = .bl k) (ha : PED R X W a ma) (hb : PED R X W b mb) (hc : PED R X W c mc) (hm : lastMarks [op, op'] [b, c] = false) :
    PTD R X W (.Compare a [op, op'] [b, c] pos) (mTru (mChain f g ma mb mc)) :=
  ptd_of (pt_chain ho ho' ha hb hc hm) fun σ H Q α F μ ρ r μ' hE hl hm hp => by
    rcases Ev.bind_inv hm with ⟨a, μ1, e1, hm⟩ | ⟨x, e1, rfl⟩
    · obtain ⟨b, hb, rfl, rfl⟩ := tru_inv hm
      have ha : ∃ k, a = .bl k := by
        rcases Ev.bind_inv e1 with ⟨_, _, _, e1⟩ | ⟨_, _, z⟩
        · rcases Ev.bind_inv e1 with ⟨_, _, _, e1⟩ | ⟨_, _, z⟩
          · rcases Ev.bind_inv e1 with ⟨_, _, _, e1⟩ | ⟨_, _, z⟩
            · split at e1
              · rcases Ev.bind_inv e1 with ⟨_, _, _, e1⟩ | ⟨_, _, z⟩
                · obtain ⟨d, e, z⟩ := Ev.op_inv e1
                  cases z
                  exact hg _ _ _ _ _ e
                · cases z
              · cases e1; exact ⟨_, rfl⟩
              · cases e1
            · cases z
          · cases z
        · cases z
      obtain ⟨k, rfl⟩ := ha
      cases hb
      refine chain_split hE hl e1 fun α1 F1 H1 v1 n1 r1 => ?_
      cases r1
      exact ⟨_, rfl, hp α1 F1 H1 n1⟩
    · exact chain_split hE hl e1 hp
/-! ### words for what is asked of a call's text -/
/-- the first argument has no star -/
abbrev FirstPlain (X : Cx) (e : Expr) (es : List Expr) : Prop := starEach (e :: es) X.env = (false, eval e X.env) :: starEach es X.env
/-- none of them has one -/
abbrev NoneStarred (X : Cx) (pos : Pos) (es : List Expr) : Prop := (backTo pos (starEach es X.env)).any (·.1) = false
/-- an assignment of a display to as many names -/
abbrev SwapTo (X : Cx) (tgt val : Expr) (xs : List Str) : Prop := swappedStores [tgt] val X.env = pure (some xs)
/-- a built-in method -/
abbrev MethodDesc (id : String) : Prop := typeOf (.builtin id) = pure (.type "method_descriptor")
theorem loc_vis {sc : Scope} {x : Str} (h : Loc sc x) : Vis sc x := by
  cases h with
  | inl k => exact Or.inl k
  | inr k => exact Or.inr (Or.inl k)
end DL
/-! DL9: calls of defs. -/
namespace DL
open PySem PySem.Spec PyProof.Rows L2
variable {R : Rc} {X : Cx} {W : WX}
def PostF (R : Rc) (E : XK) (α : List Addr) (F : Hp) (Q : VK) : Res D → Store → Prop
  | .ok d, μ' => ∀ α' F' H' v, Nx R α F μ' α' F' H' → Rep R α' F' v d → Q v H'
  | .err x, μ' => ∀ α' F' H' cls dd, Nx R α F μ' α' F' H' → XOk R α' F' H' cls dd x → E cls dd H'
theorem post_f {σ : L2.St} {α : List Addr} {F : Hp} {Q : VK} {r : Res D} {μ' : Store} (h : Post R W σ α F Q r μ') : PostF R (WE W σ) α F Q r μ' := by cases r <;> exact h
abbrev Sem1 := List D → Ev D
def spD (R : Rc) (sem : Sem1) : Sp := fun vs H Q E => ∃ α F μ ds r μ', RepL R α F vs ds ∧ Rl R α F μ H ∧ sem ds μ = some (r, μ') ∧ PostF R E α F Q r μ'
/-- the def at f, called with n values and the keywords kn, does as sem says -/
def FnD (P : Program) (w : World) (K : PySem.W.Frag) (mg : Str → Option Value) (base : Heap) (R : Rc) (k : Nat) (f : Addr) (n : Nat) (kn : List Str) (sem : Sem1) : Prop :=
  ∀ (A : Around) (outer : List Env) (s : Shared) (H : Hp) (us ws : List Value) (vs zs : List V) (Q : VK) (E : XK), Room k A → Env0 P w K mg base A outer s H → Vals vs us → Vals zs ws → us.length = n → ws.length = kn.length →
    spD R sem (vs ++ zs) H Q E → codeAny (model P w) A (.call (.ref f) ⟨us, kn.zip ws⟩) (CR (L2.CX P w) outer P w H s Q E) s
theorem FnD.mono {P : Program} {w : World} {K : PySem.W.Frag} {mg : Str → Option Value} {base : Heap} {j k : Nat} {f : Addr} {n : Nat} {kn : List Str} {sem : Sem1} (F : FnD P w K mg base R j f n kn sem) (h : j ≤ k) : FnD P w K mg base R k f n kn sem :=
  fun A outer s H us ws vs zs Q E hr => F A outer s H us ws vs zs Q E (hr.mono h)
/-- a def that says less -/
theorem FnD.imp {P : Program} {w : World} {K : PySem.W.Frag} {mg : Str → Option Value} {base : Heap} {k : Nat} {f : Addr} {n : Nat} {kn : List Str} {sem sem' : Sem1} (F : FnD P w K mg base R k f n kn sem) (h : ∀ ds μ r, sem' ds μ = some r → sem ds μ = some r) : FnD P w K mg base R k f n kn sem' :=
  fun A outer s H us ws vs zs Q E hr e0 r1 r2 l1 l2 ⟨α, F', μ, ds, r, μ', a, b, c, d⟩ => F A outer s H us ws vs zs Q E hr e0 r1 r2 l1 l2 ⟨α, F', μ, ds, r, μ', a, b, h _ _ _ c, d⟩
section
variable {k n : Nat} {f C : Addr} {kn : List Str} {sem : Sem1} {pins : List (Addr × Obj)} {σ : L2.St} {H : Hp} {s : Shared} {Q : VK} {us ws : List Value} {vs zs : List V}
theorem run_D (G : FnD X.prog X.w X.K X.mg X.base R k f n kn sem) (hr : Room k X.A) (tk : Takes X W) (I : Inv X pins σ H s) (r : Vals vs us) (rz : Vals zs ws) (l1 : us.length = n) (l2 : ws.length = kn.length)
    (h : spD R sem (vs ++ zs) H Q (WE W σ)) : wpAny (model X.prog X.w) X.A (call (.ref f) us (kn.zip ws)) (EP X pins σ Q) X.xe s := by
  refine wpAny_call (codeAny_mono (G X.A X.stack s H us ws vs zs Q (WE W σ) hr I.env0 r rz l1 l2 h) fun r s' hq => ?_)
  cases r with
  | error e => exact passAt tk σ pins H s e s' I hq
  | ok fl =>
    cases fl with
    | ret u => exact I.after hq
    | next => exact False.elim hq
    | brk => exact False.elim hq
    | cont => exact False.elim hq
theorem run_D0 (G : FnD X.prog X.w X.K X.mg X.base R k f n [] sem) (hr : Room k X.A) (tk : Takes X W) (I : Inv X pins σ H s) (r : Vals vs us) (l1 : us.length = n)
    (h : spD R sem vs H Q (WE W σ)) : wpAny (model X.prog X.w) X.A (call (.ref f) us) (EP X pins σ Q) X.xe s := by
  have := run_D (zs := []) (ws := []) G hr tk I r .nil l1 rfl (by rw [List.append_nil]; exact h)
  exact this
/-- a new instance: a cell, then __init__ -/
def spMk (R : Rc) (c : Nat) (sem : Sem1) (vs : List V) (H : Hp) (Q : VK) (E : XK) : Prop := ∃ α F μ ds r μ', RepL R α F vs ds ∧ Rl R α F μ H ∧ sem (.loc μ.length :: ds) (μ ++ [.ins c []]) = some (r, μ') ∧
  (match r with
    | .ok d => d = .non ∧ ∀ α' F' H' v, Nx R α F μ' α' F' H' → Rep R α' F' v (.loc μ.length) → Q v H'
    | .err x => ∀ α' F' H' cls dd, Nx R α F μ' α' F' H' → XOk R α' F' H' cls dd x → E cls dd H')
theorem run_Mk {c : Nat} (hC : C = R.cA c) (M : Mk X.K C f) (G : FnD X.prog X.w X.K X.mg X.base R k f (n + 1) kn sem) (hr : Room (k + 1) X.A) (tk : Takes X W) (I : Inv X pins σ H s) (r : Vals vs us) (rz : Vals zs ws) (l1 : us.length = n) (l2 : ws.length = kn.length)
    (h : spMk R c sem (vs ++ zs) H Q (WE W σ)) : wpAny (model X.prog X.w) X.A (call (.ref C) us (kn.zip ws)) (EP X pins σ Q) X.xe s := by
  have I2 := Inv.made (C := C) I
  have nx : H (s.heap.objs.size + 1) = none := I.hok.fresh (Nat.le_succ _)
  have nd : H s.heap.objs.size = none := I.hok.fresh (Nat.le_refl _)
  have ne : s.heap.objs.size ≠ s.heap.objs.size + 1 := by omega
  have r1 := Paired.cons (F := RelV) (show RelV (V.ref (s.heap.objs.size + 1)) (Value.ref (s.heap.objs.size + 1)) from rfl) r
  obtain ⟨α, F, μ, ds, r0, μ', rl, hl, e, hq⟩ := h
  have nx' : (upd H s.heap.objs.size (.own (s.heap.objs.size + 1))) (s.heap.objs.size + 1) = none := by rw [upd_ne (Ne.symm ne)]; exact nx
  have hl2 : Rl R (α ++ [s.heap.objs.size + 1]) F (μ ++ [.ins c []]) (upd (upd H s.heap.objs.size (.own (s.heap.objs.size + 1))) (s.heap.objs.size + 1) (.ins C s.heap.objs.size [])) :=
    (hl.newU nd).newCell nx' ⟨s.heap.objs.size, [], by rw [upd_same, hC], .nil⟩
  have n0 : Nx R α F (μ ++ [.ins c []]) (α ++ [s.heap.objs.size + 1]) F (upd (upd H s.heap.objs.size (.own (s.heap.objs.size + 1))) (s.heap.objs.size + 1) (.ins C s.heap.objs.size [])) := ⟨List.prefix_append _ _, Same.refl _, hl2⟩
  have at_ : (α ++ [s.heap.objs.size + 1])[μ.length]? = some (s.heap.objs.size + 1) := by
    rw [← hl.len, List.getElem?_append_right (Nat.le_refl _), Nat.sub_self]; rfl
  have rloc : Rep R (α ++ [s.heap.objs.size + 1]) F (.ref (s.heap.objs.size + 1)) (.loc μ.length) := .loc at_
  have hsp : spD R sem (V.ref (s.heap.objs.size + 1) :: vs ++ zs) (upd (upd H s.heap.objs.size (.own (s.heap.objs.size + 1))) (s.heap.objs.size + 1) (.ins C s.heap.objs.size [])) (fun v H2 => v = .non ∧ Q (.ref (s.heap.objs.size + 1)) H2) (WE W σ) := by
    refine ⟨_, F, _, .loc μ.length :: ds, r0, μ', .cons rloc (n0.repL rl), hl2, e, ?_⟩
    cases r0 with
    | ok d =>
      obtain ⟨rfl, hq⟩ := hq
      intro α' F' H' v nn rr
      cases rr
      exact ⟨rfl, hq α' F' H' _ (n0.trans nn) (nn.rep rloc)⟩
    | err x => exact fun α' F' H' cls dd nn xx => hq α' F' H' cls dd (n0.trans nn) xx
  refine wpAny_call (make_map (f := f) I.kIn M.makes M.init (beq_iff_eq.mp M.fn) (codeAny_mono (G _ X.stack _ _ (Value.ref (s.heap.objs.size + 1) :: us) ws (V.ref (s.heap.objs.size + 1) :: vs) zs _ (WE W σ) (hr.make C us (kn.zip ws))
    (I2.env0.make C us (kn.zip ws)) r1 rz (congrArg Nat.succ l1) l2 hsp) fun r s' hq' => ?_))
  cases r with
  | error e => exact passAt tk σ pins _ _ e s' I2 hq'
  | ok fl =>
    cases fl with
    | ret u =>
      obtain ⟨v, H', I3, rv, ev, q3⟩ := I2.after hq'
      subst ev
      exact ⟨rv, ⟨V.ref (s.heap.objs.size + 1), H', I3, rfl, q3⟩⟩
    | next => exact False.elim hq'
    | brk => exact False.elim hq'
    | cont => exact False.elim hq'
end
/-! ### the calls as expressions -/
def PKD (R : Rc) (X : Cx) (W : WX) (kws : List Keyword) (m : Rho → Ev (List D)) : Prop := PK X kws (tDL R W m)
theorem pkd_nil : PKD R X W [] mNil := ⟨fun pos pins s σ H Q I ⟨α, F, μ, ρ, r, μ', he, hl, hm, hp⟩ => pk_nil.run pos pins s σ H Q I (by
  cases hm
  exact hp α F H [] (Nx.refl hl) .nil)⟩
theorem pkd_cons {nm : Option Str} {e : Expr} {kpos : Pos} {kws : List Keyword} {m : Rho → Ev D} {r : Rho → Ev (List D)} (ha : PED R X W e m) (hr : PKD R X W kws r) : PKD R X W (⟨nm, e, kpos⟩ :: kws) (mCons m r) :=
  ⟨fun pos pins s σ H Q I ⟨α, F, μ, ρ, r, μ', he, hl, hm, hp⟩ => (pk_cons ha hr).run pos pins s σ H Q I (by
    rcases Ev.bind_inv hm with ⟨a, μ1, e1, hm⟩ | ⟨x, e1, rfl⟩
    · refine ⟨α, F, μ, ρ, _, μ1, he, hl, e1, fun α1 F1 H1 v1 n1 r1 => ?_⟩
      rcases Ev.bind_inv hm with ⟨ds, μ2, e2, hm⟩ | ⟨x, e2, rfl⟩
      · cases hm
        exact ⟨α1, F1, μ1, ρ, _, _, he.mono n1, n1.2.2, e2, fun α2 F2 H2 vs n2 r2 => hp α2 F2 H2 _ (n1.trans n2) (.cons (n2.rep r1) r2)⟩
      · exact ⟨α1, F1, μ1, ρ, _, _, he.mono n1, n1.2.2, e2, fun α2 F2 H2 cls dd n2 x2 => hp α2 F2 H2 cls dd (n1.trans n2) x2⟩
    · exact ⟨α, F, μ, ρ, _, _, he, hl, e1, hp⟩)⟩
/-- the values, then the keywords' values; n of the first, m of the second -/
def mArgs (n m : Nat) (ma mk : Rho → Ev (List D)) (g : Sem1) : Rho → Ev D := fun ρ => (ma ρ).bind fun xs => (mk ρ).bind fun ys => if xs.length = n ∧ ys.length = m then g (xs ++ ys) else fun _ => none
/-- C(..): the cell is left as it is, or written no more -/
def freezeD (n : Nat) (μ : Store) : Option (D × Store) := match μ[n]? with
  | some (.lst ds) => some (.lst ds, μ.set n .dead)
  | some (.dct tk es) => some (.dct tk es, μ.set n .dead)
  | some (.ins c fs) => some (.ins c fs, μ.set n .dead)
  | _ => none
def semMk (c : Nat) (fz : Bool) (sem : Sem1) : Sem1 := fun ds μ => match sem (.loc μ.length :: ds) (μ ++ [.ins c []]) with
  | some (.ok .non, μ') => if fz then (match freezeD μ.length μ' with
      | some (d, μ2) => some (.ok d, μ2)
      | none => none) else some (.ok (.loc μ.length), μ')
  | some (.err x, μ') => some (.err x, μ')
  | _ => none
theorem dOk_mk {α : List Addr} {F : Hp} {a : Addr} {o : HO} {tk : Nat} {es : List (D × D)} (hF : F a = some o) (h : DOk R α F o tk es) : Rep R α F (.ref a) (.dct tk es) := by
  rcases h with ⟨rfl, kvs, rfl, p⟩ | ⟨rfl, kvs, rfl, p⟩
  · exact .dK hF p.length (fun i x y e1 e2 => (paired_ix p i x y e1 e2).1) fun i x y e1 e2 => (paired_ix p i x y e1 e2).2
  · exact .dT hF p.length (fun i x y e1 e2 => (paired_ix p i x y e1 e2).1) fun i x y e1 e2 => (paired_ix p i x y e1 e2).2
/-- a cell frozen: the same value, now data -/
theorem freeze_ok {α : List Addr} {F H : Hp} {μ μ' : Store} (hl : Rl R α F μ H) {v : V} {n : Nat} {d : D} (r : Rep R α F v (.loc n)) (e : freezeD n μ = some (d, μ')) : ∃ F', Nx R α F μ' α F' H ∧ Rep R α F' v d := by
  obtain ⟨a, rfl, ha⟩ := r.loc_inv
  unfold freezeD at e
  split at e
  · rename_i ds q
    cases e
    obtain ⟨vs, h1, h2⟩ := hl.cell n a _ ha q
    have hF := hl.out n a _ ha q rfl
    exact ⟨upd F a (.lst vs), ⟨List.prefix_refl _, same_upd hF, hl.freeze ha q rfl h1⟩, .mkLst upd_same (h2.mono (List.prefix_refl _) (same_upd hF))⟩
  · rename_i tk es q
    cases e
    obtain ⟨o, h1, h2⟩ := hl.cell n a _ ha q
    have hF := hl.out n a _ ha q rfl
    exact ⟨upd F a o, ⟨List.prefix_refl _, same_upd hF, hl.freeze ha q rfl h1⟩, dOk_mk upd_same (h2.mono (List.prefix_refl _) (same_upd hF))⟩
  · rename_i c fs q
    cases e
    obtain ⟨dx, gs, h1, h2⟩ := hl.cell n a _ ha q
    have hF := hl.out n a _ ha q rfl
    exact ⟨upd F a (.ins (R.cA c) dx gs), ⟨List.prefix_refl _, same_upd hF, hl.freeze ha q rfl h1⟩, .mkIns upd_same (h2.mono (List.prefix_refl _) (same_upd hF))⟩
  · cases e
theorem spMk_of {c : Nat} {fz : Bool} {sem : Sem1} {vs : List V} {H : Hp} {Q : VK} {E : XK} (h : spD R (semMk c fz sem) vs H Q E) : spMk R c sem vs H Q E := by
  obtain ⟨α, F, μ, ds, r, μ', rl, hl, e, hq⟩ := h
  unfold semMk at e
  split at e
  · rename_i μ1 e1
    refine ⟨α, F, μ, ds, _, μ1, rl, hl, e1, rfl, fun α' F' H' v n rr => ?_⟩
    split at e
    · split at e
      · rename_i d μ2 e2
        cases e
        obtain ⟨F2, n2, r2⟩ := freeze_ok n.2.2 rr e2
        exact hq α' F2 H' v (n.trans n2) r2
      · cases e
    · cases e
      exact hq α' F' H' v n rr
  · rename_i x μ1 e1
    cases e
    exact ⟨α, F, μ, ds, _, _, rl, hl, e1, hq⟩
  · cases e
section
variable {k n : Nat} {f C : Addr} {kn : List Str} {sem : Sem1} {x : Str} {p pos : Pos} {e : Expr} {es : List Expr} {kws : List Keyword} {ma mk : Rho → Ev (List D)} {c : Nat} {fz : Bool}
/-- from the arguments' reading to the call's promise -/
theorem args_sp {σ : L2.St} {H : Hp} {Q : VK} {g : Sem1} {m : Nat} {α F μ ρ r μ'} (hE : EnvR R α F σ ρ) (hl : Rl R α F μ H) (hm : mArgs n m ma mk g ρ μ = some (r, μ')) (hp : Post R W σ α F Q r μ') :
    tDL R W ma σ H fun vs H1 => tDL R W mk σ H1 fun zs H2 => vs.length = n ∧ zs.length = m ∧ spD R g (vs ++ zs) H2 Q (WE W σ) := by
  rcases Ev.bind_inv hm with ⟨xs, μ1, e1, hm⟩ | ⟨x, e1, rfl⟩
  · refine ⟨α, F, μ, ρ, _, μ1, hE, hl, e1, fun α1 F1 H1 v1 n1 r1 => ?_⟩
    rcases Ev.bind_inv hm with ⟨ys, μ2, e2, hm⟩ | ⟨x, e2, rfl⟩
    · refine ⟨α1, F1, μ1, ρ, _, μ2, hE.mono n1, n1.2.2, e2, fun α2 F2 H2 v2 n2 r2 => ?_⟩
      split at hm
      · rename_i hlen
        refine ⟨by rw [r1.length]; exact hlen.1, by rw [r2.length]; exact hlen.2, α2, F2, μ2, xs ++ ys, r, μ', paired_append (n2.repL r1) r2, n2.2.2, hm, ?_⟩
        exact post_f (Post.weak (n1.trans n2) hp)
      · cases hm
    · exact ⟨α1, F1, μ1, ρ, _, _, hE.mono n1, n1.2.2, e2, fun α2 F2 H2 cls dd n2 x2 => hp α2 F2 H2 cls dd (n1.trans n2) x2⟩
  · exact ⟨α, F, μ, ρ, _, _, hE, hl, e1, hp⟩
theorem tDL_nil {σ : L2.St} {H : Hp} {Q : List V → Hp → Prop} (h : tDL R W mNil σ H Q) : Q [] H := by
  obtain ⟨α, F, μ, ρ, r, μ', he, hl, hm, hp⟩ := h
  cases hm
  exact hp α F H [] (Nx.refl hl) .nil
/-- f(a, ..) -/
theorem ped_call (G : FnD X.prog X.w X.K X.mg X.base R k f n [] sem) (hr : Room k X.A) (tk : Takes X W) (hg : Gl X x) (hmg : X.mg x = some (.ref f)) (hk : PySem.W.keepIn X.K (.ref f) = true) (ha : PAD R X W (e :: es) ma)
    (hdb : (x == ("__debug__" : Str)) = false) (he : FirstPlain X e es) (hpl : NoneStarred X pos es) :
    PED R X W (.Call (.Name x p) (e :: es) [] pos) (mArgs n 0 ma mNil sem) :=
  ⟨fun pins s σ H Q I ⟨α, F, μ, ρ, r, μ', hE, hl, hm, hp⟩ => by
    refine wpAny_Call_Name_kw (ld_glob I hg hmg ?_ hdb)
    refine PySem.W.callWith_K (h₀ := X.base) I.ok.mod.kin hk (thn (ha.run pos pins s σ H _ I (args_sp hE hl hm hp)) fun us s1 ⟨vs, H1, I1, r, q⟩ => ⟨I1.kIn, ?_⟩) he hpl
    obtain ⟨l1, _, q⟩ := tDL_nil q
    rw [List.append_nil] at q
    exact run_D0 G hr tk I1 r (r.length.symm.trans l1) q⟩
/-- f() -/
theorem ped_call0 (G : FnD X.prog X.w X.K X.mg X.base R k f 0 [] sem) (hr : Room k X.A) (tk : Takes X W) (hg : Gl X x) (hmg : X.mg x = some (.ref f)) (hk : PySem.W.keepIn X.K (.ref f) = true) (hdb : (x == ("__debug__" : Str)) = false) :
    PED R X W (.Call (.Name x p) [] [] pos) (mArgs 0 0 mNil mNil sem) :=
  ⟨fun pins s σ H Q I ⟨α, F, μ, ρ, r, μ', hE, hl, hm, hp⟩ => by
    refine wpAny_Call_Name_kw (ld_glob I hg hmg ?_ hdb)
    obtain ⟨l1, _, q⟩ := tDL_nil (tDL_nil (args_sp hE hl hm hp))
    exact PySem.W.callWith_K0 I.kIn hk (run_D0 (us := []) G hr tk I .nil rfl q)⟩
/-- f(a, .., k = v, ..) -/
theorem ped_callK (G : FnD X.prog X.w X.K X.mg X.base R k f n kn sem) (hr : Room k X.A) (tk : Takes X W) (hg : Gl X x) (hmg : X.mg x = some (.ref f)) (hk : PySem.W.keepIn X.K (.ref f) = true) (ha : PAD R X W (e :: es) ma) (hkw : PKD R X W kws mk)
    (hall : (backToKw pos (keywordEach kws X.env)).all (·.1.isSome) = true) (hks : (backToKw pos (keywordEach kws X.env)).filterMap (·.1) = kn)
    (hdb : (x == ("__debug__" : Str)) = false) (he : FirstPlain X e es) (hpl : ((backTo pos (starEach (e :: es) X.env)).any (·.1) || (backToKw pos (keywordEach kws X.env)).any (·.1.isNone)) = false) :
    PED R X W (.Call (.Name x p) (e :: es) kws pos) (mArgs n kn.length ma mk sem) :=
  ⟨fun pins s σ H Q I ⟨α, F, μ, ρ, r, μ', hE, hl, hm, hp⟩ => by
    refine wpAny_Call_Name_kw (ld_glob I hg hmg ?_ hdb)
    refine PySem.W.callWith_KW (h₀ := X.base) I.ok.mod.kin hk hall (thn (ha.run pos pins s σ H _ I (args_sp hE hl hm hp)) fun us s1 ⟨vs, H1, I1, r, q⟩ => ?_) hpl he
    refine thn (hkw.run pos pins s1 σ H1 _ I1 q) ?_
    rintro ws s2 ⟨zs, H2, I2, rz, l1, l2, q2⟩
    refine ⟨I2.kIn, ?_⟩
    rw [hks]
    exact run_D G hr tk I2 r rz (r.length.symm.trans l1) (rz.length.symm.trans l2) q2⟩
/-- C(a, ..) -/
theorem ped_make (hC : C = R.cA c) (M : Mk X.K C f) (G : FnD X.prog X.w X.K X.mg X.base R k f (n + 1) [] sem) (hr : Room (k + 1) X.A) (tk : Takes X W) (hg : Gl X x) (hmg : X.mg x = some (.ref C)) (ha : PAD R X W (e :: es) ma)
    (hdb : (x == ("__debug__" : Str)) = false) (he : FirstPlain X e es) (hpl : NoneStarred X pos es) :
    PED R X W (.Call (.Name x p) (e :: es) [] pos) (mArgs n 0 ma mNil (semMk c fz sem)) :=
  ⟨fun pins s σ H Q I ⟨α, F, μ, ρ, r, μ', hE, hl, hm, hp⟩ => by
    refine wpAny_Call_Name_kw (ld_glob I hg hmg ?_ hdb)
    refine PySem.W.callWith_K (h₀ := X.base) I.ok.mod.kin M.kp (thn (ha.run pos pins s σ H _ I (args_sp hE hl hm hp)) fun us s1 ⟨vs, H1, I1, r, q⟩ => ⟨I1.kIn, ?_⟩) he hpl
    obtain ⟨l1, _, q⟩ := tDL_nil q
    have := run_Mk (zs := []) (ws := []) hC M G hr tk I1 r .nil (r.length.symm.trans l1) rfl (spMk_of q)
    exact this⟩
/-- C() -/
theorem ped_make0 (hC : C = R.cA c) (M : Mk X.K C f) (G : FnD X.prog X.w X.K X.mg X.base R k f 1 [] sem) (hr : Room (k + 1) X.A) (tk : Takes X W) (hg : Gl X x) (hmg : X.mg x = some (.ref C)) (hdb : (x == ("__debug__" : Str)) = false) :
    PED R X W (.Call (.Name x p) [] [] pos) (mArgs 0 0 mNil mNil (semMk c fz sem)) :=
  ⟨fun pins s σ H Q I ⟨α, F, μ, ρ, r, μ', hE, hl, hm, hp⟩ => by
    refine wpAny_Call_Name_kw (ld_glob I hg hmg ?_ hdb)
    obtain ⟨l1, _, q⟩ := tDL_nil (tDL_nil (args_sp hE hl hm hp))
    have := run_Mk (us := []) (vs := []) (zs := []) (ws := []) hC M G hr tk I .nil .nil rfl rfl (spMk_of q)
    exact PySem.W.callWith_K0 I.kIn M.kp this⟩
/-- C(k = v, ..) -/
theorem ped_makeK0 (hC : C = R.cA c) (M : Mk X.K C f) (G : FnD X.prog X.w X.K X.mg X.base R k f 1 kn sem) (hr : Room (k + 1) X.A) (tk : Takes X W) (hg : Gl X x) (hmg : X.mg x = some (.ref C)) (hkw : PKD R X W kws mk)
    (hall : (backToKw pos (keywordEach kws X.env)).all (·.1.isSome) = true) (hks : (backToKw pos (keywordEach kws X.env)).filterMap (·.1) = kn)
    (hdb : (x == ("__debug__" : Str)) = false) (hpl : ((backTo pos (starEach [] X.env)).any (·.1) || (backToKw pos (keywordEach kws X.env)).any (·.1.isNone)) = false) :
    PED R X W (.Call (.Name x p) [] kws pos) (mArgs 0 kn.length mNil mk (semMk c fz sem)) :=
  ⟨fun pins s σ H Q I ⟨α, F, μ, ρ, r, μ', hE, hl, hm, hp⟩ => by
    refine wpAny_Call_Name_kw (ld_glob I hg hmg ?_ hdb)
    refine PySem.W.callWith_KW0 (h₀ := X.base) I.ok.mod.kin M.kp hall ?_ hpl
    refine thn (hkw.run pos pins s σ H _ I (tDL_nil (args_sp hE hl hm hp))) fun ws s2 ⟨zs, H2, I2, rz, l1, l2, q2⟩ => ⟨I2.kIn, ?_⟩
    rw [hks]
    exact run_Mk (us := []) (vs := []) hC M G hr tk I2 .nil rz rfl (rz.length.symm.trans l2) (spMk_of q2)⟩
/-- C(a, .., k = v, ..) -/
theorem ped_makeK (hC : C = R.cA c) (M : Mk X.K C f) (G : FnD X.prog X.w X.K X.mg X.base R k f (n + 1) kn sem) (hr : Room (k + 1) X.A) (tk : Takes X W) (hg : Gl X x) (hmg : X.mg x = some (.ref C)) (ha : PAD R X W (e :: es) ma) (hkw : PKD R X W kws mk)
    (hall : (backToKw pos (keywordEach kws X.env)).all (·.1.isSome) = true) (hks : (backToKw pos (keywordEach kws X.env)).filterMap (·.1) = kn)
    (hdb : (x == ("__debug__" : Str)) = false) (he : FirstPlain X e es) (hpl : ((backTo pos (starEach (e :: es) X.env)).any (·.1) || (backToKw pos (keywordEach kws X.env)).any (·.1.isNone)) = false) :
    PED R X W (.Call (.Name x p) (e :: es) kws pos) (mArgs n kn.length ma mk (semMk c fz sem)) :=
  ⟨fun pins s σ H Q I ⟨α, F, μ, ρ, r, μ', hE, hl, hm, hp⟩ => by
    refine wpAny_Call_Name_kw (ld_glob I hg hmg ?_ hdb)
    refine PySem.W.callWith_KW (h₀ := X.base) I.ok.mod.kin M.kp hall (thn (ha.run pos pins s σ H _ I (args_sp hE hl hm hp)) fun us s1 ⟨vs, H1, I1, r, q⟩ => ?_) hpl he
    refine thn (hkw.run pos pins s1 σ H1 _ I1 q) ?_
    rintro ws s2 ⟨zs, H2, I2, rz, l1, l2, q2⟩
    refine ⟨I2.kIn, ?_⟩
    rw [hks]
    exact run_Mk hC M G hr tk I2 r rz (r.length.symm.trans l1) (rz.length.symm.trans l2) (spMk_of q2)⟩
end
end DL
/-! DL10: instances: attributes, methods, own operators. -/
namespace DL
open PySem PySem.Spec PyProof.Rows L2
variable {R : Rc} {X : Cx} {W : WX}
def insOf (d : D) (μ : Store) : Option (Nat × List (Str × D)) := match d with
  | .ins c fs => some (c, fs)
  | .loc n => (match μ[n]? with
    | some (.ins c fs) => some (c, fs)
    | _ => none)
  | _ => none
section
variable {α : List Addr} {F H : Hp} {μ : Store}
theorem insOf_ok (hl : Rl R α F μ H) {x : V} {d : D} {c : Nat} {fs : List (Str × D)} (r : Rep R α F x d) (e : insOf d μ = some (c, fs)) : ∃ a dx gs, x = .ref a ∧ H a = some (.ins (R.cA c) dx gs) ∧ RepF R α F gs fs := by
  cases d with
  | ins c' fs' =>
    cases e
    obtain ⟨a, dx, gs, rfl, h, rl⟩ := r.ins_inv
    exact ⟨a, dx, gs, rfl, hl.sub _ _ h, rl⟩
  | loc n =>
    obtain ⟨a, rfl, ha⟩ := r.loc_inv
    simp only [insOf] at e
    split at e
    · rename_i c' fs' q
      cases e
      obtain ⟨dx, gs, h1, h2⟩ := hl.cell n a _ ha q
      exact ⟨a, dx, gs, rfl, h1, h2⟩
    · cases e
  | _ => cases e
theorem repF_some : ∀ {gs : List (Str × V)} {fs : List (Str × D)} {f : Str} {d : D}, RepF R α F gs fs → fs.lookup f = some d → ∃ v, gs.lookup f = some v ∧ Rep R α F v d
  | _, _, _, _, .nil, e => by cases e
  | _, _, f, d, .cons (a := p) (b := q) h t, e => by
    obtain ⟨p1, p2⟩ := p
    obtain ⟨q1, q2⟩ := q
    obtain ⟨h1, h2⟩ := h
    simp only at h1 h2
    subst h1
    rw [List.lookup_cons] at e ⊢
    split at e
    · cases e
      exact ⟨p2, rfl, h2⟩
    · exact repF_some t e
theorem repF_none : ∀ {gs : List (Str × V)} {fs : List (Str × D)} {f : Str}, RepF R α F gs fs → fs.lookup f = none → gs.lookup f = none
  | _, _, _, .nil, _ => rfl
  | _, _, f, .cons (a := p) (b := q) h t, e => by
    obtain ⟨p1, p2⟩ := p
    obtain ⟨q1, q2⟩ := q
    obtain ⟨h1, h2⟩ := h
    simp only at h1 h2
    subst h1
    rw [List.lookup_cons] at e ⊢
    split at e
    · cases e
    · exact repF_none t e
end
/-! ### o.f -/
/-- which classes have plain fields of a name -/
def FldOk (K : PySem.W.Frag) (R : Rc) (T : Nat → Str → Bool) : Prop := ∀ c f, T c f = true → Cls K (R.cA c) ∧ NoAttr K (R.cA c) f
def attrD (T : Nat → Str → Bool) (f : Str) : Op1 := fun d μ => match insOf d μ with
  | some (c, fs) => (match fs.lookup f with
    | some v => guardD (T c f) (v, μ)
    | none => none)
  | none => none
def plainO : Expr → Bool
  | .Call (.Name _ _) [] [] _ => false
  | _ => true
theorem base_ok {o : Expr} {f : Str} {env : Env} {w : Sem Value} (h : plainO o = true) : attributeBase o f env w = w := by
  unfold attributeBase
  split
  · cases h
  · rfl
theorem ped_attr {T : Nat → Str → Bool} (hT : FldOk X.K R T) {o : Expr} {f : Str} {pos : Pos} {m : Rho → Ev D} (h : PED R X W o m) (hb : plainO o = true) : PED R X W (.Attribute o f pos) (mOp1 (attrD T f) m) :=
  ped_of (pe_fld h (base_ok hb)) fun σ H Q α F μ ρ r μ' hE hl hm hp => by
    rcases Ev.bind_inv hm with ⟨a, μ1, e1, hm⟩ | ⟨x, e1, rfl⟩
    · refine ⟨α, F, μ, ρ, _, μ1, hE, hl, e1, fun α1 F1 H1 v1 n1 r1 => ?_⟩
      obtain ⟨d, e3, rfl⟩ := Ev.op_inv hm
      unfold attrD at e3
      split at e3
      · rename_i c fs hi
        split at e3
        · rename_i v hv
          obtain ⟨z, e3⟩ := guardD_some e3
          cases e3
          obtain ⟨b, dx, gs, rfl, hb, rl⟩ := insOf_ok n1.2.2 r1 hi
          obtain ⟨u, hu, ru⟩ := repF_some rl hv
          exact ⟨b, _, dx, gs, u, rfl, hb, (hT c f z).1, (hT c f z).2, hu, hp α1 F1 H1 u n1 ru⟩
        · cases e3
      · cases e3
    · exact ⟨α, F, μ, ρ, _, μ', hE, hl, e1, hp⟩
/-! ### o.m(..) -/
theorem meth_eq {o : Expr} {m : Str} {apos pos : Pos} {args : List Expr} {kws : List Keyword} {env : Env} (hb : plainO o = true) (hf : methodCallForm (args.length + kws.length) (backTo pos (starEach args env)) (backToKw pos (keywordEach kws env)) = true) (hl : (apos.endLine == pos.line) = true) :
    eval (.Call (.Attribute o m apos) args kws pos) env = (do
      let ov ← eval o env
      standAt apos.atName
      let (f, first) ← holding [ov] (getMethod ov m (do return (← importBound o env).getD true))
      callWith pos f first (backTo pos (starEach args env)) (backToKw pos (keywordEach kws env))) := by
  show (do
    let ov ← attributeBase o m env (eval o env)
    standAt apos.atName
    methodCall o m apos pos env ov (args.length + kws.length) (backTo pos (starEach args env)) (backToKw pos (keywordEach kws env))) = _
  rw [base_ok hb]
  unfold methodCall
  rw [hf]
  unfold calleeOf methodCallPos
  rw [hl]
  rfl
/-- the class c has the method m at f, which does as sem says (its first value the instance) -/
structure MtD (P : Program) (w : World) (K : PySem.W.Frag) (mg : Str → Option Value) (base : Heap) (R : Rc) (k c : Nat) (m : Str) (n : Nat) (kn : List Str) (sem : Sem1) : Prop where
  ex : ∃ f, Meth K (R.cA c) m f ∧ FnD P w K mg base R k f (n + 1) kn sem
  cl : Cls K (R.cA c)
/-- the receiver first; it is an instance of the class c that has no field m -/
def mMeth (c : Nat) (m : Str) (n j : Nat) (mo : Rho → Ev D) (ma mk : Rho → Ev (List D)) (g : Sem1) : Rho → Ev D := fun ρ => (mo ρ).bind fun o => fun μ => match insOf o μ with
  | some (c', fs) => if c' = c ∧ fs.lookup m = none then (mArgs n j ma mk (fun xs => g (o :: xs)) ρ) μ else none
  | none => none
section
variable {k n c : Nat} {m : Str} {kn : List Str} {sem : Sem1} {o : Expr} {apos pos : Pos} {e : Expr} {es : List Expr} {kws : List Keyword} {mo : Rho → Ev D} {ma mk : Rho → Ev (List D)}
theorem meth_sp {j : Nat} {σ : L2.St} {H : Hp} {Q : VK} {α F μ ρ r μ'} (hE : EnvR R α F σ ρ) (hl : Rl R α F μ H) (hm : mMeth c m n j mo ma mk sem ρ μ = some (r, μ')) (hp : Post R W σ α F Q r μ') :
    tD R W mo σ H fun x H1 => ∃ a dx gs, x = .ref a ∧ H1 a = some (.ins (R.cA c) dx gs) ∧ gs.lookup m = none ∧ tDL R W ma σ H1 fun vs H2 => tDL R W mk σ H2 fun zs H3 => vs.length = n ∧ zs.length = j ∧ spD R sem (x :: (vs ++ zs)) H3 Q (WE W σ) := by
  rcases Ev.bind_inv hm with ⟨o, μ1, e1, hm1⟩ | ⟨x, e1, rfl⟩
  · refine ⟨α, F, μ, ρ, _, μ1, hE, hl, e1, fun α1 F1 H1 v1 n1 r1 => ?_⟩
    split at hm1
    · rename_i c' fs hi
      split at hm1
      · rename_i hc
        obtain ⟨rfl, hf⟩ := hc
        obtain ⟨a, dx, gs, rfl, ha, rl⟩ := insOf_ok n1.2.2 r1 hi
        refine ⟨a, dx, gs, rfl, ha, repF_none rl hf, ?_⟩
        rcases Ev.bind_inv hm1 with ⟨xs, μ2, e2, hm2⟩ | ⟨x, e2, rfl⟩
        · refine ⟨α1, F1, μ1, ρ, _, μ2, hE.mono n1, n1.2.2, e2, fun α2 F2 H2 v2 n2 r2 => ?_⟩
          rcases Ev.bind_inv hm2 with ⟨ys, μ3, e3, hm3⟩ | ⟨x, e3, rfl⟩
          · refine ⟨α2, F2, μ2, ρ, _, μ3, (hE.mono n1).mono n2, n2.2.2, e3, fun α3 F3 H3 v3 n3 r3 => ?_⟩
            split at hm3
            · rename_i hlen
              refine ⟨by rw [r2.length]; exact hlen.1, by rw [r3.length]; exact hlen.2, α3, F3, μ3, o :: (xs ++ ys), r, μ', .cons (n3.rep (n2.rep r1)) (paired_append (n3.repL r2) r3), n3.2.2, hm3, ?_⟩
              exact post_f (Post.weak (n1.trans (n2.trans n3)) hp)
            · cases hm3
          · exact ⟨α2, F2, μ2, ρ, _, _, (hE.mono n1).mono n2, n2.2.2, e3, fun α3 F3 H3 cls dd n3 x3 => hp α3 F3 H3 cls dd (n1.trans (n2.trans n3)) x3⟩
        · exact ⟨α1, F1, μ1, ρ, _, _, hE.mono n1, n1.2.2, e2, fun α2 F2 H2 cls dd n2 x2 => hp α2 F2 H2 cls dd (n1.trans n2) x2⟩
      · cases hm1
    · cases hm1
  · exact ⟨α, F, μ, ρ, _, _, hE, hl, e1, hp⟩
theorem ped_meth (M : MtD X.prog X.w X.K X.mg X.base R k c m n [] sem) (hr : Room k X.A) (tk : Takes X W) (ho : PED R X W o mo) (ha : PAD R X W (e :: es) ma) (hb : plainO o = true)
    (hf : methodCallForm ((e :: es).length + 0) (backTo pos (starEach (e :: es) X.env)) (backToKw pos (keywordEach [] X.env)) = true) (hl : (apos.endLine == pos.line) = true)
    (hst : FirstPlain X e es) (hpl : NoneStarred X pos es) : PED R X W (.Call (.Attribute o m apos) (e :: es) [] pos) (mMeth c m n 0 mo ma mNil sem) :=
  ⟨fun pins s σ H Q I ⟨α, F, μ, ρ, r, μ', hE, hl', hm, hp⟩ => by
    obtain ⟨f, Mf, G⟩ := M.ex
    refine PySem.W.methodCall_KW (thn (PE.run ho pins s σ H _ I (meth_sp hE hl' hm hp)) fun u s1 ⟨x, H1, I1, rx, a, dx, fs, ex, ea, l, q⟩ => ?_) (meth_eq (kws := []) hb hf hl)
    subst ex
    obtain rfl : u = Value.ref a := rx
    refine getmeth_ok I1 ea M.cl Mf l ?_
    refine PySem.W.callWith_K (first := [.ref a]) (h₀ := X.base) I.ok.mod.kin Mf.kp (thn (ha.run pos pins s1 σ H1 _ I1 q) fun us s2 ⟨vs, H2, I2, r, q2⟩ => ⟨I2.kIn, ?_⟩) hst hpl
    obtain ⟨l1, _, q2⟩ := tDL_nil q2
    rw [List.append_nil] at q2
    exact run_D0 (us := .ref a :: us) (vs := .ref a :: vs) G hr tk I2 (.cons rfl r) (congrArg Nat.succ (r.length.symm.trans l1)) q2⟩
theorem ped_meth0 (M : MtD X.prog X.w X.K X.mg X.base R k c m 0 [] sem) (hr : Room k X.A) (tk : Takes X W) (ho : PED R X W o mo) (hb : plainO o = true) (hl : (apos.endLine == pos.line) = true) :
    PED R X W (.Call (.Attribute o m apos) [] [] pos) (mMeth c m 0 0 mo mNil mNil sem) :=
  ⟨fun pins s σ H Q I ⟨α, F, μ, ρ, r, μ', hE, hl', hm, hp⟩ => by
    obtain ⟨f, Mf, G⟩ := M.ex
    refine PySem.W.methodCall_KW (thn (PE.run ho pins s σ H _ I (meth_sp hE hl' hm hp)) fun u s1 ⟨x, H1, I1, rx, a, dx, fs, ex, ea, l, q⟩ => ?_) (meth_eq (args := []) (kws := []) hb rfl hl)
    subst ex
    obtain rfl : u = Value.ref a := rx
    refine getmeth_ok I1 ea M.cl Mf l ?_
    obtain ⟨_, _, q2⟩ := tDL_nil (tDL_nil q)
    exact PySem.W.callWith_K0 (first := [.ref a]) I1.kIn Mf.kp (run_D0 (us := [.ref a]) (vs := [.ref a]) G hr tk I1 (.cons rfl .nil) rfl q2)⟩
end
/-! ### own operators: both sides instances of one class -/
/-- what is called is no NotImplemented: data never is -/
theorem back_of {pins : List (Addr × Obj)} {σ : L2.St} {Q : VK} {v : Value} {s' : Shared} (h : EP X pins σ Q v s') : PySem.W.CmpBack (EP X pins σ Q) v s' := by
  have h' := h
  obtain ⟨x, H', I, r, q⟩ := h'
  cases x <;> first
    | (cases r; exact h)
    | (obtain ⟨t, rfl⟩ := r; exact h)
def mOwn (c : Nat) (ma mb : Rho → Ev D) (g : Sem1) : Rho → Ev D := fun ρ => (ma ρ).bind fun a => (mb ρ).bind fun b => fun μ => match insOf a μ, insOf b μ with
  | some (c1, _), some (c2, _) => if c1 = c ∧ c2 = c then g [a, b] μ else none
  | _, _ => none
structure OpM (P : Program) (w : World) (K : PySem.W.Frag) (mg : Str → Option Value) (base : Heap) (R : Rc) (k c : Nat) (m : Str) (sem : Sem1) : Prop where
  ex : ∃ f, PySem.W.findIn K (.ref (R.cA c)) m = some (some (.ref f)) ∧ PySem.W.isFn K (.ref f) = true ∧ FnD P w K mg base R k f 2 [] sem
  sf : PySem.W.selfFirst K (R.cA c) = true
section
variable {k c : Nat} {sem : Sem1} {a b : Expr} {pos : Pos} {ma mb : Rho → Ev D}
theorem own_sp {σ : L2.St} {H : Hp} {Q : VK} {α F μ ρ r μ'} (hE : EnvR R α F σ ρ) (hl : Rl R α F μ H) (hm : mOwn c ma mb sem ρ μ = some (r, μ')) (hp : Post R W σ α F Q r μ') :
    tD R W ma σ H fun x H1 => tD R W mb σ H1 fun y H2 => ∃ p q dx dy fs gs, x = .ref p ∧ y = .ref q ∧ H2 p = some (.ins (R.cA c) dx fs) ∧ H2 q = some (.ins (R.cA c) dy gs) ∧ spD R sem [x, y] H2 Q (WE W σ) := by
  rcases Ev.bind_inv hm with ⟨a, μ1, e1, hm1⟩ | ⟨x, e1, rfl⟩
  · refine ⟨α, F, μ, ρ, _, μ1, hE, hl, e1, fun α1 F1 H1 v1 n1 r1 => ?_⟩
    rcases Ev.bind_inv hm1 with ⟨b, μ2, e2, hm2⟩ | ⟨x, e2, rfl⟩
    · refine ⟨α1, F1, μ1, ρ, _, μ2, hE.mono n1, n1.2.2, e2, fun α2 F2 H2 v2 n2 r2 => ?_⟩
      split at hm2
      · rename_i c1 f1 c2 f2 i1 i2
        split at hm2
        · rename_i hc
          obtain ⟨rfl, rfl⟩ := hc
          obtain ⟨p, dx, fs, rfl, hp1, _⟩ := insOf_ok n2.2.2 (n2.rep r1) i1
          obtain ⟨q, dy, gs, rfl, hq1, _⟩ := insOf_ok n2.2.2 r2 i2
          exact ⟨p, q, dx, dy, fs, gs, rfl, rfl, hp1, hq1, α2, F2, μ2, [a, b], r, μ', .cons (n2.rep r1) (.cons r2 .nil), n2.2.2, hm2, post_f (Post.weak (n1.trans n2) hp)⟩
        · cases hm2
      · cases hm2
    · exact ⟨α1, F1, μ1, ρ, _, μ', hE.mono n1, n1.2.2, e2, Post.weak n1 hp⟩
  · exact ⟨α, F, μ, ρ, _, μ', hE, hl, e1, hp⟩
theorem own_call {pins : List (Addr × Obj)} {σ : L2.St} {H : Hp} {s : Shared} {Q : VK} {f p q : Addr} (G : FnD X.prog X.w X.K X.mg X.base R k f 2 [] sem) (hr : Room k X.A) (tk : Takes X W) (I : Inv X pins σ H s) (h : spD R sem [.ref p, .ref q] H Q (WE W σ)) :
    wpAny (model X.prog X.w) X.A (call (.ref f) [.ref p, .ref q]) (PySem.W.CmpBack (EP X pins σ Q)) X.xe s :=
  thn (run_D0 (us := [.ref p, .ref q]) (vs := [.ref p, .ref q]) G hr tk I (.cons rfl (.cons rfl .nil)) rfl h) fun v s' h => back_of h
theorem ped_ownB {op : Operator} (M : OpM X.prog X.w X.K X.mg X.base R k c (PySem.dunder op.info.2) sem) (hr : Room k X.A) (tk : Takes X W) (ha : PED R X W a ma) (hb : PED R X W b mb) : PED R X W (.BinOp a op b pos) (mOwn c ma mb sem) :=
  ⟨fun pins s σ H Q I ⟨α, F, μ, ρ, r, μ', hE, hl, hm, hp⟩ => by
    obtain ⟨f, hf, hi, G⟩ := M.ex
    refine wpAny_BinOp (binT ha hb I (own_sp hE hl hm hp) fun v u s2 x y H2 I2 rx ry ⟨p, q, dx, dy, fs, gs, ex, ey, ep, eq, h⟩ => ?_)
    subst ex ey
    obtain rfl : v = Value.ref p := rx
    obtain rfl : u = Value.ref q := ry
    obtain ⟨_, J, _⟩ := ins_get I2.hok ep
    obtain ⟨_, J', _⟩ := ins_get I2.hok eq
    obtain ⟨od, J, _⟩ := J.look
    obtain ⟨od', J', _⟩ := J'.look
    obtain ⟨m, hF⟩ := I2.fr
    exact PySem.W.binop_K hF I2.ok.mod.kin J J'.type M.sf hf hi (own_call G hr tk I2 h)⟩
theorem ped_ownC {op : CmpOp} (M : OpM X.prog X.w X.K X.mg X.base R k c (cmpInfo op).2.1 sem) (hr : Room k X.A) (tk : Takes X W) (ha : PED R X W a ma) (hb : PED R X W b mb) (ho : isOrd op = true ∨ op = .Eq) : PED R X W (.Compare a [op] [b] pos) (mOwn c ma mb sem) :=
  ⟨fun pins s σ H Q I ⟨α, F, μ, ρ, r, μ', hE, hl, hm, hp⟩ => by
    obtain ⟨f, hf, hi, G⟩ := M.ex
    have hmk : behindInMarks op b = false := nobehind b (by rcases ho with h | h <;> (intro z; subst z; simp [isOrd] at h)) (by rcases ho with h | h <;> (intro z; subst z; simp [isOrd] at h))
    refine wpAny_Compare1 (binT ha hb I (own_sp hE hl hm hp) fun v u s2 x y H2 I2 rx ry ⟨p, q, dx, dy, fs, gs, ex, ey, ep, eq, h⟩ => ?_) hmk
    subst ex ey
    obtain rfl : v = Value.ref p := rx
    obtain rfl : u = Value.ref q := ry
    obtain ⟨_, J, _⟩ := ins_get I2.hok ep
    obtain ⟨_, J', _⟩ := ins_get I2.hok eq
    obtain ⟨od, J, _⟩ := J.look
    obtain ⟨od', J', _⟩ := J'.look
    obtain ⟨m, hF⟩ := I2.fr
    have z : wpAny (model X.prog X.w) X.A (richCompare op (.ref p) (.ref q)) (EP X pins σ Q) X.xe s2 := PySem.W.cmp_K (tb := .ref (R.cA c)) hr.units0 hF I2.ok.mod.kin J J'.type (by simp [PySem.W.notFirst]) hf hi (own_call G hr tk I2 h)
    rcases ho with ho | rfl
    · cases op <;> first | exact z | cases ho
    · exact z⟩
end
end DL
/-! DL11: built-in functions and methods over data; subscripts. -/
namespace DL
open PySem PySem.Spec PyProof.Rows L2
variable {R : Rc} {X : Cx} {W : WX}
theorem ped_callB {id : String} {f : OpN} {x : Str} {p pos : Pos} {e : Expr} {es : List Expr} {m : Rho → Ev (List D)} (hc : CallR X (.builtin id) (rDN R f)) (hg : Gl X x) (hm : X.mg x = none) (hv : bootBuiltins x = some (.builtin id)) (ha : PAD R X W (e :: es) m)
    (hn : x ≠ "__name__") (hdb : (x == ("__debug__" : Str)) = false) (he : FirstPlain X e es) (hpl : NoneStarred X pos es) : PED R X W (.Call (.Name x p) (e :: es) [] pos) (mN f m) :=
  ped_of (pe_callB hc hg hm hv ha hn hdb he hpl) fun σ H Q α F μ ρ r μ' hE hl hm hp => topN hE hl hm hp
theorem ped_callTy {T : String} {f : OpN} {x : Str} {p pos : Pos} {e : Expr} {es : List Expr} {m : Rho → Ev (List D)} (hc : CallR X (.type T) (rDN R f)) (hg : Gl X x) (hm : X.mg x = none) (hv : bootBuiltins x = some (.type T)) (ha : PAD R X W (e :: es) m)
    (hn : x ≠ "__name__") (hdb : (x == ("__debug__" : Str)) = false) (he : FirstPlain X e es) (hpl : NoneStarred X pos es) : PED R X W (.Call (.Name x p) (e :: es) [] pos) (mN f m) :=
  ped_of (pe_callTy hc hg hm hv ha hn hdb he hpl) fun σ H Q α F μ ρ r μ' hE hl hm hp => topN hE hl hm hp
/-! ### len -/
def lenD : OpN
  | [.str z], μ => guardD (decide (z.length ≤ sizeLine)) (.int z.length, μ)
  | [d], μ => (itOf d μ).map fun ds => (.int ds.length, μ)
  | _, _ => none
theorem call_lenDD (hK : X.K = R.K) : CallR X (.builtin "len") (rDN R lenD) := by
  intro pins s σ H xs us Q I r ⟨α, F, μ, ds, d, μ', hl, rl, e, hq⟩
  unfold lenD at e
  split at e
  · rename_i z
    obtain ⟨hz, e⟩ := guardD_some e
    cases e
    cases rl with
    | cons r1 t =>
      cases t
      cases r1
      exact call_len_str pins s σ H _ us Q I r ⟨z, rfl, of_decide_eq_true hz, hq.here hl (.int _)⟩
  · rename_i d0 _
    cases q : itOf d0 μ with
    | none => rw [q] at e; cases e
    | some es =>
      rw [q] at e; cases e
      cases rl with
      | cons r1 t =>
        cases t
        obtain ⟨a, vs, rfl, h, la⟩ := itOf_ok hl r1 q
        refine call_len_seq pins s σ H _ us Q I r ⟨a, vs, rfl, hK ▸ h, ?_⟩
        rw [la.length]
        exact hq.here hl (.int _)
  · cases e
/-! ### int, list, tuple -/
def intD : OpN
  | [.int i], μ => some (.int i, μ)
  | [.bl b], μ => some (.int (if b then 1 else 0), μ)
  | _, _ => none
theorem call_intD : CallR X (.type "int") (rDN R intD) := by
  intro pins s σ H xs us Q I r ⟨α, F, μ, ds, d, μ', hl, rl, e, hq⟩
  unfold intD at e
  split at e
  · cases e
    cases rl with
    | cons r1 t => cases t; cases r1; exact call_int1 pins s σ H _ us Q I r (.inl ⟨_, rfl, hq.here hl (.int _)⟩)
  · cases e
    cases rl with
    | cons r1 t => cases t; cases r1; exact call_int1 pins s σ H _ us Q I r (.inr ⟨_, rfl, hq.here hl (.int _)⟩)
  · cases e
def listD : OpN
  | [d], μ => (itOf d μ).map fun ds => (.lst ds, μ)
  | _, _ => none
def newListD : OpN
  | [d], μ => (itOf d μ).map fun ds => (.loc μ.length, μ ++ [.lst ds])
  | _, _ => none
theorem call_listD (hK : X.K = R.K) : CallR X (.type "list") (rDN R listD) := by
  intro pins s σ H xs us Q I r ⟨α, F, μ, ds, d, μ', hl, rl, e, hq⟩
  unfold listD at e
  split at e
  · rename_i d0
    cases q : itOf d0 μ with
    | none => rw [q] at e; cases e
    | some es =>
      rw [q] at e; cases e
      cases rl with
      | cons r1 t =>
        cases t
        obtain ⟨a, vs, rfl, h, la⟩ := itOf_ok hl r1 q
        exact call_list_of pins s σ H _ us Q I r ⟨a, vs, rfl, hK ▸ h, fun l hl' => postv_new hl hq hl' (.mkLst upd_same (la.mono (List.prefix_refl _) (same_upd (hl.fresh hl'))))⟩
  · cases e
theorem call_newListD (hK : X.K = R.K) : CallR X (.type "list") (rDN R newListD) := by
  intro pins s σ H xs us Q I r ⟨α, F, μ, ds, d, μ', hl, rl, e, hq⟩
  unfold newListD at e
  split at e
  · rename_i d0
    cases q : itOf d0 μ with
    | none => rw [q] at e; cases e
    | some es =>
      rw [q] at e; cases e
      cases rl with
      | cons r1 t =>
        cases t
        obtain ⟨a, vs, rfl, h, la⟩ := itOf_ok hl r1 q
        exact call_list_of pins s σ H _ us Q I r ⟨a, vs, rfl, hK ▸ h, fun l hl' => postv_cell hl hq hl' ⟨vs, upd_same, la.mono (List.prefix_append _ _) (Same.refl _)⟩⟩
  · cases e
def tupleD : OpN
  | [.tup ds], μ => some (.tup ds, μ)
  | [d], μ => (sqOf d μ).map fun ds => (.tup ds, μ)
  | _, _ => none
theorem call_tupleD (hK : X.K = R.K) : CallR X (.type "tuple") (rDN R tupleD) := by
  intro pins s σ H xs us Q I r ⟨α, F, μ, ds, d, μ', hl, rl, e, hq⟩
  unfold tupleD at e
  split at e
  · cases e
    cases rl with
    | cons r1 t =>
      cases t
      obtain ⟨a, vs, rfl, h, la⟩ := tup_ok hl r1
      exact call_tuple_of pins s σ H _ us Q I r ⟨a, vs, rfl, .inr ⟨hK ▸ h, hq.here hl r1⟩⟩
  · rename_i d0 _
    cases q : sqOf d0 μ with
    | none => rw [q] at e; cases e
    | some es =>
      rw [q] at e; cases e
      cases rl with
      | cons r1 t =>
        cases t
        obtain ⟨a, vs, rfl, h, la⟩ := sqOf_ok hl r1 q
        exact call_tuple_of pins s σ H _ us Q I r ⟨a, vs, rfl, .inl ⟨hK ▸ h, fun l hl' => postv_new hl hq hl' (.mkTup (.inl upd_same) (la.mono (List.prefix_refl _) (same_upd (hl.fresh hl'))))⟩⟩
  · cases e
/-! ### all, any, sum -/
def blsOf : List D → Option (List Bool)
  | [] => some []
  | .bl b :: r => (blsOf r).map (b :: ·)
  | _ => none
theorem blsOf_ok {α : List Addr} {F : Hp} : ∀ {vs : List V} {ds : List D} {bs : List Bool}, RepL R α F vs ds → blsOf ds = some bs → vs = bs.map V.bl
  | _, _, _, .nil, e => by cases e; rfl
  | _, _, bs, .cons (b := d) h t, e => by
    cases d with
    | bl b =>
      simp only [blsOf, Option.map_eq_some_iff] at e
      obtain ⟨cs, e1, rfl⟩ := e
      cases h
      rw [blsOf_ok t e1]
      rfl
    | _ => cases e
def intsOf : List D → Option (List Int)
  | [] => some []
  | .int b :: r => (intsOf r).map (b :: ·)
  | _ => none
theorem intsOf_ok {α : List Addr} {F : Hp} : ∀ {vs : List V} {ds : List D} {bs : List Int}, RepL R α F vs ds → intsOf ds = some bs → vs = bs.map V.int
  | _, _, _, .nil, e => by cases e; rfl
  | _, _, bs, .cons (b := d) h t, e => by
    cases d with
    | int b =>
      simp only [intsOf, Option.map_eq_some_iff] at e
      obtain ⟨cs, e1, rfl⟩ := e
      cases h
      rw [intsOf_ok t e1]
      rfl
    | _ => cases e
def allD : OpN
  | [d], μ => ((sqOf d μ).bind blsOf).map fun bs => (.bl (bs.all id), μ)
  | _, _ => none
def anyD : OpN
  | [d], μ => ((sqOf d μ).bind blsOf).map fun bs => (.bl (bs.any id), μ)
  | _, _ => none
def sumD : OpN
  | [d], μ => ((sqOf d μ).bind intsOf).map fun bs => (.int bs.sum, μ)
  | _, _ => none
theorem call_allD (hK : X.K = R.K) (hc : X.calm = true) : CallR X (.builtin "all") (rDN R allD) := by
  intro pins s σ H xs us Q I r ⟨α, F, μ, ds, d, μ', hl, rl, e, hq⟩
  unfold allD at e
  split at e
  · simp only [Option.map_eq_some_iff, Option.bind_eq_some_iff] at e
    obtain ⟨bs, ⟨es, e1, e2⟩, e⟩ := e
    cases e
    cases rl with
    | cons r1 t =>
      cases t
      obtain ⟨a, vs, rfl, h, la⟩ := sqOf_ok hl r1 e1
      rw [blsOf_ok la e2] at h
      exact cr_all hc pins s σ H _ us Q I r ⟨a, bs, rfl, hK ▸ h, hq.here hl (.bl _)⟩
  · cases e
theorem call_anyD (hK : X.K = R.K) (hc : X.calm = true) : CallR X (.builtin "any") (rDN R anyD) := by
  intro pins s σ H xs us Q I r ⟨α, F, μ, ds, d, μ', hl, rl, e, hq⟩
  unfold anyD at e
  split at e
  · simp only [Option.map_eq_some_iff, Option.bind_eq_some_iff] at e
    obtain ⟨bs, ⟨es, e1, e2⟩, e⟩ := e
    cases e
    cases rl with
    | cons r1 t =>
      cases t
      obtain ⟨a, vs, rfl, h, la⟩ := sqOf_ok hl r1 e1
      rw [blsOf_ok la e2] at h
      exact cr_any hc pins s σ H _ us Q I r ⟨a, bs, rfl, hK ▸ h, hq.here hl (.bl _)⟩
  · cases e
theorem call_sumD (hK : X.K = R.K) (hc : X.calm = true) : CallR X (.builtin "sum") (rDN R sumD) := by
  intro pins s σ H xs us Q I r ⟨α, F, μ, ds, d, μ', hl, rl, e, hq⟩
  unfold sumD at e
  split at e
  · simp only [Option.map_eq_some_iff, Option.bind_eq_some_iff] at e
    obtain ⟨bs, ⟨es, e1, e2⟩, e⟩ := e
    cases e
    cases rl with
    | cons r1 t =>
      cases t
      obtain ⟨a, vs, rfl, h, la⟩ := sqOf_ok hl r1 e1
      rw [intsOf_ok la e2] at h
      exact cr_sum hc pins s σ H _ us Q I r ⟨a, bs, rfl, hK ▸ h, hq.here hl (.int _)⟩
  · cases e
/-! ### isinstance -/
/-- a class: a built-in one, or one of the program's own -/
inductive TK where
  | bt (n : String) | oc (c : Nat)
  deriving DecidableEq
def TK.val (R : Rc) : TK → Value
  | .bt n => .type n
  | .oc c => .ref (R.cA c)
def tkOf (d : D) (μ : Store) : Option TK := match d with
  | .non => some (.bt "NoneType")
  | .bl _ => some (.bt "bool")
  | .int _ => some (.bt "int")
  | .str _ => some (.bt "str")
  | .lst _ => some (.bt "list")
  | .dct _ _ => some (.bt "dict")
  | .tup _ => some (.bt "tuple")
  | .ins c _ => some (.oc c)
  | .loc n => (match μ[n]? with
    | some (.lst _) => some (.bt "list")
    | some (.dct _ _) => some (.bt "dict")
    | some (.ins c _) => some (.oc c)
    | _ => none)
  | _ => none
def clsD : D → Option TK
  | .ty n => some (.bt n)
  | .cls c => some (.oc c)
  | _ => none
/-- the answers that are known -/
structure IsiOk (K : PySem.W.Frag) (R : Rc) (T : TK → TK → Option Bool) (own : Nat → Bool) : Prop where
  ans : ∀ t u b, T t u = some b → PySem.W.kitOne K (t.val R) (u.val R) = some b
  own : ∀ c, own c = true → Cls K (R.cA c) ∧ PySem.W.findIn K (.ref (R.cA c)) "__class__" = some (some (.builtin "object.__class__")) ∧
    PySem.W.specialIn K (.builtin "object.__class__") "__get__" = some (some (.builtin "getset_descriptor.__get__")) ∧ PySem.W.takesIn K (.builtin "object.__class__") = some true ∧ PySem.W.mroIn K (R.cA c) (.type "object") = some true
def TK.known (own : Nat → Bool) : TK → Bool
  | .bt _ => true
  | .oc c => own c
theorem tk_ok {T : TK → TK → Option Bool} {own : Nat → Bool} (hT : IsiOk R.K R T own) {α : List Addr} {F H : Hp} {μ : Store} (hl : Rl R α F μ H) {x : V} {d : D} {t : TK} (r : Rep R α F x d) (e : tkOf d μ = some t) (hk : t.known own = true) : TyX R.K H x (t.val R) := by
  have ins : ∀ {a dx : Addr} {c : Nat} {gs : List (Str × V)}, H a = some (.ins (R.cA c) dx gs) → own c = true → TyX R.K H (.ref a) (.ref (R.cA c)) := fun h ho => by
    obtain ⟨h1, h2, h3, h4, h5⟩ := hT.own _ ho
    exact .base (.ins h h1 h2 h3 h4 h5)
  cases d with
  | non => cases e; cases r; exact .base .non
  | bl b => cases e; cases r; exact .base (.bl _)
  | int b => cases e; cases r; exact .base (.int _)
  | str b => cases e; cases r; exact .base (.str _)
  | lst b => cases e; obtain ⟨a, vs, rfl, h, _⟩ := lsOf_ok hl r (ds := b) rfl; exact .base (.lst h)
  | tup b =>
    cases e
    obtain ⟨a, vs, rfl, h, _⟩ := tup_okA hl r
    rcases h with h | ⟨o, its, n, h, hc, _⟩
    · exact .base (.tup h)
    · exact .kTuple h hc
  | dct tk es =>
    cases e
    cases r with
    | dK h => exact .base (.dK (hl.sub _ _ h))
    | dT h => exact .base (.dT (hl.sub _ _ h))
  | ins c fs =>
    cases e
    obtain ⟨a, dx, gs, rfl, h, _⟩ := r.ins_inv
    exact ins (hl.sub _ _ h) hk
  | loc n =>
    obtain ⟨a, rfl, ha⟩ := r.loc_inv
    simp only [tkOf] at e
    split at e
    · rename_i q
      cases e
      obtain ⟨vs, h1, _⟩ := hl.cell n a _ ha q
      exact .base (.lst h1)
    · rename_i q
      cases e
      obtain ⟨o, h1, h2⟩ := hl.cell n a _ ha q
      rcases h2 with ⟨_, kv, rfl, _⟩ | ⟨_, kv, rfl, _⟩
      · exact .base (.dK h1)
      · exact .base (.dT h1)
    · rename_i q
      cases e
      obtain ⟨dx, gs, h1, h2⟩ := hl.cell n a _ ha q
      exact ins h1 hk
    · cases e
  | _ => cases e
theorem cls_ok {α : List Addr} {F : Hp} {x : V} {d : D} {t : TK} (r : Rep R α F x d) (e : clsD d = some t) : ClsV x (t.val R) := by
  cases d with
  | ty n => cases e; cases r; exact .ty n
  | cls c => cases e; cases r; exact .own _
  | _ => cases e
def isiL (T : TK → TK → Option Bool) (t : TK) : List D → Option Bool
  | [] => some false
  | c :: r => match clsD c with
    | some u => (match T t u with
      | some true => some true
      | some false => isiL T t r
      | none => none)
    | none => none
def isiD (T : TK → TK → Option Bool) (own : Nat → Bool) : OpN
  | [d, .tup cs], μ => (match tkOf d μ with
    | some t => if t.known own && (cs.all fun c => (clsD c).isSome) then (isiL T t cs).map fun b => (.bl b, μ) else none
    | none => none)
  | [d, c], μ => (match tkOf d μ, clsD c with
    | some t, some u => if t.known own then (T t u).map fun b => (.bl b, μ) else none
    | _, _ => none)
  | _, _ => none
theorem isiL_ok {K : PySem.W.Frag} {T : TK → TK → Option Bool} {own : Nat → Bool} (hT : IsiOk K R T own) {t : TK} : ∀ {cs : List D} {us : List TK} {b : Bool}, isiL T t cs = some b → cs.map clsD = us.map some → PySem.W.kitAny K (t.val R) (us.map (TK.val R)) = some b
  | [], [], b, h, _ => by cases h; rfl
  | [], _ :: _, _, _, e => by cases e
  | _ :: _, [], _, _, e => by cases e
  | c :: cs, u :: us, b, h, e => by
    simp only [List.map_cons, List.cons.injEq] at e
    obtain ⟨e1, e2⟩ := e
    unfold isiL at h
    rw [e1] at h
    simp only at h
    rw [List.map_cons]
    cases q : T t u with
    | none => rw [q] at h; cases h
    | some r =>
      rw [q] at h
      have k := hT.ans _ _ _ q
      cases r with
      | true => cases h; exact kitAny_cons k (fun z => by cases z) fun _ => rfl
      | false => exact kitAny_cons k (fun _ => isiL_ok hT h e2) fun z => by cases z
theorem all_some {α β : Type} {f : α → Option β} : ∀ {xs : List α}, (xs.all fun c => (f c).isSome) = true → ∃ ys : List β, xs.map f = ys.map some
  | [], _ => ⟨[], rfl⟩
  | x :: xs, h => by
    simp only [List.all_cons, Bool.and_eq_true] at h
    obtain ⟨y, e⟩ := Option.isSome_iff_exists.mp h.1
    obtain ⟨ys, e2⟩ := all_some h.2
    exact ⟨y :: ys, by rw [List.map_cons, List.map_cons, e, e2]⟩
theorem paired_cls {α : List Addr} {F : Hp} : ∀ {vs : List V} {cs : List D} {us : List TK}, RepL R α F vs cs → cs.map clsD = us.map some → Paired ClsV vs (us.map (TK.val R))
  | _, _, [], .nil, _ => .nil
  | _, _, _ :: _, .nil, e => by cases e
  | _, _, [], .cons _ _, e => by cases e
  | _, _, u :: us, .cons h t, e => by
    simp only [List.map_cons, List.cons.injEq] at e
    exact .cons (cls_ok h e.1) (paired_cls t e.2)
theorem call_isiD (hK : X.K = R.K) {T : TK → TK → Option Bool} {own : Nat → Bool} (hT : IsiOk R.K R T own) : CallR X (.builtin "isinstance") (rDN R (isiD T own)) := by
  intro pins s σ H xs us Q I r ⟨α, F, μ, ds, d, μ', hl, rl, e, hq⟩
  unfold isiD at e
  split at e
  · rename_i d0 cs
    split at e
    · rename_i t ht
      split at e
      · rename_i hk
        simp only [Bool.and_eq_true] at hk
        cases q : isiL T t cs with
        | none => rw [q] at e; cases e
        | some b =>
          rw [q] at e; cases e
          cases rl with
          | cons r1 t1 =>
            cases t1 with
            | cons r2 t2 =>
              cases t2
              have hx := tk_ok hT hl r1 ht hk.1
              obtain ⟨ys, ey⟩ := all_some hk.2
              obtain ⟨a, vs, rfl, h, la⟩ := tup_okA hl r2
              have kk := isiL_ok hT q ey
              rcases h with h | ⟨o, its, n, hlk, hc, hd, _, hv⟩
              · exact call_isiT pins s σ H _ us Q I r ⟨_, a, vs, _, _, b, rfl, h, paired_cls la ey, hK ▸ hx, hK ▸ kk, hq.here hl (.bl _)⟩
              · have e2 := ClsV.all (paired_cls la ey) hv
                obtain ⟨oc, od, dt, sl⟩ := o
                simp only at hc hd
                subst hc hd
                have e3 : its = (ys.map (TK.val R)).toArray := by rw [← e2]
                subst e3
                exact call_isiK pins s σ H _ us Q I r ⟨_, a, od, _, n, sl, _, b, rfl, hK ▸ hlk, hK ▸ hx, hK ▸ kk, hq.here hl (.bl _)⟩
      · cases e
    · cases e
  · rename_i d0 c _
    split at e
    · rename_i t u ht hu
      split at e
      · rename_i hk
        cases q : T t u with
        | none => rw [q] at e; cases e
        | some b =>
          rw [q] at e; cases e
          cases rl with
          | cons r1 t1 =>
            cases t1 with
            | cons r2 t2 =>
              cases t2
              exact call_isi pins s σ H _ us Q I r ⟨_, _, _, _, b, rfl, cls_ok r2 hu, hK ▸ tk_ok hT hl r1 ht hk, hK ▸ hT.ans _ _ _ q, hq.here hl (.bl _)⟩
      · cases e
    · cases e
  · cases e
end DL
/-! DL12: methods of lists; subscripts; statements. -/
namespace DL
open PySem PySem.Spec PyProof.Rows L2
variable {R : Rc} {X : Cx} {W : WX}
/-! ### subscripts -/
def ixD : Op2
  | .str z, .int i, μ => if z.length ≤ sizeLine then (atI z.cps.toList i).map fun c => (.str ⟨#[c]⟩, μ) else none
  | d, .int i, μ => ((itOf d μ).bind fun ds => atI ds i).map fun v => (v, μ)
  | _, _, _ => none
theorem atI_paired {α β : Type} {P : α → β → Prop} {xs : List α} {ys : List β} {i : Int} {y : β} (h : Paired P xs ys) (e : atI ys i = some y) : ∃ x, atI xs i = some x ∧ P x y := by
  unfold atI at e ⊢
  rw [h.length]
  cases q : ixN ys.length i with
  | none => rw [q] at e; cases e
  | some j =>
    rw [q] at e
    exact paired_left h j y e
theorem ix_D (hK : X.K = R.K) : IxR X (rD2 R ixD) := by
  intro value slice pins s σ H x y v u Q I rx ry ⟨α, F, μ, d1, d2, d, μ', hl, r1, r2, e, hq⟩ hsub
  unfold ixD at e
  split at e
  · rename_i z i
    split at e
    · rename_i hz
      rw [Option.map_eq_some_iff] at e
      obtain ⟨c, e1, e⟩ := e
      cases e
      cases r1; cases r2
      exact ix_str value slice pins s σ H _ _ v u Q I rx ry ⟨z, i, c, rfl, rfl, hz, e1, hq.here hl (.str _)⟩ hsub
    · cases e
  · rename_i d1 i _
    rw [Option.map_eq_some_iff] at e
    obtain ⟨w, e1, e⟩ := e
    cases e
    rw [Option.bind_eq_some_iff] at e1
    obtain ⟨ds, e1, e2⟩ := e1
    cases r2
    obtain ⟨a, vs, rfl, h, la⟩ := itOf_ok hl r1 e1
    obtain ⟨x, ex, rx'⟩ := atI_paired la e2
    rcases h with h | h
    · exact ix_list value slice pins s σ H _ _ v u Q I rx ry ⟨a, vs, i, x, rfl, rfl, hK ▸ h, ex, hq.here hl rx'⟩ hsub
    · exact ix_tup value slice pins s σ H _ _ v u Q I rx ry ⟨a, vs, i, x, rfl, rfl, hK ▸ h, ex, hq.here hl rx'⟩ hsub
  · cases e
/-! ### methods of built-in types -/
abbrev OpM1 := D → List D → Store → Option (D × Store)
def rDM (R : Rc) (f : OpM1) : V → List V → Hp → VK → Prop := fun x xs H Q => ∃ α F μ d ds r μ', Rl R α F μ H ∧ Rep R α F x d ∧ RepL R α F xs ds ∧ f d ds μ = some (r, μ') ∧ PostV R α F μ' r Q
def isDctB (d : D) (μ : Store) : Bool := match d with
  | .dct _ _ => true
  | .loc n => (match μ[n]? with
    | some (.dct _ _) => true
    | _ => false)
  | _ => false
def isT (T : String) (d : D) (μ : Store) : Bool := match d with
  | .str _ => T == "str"
  | .int _ => T == "int"
  | d => (T == "list" && (sqOf d μ).isSome) || (T == "dict" && isDctB d μ)
theorem isT_ok {α : List Addr} {F H : Hp} {μ : Store} (hl : Rl R α F μ H) {T : String} {x : V} {d : D} (r : Rep R α F x d) (e : isT T d μ = true) : tyV R.K T x H := by
  have key : ((T == "list" && (sqOf d μ).isSome) || (T == "dict" && isDctB d μ)) = true → tyV R.K T x H := fun e => by
    simp only [Bool.or_eq_true, Bool.and_eq_true, beq_iff_eq] at e
    rcases e with ⟨rfl, e2⟩ | ⟨rfl, e2⟩
    · obtain ⟨ds, e3⟩ := Option.isSome_iff_exists.mp e2
      obtain ⟨a, vs, rfl, h, _⟩ := sqOf_ok hl r e3
      exact .inl ⟨rfl, vs, h⟩
    · cases d with
      | dct tk es =>
        cases r with
        | dK h => exact .inr (.inr (.inl ⟨rfl, .inl ⟨_, hl.sub _ _ h⟩⟩))
        | dT h => exact .inr (.inr (.inl ⟨rfl, .inr ⟨_, hl.sub _ _ h⟩⟩))
      | loc n =>
        obtain ⟨a, rfl, ha⟩ := r.loc_inv
        simp only [isDctB] at e2
        split at e2
        · rename_i q
          obtain ⟨o, h1, h2⟩ := hl.cell n a _ ha q
          rcases h2 with ⟨_, kv, rfl, _⟩ | ⟨_, kv, rfl, _⟩
          · exact .inr (.inr (.inl ⟨rfl, .inl ⟨_, h1⟩⟩))
          · exact .inr (.inr (.inl ⟨rfl, .inr ⟨_, h1⟩⟩))
        · cases e2
      | _ => cases e2
  cases d with
  | str z => cases r; exact (beq_iff_eq.mp e)
  | int z => cases r; exact (beq_iff_eq.mp e)
  | _ => exact key e
def mBM (T : String) (f : OpM1) (mo : Rho → Ev D) (ma : Rho → Ev (List D)) : Rho → Ev D := fun ρ => (mo ρ).bind fun o => fun μ => if isT T o μ = true then ((ma ρ).bind fun ds => Ev.op (f o ds)) μ else none
theorem bm_sp (hK : X.K = R.K) {T : String} {f : OpM1} {mo : Rho → Ev D} {ma : Rho → Ev (List D)} {σ : L2.St} {H : Hp} {Q : VK} {α F μ ρ r μ'} (hE : EnvR R α F σ ρ) (hl : Rl R α F μ H) (hm : mBM T f mo ma ρ μ = some (r, μ')) (hp : Post R W σ α F Q r μ') :
    tBM X.K T (rDM R f) (tD R W mo) (tDL R W ma) σ H Q := by
  rcases Ev.bind_inv hm with ⟨o, μ1, e1, hm1⟩ | ⟨x, e1, rfl⟩
  · refine ⟨α, F, μ, ρ, _, μ1, hE, hl, e1, fun α1 F1 H1 v1 n1 r1 => ?_⟩
    split at hm1
    · rename_i ht
      refine ⟨hK ▸ isT_ok n1.2.2 r1 ht, ?_⟩
      rcases Ev.bind_inv hm1 with ⟨ds, μ2, e2, hm2⟩ | ⟨x, e2, rfl⟩
      · refine ⟨α1, F1, μ1, ρ, _, μ2, hE.mono n1, n1.2.2, e2, fun α2 F2 H2 v2 n2 r2 => ?_⟩
        obtain ⟨d, e3, rfl⟩ := Ev.op_inv hm2
        exact ⟨α2, F2, μ2, o, ds, d, μ', n2.2.2, n2.rep r1, r2, e3, fun α' F' H' v n rr => hp α' F' H' v (n1.trans (n2.trans n)) rr⟩
      · exact ⟨α1, F1, μ1, ρ, _, _, hE.mono n1, n1.2.2, e2, fun α2 F2 H2 cls dd n2 x2 => hp α2 F2 H2 cls dd (n1.trans n2) x2⟩
    · cases hm1
  · exact ⟨α, F, μ, ρ, _, _, hE, hl, e1, hp⟩
/-- few arguments, none starred: the call needs no tuple of them -/
abbrev FewArgs (X : Cx) (cpos : Pos) (e : Expr) (es : List Expr) : Prop :=
  ((backTo cpos (starEach (e :: es) X.env)).all (fun x => !x.1) && (backToKw cpos (keywordEach [] X.env)).all (fun x => x.1.isSome) && decide ((e :: es).length + ([] : List Keyword).length + (if ([] : List Keyword).isEmpty then 0 else 1) < 30)) = true
theorem ped_bm (hK : X.K = R.K) {T id : String} {name : Str} {f : OpM1} {o e : Expr} {es : List Expr} {apos cpos : Pos} {mo : Rho → Ev D} {ma : Rho → Ev (List D)} (pa : PlainAttrs T) (slot : Slot T name id) (hty : MethodDesc id) (hm : MtR X id (rDM R f))
    (ho : PED R X W o mo) (ha : PAD R X W (e :: es) ma) (hb : plainO o = true)
    (hfew : FewArgs X cpos e es)
    (hline : (apos.endLine == cpos.line) = true) (hs : FirstPlain X e es) (hplain : NoneStarred X cpos es) : PED R X W (.Call (.Attribute o name apos) (e :: es) [] cpos) (mBM T f mo ma) :=
  ped_of (pe_bm pa slot hty hm ho ha (base_ok hb) hfew hline hs hplain) fun σ H Q α F μ ρ r μ' hE hl hm hp => bm_sp hK hE hl hm hp
theorem ped_bm0 (hK : X.K = R.K) {T id : String} {name : Str} {f : OpM1} {o : Expr} {apos cpos : Pos} {mo : Rho → Ev D} (pa : PlainAttrs T) (slot : Slot T name id) (hty : MethodDesc id) (hm : MtR X id (rDM R f))
    (ho : PED R X W o mo) (hb : plainO o = true) (hline : (apos.endLine == cpos.line) = true) : PED R X W (.Call (.Attribute o name apos) [] [] cpos) (mBM T f mo mNil) :=
  ped_of (pe_bm0 pa slot hty hm ho (base_ok hb) hline) fun σ H Q α F μ ρ r μ' hE hl hm hp => by
    obtain ⟨α, F, μ, ρ, r, μ', a1, a2, a3, a4⟩ := bm_sp hK hE hl hm hp
    refine ⟨α, F, μ, ρ, r, μ', a1, a2, a3, ?_⟩
    cases r with
    | ok d => exact fun α' F' H' v n rr => let ⟨h1, h2⟩ := a4 α' F' H' v n rr; ⟨h1, tDL_nil h2⟩
    | err x => exact a4
/-! a cell's list changed -/
def cellL (d : D) (μ : Store) : Option (Nat × List D) := match d with
  | .loc n => (match μ[n]? with
    | some (.lst ds) => some (n, ds)
    | _ => none)
  | _ => none
theorem cellL_ok {α : List Addr} {F H : Hp} {μ : Store} (hl : Rl R α F μ H) {x : V} {d : D} {n : Nat} {ds : List D} (r : Rep R α F x d) (e : cellL d μ = some (n, ds)) : ∃ a vs, x = .ref a ∧ H a = some (.lst vs) ∧ RepL R α F vs ds ∧
    ∀ ws es, RepL R α F ws es → Rl R α F (μ.set n (.lst es)) (upd H a (.lst ws)) := by
  cases d with
  | loc m =>
    obtain ⟨a, rfl, ha⟩ := r.loc_inv
    simp only [cellL] at e
    split at e
    · rename_i q
      cases e
      obtain ⟨vs, h1, h2⟩ := hl.cell _ a _ ha q
      exact ⟨a, vs, rfl, h1, h2, fun ws es h => hl.write ha q rfl rfl ⟨ws, upd_same, h⟩⟩
    · cases e
  | _ => cases e
theorem Nx.wr {α : List Addr} {F H' : Hp} {μ' : Store} (h : Rl R α F μ' H') : Nx R α F μ' α F H' := ⟨List.prefix_refl _, Same.refl _, h⟩
def appendD : OpM1 := fun o ds μ => match cellL o μ, ds with
  | some (n, xs), [y] => guardD (decide (xs.length < sizeLine)) (.non, μ.set n (.lst (xs ++ [y])))
  | _, _ => none
theorem mt_appendD : MtR X "list.append" (rDM R appendD) := by
  intro pins s σ H x xs v us Q I rx r ⟨α, F, μ, d, ds, r0, μ', hl, r1, rl, e, hq⟩
  unfold appendD at e
  split at e
  · rename_i n ys y q
    obtain ⟨hz, e⟩ := guardD_some e
    cases e
    obtain ⟨a, vs, rfl, ha, la, hw⟩ := cellL_ok hl r1 q
    cases rl with
    | cons r2 t =>
      cases t
      refine mt_append pins s σ H _ _ v us Q I rx r ⟨a, vs, _, rfl, rfl, ha, ?_, ?_⟩
      · rw [la.length]; exact of_decide_eq_true hz
      · exact hq α F _ _ (Nx.wr (hw _ _ (paired_append la (.cons r2 .nil)))) .non
  · cases e
def extendD : OpM1 := fun o ds μ => match cellL o μ, ds with
  | some (n, xs), [y] => (match lsOf y μ with
    | some ys => guardD (decide (xs.length + ys.length ≤ sizeLine)) (.non, μ.set n (.lst (xs ++ ys)))
    | none => none)
  | _, _ => none
theorem mt_extendD : MtR X "list.extend" (rDM R extendD) := by
  intro pins s σ H x xs v us Q I rx r ⟨α, F, μ, d, ds, r0, μ', hl, r1, rl, e, hq⟩
  unfold extendD at e
  split at e
  · rename_i n ys y q
    split at e
    · rename_i zs hzs
      obtain ⟨hz, e⟩ := guardD_some e
      cases e
      obtain ⟨a, vs, rfl, ha, la, hw⟩ := cellL_ok hl r1 q
      cases rl with
      | cons r2 t =>
        cases t
        obtain ⟨b, ws, rfl, hb, lb⟩ := lsOf_ok hl r2 hzs
        refine mt_extend pins s σ H _ _ v us Q I rx r ⟨a, b, vs, ws, rfl, rfl, ha, hb, ?_, ?_⟩
        · rw [la.length, lb.length]; exact of_decide_eq_true hz
        · exact hq α F _ _ (Nx.wr (hw _ _ (paired_append la lb))) .non
    · cases e
  · cases e
/-- xs.pop(), xs.pop(i) -/
def popD : OpM1 := fun o ds μ => match cellL o μ, ds with
  | some (n, xs), [] => (xs[xs.length - 1]?).map fun y => (y, μ.set n (.lst xs.dropLast))
  | some (n, xs), [.int i] => (match seqIndex? i xs.length with
    | some k => (match xs[k]? with
      | some y => guardD (decide (-(2 ^ 63) ≤ i) && decide (i < 2 ^ 63)) (y, μ.set n (.lst (xs.eraseIdx k)))
      | none => none)
    | none => none)
  | _, _ => none
theorem mt_popD : MtR X "list.pop" (rDM R popD) := by
  intro pins s σ H x xs v us Q I rx r ⟨α, F, μ, d, ds, r0, μ', hl, r1, rl, e, hq⟩
  unfold popD at e
  split at e
  · rename_i n ys q
    rw [Option.map_eq_some_iff] at e
    obtain ⟨y, e1, e⟩ := e
    cases e
    obtain ⟨a, vs, rfl, ha, la, hw⟩ := cellL_ok hl r1 q
    cases rl
    obtain ⟨z, ez, rz⟩ := paired_left la _ _ e1
    refine mt_pop pins s σ H _ _ v us Q I rx r ⟨a, vs, z, rfl, rfl, ha, by rw [la.length]; exact ez, ?_⟩
    exact hq α F _ _ (Nx.wr (hw _ _ (paired_dropLast la))) rz
  · rename_i n ys i q
    split at e
    · rename_i k hk
      split at e
      · rename_i y hy
        obtain ⟨hz, e⟩ := guardD_some e
        simp only [Bool.and_eq_true, decide_eq_true_eq] at hz
        cases e
        obtain ⟨a, vs, rfl, ha, la, hw⟩ := cellL_ok hl r1 q
        cases rl with
        | cons r2 t =>
          cases t
          cases r2
          obtain ⟨z, ez, rz⟩ := paired_left la _ _ hy
          refine mt_popAt pins s σ H _ _ v us Q I rx r ⟨a, vs, i, k, z, rfl, rfl, ha, hz.1, hz.2, by rw [la.length]; exact hk, ez, ?_⟩
          exact hq α F _ _ (Nx.wr (hw _ _ (paired_erase k la))) rz
      · cases e
    · cases e
  · cases e
/-! ### statements -/
inductive Out where
  | nx (ρ : Rho) | rt (d : D) | bk (ρ : Rho) | ct (ρ : Rho) | er (x : XD) (ρ : Rho)
abbrev Ex := Rho → Store → Option (Out × Store)
def PostS (R : Rc) (W : WX) (E : Ends) (α : List Addr) (F : Hp) : Out → Store → Prop
  | .nx ρ', μ' => ∀ α' F' H' σ', Nx R α F μ' α' F' H' → EnvR R α' F' σ' ρ' → E.nx σ' H'
  | .rt d, μ' => ∀ α' F' H' v, Nx R α F μ' α' F' H' → Rep R α' F' v d → E.rt v H'
  | .bk ρ', μ' => ∀ α' F' H' σ', Nx R α F μ' α' F' H' → EnvR R α' F' σ' ρ' → E.bk σ' H'
  | .ct ρ', μ' => ∀ α' F' H' σ', Nx R α F μ' α' F' H' → EnvR R α' F' σ' ρ' → E.ct σ' H'
  | .er x ρ', μ' => ∀ α' F' H' σ' cls dd, Nx R α F μ' α' F' H' → EnvR R α' F' σ' ρ' → XOk R α' F' H' cls dd x → W cls dd σ' H'
def tS (R : Rc) (W : WX) (m : Ex) : TS := fun E σ H => ∃ α F μ ρ o μ', EnvR R α F σ ρ ∧ Rl R α F μ H ∧ m ρ μ = some (o, μ') ∧ PostS R W E α F o μ'
def PSD (R : Rc) (X : Cx) (W : WX) (st : Stmt) (m : Ex) : Prop := PS X st (tS R W m)
def PSsD (R : Rc) (X : Cx) (W : WX) (st : List Stmt) (m : Ex) : Prop := PSs X st (tS R W m)
theorem PostS.weak {E : Ends} {α α1 : List Addr} {F F1 H1 : Hp} {μ1 μ' : Store} {o : Out} (a : Nx R α F μ1 α1 F1 H1) (p : PostS R W E α F o μ') : PostS R W E α1 F1 o μ' := by
  cases o with
  | nx ρ => exact fun α' F' H' σ' n e => p α' F' H' σ' (a.trans n) e
  | rt d => exact fun α' F' H' v n r => p α' F' H' v (a.trans n) r
  | bk ρ => exact fun α' F' H' σ' n e => p α' F' H' σ' (a.trans n) e
  | ct ρ => exact fun α' F' H' σ' n e => p α' F' H' σ' (a.trans n) e
  | er x ρ => exact fun α' F' H' σ' cls dd n e xx => p α' F' H' σ' cls dd (a.trans n) e xx
theorem psd_of {st : Stmt} {t : TS} {m : Ex} (h : PS X st t) (i : ∀ E σ H α F μ ρ o μ', EnvR R α F σ ρ → Rl R α F μ H → m ρ μ = some (o, μ') → PostS R W E α F o μ' → t E σ H) : PSD R X W st m :=
  ps_imp h fun E σ H ⟨α, F, μ, ρ, o, μ', a, b, c, d⟩ => i E σ H α F μ ρ o μ' a b c d
theorem pssd_of {st : List Stmt} {t : TS} {m : Ex} (h : PSs X st t) (i : ∀ E σ H α F μ ρ o μ', EnvR R α F σ ρ → Rl R α F μ H → m ρ μ = some (o, μ') → PostS R W E α F o μ' → t E σ H) : PSsD R X W st m :=
  pss_imp h fun E σ H ⟨α, F, μ, ρ, o, μ', a, b, c, d⟩ => i E σ H α F μ ρ o μ' a b c d
/-- a value first -/
def xBind (m : Rho → Ev D) (k : D → Ex) : Ex := fun ρ μ => match m ρ μ with
  | some (.ok d, μ1) => k d ρ μ1
  | some (.err x, μ1) => some (.er x ρ, μ1)
  | none => none
def xTest (m : Rho → Ev Bool) (k : Bool → Ex) : Ex := fun ρ μ => match m ρ μ with
  | some (.ok d, μ1) => k d ρ μ1
  | some (.err x, μ1) => some (.er x ρ, μ1)
  | none => none
def xSeq (m1 m2 : Ex) : Ex := fun ρ μ => match m1 ρ μ with
  | some (.nx ρ', μ1) => m2 ρ' μ1
  | r => r
def xNil : Ex := fun ρ μ => some (.nx ρ, μ)
theorem xbind_sp {m : Rho → Ev D} {k : D → Ex} {E : Ends} {σ : L2.St} {H : Hp} {α F μ ρ o μ'} {K : V → Hp → Prop} (hE : EnvR R α F σ ρ) (hl : Rl R α F μ H) (hm : xBind m k ρ μ = some (o, μ')) (hp : PostS R W E α F o μ')
    (hk : ∀ d μ1 α1 F1 H1 v1, k d ρ μ1 = some (o, μ') → Nx R α F μ1 α1 F1 H1 → Rep R α1 F1 v1 d → EnvR R α1 F1 σ ρ → PostS R W E α1 F1 o μ' → K v1 H1) : tD R W m σ H K := by
  unfold xBind at hm
  split at hm
  · rename_i d μ1 e
    exact ⟨α, F, μ, ρ, _, μ1, hE, hl, e, fun α1 F1 H1 v1 n1 r1 => hk d μ1 α1 F1 H1 v1 hm n1 r1 (hE.mono n1) (PostS.weak n1 hp)⟩
  · rename_i x μ1 e
    cases hm
    exact ⟨α, F, μ, ρ, _, _, hE, hl, e, fun α1 F1 H1 cls dd n1 xx => hp α1 F1 H1 σ cls dd n1 (hE.mono n1) xx⟩
  · cases hm
theorem xtest_sp {m : Rho → Ev Bool} {k : Bool → Ex} {E : Ends} {σ : L2.St} {H : Hp} {α F μ ρ o μ'} {K : Bool → Hp → Prop} (hE : EnvR R α F σ ρ) (hl : Rl R α F μ H) (hm : xTest m k ρ μ = some (o, μ')) (hp : PostS R W E α F o μ')
    (hk : ∀ d μ1 α1 F1 H1, k d ρ μ1 = some (o, μ') → Nx R α F μ1 α1 F1 H1 → EnvR R α1 F1 σ ρ → PostS R W E α1 F1 o μ' → K d H1) : tDB R W m σ H K := by
  unfold xTest at hm
  split at hm
  · rename_i d μ1 e
    exact ⟨α, F, μ, ρ, _, μ1, hE, hl, e, fun α1 F1 H1 n1 => hk d μ1 α1 F1 H1 hm n1 (hE.mono n1) (PostS.weak n1 hp)⟩
  · rename_i x μ1 e
    cases hm
    exact ⟨α, F, μ, ρ, _, _, hE, hl, e, fun α1 F1 H1 cls dd n1 xx => hp α1 F1 H1 σ cls dd n1 (hE.mono n1) xx⟩
  · cases hm
theorem pssd_nil : PSsD R X W [] xNil := pssd_of pss_nil fun E σ H α F μ ρ o μ' hE hl hm hp => by
  cases hm
  exact hp α F H σ (Nx.refl hl) hE
theorem seq_sp {m1 m2 : Ex} {E : Ends} {σ : L2.St} {H : Hp} {α F μ ρ o μ'} (hE : EnvR R α F σ ρ) (hl : Rl R α F μ H) (hm : xSeq m1 m2 ρ μ = some (o, μ')) (hp : PostS R W E α F o μ') : tS R W m1 { E with nx := tS R W m2 E } σ H := by
  unfold xSeq at hm
  split at hm
  · rename_i ρ1 μ1 e
    exact ⟨α, F, μ, ρ, _, μ1, hE, hl, e, fun α1 F1 H1 σ1 n1 e1 => ⟨α1, F1, μ1, ρ1, o, μ', e1, n1.2.2, hm, PostS.weak n1 hp⟩⟩
  · rename_i hne
    refine ⟨α, F, μ, ρ, o, μ', hE, hl, hm, ?_⟩
    cases o with
    | nx ρ' => exact absurd hm (hne ρ' μ')
    | _ => exact hp
theorem pssd_cons {st : Stmt} {sts : List Stmt} {m1 m2 : Ex} (h1 : PSD R X W st m1) (h2 : PSsD R X W sts m2) : PSsD R X W (st :: sts) (xSeq m1 m2) :=
  pssd_of (pss_cons h1 h2) fun E σ H α F μ ρ o μ' hE hl hm hp => seq_sp hE hl hm hp
def xExpr (m : Rho → Ev D) : Ex := xBind m fun _ => xNil
def xRet (m : Rho → Ev D) : Ex := xBind m fun d _ μ => some (.rt d, μ)
def xIf (m : Rho → Ev Bool) (a b : Ex) : Ex := xTest m fun c => if c = true then a else b
theorem psd_expr {e : Expr} {pos : Pos} {m : Rho → Ev D} (h : PED R X W e m) (hs : swapsWith e none pos.line X.env = pure false) : PSD R X W (.Expr e pos) (xExpr m) :=
  psd_of (ps_expr h hs) fun E σ H α F μ ρ o μ' hE hl hm hp => xbind_sp hE hl hm hp fun d μ1 α1 F1 H1 v1 hk n1 r1 e1 p1 => by
    cases hk
    exact p1 α1 F1 H1 σ (Nx.refl n1.2.2) e1
theorem psd_ret {e : Expr} {pos : Pos} {m : Rho → Ev D} (h : PED R X W e m) : PSD R X W (.Return (some e) pos) (xRet m) :=
  psd_of (ps_ret h) fun E σ H α F μ ρ o μ' hE hl hm hp => xbind_sp hE hl hm hp fun d μ1 α1 F1 H1 v1 hk n1 r1 e1 p1 => by
    cases hk
    exact p1 α1 F1 H1 v1 (Nx.refl n1.2.2) r1
theorem psd_retN {pos : Pos} : PSD R X W (.Return none pos) (fun _ μ => some (.rt .non, μ)) :=
  psd_of ps_retN fun E σ H α F μ ρ o μ' hE hl hm hp => by
    cases hm
    exact hp α F H .non (Nx.refl hl) .non
theorem psd_if {c : Expr} {a b : List Stmt} {pos : Pos} {mc : Rho → Ev Bool} {ma mb : Ex} (hc : PTD R X W c mc) (ha : PSsD R X W a ma) (hb : PSsD R X W b mb) : PSD R X W (.If c a b pos) (xIf mc ma mb) :=
  psd_of (ps_if hc ha hb) fun E σ H α F μ ρ o μ' hE hl hm hp => xtest_sp hE hl hm hp fun d μ1 α1 F1 H1 hk n1 e1 p1 => by
    cases d with
    | true => rw [if_pos rfl] at hk ⊢; exact ⟨α1, F1, μ1, ρ, o, μ', e1, n1.2.2, hk, p1⟩
    | false => rw [if_neg Bool.false_ne_true] at hk ⊢; exact ⟨α1, F1, μ1, ρ, o, μ', e1, n1.2.2, hk, p1⟩
theorem psd_pass {pos : Pos} : PSD R X W (.Pass pos) xNil := psd_of ps_pass fun E σ H α F μ ρ o μ' hE hl hm hp => by
  cases hm
  exact hp α F H σ (Nx.refl hl) hE
theorem psd_doc {x j pos pos'} : PSD R X W (.Expr (.Constant (.str x) j pos) pos') xNil := psd_of ps_doc fun E σ H α F μ ρ o μ' hE hl hm hp => by
  cases hm
  exact hp α F H σ (Nx.refl hl) hE
theorem psd_break {pos : Pos} : PSD R X W (.Break pos) (fun ρ μ => some (.bk ρ, μ)) := psd_of ps_break fun E σ H α F μ ρ o μ' hE hl hm hp => by
  cases hm
  exact hp α F H σ (Nx.refl hl) hE
theorem psd_cont {pos : Pos} : PSD R X W (.Continue pos) (fun ρ μ => some (.ct ρ, μ)) := psd_of ps_continue fun E σ H α F μ ρ o μ' hE hl hm hp => by
  cases hm
  exact hp α F H σ (Nx.refl hl) hE
/-- a statement that is never reached -/
theorem psd_never {st : Stmt} : PSD R X W st (fun _ _ => none) := psd_of ps_never fun E σ H α F μ ρ o μ' hE hl hm hp => nomatch hm
theorem pssd_never {st : List Stmt} : PSsD R X W st (fun _ _ => none) := pssd_of pss_never fun E σ H α F μ ρ o μ' hE hl hm hp => nomatch hm
/-! targets -/
abbrev Tgt := D → Rho → Option Rho
/-- the slots vs forgotten -/
theorem wipe_get {σ : L2.St} : ∀ (vs : List Nat) (j : Nat), (L2.wipe σ vs)[j]? = if j ∈ vs then (σ[j]?).map (fun _ => none) else σ[j]?
  | [], j => by simp [L2.wipe]
  | v :: vs, j => by
    unfold L2.wipe
    by_cases h : v = j
    · subst h
      rw [if_pos (by simp)]
      by_cases hl : v < σ.length
      · rw [List.getElem?_set_self (by rw [L2.wipe_length]; exact hl), List.getElem?_eq_getElem hl]
        rfl
      · rw [List.getElem?_eq_none (by rw [List.length_set, L2.wipe_length]; omega), List.getElem?_eq_none (by omega)]
        rfl
    · rw [List.getElem?_set_ne h, wipe_get vs j]
      have : (j ∈ v :: vs) ↔ j ∈ vs := by simp [Ne.symm h]
      simp only [this]
theorem wipe_wipe {σ : L2.St} {vs : List Nat} : L2.wipe (L2.wipe σ vs) vs = L2.wipe σ vs := by
  apply List.ext_getElem?
  intro j
  rw [wipe_get, wipe_get]
  by_cases hj : j ∈ vs
  · rw [if_pos hj, if_pos hj, Option.map_map]; rfl
  · rw [if_neg hj, if_neg hj]
theorem wipe_set {σ : L2.St} {vs : List Nat} {i : Nat} {x : Option V} (h : i ∈ vs) : L2.wipe (σ.set i x) vs = L2.wipe σ vs := by
  apply List.ext_getElem?
  intro j
  rw [wipe_get, wipe_get]
  by_cases hj : j ∈ vs
  · rw [if_pos hj, if_pos hj]
    by_cases hij : i = j
    · subst hij
      by_cases hl : i < σ.length
      · rw [List.getElem?_set_self hl, List.getElem?_eq_getElem hl]
        rfl
      · rw [List.getElem?_eq_none (by rw [List.length_set]; omega), List.getElem?_eq_none (by omega)]
    · rw [List.getElem?_set_ne hij]
  · rw [if_neg hj, if_neg hj]
    have hij : i ≠ j := fun e => hj (e ▸ h)
    rw [List.getElem?_set_ne hij]
def tG (R : Rc) (vs : List Nat) (g : Tgt) : TG := fun v σ H Q => ∃ α F μ ρ d ρ', EnvR R α F σ ρ ∧ Rl R α F μ H ∧ Rep R α F v d ∧ g d ρ = some ρ' ∧ ∀ α' F' H' σ', Nx R α F μ α' F' H' → L2.wipe σ' vs = L2.wipe σ vs → EnvR R α' F' σ' ρ' → Q σ' H'
def tGs (R : Rc) (ws : List Nat) (g : List D → Rho → Option Rho) : TGs := fun vs σ H Q => ∃ α F μ ρ ds ρ', EnvR R α F σ ρ ∧ Rl R α F μ H ∧ RepL R α F vs ds ∧ g ds ρ = some ρ' ∧ ∀ α' F' H' σ', Nx R α F μ α' F' H' → L2.wipe σ' ws = L2.wipe σ ws → EnvR R α' F' σ' ρ' → Q σ' H'
def PGD (R : Rc) (X : Cx) (tg : Expr) (vs : List Nat) (g : Tgt) : Prop := PG X tg (tG R vs g)
def PGsD (R : Rc) (X : Cx) (tgs : List Expr) (vs : List Nat) (g : List D → Rho → Option Rho) : Prop := PGs X tgs (tGs R vs g)
theorem pg_imp {e : Expr} {t t' : TG} (h : PG X e t) (i : ∀ v σ H Q, t' v σ H Q → t v σ H Q) : PG X e t' := ⟨fun pins s σ H v u Q I r w => h.run pins s σ H v u Q I r (i v σ H Q w)⟩
theorem pgs_imp {e : List Expr} {t t' : TGs} (h : PGs X e t) (i : ∀ v σ H Q, t' v σ H Q → t v σ H Q) : PGs X e t' := ⟨fun pins s σ H v u Q I r w => h.run pins s σ H v u Q I r (i v σ H Q w)⟩
def gNm (i : Nat) : Tgt := fun d ρ => if i < ρ.length then some (ρ.set i (some d)) else none
theorem EnvR.set {α : List Addr} {F : Hp} {σ : L2.St} {ρ : Rho} (h : EnvR R α F σ ρ) {i : Nat} {v : V} {d : D} (r : Rep R α F v d) : EnvR R α F (σ.set i (some v)) (ρ.set i (some d)) := by
  refine ⟨by rw [List.length_set, List.length_set]; exact h.1, fun j e hj => ?_⟩
  by_cases hij : i = j
  · subst hij
    by_cases hlt : i < ρ.length
    · rw [List.getElem?_set_self hlt] at hj
      cases hj
      exact ⟨v, List.getElem?_set_self (by rw [← h.1]; exact hlt), r⟩
    · rw [List.getElem?_eq_none (by rw [List.length_set]; omega)] at hj
      cases hj
  · rw [List.getElem?_set_ne hij] at hj
    obtain ⟨w, e1, e2⟩ := h.2 j e hj
    exact ⟨w, by rw [List.getElem?_set_ne hij]; exact e1, e2⟩
theorem pgd_name {vs : List Nat} {i : Nat} (hvs : i ∈ vs) {x : Str} {pos : Pos} (hN : X.N.Nodup) (hi : X.N[i]? = some x) (hx : Loc X.env.scope x) (hf : X.fn x = true ∨ X.env.scope.names.lookup x = some .local) : PGD R X (.Name x pos) vs (gNm i) :=
  pg_imp (pg_name hN hi hx hf) fun v σ H Q ⟨α, F, μ, ρ, d, ρ', hE, hl, r, e, hq⟩ => by
    unfold gNm at e
    split at e
    · cases e
      exact hq α F H _ (Nx.refl hl) (wipe_set hvs) (hE.set r)
    · cases e
def gsNil : List D → Rho → Option Rho
  | [], ρ => some ρ
  | _, _ => none
def gsCons (g : Tgt) (r : List D → Rho → Option Rho) : List D → Rho → Option Rho
  | d :: ds, ρ => (g d ρ).bind (r ds)
  | _, _ => none
theorem pgsd_nil {ws : List Nat} : PGsD R X [] ws gsNil := pgs_imp pgs_nil fun vs σ H Q ⟨α, F, μ, ρ, ds, ρ', hE, hl, r, e, hq⟩ => by
  cases r with
  | nil => cases e; exact ⟨rfl, hq α F H σ (Nx.refl hl) rfl hE⟩
  | cons => cases e
theorem pgsd_cons {e : Expr} {es : List Expr} {g : Tgt} {u : List D → Rho → Option Rho} {ws : List Nat} (h1 : PGD R X e ws g) (h2 : PGsD R X es ws u) (hs : (match e with | .Starred .. => false | _ => true) = true) : PGsD R X (e :: es) ws (gsCons g u) := by
  have hs' : ∀ a b, e ≠ .Starred a b := fun a b z => by subst z; cases hs
  refine pgs_imp (pgs_cons h1 h2 (by cases e <;> first | rfl | exact absurd rfl (hs' _ _))) fun vs σ H Q ⟨α, F, μ, ρ, ds, ρ', hE, hl, r, e, hq⟩ => ?_
  cases r with
  | nil => cases e
  | cons r1 t =>
    rename_i v d vs' ds'
    simp only [gsCons, Option.bind_eq_some_iff] at e
    obtain ⟨ρ1, e1, e2⟩ := e
    exact ⟨_, _, rfl, α, F, μ, ρ, _, ρ1, hE, hl, r1, e1, fun α1 F1 H1 σ1 n1 w1 x1 => ⟨α1, F1, μ, ρ1, _, ρ', x1, n1.2.2, n1.repL t, e2, fun α2 F2 H2 σ2 n2 w2 x2 => hq α2 F2 H2 σ2 (n1.trans n2) (w2.trans w1) x2⟩⟩
def gTupD (n : Nat) (u : List D → Rho → Option Rho) : Tgt
  | .tup ds, ρ => if ds.length = n then u ds ρ else none
  | _, _ => none
theorem pgd_tup {ws : List Nat} (hK : X.K = R.K) {es : List Expr} {k n : Nat} {pos : Pos} {u : List D → Rho → Option Rho} (hc : X.calm = true) (h : PGsD R X es ws u) (hn : (assignEach es X.env).length = n) (hst : (assignEach es X.env).findIdx? (·.1) = none) : PGD R X (.Tuple es k pos) ws (gTupD n u) :=
  pg_imp (pg_tup hc h hn hst) fun v σ H Q ⟨α, F, μ, ρ, d, ρ', hE, hl, r, e, hq⟩ => by
    unfold gTupD at e
    split at e
    · split at e
      · rename_i hlen
        obtain ⟨a, vs, rfl, h, la⟩ := tup_ok hl r
        exact ⟨a, vs, rfl, hK ▸ h, by rw [la.length]; exact hlen, α, F, μ, ρ, _, ρ', hE, hl, la, e, hq⟩
      · cases e
    · cases e
/-- x = e, (x, y) = e -/
def xAsg (m : Rho → Ev D) (g : Tgt) : Ex := xBind m fun d ρ μ => (g d ρ).map fun ρ' => (.nx ρ', μ)
theorem psd_asg {tg e : Expr} {pos : Pos} {m : Rho → Ev D} {g : Tgt} {vs : List Nat} (he : PED R X W e m) (hg : PGD R X tg vs g) (hs : swapsWithSole [tg] e pos.line X.env = pure false) (hw : swappedStores [tg] e X.env = pure none) (h1 : (assignEach [tg] X.env).map (·.2) = [assign tg X.env]) : PSD R X W (.Assign [tg] e pos) (xAsg m g) :=
  psd_of (ps_asg he hg hs hw h1) fun E σ H α F μ ρ o μ' hE hl hm hp => xbind_sp hE hl hm hp fun d μ1 α1 F1 H1 v1 hk n1 r1 e1 p1 => by
    rw [Option.map_eq_some_iff] at hk
    obtain ⟨ρ', e2, hk⟩ := hk
    cases hk
    exact ⟨α1, F1, _, ρ, d, ρ', e1, n1.2.2, r1, e2, fun α' F' H' σ' n _ e => p1 α' F' H' σ' n e⟩
/-- xs[i] = e: the value first -/
def setD (o i v : D) (μ : Store) : Option Store := match cellL o μ, i with
  | some (n, xs), .int k => (ixN xs.length k).map fun j => μ.set n (.lst (xs.set j v))
  | _, _ => none
def xSub (mv mo mi : Rho → Ev D) : Ex := xBind mv fun v => xBind mo fun o => xBind mi fun i ρ μ => (setD o i v μ).map fun μ' => (.nx ρ, μ')
theorem psd_sub {o i e : Expr} {spos pos : Pos} {mo mi mv : Rho → Ev D} (he : PED R X W e mv) (ho : PED R X W o mo) (hi : PED R X W i mi) (hs : swapsWithSole [.Subscript o i spos] e pos.line X.env = pure false) (hw : swappedStores [.Subscript o i spos] e X.env = pure none)
    (ha : ∀ v, assign (.Subscript o i spos) X.env v = (do
      let ov ← holding [v] (eval o X.env)
      let iv ← holding [v, ov] (eval i X.env)
      standAt spos
      holding [v, ov, iv] (setItem ov iv v)
      release [v, ov, iv] [])) : PSD R X W (.Assign [.Subscript o i spos] e pos) (xSub mv mo mi) :=
  psd_of (ps_asg he (pg_sub ho hi set_list ha) hs hw) fun E σ H α F μ ρ q μ' hE hl hm hp => xbind_sp hE hl hm hp fun v μ1 α1 F1 H1 v1 hk n1 r1 e1 p1 =>
    xbind_sp e1 n1.2.2 hk p1 fun o μ2 α2 F2 H2 v2 hk2 n2 r2 e2 p2 => xbind_sp e2 n2.2.2 hk2 p2 fun i μ3 α3 F3 H3 v3 hk3 n3 r3 e3 p3 => by
      rw [Option.map_eq_some_iff] at hk3
      obtain ⟨μ4, e4, hk3⟩ := hk3
      cases hk3
      unfold setD at e4
      split at e4
      · rename_i n xs k q
        rw [Option.map_eq_some_iff] at e4
        obtain ⟨j, e5, e4⟩ := e4
        subst e4
        obtain ⟨a, vs, rfl, ha, la, hw⟩ := cellL_ok n3.2.2 (n3.rep r2) q
        cases r3
        refine ⟨a, vs, k, j, rfl, rfl, ha, by rw [la.length]; exact e5, ?_⟩
        exact p3 α3 F3 _ σ (Nx.wr (hw _ _ (paired_set ((n2.trans n3).rep r1) j la))) e3
      · cases e4
/-- o.f = e: the value first -/
def putFD (f : Str) (v : D) : List (Str × D) → List (Str × D)
  | [] => [(f, v)]
  | (g, w) :: r => if g = f then (g, v) :: r else (g, w) :: putFD f v r
theorem repF_put {α : List Addr} {F : Hp} {f : Str} {v : V} {d : D} (r : Rep R α F v d) : ∀ {gs : List (Str × V)} {fs : List (Str × D)}, RepF R α F gs fs → RepF R α F (putF f v gs) (putFD f d fs)
  | _, _, .nil => .cons ⟨rfl, r⟩ .nil
  | _, _, .cons (a := p) (b := q) h t => by
    obtain ⟨p1, p2⟩ := p
    obtain ⟨q1, q2⟩ := q
    obtain ⟨h1, h2⟩ := h
    simp only at h1 h2
    subst h1
    unfold putF putFD
    split
    · exact .cons ⟨rfl, r⟩ t
    · exact .cons ⟨rfl, h2⟩ (repF_put r t)
def setF (T : Nat → Str → Bool) (f : Str) (o v : D) (μ : Store) : Option Store := match o with
  | .loc n => (match μ[n]? with
    | some (.ins c fs) => guardD (T c f && decide (fs.length < 1000)) (μ.set n (.ins c (putFD f v fs)))
    | _ => none)
  | _ => none
def xFld (T : Nat → Str → Bool) (f : Str) (mv mo : Rho → Ev D) : Ex := xBind mv fun v => xBind mo fun o ρ μ => (setF T f o v μ).map fun μ' => (.nx ρ, μ')
theorem setF_ok {T : Nat → Str → Bool} (hT : FldOk R.K R T) {α : List Addr} {F H : Hp} {μ μ' : Store} (hl : Rl R α F μ H) {f : Str} {x y : V} {o v : D} (rx : Rep R α F x o) (ry : Rep R α F y v) (e : setF T f o v μ = some μ') :
    ∃ a c dx gs, x = .ref a ∧ H a = some (.ins (R.cA c) dx gs) ∧ Cls R.K (R.cA c) ∧ NoAttr R.K (R.cA c) f ∧ gs.length < 1000 ∧ Rl R α F μ' (upd H a (.ins (R.cA c) dx (putF f y gs))) := by
  unfold setF at e
  split at e
  · rename_i n
    split at e
    · rename_i c fs q
      obtain ⟨z, e⟩ := guardD_some e
      simp only [Bool.and_eq_true, decide_eq_true_eq] at z
      subst e
      obtain ⟨a, rfl, ha⟩ := rx.loc_inv
      obtain ⟨dx, gs, h1, h2⟩ := hl.cell n a _ ha q
      exact ⟨a, c, dx, gs, rfl, h1, (hT c f z.1).1, (hT c f z.1).2, by rw [h2.length]; exact z.2, hl.write ha q rfl rfl ⟨dx, _, upd_same, repF_put ry h2⟩⟩
    · cases e
  · cases e
theorem psd_fld (hK : X.K = R.K) {T : Nat → Str → Bool} (hT : FldOk R.K R T) {o e : Expr} {f : Str} {pos pos' : Pos} {mo mv : Rho → Ev D} (he : PED R X W e mv) (ho : PED R X W o mo) (hs : swapsWith e (some (.Attribute o f pos')) pos.line X.env = pure false) :
    PSD R X W (.Assign [.Attribute o f pos'] e pos) (xFld T f mv mo) :=
  psd_of (ps_fld ho he hs) fun E σ H α F μ ρ q μ' hE hl hm hp => xbind_sp hE hl hm hp fun v μ1 α1 F1 H1 v1 hk n1 r1 e1 p1 =>
    xbind_sp e1 n1.2.2 hk p1 fun o μ2 α2 F2 H2 v2 hk2 n2 r2 e2 p2 => by
      rw [Option.map_eq_some_iff] at hk2
      obtain ⟨μ4, e4, hk2⟩ := hk2
      cases hk2
      obtain ⟨a, c, dx, gs, rfl, ha, h1, h2, h3, h4⟩ := setF_ok hT n2.2.2 r2 (n2.rep r1) e4
      exact ⟨a, _, dx, gs, rfl, ha, hK ▸ h1, hK ▸ h2, h3, p2 α2 F2 _ σ (Nx.wr h4) e2⟩
/-- a, b = e1, e2 -/
def xPar (i j : Nat) (ma : Rho → Ev (List D)) : Ex := fun ρ μ => match ma ρ μ with
  | some (.ok [x, y], μ1) => if i < ρ.length ∧ j < ρ.length then some (.nx ((ρ.set i (some x)).set j (some y)), μ1) else none
  | some (.err x, μ1) => some (.er x ρ, μ1)
  | _ => none
theorem psd_par {i j : Nat} {x y : Str} {a b : Expr} {ma : Rho → Ev (List D)} {px py pt pos : Pos} {kt k2 pt2} (hc : X.calm = true) (hN : X.N.Nodup) (hi : X.N[i]? = some x) (hj : X.N[j]? = some y) (hij : i ≠ j) (hx : X.env.scope.names.lookup x = some .local) (hy : X.env.scope.names.lookup y = some .local)
    (ha : PAD R X W [a, b] ma) (hw : SwapTo X (.Tuple [.Name x px, .Name y py] kt pt) (.Tuple [a, b] k2 pt2) [x, y]) : PSD R X W (.Assign [.Tuple [.Name x px, .Name y py] kt pt] (.Tuple [a, b] k2 pt2) pos) (xPar i j ma) :=
  psd_of (ps_par hc hN hi hj hij hx hy ha hw) fun E σ H α F μ ρ o μ' hE hl hm hp => by
    unfold xPar at hm
    split at hm
    · rename_i d1 d2 μ1 e
      split at hm
      · cases hm
        refine ⟨α, F, μ, ρ, _, _, hE, hl, e, fun α1 F1 H1 vs n1 r1 => ?_⟩
        cases r1 with
        | cons h1 t1 =>
          cases t1 with
          | cons h2 t2 =>
            cases t2
            exact ⟨_, _, rfl, hp α1 F1 H1 _ n1 (((hE.mono n1).set h1).set h2)⟩
      · cases hm
    · rename_i x μ1 e
      cases hm
      exact ⟨α, F, μ, ρ, _, _, hE, hl, e, fun α1 F1 H1 cls dd n1 xx => hp α1 F1 H1 σ cls dd n1 (hE.mono n1) xx⟩
    · cases hm
/-- a cell at a name, written no more (no statement of the text) -/
def xFrz (i : Nat) (m : Ex) : Ex := fun ρ μ => match ρ[i]? with
  | some (some (.loc n)) => (match freezeD n μ with
    | some (d, μ2) => m (ρ.set i (some d)) μ2
    | none => none)
  | _ => none
theorem set_same {α : Type} {σ : List α} {i : Nat} {v : α} (hv : σ[i]? = some v) : σ.set i v = σ := by
  apply List.ext_getElem?
  intro j
  by_cases hij : i = j
  · subst hij
    rw [List.getElem?_set_self (List.getElem?_eq_some_iff.mp hv).1, hv]
  · rw [List.getElem?_set_ne hij]
theorem frz_sp {i : Nat} {m : Ex} {E : Ends} {σ : L2.St} {H : Hp} (h : tS R W (xFrz i m) E σ H) : tS R W m E σ H := by
  obtain ⟨α, F, μ, ρ, o, μ', hE, hl, hm, hp⟩ := h
  unfold xFrz at hm
  split at hm
  · rename_i n hn
    split at hm
    · rename_i d μ2 e1
      obtain ⟨v, hv, rv⟩ := hE.2 i _ hn
      obtain ⟨F', n1, r1⟩ := freeze_ok hl rv e1
      refine ⟨α, F', _, _, o, μ', ?_, n1.2.2, hm, PostS.weak n1 hp⟩
      have z := (hE.mono n1).set (i := i) r1
      rw [set_same hv] at z
      exact z
    · cases hm
  · cases hm
theorem pssd_frz {i : Nat} {sts : List Stmt} {m : Ex} (h : PSsD R X W sts m) : PSsD R X W sts (xFrz i m) := pss_imp h fun E σ H h => frz_sp h
/-! ### x op= e -/
/-- an own in-place operator: the left side an instance of the class c -/
def xAugO (i c : Nat) (me : Rho → Ev D) (g : Sem1) : Ex := fun ρ μ => match ρ[i]? with
  | some (some x) => (match me ρ μ with
    | some (.ok y, μ1) => (match insOf x μ1 with
      | some (c1, _) => if c1 = c then (match g [x, y] μ1 with
          | some (.ok z, μ2) => some (.nx (ρ.set i (some z)), μ2)
          | some (.err e, μ2) => some (.er e ρ, μ2)
          | none => none) else none
      | none => none)
    | some (.err e, μ1) => some (.er e ρ, μ1)
    | none => none)
  | _ => none
theorem aug_name {i : Nat} {x : Str} {e : Expr} {op : Operator} {pos' pos : Pos} {pins : List (Addr × Obj)} {s : Shared} {σ : L2.St} {H : Hp} {E : Ends} {v : V} {Q1 : VK} {tm : TE} (hN : X.N.Nodup) (hi : X.N[i]? = some x) (hx : Loc X.env.scope x) (hf : X.fn x = true ∨ X.env.scope.names.lookup x = some .local)
    (I : Inv X pins σ H s) (e1 : σ[i]? = some (some v)) (he : PE X e tm) (ht : tm σ H Q1)
    (ho : ∀ u w y H1 s1, RelV v u → RelV y w → Inv X pins σ H1 s1 → Q1 y H1 → wpAny (model X.prog X.w) X.A (inplaceOp op u w) (EP X pins σ fun z H2 => E.nx (σ.set i (some z)) H2) X.xe s1) :
    wpAny (model X.prog X.w) X.A (exec (.AugAssign (.Name x pos') op e pos) X.env) (SP X pins E) X.xe s := by
  obtain ⟨m, hn, hl⟩ := I.loc
  have vis := loc_vis hx
  obtain ⟨u, r, l⟩ := hl i x v hi e1 vis
  refine wpAny_AugAssign_Name ?_
  have go : wpAny (model X.prog X.w) X.A (eval e X.env) (fun w s₂ => wpAny (model X.prog X.w) X.A (inplaceOp op u w) (fun r s₃ => wpAny (model X.prog X.w) X.A (storeName X.env x r) (fun _ => SP X pins E .next) X.xe s₃) X.xe s₂) X.xe s := by
    refine thn (he.run pins s σ H _ I ht) fun w s1 ⟨y, H1, I1, r1, q1⟩ => ?_
    refine thn (ho u w y H1 s1 r r1 I1 q1) fun z s2 ⟨zv, H2, I2, r2, q2⟩ => ?_
    refine store_ok I2 hN hi hx r2 ?_ hf
    intro s3 I3
    exact ⟨_, H2, I3, q2⟩
  rcases l with ⟨hk, hm⟩ | ⟨hk, c, hc, hcell⟩
  · exact wpAny_loadName_local I.ok.kind hk hn hm go
  · rcases hk with hk | hk
    · exact wpAny_loadName_cell I.ok.kind hk hc hcell go
    · rcases hx with k | k
      · have : X.env.scope.names.lookup x = some .free := hk
        rw [k] at this; cases this
      · have : X.env.scope.names.lookup x = some .free := hk
        rw [k] at this; cases this
theorem psd_augO {k i c : Nat} {x : Str} {e : Expr} {op : Operator} {pos' pos : Pos} {sem : Sem1} {m : Rho → Ev D} (hN : X.N.Nodup) (hi : X.N[i]? = some x) (hx : Loc X.env.scope x) (hf : X.fn x = true ∨ X.env.scope.names.lookup x = some .local)
    (M : OpM X.prog X.w X.K X.mg X.base R k c (PySem.dunderI op.info.2) sem) (hr : Room k X.A) (tk : Takes X W) (he : PED R X W e m) : PSD R X W (.AugAssign (.Name x pos') op e pos) (xAugO i c m sem) :=
  ⟨fun pins s σ H E I ⟨α, F, μ, ρ, o, μ', hE, hl, hm, hp⟩ => by
    unfold xAugO at hm
    split at hm
    · rename_i d hd
      obtain ⟨v, e1, rv⟩ := hE.2 i d hd
      split at hm
      · rename_i y μ1 em
        refine aug_name hN hi hx hf I e1 he (Q1 := fun y1 H1 => ∃ α1 F1, Nx R α F μ1 α1 F1 H1 ∧ Rep R α1 F1 y1 y) ⟨α, F, μ, ρ, _, _, hE, hl, em, fun α1 F1 H1 v1 n1 r1 => ⟨α1, F1, n1, r1⟩⟩ fun u w y1 H1 s1 ru rw I1 ⟨α1, F1, n1, r1⟩ => ?_
        split at hm
        · rename_i c1 fs hi1
          split at hm
          · rename_i hc
            subst hc
            obtain ⟨p, dx, gs, rfl, ep, _⟩ := insOf_ok n1.2.2 (n1.rep rv) hi1
            obtain rfl : u = Value.ref p := ru
            obtain ⟨f, hf1, hi2, G⟩ := M.ex
            obtain ⟨_, J, _⟩ := ins_get I1.hok ep
            obtain ⟨od, J, _⟩ := J.look
            obtain ⟨m2, hF⟩ := I1.fr
            refine PySem.W.ksp_inplace hF I1.ok.mod.kin J M.sf hf1 hi2 (thn (run_D0 (us := [.ref p, w]) (vs := [.ref p, y1]) (Q := fun z H2 => E.nx (σ.set i (some z)) H2) G hr tk I1 (.cons rfl (.cons rw .nil)) rfl ?_) fun v s' h => back_of h)
            split at hm
            · rename_i z μ2 eg
              cases hm
              exact ⟨α1, F1, μ1, _, _, _, .cons (n1.rep rv) (.cons r1 .nil), n1.2.2, eg, fun α' F' H' v n2 rr => hp α' F' H' _ (n1.trans n2) (((hE.mono n1).mono n2).set rr)⟩
            · rename_i z μ2 eg
              cases hm
              exact ⟨α1, F1, μ1, _, _, _, .cons (n1.rep rv) (.cons r1 .nil), n1.2.2, eg, fun α' F' H' cls dd n2 xx => hp α' F' H' σ cls dd (n1.trans n2) ((hE.mono n1).mono n2) xx⟩
            · cases hm
          · cases hm
        · cases hm
      · rename_i x1 μ1 em
        cases hm
        exact aug_name hN hi hx hf I e1 he (Q1 := fun _ _ => False) ⟨α, F, μ, ρ, _, _, hE, hl, em, fun α1 F1 H1 cls dd n1 xx => hp α1 F1 H1 σ cls dd n1 (hE.mono n1) xx⟩ fun u w y1 H1 s1 ru rw I1 z => z.elim
      · cases hm
    · cases hm⟩
/-- ints: += and -= -/
def xAugI (i : Nat) (op : Operator) (me : Rho → Ev D) : Ex := fun ρ μ => match ρ[i]? with
  | some (some (.int a)) => (match me ρ μ with
    | some (.ok (.int b), μ1) => (match op with
      | .Add => some (.nx (ρ.set i (some (.int (a + b)))), μ1)
      | .Sub => some (.nx (ρ.set i (some (.int (a - b)))), μ1)
      | _ => none)
    | some (.err e, μ1) => some (.er e ρ, μ1)
    | _ => none)
  | _ => none
theorem psd_augI {i : Nat} {x : Str} {e : Expr} {op : Operator} {pos' pos : Pos} {m : Rho → Ev D} (hN : X.N.Nodup) (hi : X.N[i]? = some x) (hx : Loc X.env.scope x) (hf : X.fn x = true ∨ X.env.scope.names.lookup x = some .local)
    (he : PED R X W e m) : PSD R X W (.AugAssign (.Name x pos') op e pos) (xAugI i op m) :=
  ⟨fun pins s σ H E I ⟨α, F, μ, ρ, o, μ', hE, hl, hm, hp⟩ => by
    unfold xAugI at hm
    split at hm
    · rename_i a hd
      obtain ⟨v, e1, rv⟩ := hE.2 i _ hd
      cases rv
      split at hm
      · rename_i b μ1 em
        refine aug_name hN hi hx hf I e1 he (Q1 := fun y1 H1 => ∃ α1 F1, Nx R α F μ1 α1 F1 H1 ∧ Rep R α1 F1 y1 (.int b)) ⟨α, F, μ, ρ, _, _, hE, hl, em, fun α1 F1 H1 v1 n1 r1 => ⟨α1, F1, n1, r1⟩⟩ fun u w y1 H1 s1 ru rw I1 ⟨α1, F1, n1, r1⟩ => ?_
        cases r1
        split at hm
        · cases hm
          exact ip_add pins s1 σ H1 _ _ u w _ I1 ru rw ⟨a, b, rfl, rfl, hp α1 F1 H1 _ n1 ((hE.mono n1).set (.int _))⟩
        · cases hm
          exact ip_sub pins s1 σ H1 _ _ u w _ I1 ru rw ⟨a, b, rfl, rfl, hp α1 F1 H1 _ n1 ((hE.mono n1).set (.int _))⟩
        · cases hm
      · rename_i x1 μ1 em
        cases hm
        exact aug_name hN hi hx hf I e1 he (Q1 := fun _ _ => False) ⟨α, F, μ, ρ, _, _, hE, hl, em, fun α1 F1 H1 cls dd n1 xx => hp α1 F1 H1 σ cls dd n1 (hE.mono n1) xx⟩ fun u w y1 H1 s1 ru rw I1 z => z.elim
      · cases hm
    · cases hm⟩
end DL
/-! DL13: what is walked; for, while, list comprehensions. -/
namespace DL
open PySem PySem.Spec PyProof.Rows L2
variable {R : Rc} {X : Cx} {W : WX}
/-- J walks the items ds, whatever is made meanwhile -/
def Walks1 (R : Rc) (J : It) (α : List Addr) (F : Hp) (ds : List D) : Prop := ∀ α' F' μ' H', α <+: α' → Same F F' → Rl R α' F' μ' H' →
  (∀ i, ds.length ≤ i → J.stop i H') ∧ ∀ (i : Nat) d, ds[i]? = some d → J.go i H' ∧ ∀ x H'', J.yld i H' x H'' → ∃ α'' F'', Nx R α' F' μ' α'' F'' H'' ∧ Rep R α'' F'' x d
def Walks (R : Rc) (J : It) (α : List Addr) (F : Hp) (ds : List D) : Prop := ∀ P, Walks1 (R.wP P) J α F ds
theorem RepL.wP {α : List Addr} {F P : Hp} {vs : List V} {ds : List D} (h : RepL R α F vs ds) : RepL (R.wP P) α F vs ds := Paired.mapP h fun _ _ x => x.wP
theorem RepL.uP {α : List Addr} {F P : Hp} {vs : List V} {ds : List D} (h : RepL (R.wP P) α F vs ds) : RepL R α F vs ds := Paired.mapP h fun _ _ x => x.uP
theorem Walks.mono {J : It} {α α1 : List Addr} {F F1 : Hp} {ds : List D} (h : Walks R J α F ds) (ha : α <+: α1) (hF : Same F F1) : Walks R J α1 F1 ds := fun P α' F' μ' H' a b c => h P α' F' μ' H' (ha.trans a) (hF.trans b) c
def PostI (R : Rc) (W : WX) (σ : L2.St) (α : List Addr) (F : Hp) (K : It → Hp → Prop) : Res (List D) → Store → Prop
  | .ok ds, μ' => ∀ α' F' H' J, Nx R α F μ' α' F' H' → Walks R J α' F' ds → K J H'
  | .err x, μ' => ∀ α' F' H' cls dd, Nx R α F μ' α' F' H' → XOk R α' F' H' cls dd x → W cls dd σ H'
def tI (R : Rc) (W : WX) (m : Rho → Ev (List D)) : TI := fun σ H K => ∃ α F μ ρ r μ', EnvR R α F σ ρ ∧ Rl R α F μ H ∧ m ρ μ = some (r, μ') ∧ PostI R W σ α F K r μ'
def PID (R : Rc) (X : Cx) (W : WX) (tg iter : Expr) (m : Rho → Ev (List D)) : Prop := PI X tg iter (tI R W m)
theorem pi_imp {tg e : Expr} {t t' : TI} (h : PI X tg e t) (i : ∀ σ H K, t' σ H K → t σ H K) : PI X tg e t' := ⟨fun pins s σ H K I w => h.run pins s σ H K I (i σ H K w)⟩
/-! the walks -/
theorem walks_list1 (hK : X.K = R.K) {α : List Addr} {F : Hp} {a : Addr} {vs : List V} {ds : List D} (h : SqL R.K F a vs) (r : RepL R α F vs ds) : Walks1 R (Itl X.K a) α F ds := fun α' F' μ' H' ha hF hl => by
  have h' : SqL X.K H' a vs := hK ▸ hl.sub.seq (hF.seq h)
  refine ⟨fun i hi => ⟨vs, h', by rw [r.length]; exact hi⟩, fun i d hd => ?_⟩
  obtain ⟨v, hv, rv⟩ := paired_left r i d hd
  exact ⟨⟨vs, v, h', hv⟩, fun x H'' ⟨e, hx⟩ => ⟨α', F', by subst e; exact Nx.refl hl, by
    have := hx vs h'
    rw [hv] at this
    cases this
    exact rv.mono ha hF⟩⟩
theorem walks_list (hK : X.K = R.K) {α : List Addr} {F : Hp} {a : Addr} {vs : List V} {ds : List D} (h : SqL R.K F a vs) (r : RepL R α F vs ds) : Walks R (Itl X.K a) α F ds := fun P => walks_list1 (R := R.wP P) hK h r.wP
theorem walks_tup1 (hK : X.K = R.K) {α : List Addr} {F : Hp} {a : Addr} {vs : List V} {ds : List D} (h : SqT R.K F a vs) (r : RepL R α F vs ds) : Walks1 R (Itt X.K a) α F ds := fun α' F' μ' H' ha hF hl => by
  have h' : SqT X.K H' a vs := hK ▸ Same.sqT hl.sub (Same.sqT hF h)
  refine ⟨fun i hi => ⟨vs, h', by rw [r.length]; exact hi⟩, fun i d hd => ?_⟩
  obtain ⟨v, hv, rv⟩ := paired_left r i d hd
  exact ⟨⟨vs, v, h', hv⟩, fun x H'' ⟨e, hx⟩ => ⟨α', F', by subst e; exact Nx.refl hl, by
    have := hx vs h'
    rw [hv] at this
    cases this
    exact rv.mono ha hF⟩⟩
theorem walks_tup (hK : X.K = R.K) {α : List Addr} {F : Hp} {a : Addr} {vs : List V} {ds : List D} (h : SqT R.K F a vs) (r : RepL R α F vs ds) : Walks R (Itt X.K a) α F ds := fun P => walks_tup1 (R := R.wP P) hK h r.wP
def rngD (lo : Int) (n : Nat) : List D := (List.range n).map fun (i : Nat) => D.int (lo + (i : Int))
theorem walks_range {α : List Addr} {F : Hp} {lo : Int} {n : Nat} : Walks R (Itr lo n) α F (rngD lo n) := fun P α' F' μ' H' ha hF hl => by
  refine ⟨fun i hi => by
    show n ≤ i
    simpa [rngD] using hi, fun i d hd => ?_⟩
  have hi : i < n := by
    have := (List.getElem?_eq_some_iff.mp hd).1
    simpa [rngD] using this
  refine ⟨hi, fun x H'' ⟨e, hx⟩ => ⟨α', F', by subst e; exact Nx.refl hl, ?_⟩⟩
  simp only [rngD, List.getElem?_map, List.getElem?_range hi, Option.map_some, Option.some.injEq] at hd
  subst hd hx
  exact .int _
/-- a list or tuple that stays -/
def sqPure : D → Option (List D)
  | .lst ds => some ds
  | .klst ds => some ds
  | .tup ds => some ds
  | _ => none
def mSeq (m : Rho → Ev D) : Rho → Ev (List D) := fun ρ => (m ρ).bind fun d μ => (sqPure d).map fun ds => (.ok ds, μ)
theorem pid_seq (hK : X.K = R.K) {tg e : Expr} {m : Rho → Ev D} (h : PED R X W e m) : PID R X W tg e (mSeq m) :=
  ⟨fun pins s σ H K I ⟨α, F, μ, ρ, r, μ', hE, hl, hm, hp⟩ => by
    rcases Ev.bind_inv hm with ⟨d, μ1, e1, hm1⟩ | ⟨x, e1, rfl⟩
    · rw [Option.map_eq_some_iff] at hm1
      obtain ⟨ds, e2, e3⟩ := hm1
      cases e3
      have hl' : tD R W m σ H fun v H1 => ∃ α1 F1, Nx R α F μ' α1 F1 H1 ∧ Rep R α1 F1 v d := ⟨α, F, μ, ρ, _, _, hE, hl, e1, fun α1 F1 H1 v1 n1 r1 => ⟨α1, F1, n1, r1⟩⟩
      refine thn (PE.run h pins s σ H _ I hl') fun v s1 ⟨x, H1, I1, rx, α1, F1, n1, r1⟩ => ?_
      have lst : ∀ {a : Addr} {vs : List V}, x = .ref a → SqL R.K F1 a vs → RepL R α1 F1 vs ds → wpAny (model X.prog X.w) X.A (pyIter v) (PIE X pins σ tg K) X.xe s1 := fun {a vs} ex hs rl => by
        subst ex
        cases rx
        have hs1 : SqL X.K H1 a vs := hK ▸ n1.2.2.sub.seq hs
        obtain ⟨its, rv, p, hz⟩ := I1.list hs1
        refine wpAny_pyIter_list p.isList ?_
        refine ⟨s1.heap.objs.size, [s1.heap.objs.size], _, _, H1, rfl, I1.kept (t' := s1.toks) fun b o e => Heap.get?_push_of_some _ e, turn_list a _, ⟨_, Heap.get?_push_size _ rfl, rfl, rfl⟩, fun b hb => ?_, hp α1 F1 H1 _ n1 (walks_list hK hs rl)⟩
        cases List.mem_singleton.mp hb
        have young := Nat.le_refl s1.heap.objs.size
        exact I1.fpOk young (I1.hok.fresh young)
      cases d with
      | lst xs => cases e2; obtain ⟨a, vs, ex, hs, rl⟩ := r1.lst_inv; exact lst ex (SqL.of hs) rl
      | klst xs => cases e2; obtain ⟨a, vs, ex, hs, rl⟩ := r1.klst_inv; exact lst ex hs rl
      | tup xs =>
        cases e2
        obtain ⟨a, vs, ex, hs, rl⟩ := r1.tup_inv
        subst ex
        cases rx
        have hs1 : SqT X.K H1 a vs := hK ▸ Same.sqT n1.2.2.sub hs.sq
        obtain ⟨its, rv, p, hz⟩ := I1.tuple hs1
        have isTuple : s1.heap.IsTuple a its.toArray := p
        apply wpAny_pyIter_tuple isTuple
        refine ⟨s1.heap.objs.size, [s1.heap.objs.size], _, _, H1, rfl, I1.kept (t' := s1.toks) fun b o e => Heap.get?_push_of_some _ e, turn_tuple a _, ⟨_, Heap.get?_push_size _ rfl, rfl, rfl⟩, fun b hb => ?_, hp α1 F1 H1 _ n1 (walks_tup hK hs.sq rl)⟩
        cases List.mem_singleton.mp hb
        have young := Nat.le_refl s1.heap.objs.size
        exact I1.fpOk young (I1.hok.fresh young)
      | _ => cases e2
    · have hl' : tD R W m σ H fun v H1 => False := ⟨α, F, μ, ρ, _, _, hE, hl, e1, hp⟩
      exact thn (PE.run h pins s σ H _ I hl') fun v s1 ⟨x, H1, I1, rx, z⟩ => z.elim⟩
/-- range(n), range(a, b) -/
def bndI (j : Int) : Bool := decide (-(2 ^ 62) ≤ j) && decide (j < 2 ^ 62)
def mRange (m : Rho → Ev (List D)) : Rho → Ev (List D) := fun ρ => (m ρ).bind fun ds μ => match ds with
  | [.int j] => guardD (bndI j) (.ok (rngD 0 j.toNat), μ)
  | [.int i, .int j] => guardD (bndI i && bndI j) (.ok (rngD i (j - i).toNat), μ)
  | _ => none
theorem bndI_ok {j : Int} (h : bndI j = true) : -(2 ^ 62) ≤ j ∧ j < 2 ^ 62 := by
  unfold bndI at h
  simp only [Bool.and_eq_true, decide_eq_true_eq] at h
  exact h
theorem pid_range1 {tg a : Expr} {m : Rho → Ev (List D)} {p pos : Pos} (hg : Gl X "range") (hmg : X.mg "range" = none) (ha : PAD R X W [a] m) (hs : starEach [a] X.env = [(false, eval a X.env)]) (h1 : ∀ ρ μ ds μ', m ρ μ = some (.ok ds, μ') → ds.length = 1) :
    PID R X W tg (.Call (.Name "range" p) [a] [] pos) (mRange m) :=
  pi_imp (pi_range1 hg hmg ha hs) fun σ H K ⟨α, F, μ, ρ, r, μ', hE, hl, hm, hp⟩ => by
    rcases Ev.bind_inv hm with ⟨ds, μ1, e1, hm1⟩ | ⟨x, e1, rfl⟩
    · refine ⟨α, F, μ, ρ, _, _, hE, hl, e1, fun α1 F1 H1 vs n1 r1 => ?_⟩
      have hlen := h1 _ _ _ _ e1
      split at hm1
      · obtain ⟨hz, e⟩ := guardD_some hm1
        cases e
        cases r1 with
        | cons a1 t1 =>
          cases t1; cases a1
          exact ⟨_, rfl, (bndI_ok hz).1, (bndI_ok hz).2, hp α1 F1 H1 _ n1 walks_range⟩
      · simp at hlen
      · cases hm1
    · exact ⟨α, F, μ, ρ, _, _, hE, hl, e1, hp⟩
theorem pid_range2 {tg a b : Expr} {m : Rho → Ev (List D)} {p pos : Pos} (hg : Gl X "range") (hmg : X.mg "range" = none) (ha : PAD R X W [a, b] m) (hs : starEach [a, b] X.env = [(false, eval a X.env), (false, eval b X.env)]) (hs2 : starEach [b] X.env = [(false, eval b X.env)])
    (h1 : ∀ ρ μ ds μ', m ρ μ = some (.ok ds, μ') → ds.length = 2) : PID R X W tg (.Call (.Name "range" p) [a, b] [] pos) (mRange m) :=
  pi_imp (pi_range2 hg hmg ha hs hs2) fun σ H K ⟨α, F, μ, ρ, r, μ', hE, hl, hm, hp⟩ => by
    rcases Ev.bind_inv hm with ⟨ds, μ1, e1, hm1⟩ | ⟨x, e1, rfl⟩
    · refine ⟨α, F, μ, ρ, _, _, hE, hl, e1, fun α1 F1 H1 vs n1 r1 => ?_⟩
      have hlen := h1 _ _ _ _ e1
      split at hm1
      · simp at hlen
      · obtain ⟨hz, e⟩ := guardD_some hm1
        simp only [Bool.and_eq_true] at hz
        cases e
        cases r1 with
        | cons a1 t1 =>
          cases t1 with
          | cons a2 t2 =>
            cases t2; cases a1; cases a2
            exact ⟨_, _, rfl, ⟨(bndI_ok hz.1).1, (bndI_ok hz.1).2, (bndI_ok hz.2).1, (bndI_ok hz.2).2⟩, hp α1 F1 H1 _ n1 walks_range⟩
      · cases hm1
    · exact ⟨α, F, μ, ρ, _, _, hE, hl, e1, hp⟩
/-- zip of two lists or two tuples -/
def zipDs (xs ys : List D) : List D := (xs.zip ys).map fun p => .tup [p.1, p.2]
def mZip (m : Rho → Ev (List D)) : Rho → Ev (List D) := fun ρ => (m ρ).bind fun ds μ => match ds with
  | [.tup xs, .tup ys] => some (.ok (zipDs xs ys), μ)
  | [.lst xs, .lst ys] => some (.ok (zipDs xs ys), μ)
  | [.klst xs, .lst ys] => some (.ok (zipDs xs ys), μ)
  | _ => none
theorem zipDs_get {xs ys : List D} {i : Nat} {d : D} (h : (zipDs xs ys)[i]? = some d) : ∃ x y, xs[i]? = some x ∧ ys[i]? = some y ∧ d = .tup [x, y] := by
  simp only [zipDs, List.getElem?_map, Option.map_eq_some_iff] at h
  obtain ⟨⟨x, y⟩, e1, e2⟩ := h
  rw [List.getElem?_zip_eq_some] at e1
  exact ⟨x, y, e1.1, e1.2, e2.symm⟩
theorem pair_new {α' : List Addr} {F' H' : Hp} {μ' : Store} (hl : Rl R α' F' μ' H') {T : Addr} {x1 x2 : V} {d1 d2 : D} (nT : H' T = none) (r1 : Rep R α' F' x1 d1) (r2 : Rep R α' F' x2 d2) : ∃ α'' F'', Nx R α' F' μ' α'' F'' (upd H' T (.tup [x1, x2])) ∧ Rep R α'' F'' (.ref T) (.tup [d1, d2]) :=
  ⟨α', upd F' T (.tup [x1, x2]), Nx.new hl nT, .mkTup (.inl upd_same) (RepL.mono (.cons r1 (.cons r2 .nil)) (List.prefix_refl _) (same_upd (hl.fresh nT)))⟩
theorem walks_zipL1 (hK : X.K = R.K) {α : List Addr} {F : Hp} {a b : Addr} {vs ws : List V} {ds es : List D} (h : SqL R.K F a vs) (r : RepL R α F vs ds) (h2 : SqL R.K F b ws) (r2 : RepL R α F ws es) : Walks1 R (Itz X.K a b) α F (zipDs ds es) := fun α' F' μ' H' ha hF hl => by
  have k1 : SqL X.K H' a vs := hK ▸ hl.sub.seq (hF.seq h)
  have k2 : SqL X.K H' b ws := hK ▸ hl.sub.seq (hF.seq h2)
  refine ⟨fun i hi => ⟨vs, ws, k1, k2, ?_⟩, fun i d hd => ?_⟩
  · simp only [zipDs, List.length_map, List.length_zip] at hi
    rw [r.length, r2.length]
    omega
  · obtain ⟨x, y, e1, e2, rfl⟩ := zipDs_get hd
    obtain ⟨v, hv, rv⟩ := paired_left r i x e1
    obtain ⟨w, hw, rw'⟩ := paired_left r2 i y e2
    refine ⟨⟨vs, ws, v, w, k1, k2, hv, hw⟩, fun z H'' ⟨T, x1, x2, ez, nT, eH, f1, f2⟩ => ?_⟩
    subst ez eH
    have q1 := f1 vs k1
    rw [hv] at q1
    cases q1
    have q2 := f2 ws k2
    rw [hw] at q2
    cases q2
    exact pair_new hl nT (rv.mono ha hF) (rw'.mono ha hF)
theorem walks_zipL (hK : X.K = R.K) {α : List Addr} {F : Hp} {a b : Addr} {vs ws : List V} {ds es : List D} (h : SqL R.K F a vs) (r : RepL R α F vs ds) (h2 : SqL R.K F b ws) (r2 : RepL R α F ws es) : Walks R (Itz X.K a b) α F (zipDs ds es) := fun P => walks_zipL1 (R := R.wP P) hK h r.wP h2 r2.wP
theorem walks_zipT1 (hK : X.K = R.K) {α : List Addr} {F : Hp} {a b : Addr} {vs ws : List V} {ds es : List D} (h : SqT R.K F a vs) (r : RepL R α F vs ds) (h2 : SqT R.K F b ws) (r2 : RepL R α F ws es) : Walks1 R (RZ.ItzT X.K a b) α F (zipDs ds es) := fun α' F' μ' H' ha hF hl => by
  have k1 : SqT X.K H' a vs := hK ▸ Same.sqT hl.sub (Same.sqT hF h)
  have k2 : SqT X.K H' b ws := hK ▸ Same.sqT hl.sub (Same.sqT hF h2)
  refine ⟨fun i hi => ⟨vs, ws, k1, k2, ?_⟩, fun i d hd => ?_⟩
  · simp only [zipDs, List.length_map, List.length_zip] at hi
    rw [r.length, r2.length]
    omega
  · obtain ⟨x, y, e1, e2, rfl⟩ := zipDs_get hd
    obtain ⟨v, hv, rv⟩ := paired_left r i x e1
    obtain ⟨w, hw, rw'⟩ := paired_left r2 i y e2
    refine ⟨⟨vs, ws, v, w, k1, k2, hv, hw⟩, fun z H'' ⟨T, x1, x2, ez, nT, eH, f1, f2⟩ => ?_⟩
    subst ez eH
    have q1 := f1 vs k1
    rw [hv] at q1
    cases q1
    have q2 := f2 ws k2
    rw [hw] at q2
    cases q2
    exact pair_new hl nT (rv.mono ha hF) (rw'.mono ha hF)
theorem walks_zipT (hK : X.K = R.K) {α : List Addr} {F : Hp} {a b : Addr} {vs ws : List V} {ds es : List D} (h : SqT R.K F a vs) (r : RepL R α F vs ds) (h2 : SqT R.K F b ws) (r2 : RepL R α F ws es) : Walks R (RZ.ItzT X.K a b) α F (zipDs ds es) := fun P => walks_zipT1 (R := R.wP P) hK h r.wP h2 r2.wP
theorem pid_zip (hK : X.K = R.K) {a b : Expr} {m : Rho → Ev (List D)} {p pos tpos : Pos} {elts : List Expr} {kk : Nat} (hg : Gl X "zip") (hmg : X.mg "zip" = none) (ha : PAD R X W [a, b] m) (hs : starEach [a, b] X.env = (false, eval a X.env) :: starEach [b] X.env)
    (hpl : (backTo pos (starEach [b] X.env)).any (·.1) = false) : PID R X W (.Tuple elts kk tpos) (.Call (.Name "zip" p) [a, b] [] pos) (mZip m) :=
  pi_imp (RZ.pi_zipA hg hmg ha hs hpl) fun σ H K ⟨α, F, μ, ρ, r, μ', hE, hl, hm, hp⟩ => by
    rcases Ev.bind_inv hm with ⟨ds, μ1, e1, hm1⟩ | ⟨x, e1, rfl⟩
    · refine ⟨α, F, μ, ρ, _, _, hE, hl, e1, fun α1 F1 H1 vs n1 r1 => ?_⟩
      split at hm1
      · cases hm1
        cases r1 with
        | cons a1 t1 =>
          cases t1 with
          | cons a2 t2 =>
            cases t2
            obtain ⟨c, cs, rfl, h1, l1⟩ := a1.tup_inv
            obtain ⟨d, es, rfl, h2, l2⟩ := a2.tup_inv
            exact ⟨c, d, cs, es, rfl, .inr ⟨hK ▸ Same.sqT n1.2.2.sub h1.sq, hK ▸ Same.sqT n1.2.2.sub h2.sq, hp α1 F1 H1 _ n1 (walks_zipT hK h1.sq l1 h2.sq l2)⟩⟩
      · cases hm1
        cases r1 with
        | cons a1 t1 =>
          cases t1 with
          | cons a2 t2 =>
            cases t2
            obtain ⟨c, cs, rfl, h1, l1⟩ := a1.lst_inv
            obtain ⟨d, es, rfl, h2, l2⟩ := a2.lst_inv
            exact ⟨c, d, cs, es, rfl, .inl ⟨hK ▸ SqL.of (n1.2.2.sub _ _ h1), hK ▸ SqL.of (n1.2.2.sub _ _ h2), hp α1 F1 H1 _ n1 (walks_zipL hK (SqL.of h1) l1 (SqL.of h2) l2)⟩⟩
      · cases hm1
        cases r1 with
        | cons a1 t1 =>
          cases t1 with
          | cons a2 t2 =>
            cases t2
            obtain ⟨c, cs, rfl, h1, l1⟩ := a1.klst_inv
            obtain ⟨d, es, rfl, h2, l2⟩ := a2.lst_inv
            exact ⟨c, d, cs, es, rfl, .inl ⟨hK ▸ n1.2.2.sub.seq h1, hK ▸ SqL.of (n1.2.2.sub _ _ h2), hp α1 F1 H1 _ n1 (walks_zipL hK h1 l1 (SqL.of h2) l2)⟩⟩
      · cases hm1
    · exact ⟨α, F, μ, ρ, _, _, hE, hl, e1, hp⟩
/-! ### for -/
def forL (g : Tgt) (b : Ex) : List D → Ex
  | [], ρ, μ => some (.nx ρ, μ)
  | d :: r, ρ, μ => match g d ρ with
    | none => none
    | some ρ1 => match b ρ1 μ with
      | some (.nx ρ2, μ2) => forL g b r ρ2 μ2
      | some (.ct ρ2, μ2) => forL g b r ρ2 μ2
      | some (.bk ρ2, μ2) => some (.nx ρ2, μ2)
      | some (.rt d, μ2) => some (.rt d, μ2)
      | some (.er x ρ2, μ2) => some (.er x ρ2, μ2)
      | none => none
def xFor (mi : Rho → Ev (List D)) (g : Tgt) (b : Ex) : Ex := fun ρ μ => match mi ρ μ with
  | some (.ok ds, μ1) => forL g b ds ρ μ1
  | some (.err x, μ1) => some (.er x ρ, μ1)
  | none => none
theorem psd_for {tg iter : Expr} {body : List Stmt} {pos : Pos} {mi : Rho → Ev (List D)} {g : Tgt} {b : Ex} (hp : PassesOwn (model X.prog X.w) X.A X.env X.xe) (hc : X.calm = true) (hi : PID R X W tg iter mi) {vs : List Nat} (hg : PGD R X tg vs g) (hb : PSsD R X W body b)
    (hs : ∀ x, foldedSetIterable iter X.env x = pure x) : PSD R X W (.For tg iter body [] pos) (xFor mi g b) :=
  psd_of (ps_for hp hc hi hg hb hs) fun E σ H α F μ ρ o μ' hE hl hm hp => by
    unfold xFor at hm
    split at hm
    · rename_i ds μ1 e
      refine ⟨α, F, μ, ρ, _, _, hE, hl, e, fun α1 F1 H1 J n1 wk => ?_⟩
      refine ⟨fun i n σ' H' => ∃ α2 F2 μ2 ρ2, n = ds.length - i ∧ i ≤ ds.length ∧ EnvR R α2 F2 σ' ρ2 ∧ Rl R α2 F2 μ2 H' ∧ α1 <+: α2 ∧ Same F1 F2 ∧ forL g b (ds.drop i) ρ2 μ2 = some (o, μ') ∧ PostS R W E α2 F2 o μ',
        ⟨_, α1, F1, μ1, ρ, rfl, Nat.zero_le _, hE.mono n1, n1.2.2, List.prefix_refl _, Same.refl _, by rw [List.drop_zero]; exact hm, PostS.weak n1 hp⟩, ?_⟩
      rintro i n σ' H' ⟨α2, F2, μ2, ρ2, rfl, hi, hE2, hl2, ha2, hF2, hm2, hp2⟩
      obtain ⟨w1, w2⟩ := wk R.P α2 F2 μ2 H' ha2 hF2 hl2
      by_cases hlt : i < ds.length
      · have hd : ds[i]? = some ds[i] := List.getElem?_eq_getElem hlt
        obtain ⟨w3, w4⟩ := w2 i _ hd
        rw [List.drop_eq_getElem_cons hlt] at hm2
        unfold forL at hm2
        split at hm2
        · cases hm2
        · rename_i ρ3 eg
          refine .inr ⟨w3, fun σ4 H4 => ∃ α4 F4 μ4 ρ4, EnvR R α4 F4 σ4 ρ4 ∧ Rl R α4 F4 μ4 H4 ∧ α1 <+: α4 ∧ Same F1 F4 ∧ forL g b (ds.drop (i + 1)) ρ4 μ4 = some (o, μ') ∧ PostS R W E α4 F4 o μ', ?_, fun x H3 hy => ?_⟩
          · rintro σ4 H4 ⟨α4, F4, μ4, ρ4, z1, z2, z3, z4, z5, z6⟩
            exact ⟨ds.length - (i + 1), by omega, α4, F4, μ4, ρ4, rfl, hlt, z1, z2, z3, z4, z5, z6⟩
          · obtain ⟨α3, F3, n3, r3⟩ := w4 x H3 hy
            refine ⟨α3, F3, μ2, ρ2, _, ρ3, hE2.mono n3, n3.2.2, r3, eg, fun α4 F4 H4 σ4 n4 _ e4 => ?_⟩
            have nx : ∀ {μ5 : Store} {ρ5 : Rho}, forL g b (ds.drop (i + 1)) ρ5 μ5 = some (o, μ') → ∀ α' F' H' σ', Nx R α4 F4 μ5 α' F' H' → EnvR R α' F' σ' ρ5 →
                ∃ α4 F4 μ4 ρ4, EnvR R α4 F4 σ' ρ4 ∧ Rl R α4 F4 μ4 H' ∧ α1 <+: α4 ∧ Same F1 F4 ∧ forL g b (ds.drop (i + 1)) ρ4 μ4 = some (o, μ') ∧ PostS R W E α4 F4 o μ' :=
              fun {μ5 ρ5} hf α' F' H' σ' n' e' => ⟨α', F', μ5, ρ5, e', n'.2.2, ha2.trans (n3.1.trans (n4.1.trans n'.1)), hF2.trans (n3.2.1.trans (n4.2.1.trans n'.2.1)), hf, PostS.weak (n3.trans (n4.trans n')) hp2⟩
            split at hm2
            · rename_i ρ5 μ5 eb
              exact ⟨α4, F4, μ2, ρ3, _, _, e4, n4.2.2, eb, nx hm2⟩
            · rename_i ρ5 μ5 eb
              exact ⟨α4, F4, μ2, ρ3, _, _, e4, n4.2.2, eb, nx hm2⟩
            · rename_i ρ5 μ5 eb
              cases hm2
              exact ⟨α4, F4, μ2, ρ3, _, _, e4, n4.2.2, eb, PostS.weak (n3.trans n4) hp2⟩
            · rename_i d5 μ5 eb
              cases hm2
              exact ⟨α4, F4, μ2, ρ3, _, _, e4, n4.2.2, eb, PostS.weak (n3.trans n4) hp2⟩
            · rename_i x5 ρ5 μ5 eb
              cases hm2
              exact ⟨α4, F4, μ2, ρ3, _, _, e4, n4.2.2, eb, PostS.weak (n3.trans n4) hp2⟩
            · cases hm2
      · have e : i = ds.length := by omega
        subst e
        rw [List.drop_length] at hm2
        cases hm2
        exact .inl ⟨w1 _ (Nat.le_refl _), hp2 α2 F2 H' σ' (Nx.refl hl2) hE2⟩
    · rename_i x μ1 e
      cases hm
      exact ⟨α, F, μ, ρ, _, _, hE, hl, e, fun α1 F1 H1 cls dd n1 xx => hp α1 F1 H1 σ cls dd n1 (hE.mono n1) xx⟩
    · cases hm
end DL
/-! DL14: list comprehensions, while, a def's body. -/
namespace DL
open PySem PySem.Spec PyProof.Rows L2
variable {R : Rc} {X : Cx} {W : WX}
theorem pe_ex {ι : Type} {e : Expr} {t : ι → TE} (h : ∀ i, PE X e (t i)) : PE X e (fun σ H Q => ∃ i, t i σ H Q) := ⟨fun pins s σ H Q I ⟨i, w⟩ => (h i).run pins s σ H Q I w⟩
theorem pg_ex {ι : Type} {e : Expr} {t : ι → TG} (h : ∀ i, PG X e (t i)) : PG X e (fun v σ H Q => ∃ i, t i v σ H Q) := ⟨fun pins s σ H v u Q I r ⟨i, w⟩ => (h i).run pins s σ H v u Q I r w⟩
theorem pts_ex {ι : Type} {e : List Expr} {t : ι → TT} (h : ∀ i, PTs X e (t i)) : PTs X e (fun σ H Q => ∃ i, t i σ H Q) := ⟨fun pins s σ H Q I ⟨i, w⟩ => (h i).run pins s σ H Q I w⟩
def PTsD (R : Rc) (X : Cx) (W : WX) (es : List Expr) (m : Rho → Ev Bool) : Prop := PTs X es (tDB R W m)
def mYes : Rho → Ev Bool := fun _ μ => some (.ok true, μ)
theorem ptsd_nil : PTsD R X W [] mYes := ⟨fun pins s σ H Q I ⟨α, F, μ, ρ, r, μ', hE, hl, hm, hp⟩ => pts_nil.run pins s σ H Q I (by
  cases hm
  exact hp α F H (Nx.refl hl))⟩
theorem ptsd_one {c : Expr} {m : Rho → Ev Bool} (h : PTD R X W c m) : PTsD R X W [c] m := pts_one h
def wipeR (ρ : Rho) : List Nat → Rho
  | [] => ρ
  | v :: vs => (wipeR ρ vs).set v none
theorem wipeR_length (ρ : Rho) : ∀ vs, (wipeR ρ vs).length = ρ.length
  | [] => rfl
  | v :: vs => by unfold wipeR; rw [List.length_set, wipeR_length]
theorem EnvR.wipe {α : List Addr} {F : Hp} {σ : L2.St} {ρ : Rho} (h : EnvR R α F σ ρ) : ∀ vs, EnvR R α F (L2.wipe σ vs) (wipeR ρ vs)
  | [] => h
  | v :: vs => by
    have ih := h.wipe vs
    unfold L2.wipe wipeR
    refine ⟨by rw [List.length_set, List.length_set]; exact ih.1, fun j d hj => ?_⟩
    by_cases hij : v = j
    · subst hij
      by_cases hl : v < (wipeR ρ vs).length
      · rw [List.getElem?_set_self hl] at hj; cases hj
      · rw [List.getElem?_eq_none (by rw [List.length_set]; omega)] at hj; cases hj
    · rw [List.getElem?_set_ne hij] at hj
      obtain ⟨w, e1, e2⟩ := ih.2 j d hj
      exact ⟨w, by rw [List.getElem?_set_ne hij]; exact e1, e2⟩
def compL (g : Tgt) (c : Rho → Ev Bool) (f : Rho → Ev D) (ρ : Rho) : List D → Ev (List D)
  | [], μ => some (.ok [], μ)
  | d :: r, μ => match g d ρ with
    | none => none
    | some ρ1 => match c ρ1 μ with
      | some (.ok true, μ1) => (match f ρ1 μ1 with
        | some (.ok y, μ2) => (match compL g c f ρ r μ2 with
          | some (.ok ys, μ3) => some (.ok (y :: ys), μ3)
          | _ => none)
        | _ => none)
      | some (.ok false, μ1) => compL g c f ρ r μ1
      | _ => none
def mLc (mi : Rho → Ev (List D)) (g : Tgt) (c : Rho → Ev Bool) (f : Rho → Ev D) (vs : List Nat) : Rho → Ev D := fun ρ μ => match mi ρ μ with
  | some (.ok ds, μ1) => if ds.length ≤ sizeLine then (match compL g c f (wipeR ρ vs) ds μ1 with
      | some (.ok ys, μ2) => some (.ok (.lst ys), μ2)
      | _ => none) else none
  | some (.err x, μ1) => some (.err x, μ1)
  | none => none
/-- no exception leaves a block -/
abbrev W0 : WX := fun _ _ _ _ => False
theorem EnvR.wP {α : List Addr} {F P : Hp} {σ : L2.St} {ρ : Rho} (h : EnvR R α F σ ρ) : EnvR (R.wP P) α F σ ρ := ⟨h.1, fun i d e => let ⟨v, e1, r⟩ := h.2 i d e; ⟨v, e1, r.wP⟩⟩
theorem EnvR.uP {α : List Addr} {F P : Hp} {σ : L2.St} {ρ : Rho} (h : EnvR (R.wP P) α F σ ρ) : EnvR R α F σ ρ := ⟨h.1, fun i d e => let ⟨v, e1, r⟩ := h.2 i d e; ⟨v, e1, r.uP⟩⟩
theorem CellOk.wP {α : List Addr} {F H P : Hp} {a : Addr} {c : Cell} (h : CellOk R α F H a c) : CellOk (R.wP P) α F H a c := by
  cases c with
  | lst ds => obtain ⟨vs, h1, h2⟩ := h; exact ⟨vs, h1, RepL.wP h2⟩
  | dct tk es =>
    obtain ⟨o, h1, h2⟩ := h
    refine ⟨o, h1, ?_⟩
    rcases h2 with ⟨e, kvs, q1, q2⟩ | ⟨e, kvs, q1, q2⟩
    · exact .inl ⟨e, kvs, q1, Paired.mapP q2 fun _ _ x => ⟨x.1, x.2.wP⟩⟩
    · exact .inr ⟨e, kvs, q1, Paired.mapP q2 fun _ _ x => ⟨x.1, x.2.wP⟩⟩
  | ins c fs => obtain ⟨dx, gs, h1, h2⟩ := h; exact ⟨dx, gs, h1, Paired.mapP h2 fun _ _ x => ⟨x.1, x.2.wP⟩⟩
  | dead => trivial
section
variable {α : List Addr} {F H : Hp} {μ : Store} {d0 : Addr} {acc acc' : List V}
/-- the list that is being made is protected .. -/
theorem Rl.guard (h : Rl R α F μ H) (hd : H d0 = none) : Rl (R.wP (upd R.P d0 (.lst []))) α F μ (upd H d0 (.lst [])) := by
  have u := h.newU (o := .lst []) hd
  refine ⟨u.sub, u.len, fun n a c e1 e2 => (u.cell n a c e1 e2).wP, u.inj, u.out, fun b o e => ?_, fun n a c e1 e2 e3 => ?_, fun b o e => ?_⟩
  · have e : upd R.P d0 (.lst []) b = some o := e
    by_cases hb : b = d0
    · subst hb; rw [upd_same] at e ⊢; exact e
    · rw [upd_ne hb] at e ⊢; exact h.prot _ _ e
  · obtain ⟨o', ho⟩ := (h.cell n a c e1 e2).there e3
    show upd R.P d0 (.lst []) a = none
    rw [upd_ne (ne_of_none ho hd)]
    exact h.pout n a c e1 e2 e3
  · by_cases hb : b = d0
    · subst hb; exact h.fresh hd
    · have e' : R.P b = some o := by
        have := e
        rw [show (R.wP (upd R.P d0 (.lst []))).P = upd R.P d0 (.lst []) from rfl, upd_ne hb] at this
        exact this
      exact h.pf _ _ e'
/-- .. grows .. -/
theorem Rl.grow (h : Rl (R.wP (upd R.P d0 (.lst acc))) α F μ H) (hp : ∀ a o, R.P a = some o → a ≠ d0) : Rl (R.wP (upd R.P d0 (.lst acc'))) α F μ (upd H d0 (.lst acc')) := by
  have hF : F d0 = none := h.pf d0 _ upd_same
  have nc : ∀ (n : Nat) a c, α[n]? = some a → μ[n]? = some c → c.live = true → a ≠ d0 := fun n a c e1 e2 e3 z => by
    subst z
    have := h.pout n _ c e1 e2 e3
    rw [show (R.wP (upd R.P a (.lst acc))).P = upd R.P a (.lst acc) from rfl, upd_same] at this
    cases this
  refine ⟨fun b o e => ?_, h.len, fun n a c e1 e2 => ?_, h.inj, h.out, fun b o e => ?_, fun n a c e1 e2 e3 => ?_, fun b o e => ?_⟩
  · rw [upd_ne (ne_of_none e hF)]; exact h.sub _ _ e
  · have z : CellOk (R.wP (upd R.P d0 (.lst acc'))) α F H a c := (h.cell n a c e1 e2).wP (R := R.wP (upd R.P d0 (.lst acc)))
    exact z.heap fun hl => upd_ne (nc n a c e1 e2 hl)
  · by_cases hb : b = d0
    · subst hb
      rw [show (R.wP (upd R.P b (.lst acc'))).P = upd R.P b (.lst acc') from rfl, upd_same] at e
      rw [upd_same]; exact e
    · rw [show (R.wP (upd R.P d0 (.lst acc'))).P = upd R.P d0 (.lst acc') from rfl, upd_ne hb] at e
      rw [upd_ne hb]
      exact h.prot b o (by rw [show (R.wP (upd R.P d0 (.lst acc))).P = upd R.P d0 (.lst acc) from rfl, upd_ne hb]; exact e)
  · show upd R.P d0 (.lst acc') a = none
    rw [upd_ne (nc n a c e1 e2 e3)]
    have := h.pout n a c e1 e2 e3
    rw [show (R.wP (upd R.P d0 (.lst acc))).P = upd R.P d0 (.lst acc) from rfl, upd_ne (nc n a c e1 e2 e3)] at this
    exact this
  · by_cases hb : b = d0
    · subst hb; exact hF
    · rw [show (R.wP (upd R.P d0 (.lst acc'))).P = upd R.P d0 (.lst acc') from rfl, upd_ne hb] at e
      exact h.pf b o (by rw [show (R.wP (upd R.P d0 (.lst acc))).P = upd R.P d0 (.lst acc) from rfl, upd_ne hb]; exact e)
/-- .. and at last it is a list that stays -/
theorem Rl.unguard (h : Rl (R.wP (upd R.P d0 (.lst acc))) α F μ H) (hp : ∀ a o, R.P a = some o → a ≠ d0) : Rl R α (upd F d0 (.lst acc)) μ H ∧ F d0 = none := by
  have hF : F d0 = none := h.pf d0 _ upd_same
  have nc : ∀ (n : Nat) a c, α[n]? = some a → μ[n]? = some c → c.live = true → a ≠ d0 := fun n a c e1 e2 e3 z => by
    subst z
    have := h.pout n _ c e1 e2 e3
    rw [show (R.wP (upd R.P a (.lst acc))).P = upd R.P a (.lst acc) from rfl, upd_same] at this
    cases this
  have pp : ∀ b o, R.P b = some o → (R.wP (upd R.P d0 (.lst acc))).P b = some o := fun b o e => by
    show upd R.P d0 (.lst acc) b = some o
    rw [upd_ne (hp b o e)]; exact e
  refine ⟨⟨fun b o e => ?_, h.len, fun n a c e1 e2 => ?_, h.inj, fun n a c e1 e2 e3 => ?_, fun b o e => h.prot b o (pp b o e), fun n a c e1 e2 e3 => ?_, fun b o e => ?_⟩, hF⟩
  · by_cases hb : b = d0
    · subst hb
      rw [upd_same] at e
      cases e
      exact h.prot b _ upd_same
    · rw [upd_ne hb] at e; exact h.sub _ _ e
  · have z : CellOk R α F H a c := (h.cell n a c e1 e2).wP (R := R.wP (upd R.P d0 (.lst acc))) (P := R.P)
    exact z.mono (List.prefix_refl _) (same_upd hF)
  · rw [upd_ne (nc n a c e1 e2 e3)]; exact h.out n a c e1 e2 e3
  · have := h.pout n a c e1 e2 e3
    rw [show (R.wP (upd R.P d0 (.lst acc))).P = upd R.P d0 (.lst acc) from rfl, upd_ne (nc n a c e1 e2 e3)] at this
    exact this
  · rw [upd_ne (hp b o e)]; exact h.pf b o (pp b o e)
end
section
variable {elt tg iter : Expr} {ifs : List Expr} {scope : Scope} {own : List (Str × Nat)} {pos : Pos} {mi : Rho → Ev (List D)} {g : Tgt} {c : Rho → Ev Bool} {f : Rho → Ev D}
abbrev lcG (R : Rc) (vs : List Nat) (g : Tgt) : TG := fun v σ H Q => ∃ P, tG (R.wP P) vs g v σ H Q
abbrev lcT (R : Rc) (c : Rho → Ev Bool) : TT := fun σ H Q => ∃ P, tDB (R.wP P) W0 c σ H Q
abbrev lcE (R : Rc) (f : Rho → Ev D) : TE := fun σ H Q => ∃ P, tD (R.wP P) W0 f σ H Q
theorem lc_sp {vs : List Nat} {σ : L2.St} {H : Hp} {Q : VK} {α F μ ρ r μ'} (hE : EnvR R α F σ ρ) (hl : Rl R α F μ H) (hm : mLc mi g c f vs ρ μ = some (r, μ')) (hp : Post R W σ α F Q r μ') :
    tLc (tI R W mi) (lcG R vs g) (lcT R c) (lcE R f) vs σ H Q := by
  unfold mLc at hm
  split at hm
  · rename_i ds μ1 e
    split at hm
    · rename_i hz
      split at hm
      · rename_i ys μ2 ec
        cases hm
        refine ⟨α, F, μ, ρ, _, _, hE, hl, e, fun α1 F1 H1 J n1 wk D hD => ?_⟩
        have hpd : ∀ a o, R.P a = some o → a ≠ D := fun a o e => ne_of_none (n1.2.2.prot _ _ e) hD
        refine ⟨fun i n H' => ∃ α2 F2 μ3 acc done rest, n = ds.length - i ∧ i ≤ ds.length ∧ Rl (R.wP (upd R.P D (.lst acc))) α2 F2 μ3 H' ∧ α1 <+: α2 ∧ Same F1 F2 ∧ RepL R α2 F2 acc done ∧ compL g c f (wipeR ρ vs) (ds.drop i) μ3 = some (.ok rest, μ') ∧ done ++ rest = ys ∧ acc.length ≤ i,
          ⟨_, α1, F1, μ1, [], [], ys, rfl, Nat.zero_le _, n1.2.2.guard hD, List.prefix_refl _, Same.refl _, .nil, by rw [List.drop_zero]; exact ec, rfl, Nat.le_refl _⟩, ?_⟩
        rintro i n H' ⟨α2, F2, μ3, acc, done, rest, rfl, hi, hl2, ha2, hF2, racc, hm2, hdr, hacc⟩
        obtain ⟨w1, w2⟩ := wk (upd R.P D (.lst acc)) α2 F2 μ3 H' ha2 hF2 hl2
        by_cases hlt : i < ds.length
        · have hd : ds[i]? = some ds[i] := List.getElem?_eq_getElem hlt
          obtain ⟨w3, w4⟩ := w2 i _ hd
          rw [List.drop_eq_getElem_cons hlt] at hm2
          unfold compL at hm2
          split at hm2
          · cases hm2
          · rename_i ρ3 eg
            refine .inr ⟨w3, fun H4 => ∃ α4 F4 μ4 acc4 done4 rest4, Rl (R.wP (upd R.P D (.lst acc4))) α4 F4 μ4 H4 ∧ α1 <+: α4 ∧ Same F1 F4 ∧ RepL R α4 F4 acc4 done4 ∧ compL g c f (wipeR ρ vs) (ds.drop (i + 1)) μ4 = some (.ok rest4, μ') ∧ done4 ++ rest4 = ys ∧ acc4.length ≤ i + 1, ?_, fun x H3 hy => ?_⟩
            · rintro H4 ⟨α4, F4, μ4, acc4, done4, rest4, z1, z2, z3, z4, z5, z6, z7⟩
              exact ⟨ds.length - (i + 1), by omega, α4, F4, μ4, acc4, done4, rest4, rfl, hlt, z1, z2, z3, z4, z5, z6, z7⟩
            · obtain ⟨α3, F3, n3, r3⟩ := w4 x H3 hy
              have hE3 : EnvR R α3 F3 σ ρ := by
                refine ⟨hE.1, fun j d ej => ?_⟩
                obtain ⟨v, e1, rv⟩ := hE.2 j d ej
                exact ⟨v, e1, (n1.rep rv).mono (ha2.trans n3.1) (hF2.trans n3.2.1)⟩
              refine ⟨upd R.P D (.lst acc), α3, F3, μ3, wipeR ρ vs, _, ρ3, (hE3.wipe vs).wP, n3.2.2, r3, eg, fun α4 F4 H4 σ4 n4 hw e4 => ?_⟩
              refine ⟨by rw [hw, wipe_wipe], ?_⟩
              split at hm2
              · rename_i μ5 ecd
                refine ⟨upd R.P D (.lst acc), α4, F4, μ3, ρ3, _, _, e4, n4.2.2, ecd, fun α5 F5 H5 n5 => ?_⟩
                refine iteT ?_
                split at hm2
                · rename_i y μ6 ef
                  refine ⟨upd R.P D (.lst acc), α5, F5, μ5, ρ3, _, _, e4.mono n5, n5.2.2, ef, fun α6 F6 H6 v6 n6 r6 => ?_⟩
                  split at hm2
                  · rename_i ys6 μ7 ecl
                    cases hm2
                    refine ⟨acc, n6.2.2.prot D _ upd_same, by omega, α6, F6, μ6, acc ++ [v6], done ++ [y], ys6, n6.2.2.grow hpd, ha2.trans (n3.1.trans (n4.1.trans (n5.1.trans n6.1))), hF2.trans (n3.2.1.trans (n4.2.1.trans (n5.2.1.trans n6.2.1))), ?_, ecl, by rw [← hdr]; simp, by simp; omega⟩
                    exact paired_append (racc.mono (n3.1.trans (n4.1.trans (n5.1.trans n6.1))) (n3.2.1.trans (n4.2.1.trans (n5.2.1.trans n6.2.1)))) (.cons r6.uP .nil)
                  · cases hm2
                · cases hm2
              · rename_i μ5 ecd
                refine ⟨upd R.P D (.lst acc), α4, F4, μ3, ρ3, _, _, e4, n4.2.2, ecd, fun α5 F5 H5 n5 => ?_⟩
                refine iteF ?_
                exact ⟨α5, F5, μ5, acc, done, rest, n5.2.2, ha2.trans (n3.1.trans (n4.1.trans n5.1)), hF2.trans (n3.2.1.trans (n4.2.1.trans n5.2.1)), racc.mono (n3.1.trans (n4.1.trans n5.1)) (n3.2.1.trans (n4.2.1.trans n5.2.1)), hm2, hdr, by omega⟩
              · cases hm2
        · have e : i = ds.length := by omega
          subst e
          rw [List.drop_length] at hm2
          cases hm2
          rw [List.append_nil] at hdr
          subst hdr
          obtain ⟨hlu, hFd⟩ := hl2.unguard hpd
          refine .inl ⟨w1 _ (Nat.le_refl _), hp α2 (upd F2 D (.lst acc)) H' _ ⟨n1.1.trans ha2, (n1.2.1.trans hF2).trans (same_upd hFd), hlu⟩ ?_⟩
          exact .mkLst upd_same (racc.mono (List.prefix_refl _) (same_upd hFd))
      · cases hm
    · cases hm
  · rename_i x μ1 e
    cases hm
    exact ⟨α, F, μ, ρ, _, _, hE, hl, e, hp⟩
  · cases hm
theorem ped_lc (hc : X.calm = true) (hN : X.N.Nodup) (hi : PID R X W tg iter mi) (ok : BlkOk X.N X.env.scope scope own)
    (hg : ∀ P s H C cl fp, PGD (R.wP P) (X.blk s H scope (compEnvC scope cl C X.env) fp) tg (own.map (·.2)) g) (ht : ∀ P s H C cl fp, PTsD (R.wP P) (X.blk s H scope (compEnvC scope cl C X.env) fp) W0 ifs c)
    (he : ∀ P s H C cl fp, PED (R.wP P) (X.blk s H scope (compEnvC scope cl C X.env) fp) W0 elt f) (hs : ∀ x, foldedSetIterable iter X.env x = pure x) : PED R X W (.ListComp elt [⟨tg, iter, ifs, 0⟩] scope pos) (mLc mi g c f (own.map (·.2))) :=
  ped_of (pe_lc hc hN hi ok (fun s H C cl fp => pg_ex fun P => hg P s H C cl fp) (fun s H C cl fp => pts_ex fun P => ht P s H C cl fp) (fun s H C cl fp => pe_ex fun P => he P s H C cl fp) hs) fun σ H Q α F μ ρ r μ' hE hl hm hp => lc_sp hE hl hm hp
theorem psd_setLc {i : Nat} {y : Str} {py spos : Pos} (hc : X.calm = true) (hN : X.N.Nodup) (hy : X.N[i]? = some y) (hyl : X.env.scope.names.lookup y = some .local) (hsw : swapsWith (.ListComp elt [⟨tg, iter, ifs, 0⟩] scope pos) (some (.Name y py)) spos.line X.env = pure true)
    (hi : PID R X W tg iter mi) (ok : BlkOk X.N X.env.scope scope own)
    (hg : ∀ P s H C cl fp, PGD (R.wP P) (X.blk s H scope (compEnvC scope cl C X.env) fp) tg (own.map (·.2)) g) (ht : ∀ P s H C cl fp, PTsD (R.wP P) (X.blk s H scope (compEnvC scope cl C X.env) fp) W0 ifs c)
    (he : ∀ P s H C cl fp, PED (R.wP P) (X.blk s H scope (compEnvC scope cl C X.env) fp) W0 elt f) (hs : ∀ x, foldedSetIterable iter X.env x = pure x) : PSD R X W (.Assign [.Name y py] (.ListComp elt [⟨tg, iter, ifs, 0⟩] scope pos) spos) (xAsg (mLc mi g c f (own.map (·.2))) (gNm i)) :=
  psd_of (ps_setLc hc hN hy hyl hsw hi ok (fun s H C cl fp => pg_ex fun P => hg P s H C cl fp) (fun s H C cl fp => pts_ex fun P => ht P s H C cl fp) (fun s H C cl fp => pe_ex fun P => he P s H C cl fp) hs) fun E σ H α F μ ρ o μ' hE hl hm hp => by
    have key := xbind_sp (K := fun x H1 => gName i x σ H1 E.nx) hE hl hm hp fun d μ1 α1 F1 H1 v1 hk n1 r1 e1 p1 => by
      rw [Option.map_eq_some_iff] at hk
      obtain ⟨ρ', e2, hk⟩ := hk
      cases hk
      unfold gNm at e2
      split at e2
      · cases e2
        exact p1 α1 F1 H1 _ (Nx.refl n1.2.2) (e1.set r1)
      · cases e2
    obtain ⟨α, F, μ, ρ, r, μ', a1, a2, a3, a4⟩ := key
    exact lc_sp a1 a2 a3 a4
end
/-! ### while -/
def whileN (c : Rho → Ev Bool) (b : Ex) : Nat → Ex
  | 0, _, _ => none
  | n + 1, ρ, μ => match c ρ μ with
    | some (.ok true, μ1) => (match b ρ μ1 with
      | some (.nx ρ2, μ2) => whileN c b n ρ2 μ2
      | some (.ct ρ2, μ2) => whileN c b n ρ2 μ2
      | some (.bk ρ2, μ2) => some (.nx ρ2, μ2)
      | some (.rt d, μ2) => some (.rt d, μ2)
      | some (.er x ρ2, μ2) => some (.er x ρ2, μ2)
      | none => none)
    | some (.ok false, μ1) => some (.nx ρ, μ1)
    | some (.err x, μ1) => some (.er x ρ, μ1)
    | none => none
theorem psd_while {c : Expr} {body : List Stmt} {pos : Pos} {mc : Rho → Ev Bool} {b : Ex} {N : Nat} (hp : PassesOwn (model X.prog X.w) X.A X.env X.xe) (hc : PTD R X W c mc) (hb : PSsD R X W body b) : PSD R X W (.While c body [] pos) (whileN mc b N) :=
  psd_of (ps_while hp hc hb) fun E σ H α F μ ρ o μ' hE hl hm hp => by
    refine ⟨fun n σ' H' => ∃ α2 F2 μ2 ρ2, EnvR R α2 F2 σ' ρ2 ∧ Rl R α2 F2 μ2 H' ∧ whileN mc b n ρ2 μ2 = some (o, μ') ∧ PostS R W E α2 F2 o μ', ⟨N, α, F, μ, ρ, hE, hl, hm, hp⟩, ?_⟩
    rintro n σ' H' ⟨α2, F2, μ2, ρ2, hE2, hl2, hm2, hp2⟩
    cases n with
    | zero => cases hm2
    | succ n =>
      unfold whileN at hm2
      split at hm2
      · rename_i μ3 e
        refine ⟨α2, F2, μ2, ρ2, _, _, hE2, hl2, e, fun α3 F3 H3 n3 => ?_⟩
        refine iteT ?_
        refine ⟨fun σ4 H4 => ∃ α4 F4 μ4 ρ4, EnvR R α4 F4 σ4 ρ4 ∧ Rl R α4 F4 μ4 H4 ∧ whileN mc b n ρ4 μ4 = some (o, μ') ∧ PostS R W E α4 F4 o μ', ?_, ?_⟩
        · rintro σ4 H4 ⟨α4, F4, μ4, ρ4, z1, z2, z3, z4⟩
          exact ⟨n, Nat.lt_succ_self _, α4, F4, μ4, ρ4, z1, z2, z3, z4⟩
        · split at hm2
          · rename_i ρ5 μ5 eb
            exact ⟨α3, F3, μ3, ρ2, _, _, hE2.mono n3, n3.2.2, eb, fun α' F' H'' σ'' n' e' => ⟨α', F', μ5, ρ5, e', n'.2.2, hm2, PostS.weak (n3.trans n') hp2⟩⟩
          · rename_i ρ5 μ5 eb
            exact ⟨α3, F3, μ3, ρ2, _, _, hE2.mono n3, n3.2.2, eb, fun α' F' H'' σ'' n' e' => ⟨α', F', μ5, ρ5, e', n'.2.2, hm2, PostS.weak (n3.trans n') hp2⟩⟩
          · rename_i ρ5 μ5 eb
            cases hm2
            exact ⟨α3, F3, μ3, ρ2, _, _, hE2.mono n3, n3.2.2, eb, PostS.weak n3 hp2⟩
          · rename_i d5 μ5 eb
            cases hm2
            exact ⟨α3, F3, μ3, ρ2, _, _, hE2.mono n3, n3.2.2, eb, PostS.weak n3 hp2⟩
          · rename_i x5 ρ5 μ5 eb
            cases hm2
            exact ⟨α3, F3, μ3, ρ2, _, _, hE2.mono n3, n3.2.2, eb, PostS.weak n3 hp2⟩
          · cases hm2
      · rename_i μ3 e
        cases hm2
        refine ⟨α2, F2, μ2, ρ2, _, _, hE2, hl2, e, fun α3 F3 H3 n3 => ?_⟩
        refine iteF ?_
        exact hp2 α3 F3 H3 σ' n3 (hE2.mono n3)
      · rename_i x μ3 e
        cases hm2
        exact ⟨α2, F2, μ2, ρ2, _, _, hE2, hl2, e, fun α3 F3 H3 cls dd n3 xx => hp2 α3 F3 H3 σ' cls dd n3 (hE2.mono n3) xx⟩
      · cases hm2
theorem push2 {h : Heap} {o1 o2 : Obj} (b : Addr) (o : Obj) (e : h.get? b = some o) : ((h.push o1).push o2).get? b = some o := by
  apply Heap.get?_push_of_some
  exact Heap.get?_push_of_some _ e
end DL
/-! DL30: slices, methods of texts, str, abs, sorted. -/
namespace DL
open PySem PySem.Spec PyProof.Rows L2
variable {R : Rc} {X : Cx} {W : WX}
/-! ### slices -/
def cutL {α : Type} (xs : List α) (lo hi : Option Int) : List α := (xs.drop (HT.sIx xs.length 0 lo)).take (HT.sIx xs.length xs.length hi - HT.sIx xs.length 0 lo)
theorem paired_cut {α β : Type} {P : α → β → Prop} {xs : List α} {ys : List β} (h : Paired P xs ys) (lo hi : Option Int) : Paired P (cutL xs lo hi) (cutL ys lo hi) := by
  unfold cutL
  rw [h.length]
  exact paired_take _ (paired_drop _ h)
def sliceD (d : D) (lo hi : Option Int) (μ : Store) : Option (D × Store) := match d with
  | .str z => guardD (decide (z.length ≤ sizeLine)) (.str (cutS z lo hi), μ)
  | .tup xs => guardD (!(decide (HT.sIx xs.length 0 lo = 0) && decide (HT.sIx xs.length xs.length hi = xs.length))) (.tup (cutL xs lo hi), μ)
  | d => (sqOf d μ).map fun xs => (.lst (cutL xs lo hi), μ)
def rSlD (R : Rc) : V → Option Int → Option Int → Hp → VK → Prop := fun x lo hi H Q => ∃ α F μ d1 d μ', Rl R α F μ H ∧ Rep R α F x d1 ∧ sliceD d1 lo hi μ = some (d, μ') ∧ PostV R α F μ' d Q
theorem sl_D (hK : X.K = R.K) : SlR X (rSlD R) := by
  intro pins s σ H x v vl vu lo hi sl Q I rx hs pl pu ⟨α, F, μ, d1, d, μ', hl, r1, e, hq⟩
  have lists := fun (xs : List D) (h1 : sqOf d1 μ = some xs) (e : some (D.lst (cutL xs lo hi), μ) = some (d, μ')) => sl_list pins s σ H x v vl vu lo hi sl Q I rx hs pl pu (by
    cases e
    obtain ⟨a, vs, rfl, ha, la⟩ := sqOf_ok hl r1 h1
    refine ⟨a, vs, rfl, hK ▸ ha, fun p hp => postv_new hl hq hp (.mkLst upd_same ?_)⟩
    exact RepL.mono (paired_cut la lo hi) (List.prefix_refl _) (same_upd (hl.fresh hp)))
  cases d1 with
  | str z =>
    obtain ⟨hz, e⟩ := guardD_some e
    cases e; cases r1
    exact sl_str pins s σ H _ v vl vu lo hi sl Q I rx hs pl pu ⟨z, rfl, of_decide_eq_true hz, hq.here hl (.str _)⟩
  | tup xs =>
    obtain ⟨hz, e⟩ := guardD_some e
    cases e
    obtain ⟨a, vs, rfl, ha, la⟩ := tup_ok hl r1
    refine sl_tup pins s σ H _ v vl vu lo hi sl Q I rx hs pl pu ⟨a, vs, rfl, hK ▸ ha, fun z => ?_, fun p hp => postv_new hl hq hp (.mkTup (.inl upd_same) ?_)⟩
    · rw [la.length] at z
      simp [z.1, z.2] at hz
    · exact RepL.mono (paired_cut la lo hi) (List.prefix_refl _) (same_upd (hl.fresh hp))
  | lst xs => exact lists xs rfl e
  | klst xs => exact lists xs rfl e
  | loc n =>
    have e : ((sqOf (.loc n) μ).map fun xs => (D.lst (cutL xs lo hi), μ)) = some (d, μ') := e
    rw [Option.map_eq_some_iff] at e
    obtain ⟨xs, e1, e2⟩ := e
    exact lists xs e1 (congrArg some e2)
  | _ => cases e
/-- a part of a slice -/
def mPart (m : Option (Rho → Ev D)) : Rho → Ev (Option Int) := fun ρ => match m with
  | none => fun μ => some (.ok none, μ)
  | some m => (m ρ).bind fun d μ => match d with
    | .int i => some (.ok (some i), μ)
    | _ => none
def mSlice (ma : Rho → Ev D) (ml mh : Option (Rho → Ev D)) : Rho → Ev D := fun ρ => (ma ρ).bind fun a => (mPart ml ρ).bind fun l => (mPart mh ρ).bind fun h => Ev.op (sliceD a l h)
def PostO (R : Rc) (W : WX) (σ : L2.St) (α : List Addr) (F : Hp) (Q : Option Int → Hp → Prop) : Res (Option Int) → Store → Prop
  | .ok o, μ' => ∀ α' F' H', Nx R α F μ' α' F' H' → Q o H'
  | .err x, μ' => ∀ α' F' H' cls dd, Nx R α F μ' α' F' H' → XOk R α' F' H' cls dd x → W cls dd σ H'
def tDO (R : Rc) (W : WX) (m : Rho → Ev (Option Int)) : TO := fun σ H Q => ∃ α F μ ρ r μ', EnvR R α F σ ρ ∧ Rl R α F μ H ∧ m ρ μ = some (r, μ') ∧ PostO R W σ α F Q r μ'
theorem po_imp {e : Option Expr} {t t' : TO} (h : PO X e t) (i : ∀ σ H Q, t' σ H Q → t σ H Q) : PO X e t' := ⟨fun pins s σ H Q I w => h.run pins s σ H Q I (i σ H Q w)⟩
theorem pod_none : PO X none (tDO R W (mPart none)) := po_imp po_none fun σ H Q ⟨α, F, μ, ρ, r, μ', he, hl, hm, hp⟩ => by
  cases hm
  exact hp α F H (Nx.refl hl)
theorem pod_some {e : Expr} {m : Rho → Ev D} (h : PED R X W e m) : PO X (some e) (tDO R W (mPart (some m))) := po_imp (po_some h) fun σ H Q ⟨α, F, μ, ρ, r, μ', he, hl, hm, hp⟩ => by
  rcases Ev.bind_inv hm with ⟨d, μ1, e1, hm⟩ | ⟨x, e1, rfl⟩
  · refine ⟨α, F, μ, ρ, _, _, he, hl, e1, fun α1 F1 H1 v1 n1 r1 => ?_⟩
    split at hm
    · cases hm; cases r1
      exact ⟨_, rfl, hp α1 F1 H1 n1⟩
    · cases hm
  · exact ⟨α, F, μ, ρ, _, _, he, hl, e1, hp⟩
theorem ped_slice (hK : X.K = R.K) {a : Expr} {lo hi : Option Expr} {ma : Rho → Ev D} {ml mh : Option (Rho → Ev D)} {p2 pos : Pos} (ha : PED R X W a ma) (hlo : PO X lo (tDO R W (mPart ml))) (hhi : PO X hi (tDO R W (mPart mh))) : PED R X W (.Subscript a (.Slice lo hi none p2) pos) (mSlice ma ml mh) :=
  ped_of (pe_slice (sl_D hK) ha hlo hhi) fun σ H Q α F μ ρ r μ' he hl hm hp => by
    rcases Ev.bind_inv hm with ⟨a, μ1, e1, hm⟩ | ⟨x, e1, rfl⟩
    · refine ⟨α, F, μ, ρ, _, μ1, he, hl, e1, fun α1 F1 H1 v1 n1 r1 => ?_⟩
      rcases Ev.bind_inv hm with ⟨l, μ2, e2, hm⟩ | ⟨x, e2, rfl⟩
      · refine ⟨α1, F1, μ1, ρ, _, μ2, he.mono n1, n1.2.2, e2, fun α2 F2 H2 n2 => ?_⟩
        rcases Ev.bind_inv hm with ⟨h, μ3, e3, hm⟩ | ⟨x, e3, rfl⟩
        · refine ⟨α2, F2, μ2, ρ, _, μ3, (he.mono n1).mono n2, n2.2.2, e3, fun α3 F3 H3 n3 => ?_⟩
          obtain ⟨d, e4, rfl⟩ := Ev.op_inv hm
          exact ⟨α3, F3, μ3, a, d, μ', n3.2.2, n3.rep (n2.rep r1), e4, fun α' F' H' v n rr => hp α' F' H' v (n1.trans (n2.trans (n3.trans n))) rr⟩
        · exact ⟨α2, F2, μ2, ρ, _, _, (he.mono n1).mono n2, n2.2.2, e3, fun α3 F3 H3 cls dd n3 x3 => hp α3 F3 H3 cls dd (n1.trans (n2.trans n3)) x3⟩
      · exact ⟨α1, F1, μ1, ρ, _, _, he.mono n1, n1.2.2, e2, fun α2 F2 H2 cls dd n2 x2 => hp α2 F2 H2 cls dd (n1.trans n2) x2⟩
    · exact ⟨α, F, μ, ρ, _, _, he, hl, e1, hp⟩
/-! ### methods of texts -/
def strsOf : List D → Option (List Str)
  | [] => some []
  | .str b :: r => (strsOf r).map (b :: ·)
  | _ => none
theorem strsOf_ok {α : List Addr} {F : Hp} : ∀ {vs : List V} {ds : List D} {bs : List Str}, RepL R α F vs ds → strsOf ds = some bs → vs = bs.map V.str
  | _, _, _, .nil, e => by cases e; rfl
  | _, _, bs, .cons (b := d) h t, e => by
    cases d with
    | str b =>
      simp only [strsOf, Option.map_eq_some_iff] at e
      obtain ⟨cs, e1, rfl⟩ := e
      cases h
      rw [strsOf_ok t e1]
      rfl
    | _ => cases e
theorem repL_strs {α : List Addr} {F : Hp} : ∀ ys : List Str, RepL R α F (ys.map V.str) (ys.map D.str)
  | [] => .nil
  | y :: ys => .cons (.str y) (repL_strs ys)
theorem repL_ints {α : List Addr} {F : Hp} : ∀ ys : List Int, RepL R α F (ys.map V.int) (ys.map D.int)
  | [] => .nil
  | y :: ys => .cons (.int y) (repL_ints ys)
def joinD : OpM1 := fun o ds μ => match o, ds with
  | .str a, [d] => (match (itOf d μ).bind strsOf with
    | some ys => guardD (decide ((ys.map (·.length)).sum + ys.length * a.length ≤ 16777216)) (.str (Txt.join a ys), μ)
    | none => none)
  | _, _ => none
theorem mt_joinD (hK : X.K = R.K) : MtR X "str.join" (rDM R joinD) := by
  intro pins s σ H x xs v us Q I rx r ⟨α, F, μ, d, ds, r0, μ', hl, r1, rl, e, hq⟩
  unfold joinD at e
  split at e
  · rename_i a d1
    split at e
    · rename_i ys hy
      obtain ⟨hz, e⟩ := guardD_some e
      cases e
      rw [Option.bind_eq_some_iff] at hy
      obtain ⟨zs, h1, h2⟩ := hy
      cases r1
      cases rl with
      | cons r2 t =>
        cases t
        obtain ⟨p, vs, rfl, ha, la⟩ := itOf_ok hl r2 h1
        rw [strsOf_ok la h2] at ha
        exact mt_join pins s σ H _ _ v us Q I rx r ⟨a, p, ys, rfl, rfl, hK ▸ ha, of_decide_eq_true hz, hq.here hl (.str _)⟩
    · cases e
  · cases e
def splitD : OpM1 := fun o ds μ => match o, ds with
  | .str a, [.str b] => guardD (!(b.length == 0) && decide (a.length + 2 ≤ sizeLine)) (.lst ((Txt.split a b).map D.str), μ)
  | _, _ => none
theorem mt_splitD : MtR X "str.split" (rDM R splitD) := by
  intro pins s σ H x xs v us Q I rx r ⟨α, F, μ, d, ds, r0, μ', hl, r1, rl, e, hq⟩
  unfold splitD at e
  split at e
  · rename_i a b
    obtain ⟨hz, e⟩ := guardD_some e
    simp only [Bool.and_eq_true, Bool.not_eq_true', decide_eq_true_eq] at hz
    cases e
    cases r1
    cases rl with
    | cons r2 t =>
      cases t; cases r2
      exact mt_split pins s σ H _ _ v us Q I rx r ⟨a, b, rfl, rfl, hz.1, hz.2, fun p hp => postv_new hl hq hp (.mkLst upd_same (repL_strs _))⟩
  · cases e
def partitionD : OpM1 := fun o ds μ => match o, ds with
  | .str a, [.str b] => guardD (!(b.length == 0) && decide (a.length ≤ sizeLine)) (.tup [.str (Txt.partition a b).1, .str (Txt.partition a b).2.1, .str (Txt.partition a b).2.2], μ)
  | _, _ => none
theorem mt_partitionD : MtR X "str.partition" (rDM R partitionD) := by
  intro pins s σ H x xs v us Q I rx r ⟨α, F, μ, d, ds, r0, μ', hl, r1, rl, e, hq⟩
  unfold partitionD at e
  split at e
  · rename_i a b
    obtain ⟨hz, e⟩ := guardD_some e
    simp only [Bool.and_eq_true, Bool.not_eq_true', decide_eq_true_eq] at hz
    cases e
    cases r1
    cases rl with
    | cons r2 t =>
      cases t; cases r2
      exact mt_partition pins s σ H _ _ v us Q I rx r ⟨a, b, rfl, rfl, hz.1, hz.2, fun p hp => postv_new hl hq hp (.mkTup (.inl upd_same) (.cons (.str _) (.cons (.str _) (.cons (.str _) .nil))))⟩
  · cases e
def startsD : OpM1 := fun o ds μ => match o, ds with
  | .str a, [.str b] => some (.bl (Txt.startswith a b), μ)
  | _, _ => none
theorem mt_startsD : MtR X "str.startswith" (rDM R startsD) := by
  intro pins s σ H x xs v us Q I rx r ⟨α, F, μ, d, ds, r0, μ', hl, r1, rl, e, hq⟩
  unfold startsD at e
  split at e
  · rename_i a b
    cases e
    cases r1
    cases rl with
    | cons r2 t =>
      cases t; cases r2
      exact mt_startswith pins s σ H _ _ v us Q I rx r ⟨a, b, rfl, rfl, hq.here hl (.bl _)⟩
  · cases e
/-! ### str, abs -/
def strD : OpN
  | [.int i], μ => guardD (decide (i.natAbs.log2 < 1920)) (.str (toString i), μ)
  | [.str a], μ => some (.str a, μ)
  | _, _ => none
theorem call_strD : CallR X (.type "str") (rDN R strD) := by
  intro pins s σ H xs us Q I r ⟨α, F, μ, ds, d, μ', hl, rl, e, hq⟩
  unfold strD at e
  split at e
  · obtain ⟨hz, e⟩ := guardD_some e
    cases e
    cases rl with
    | cons r1 t => cases t; cases r1; exact call_str_int pins s σ H _ us Q I r ⟨_, rfl, of_decide_eq_true hz, hq.here hl (.str _)⟩
  · cases e
    cases rl with
    | cons r1 t => cases t; cases r1; exact SkE.call_str_str pins s σ H _ us Q I r ⟨_, rfl, hq.here hl (.str _)⟩
  · cases e
def absD : OpN
  | [.int i], μ => some (.int (if i < 0 then -i else i), μ)
  | _, _ => none
theorem call_absD : CallR X (.builtin "abs") (rDN R absD) := by
  intro pins s σ H xs us Q I r ⟨α, F, μ, ds, d, μ', hl, rl, e, hq⟩
  unfold absD at e
  split at e
  · cases e
    cases rl with
    | cons r1 t => cases t; cases r1; exact call_abs pins s σ H _ us Q I r ⟨_, rfl, hq.here hl (.int _)⟩
  · cases e
/-! ### sorted -/
def leS (a b : Str) : Bool := !decide (b.cps.toList < a.cps.toList)
def insB {α : Type} (le : α → α → Bool) (x : α) : List α → List α
  | [] => [x]
  | y :: ys => if le x y then x :: y :: ys else y :: insB le x ys
def srtB {α : Type} (le : α → α → Bool) : List α → List α
  | [] => []
  | x :: xs => insB le x (srtB le xs)
theorem insB_perm {α : Type} (le : α → α → Bool) (x : α) : ∀ ys, (insB le x ys).Perm (x :: ys)
  | [] => .refl _
  | y :: ys => by
    unfold insB
    split
    · exact .refl _
    · exact (List.Perm.cons y (insB_perm le x ys)).trans (.swap x y ys)
theorem srtB_perm {α : Type} (le : α → α → Bool) : ∀ xs, (srtB le xs).Perm xs
  | [] => .refl _
  | x :: xs => (insB_perm le x _).trans (.cons x (srtB_perm le xs))
theorem insB_sorted {α : Type} {le : α → α → Bool} (tot : ∀ a b, le a b = true ∨ le b a = true) (tr : ∀ a b c, le a b = true → le b c = true → le a c = true) (x : α) : ∀ ys : List α, ys.Pairwise (fun a b => le a b = true) → (insB le x ys).Pairwise fun a b => le a b = true
  | [], _ => by simp [insB]
  | y :: ys, h => by
    unfold insB
    rw [List.pairwise_cons] at h
    split
    · rename_i hx
      refine List.pairwise_cons.mpr ⟨fun z hz => ?_, List.pairwise_cons.mpr h⟩
      rcases List.mem_cons.mp hz with rfl | hz
      · exact hx
      · exact tr _ _ _ hx (h.1 z hz)
    · rename_i hx
      refine List.pairwise_cons.mpr ⟨fun z hz => ?_, insB_sorted tot tr x ys h.2⟩
      have := (insB_perm le x ys).mem_iff.mp hz
      rcases List.mem_cons.mp this with rfl | hz
      · exact (tot z y).resolve_left hx
      · exact h.1 z hz
theorem srtB_sorted {α : Type} {le : α → α → Bool} (tot : ∀ a b, le a b = true ∨ le b a = true) (tr : ∀ a b c, le a b = true → le b c = true → le a c = true) : ∀ xs : List α, (srtB le xs).Pairwise fun a b => le a b = true
  | [] => .nil
  | x :: xs => insB_sorted tot tr x _ (srtB_sorted tot tr xs)
/-- a sorted permutation is the sorted list -/
theorem sorted_unique {α : Type} {le : α → α → Bool} (anti : ∀ a b, le a b = true → le b a = true → a = b) : ∀ {xs ys : List α}, xs.Perm ys → xs.Pairwise (fun a b => le a b = true) → ys.Pairwise (fun a b => le a b = true) → xs = ys
  | [], ys, p, _, _ => by rw [p.nil_eq]
  | x :: xs, [], p, _, _ => by cases p.symm.nil_eq
  | x :: xs, y :: ys, p, h1, h2 => by
    rw [List.pairwise_cons] at h1 h2
    have e : x = y := by
      have hx : x ∈ y :: ys := p.mem_iff.mp (by simp)
      have hy : y ∈ x :: xs := p.mem_iff.mpr (by simp)
      rcases List.mem_cons.mp hx with e | hx
      · exact e
      · rcases List.mem_cons.mp hy with e | hy
        · exact e.symm
        · exact anti _ _ (h1.1 _ hy) (h2.1 _ hx)
    subst e
    rw [sorted_unique anti ((List.perm_cons x).mp p) h1.2 h2.2]
theorem leS_iff {a b : Str} : leS a b = true ↔ ¬ b.cps.toList < a.cps.toList := by unfold leS; simp
theorem leS_tot (a b : Str) : leS a b = true ∨ leS b a = true := by
  rw [leS_iff, leS_iff]
  by_cases h : b.cps.toList < a.cps.toList
  · exact .inr fun z => List.lt_asymm h z
  · exact .inl h
theorem leS_tr (a b c : Str) : leS a b = true → leS b c = true → leS a c = true := by
  rw [leS_iff, leS_iff, leS_iff]
  intro h1 h2
  rw [List.not_lt] at h1 h2 ⊢
  exact List.le_trans h1 h2
theorem leS_anti (a b : Str) : leS a b = true → leS b a = true → a = b := by
  rw [leS_iff, leS_iff]
  intro h1 h2
  rw [List.not_lt] at h1 h2
  have e := List.le_antisymm h1 h2
  obtain ⟨a⟩ := a
  obtain ⟨b⟩ := b
  have : a = b := by simpa using e
  rw [this]
def leI (a b : Int) : Bool := decide (a ≤ b)
def keysStr : List (D × D) → Option (List Str)
  | [] => some []
  | (.str k, _) :: r => (keysStr r).map (k :: ·)
  | _ => none
theorem keysStr_ok {α : List Addr} {F : Hp} : ∀ {kvs : List (Key × V)} {es : List (D × D)} {ks : List Str}, Paired (fun p q => q.1 = kD p.1 ∧ Rep R α F p.2 q.2) kvs es → keysStr es = some ks → kvs.map (·.1) = ks.map Sum.inr
  | _, _, _, .nil, e => by cases e; rfl
  | (k, w) :: kvs, (d, q) :: es, ks, .cons h t, e => by
    cases k with
    | inl i =>
      have : d = .int i := h.1
      subst this
      cases e
    | inr x =>
      have : d = .str x := h.1
      subst this
      simp only [keysStr, Option.map_eq_some_iff] at e
      obtain ⟨cs, e1, rfl⟩ := e
      rw [List.map_cons, List.map_cons, keysStr_ok t e1]
def dctOf (d : D) (μ : Store) : Option (Nat × List (D × D)) := match d with
  | .dct tk es => some (tk, es)
  | .loc n => (match μ[n]? with
    | some (.dct tk es) => some (tk, es)
    | _ => none)
  | _ => none
theorem dctOf_ok {α : List Addr} {F H : Hp} {μ : Store} (hl : Rl R α F μ H) {x : V} {d : D} {tk : Nat} {es : List (D × D)} (r : Rep R α F x d) (e : dctOf d μ = some (tk, es)) : ∃ a o, x = .ref a ∧ H a = some o ∧ DOk R α F o tk es := by
  cases d with
  | dct tk' es' =>
    cases e
    cases r with
    | dK h h1 h2 h3 => exact ⟨_, _, rfl, hl.sub _ _ h, .inl ⟨rfl, _, rfl, paired_of h1 fun i p q e1 e2 => ⟨h2 i p q e1 e2, h3 i p q e1 e2⟩⟩⟩
    | dT h h1 h2 h3 => exact ⟨_, _, rfl, hl.sub _ _ h, .inr ⟨rfl, _, rfl, paired_of h1 fun i p q e1 e2 => ⟨h2 i p q e1 e2, h3 i p q e1 e2⟩⟩⟩
  | loc n =>
    obtain ⟨a, rfl, ha⟩ := r.loc_inv
    simp only [dctOf] at e
    split at e
    · rename_i q
      cases e
      obtain ⟨o, h1, h2⟩ := hl.cell n a _ ha q
      exact ⟨a, o, rfl, h1, h2⟩
    · cases e
  | _ => cases e
def sortedD : OpN
  | [d], μ => (match sqOf d μ with
    | some ds => (match strsOf ds, intsOf ds with
      | some ys, _ => guardD (decide (ys.length < 64)) (.lst ((srtB leS ys).map D.str), μ)
      | none, some ns => some (.lst ((srtB leI ns).map D.int), μ)
      | none, none => none)
    | none => (match dctOf d μ with
      | some (0, es) => (match keysStr es with
        | some ks => guardD (decide (ks.length < 64)) (.lst ((srtB leS ks).map D.str), μ)
        | none => none)
      | _ => none))
  | _, _ => none
theorem risingS_pw : ∀ {ys : List Str} {x : Str}, risingS x ys = true → (x :: ys).Pairwise fun a b => leS a b = true
  | [], x, _ => by simp
  | y :: ys, x, h => by
    unfold risingS at h
    simp only [Bool.and_eq_true] at h
    have ih := risingS_pw (x := y) (ys := ys) h.2
    have hxy : leS x y = true := by
      have := h.1
      rw [ltCps_eq] at this
      exact this
    refine List.pairwise_cons.mpr ⟨fun z hz => ?_, ih⟩
    rcases List.mem_cons.mp hz with rfl | hz
    · exact hxy
    · exact leS_tr _ _ _ hxy ((List.pairwise_cons.mp ih).1 z hz)
theorem sortedS_pw {ys : List Str} (h : sortedS ys = true) : ys.Pairwise fun a b => leS a b = true := by
  cases ys with
  | nil => exact .nil
  | cons y ys => exact risingS_pw h
theorem srt_strs {ys xs : List Str} (p : ys.Perm xs) (h : sortedS ys = true) : ys = srtB leS xs :=
  sorted_unique leS_anti (p.trans (srtB_perm leS xs).symm) (sortedS_pw h) (srtB_sorted leS_tot leS_tr xs)
theorem srt_ints {ys xs : List Int} (p : ys.Perm xs) (h : ys.Pairwise (· ≤ ·)) : ys = srtB leI xs :=
  sorted_unique (le := leI) (fun a b h1 h2 => by unfold leI at h1 h2; simp at h1 h2; omega) (p.trans (srtB_perm leI xs).symm) (h.imp fun z => by unfold leI; simpa using z)
    (srtB_sorted (fun a b => by unfold leI; simp; omega) (fun a b c h1 h2 => by unfold leI at *; simp at *; omega) xs)
theorem call_sortedDD (hK : X.K = R.K) (hc : X.calm = true) : CallR X (.builtin "sorted") (rDN R sortedD) := by
  intro pins s σ H xs us Q I r ⟨α, F, μ, ds, d, μ', hl, rl, e, hq⟩
  unfold sortedD at e
  split at e
  · rename_i d0
    cases rl with
    | cons r1 t =>
      cases t
      split at e
      · rename_i zs hs
        obtain ⟨a, vs, rfl, ha, la⟩ := sqOf_ok hl r1 hs
        split at e
        · rename_i ys hy
          obtain ⟨hz, e⟩ := guardD_some e
          cases e
          rw [strsOf_ok la hy] at ha
          refine cr_sortedS pins s σ H _ us Q I r ⟨a, ys, rfl, hK ▸ ha, of_decide_eq_true hz, fun ys' p pm st hp => ?_⟩
          rw [srt_strs pm st]
          exact postv_new hl hq hp (.mkLst upd_same (repL_strs _))
        · rename_i ns _ hn
          cases e
          rw [intsOf_ok la hn] at ha
          refine cr_sortedI pins s σ H _ us Q I r ⟨a, ns, rfl, hK ▸ ha, fun ys' p pm st hp => ?_⟩
          rw [srt_ints pm st]
          exact postv_new hl hq hp (.mkLst upd_same (repL_ints _))
        · cases e
      · split at e
        · rename_i es hd
          split at e
          · rename_i ks hk
            obtain ⟨hz, e⟩ := guardD_some e
            cases e
            obtain ⟨a, o, rfl, ho, hdk⟩ := dctOf_ok hl r1 hd
            rcases hdk with ⟨_, kvs, rfl, pp⟩ | ⟨z, _⟩
            · refine call_sortedD hc pins s σ H _ us Q I r ⟨a, kvs, ks, rfl, .inl ho, keysStr_ok pp hk, of_decide_eq_true hz, fun ys p pm st hp => ?_⟩
              rw [srt_strs pm st]
              exact postv_new hl hq hp (.mkLst upd_same (repL_strs _))
            · cases z
          · cases e
        · cases e
  · cases e
end DL
/-! DL31: enumerate (lists, tuples), a text walked, lists unpacked, three names at once. -/
namespace DL
open PySem PySem.Spec PyProof.Rows L2
/-! ### enumerate(t), t a tuple -/
/-- what enumerate makes for the iterator in cell i -/
def enumRec (i : Addr) : Obj := { cls := .type "enumerate", data := .fields #[.none, .bool false, .ref i, rawInt 0, .none, .none] }
/-- h' is h with the iterator o and the record of enumerate for it -/
structure EnumMade (h : Heap) (o : Obj) (h' : Heap) : Prop where
  record : IsEnum h' (h.objs.size + 1) h.objs.size 0 .none
  iter : h'.get? h.objs.size = some o
  keep : ∀ b ob, h.get? b = some ob → h'.get? b = some ob
theorem EnumMade.two {h : Heap} {o : Obj} (fo : o.isFreed = false) : EnumMade h o ((h.push o).push (enumRec h.objs.size)) where
  record := by
    have sz : (h.push o).objs.size = h.objs.size + 1 := by rw [Heap.size_push]
    rw [← sz]
    exact Heap.get?_push_size _ rfl
  iter := by
    apply Heap.get?_push_of_some
    exact Heap.get?_push_size _ fo
  keep := by
    intro b ob hb
    apply Heap.get?_push_of_some
    apply Heap.get?_push_of_some
    exact hb
theorem meets_enum1 {v : Value} {o : Obj} {H : Heap → Prop} (B : Begins v o H) :
    Meets (Builtin.«enumerate.__new__» ⟨[.type "enumerate", v], []⟩)
      (fun _ R s => H s.heap ∧ R (.ok (.ret (.ref (s.heap.push o).objs.size))) { s with heap := (s.heap.push o).push (enumRec s.heap.objs.size) }) := by
  refine Meets.of_wp ?_
  rintro prog w A R ⟨hp, g, d, tk, os⟩ ⟨pre, post⟩
  have su := sub_enumerate
  have begun : ∀ {A1 : Around} {Q E : Value → Shared → Prop}, Q (.ref hp.objs.size) ⟨hp.push o, g, d, tk, os⟩ → wpAny (model prog w) A1 (pyIter v) Q E ⟨hp, g, d, tk, os⟩ := by
    intro A1 Q E k
    exact B.iter prog w A1 E ⟨hp, g, d, tk, os⟩ Q pre k
  wp_walk using begun
  apply wpAny_stack_any
  intro st
  apply wpAny_pure
  split
  case' h_1 c _ _ _ _ _ => generalize (c == Value.type "enumerate") = yes; cases yes
  all_goals (wp_walk using begun; exact ⟨_, rfl, post⟩)
theorem call_enum1 {prog : Program} {w : World} {A : Around} {E Q : Value → Shared → Prop} {s : Shared} {v : Value} {o : Obj} {H : Heap → Prop} (B : Begins v o H) (pre : H s.heap)
    (k : ∀ h', EnumMade s.heap o h' → Q (.ref (s.heap.objs.size + 1)) { s with heap := h' }) : wpAny (model prog w) A (call (.type "enumerate") [v]) Q E s := by
  have mk := EnumMade.two (h := s.heap) B.free
  refine callType_new PySem.F.called_enumerate (by decide) (PySem.F.typeCall_enumerate_1 v) (PySem.F.newCall_enumerate_1 v) (fun obj => PySem.F.args_object_init_2 obj v) PySem.F.entry_enumerate_new (meets_enum1 B) ?_
  refine ⟨pre, ?_⟩
  have sz : (s.heap.push o).objs.size = s.heap.objs.size + 1 := by rw [Heap.size_push]
  rw [sz]
  exact ⟨⟨_, mk.record, rfl⟩, k _ mk⟩
/-- an iterator over a tuple that is through: it draws nothing more -/
theorem drawn_out {prog : Program} {w : World} {A : Around} {it t : Addr} {i : Nat} {items : Array Value} (hh : A.handled = none) (hx : items[i]? = none) :
    Draws prog w A it [it, t] i (fun _ _ => False) (fun j h => j = i ∧ h.IsTupleIter it t i ∧ h.IsTuple t items) where
  live := by
    rintro _ h ⟨_, ⟨o, ho, _⟩, _⟩
    exact ⟨o, ho⟩
  frame := by
    rintro j h h' ⟨e, p, q⟩ k
    exact ⟨e, p.at (k it (by simp)), q.at (k t (by simp))⟩
  item := by
    rintro j s Q E lt ⟨e, _⟩
    omega
  done := by
    rintro s Q E ⟨_, p, q⟩ k
    exact wpAny_nextOf_tuple_end hh p q hx k
/-- the tuple at a as it stands at each turn, each item in a new pair -/
def IteT (K : PySem.W.Frag) (a : Addr) : It where
  go i H := ∃ (xs : List V) (x : V), SqT K H a xs ∧ xs[i]? = some x
  yld i H v H' := ∃ T x, v = .ref T ∧ H T = none ∧ H' = upd H T (.tup [.int (i : Nat), x]) ∧ ∀ xs, SqT K H a xs → xs[i]? = some x
  stop i H := ∃ xs : List V, SqT K H a xs ∧ xs.length ≤ i
/-- no cell is a tuple and an iterator over one -/
theorem tuple_no_iter {h : Heap} {a b t : Addr} {i : Nat} {items : Array Value} (p : h.IsTuple a items) (q : h.IsTupleIter b t i) : a ≠ b := by
  rintro rfl
  obtain ⟨o, ho, _, n, hd⟩ := p
  obtain ⟨o', ho', _, hd'⟩ := q
  rw [ho] at ho'
  cases ho'
  rw [hd] at hd'
  cases hd'
theorem tuple_no_enum {h : Heap} {a e it : Addr} {c : Int} {old : Value} {items : Array Value} (p : h.IsTuple a items) (q : IsEnum h e it c old) : a ≠ e := by
  rintro rfl
  obtain ⟨o, ho, hc, _⟩ := p
  have q' : h.get? a = _ := q
  rw [ho] at q'
  cases q'
  exact absurd hc (by simp)
theorem turn_enumT {P : Program} {w : World} {K : PySem.W.Frag} {elts : List Expr} {kk : Nat} {tpos : Pos} (a e it : Addr) :
    Turn P w K (.Tuple elts kk tpos) (IteT K a) [e, it] e (fun i h => (∃ old, IsEnum h e it ((i : Nat) : Int) old) ∧ h.IsTupleIter it a i ∧ e ≠ it) where
  mem := List.mem_cons_self
  obj := by
    rintro i h ⟨⟨old, he⟩, ⟨o, ho, _, hd⟩, _⟩ b hb
    simp only [List.mem_cons, List.not_mem_nil, or_false] at hb
    rcases hb with rfl | rfl
    · refine ⟨_, he, ?_⟩
      rintro v ⟨⟩
    · refine ⟨o, ho, ?_⟩
      intro v hv
      cases hd.symm.trans hv
  keep := by
    rintro i h h' ⟨⟨old, he⟩, hi, ne⟩ k
    exact ⟨⟨old, k e (by simp) _ he⟩, hi.at (k it (by simp)), ne⟩
  item := by
    rintro X rfl rfl rfl hc i pins s σ H E I free ⟨⟨old, he⟩, hit, ne⟩ ⟨xs, x, hq, hx⟩
    obtain ⟨us, rv, tp, -⟩ := I.tuple hq
    obtain ⟨u, hu, ru⟩ := rv.get hx
    have hd : X.A.in1.handled = none := I.ok.hd hc
    have wt := WalksT.enumerateD (prog := X.prog) (w := X.w) (A := X.A) (Draws.tuple hd it a (tuple_no_iter tp hit) us.toArray) e ne (by simp [ne, (tuple_no_enum tp he).symm]) (by simp)
    have lt : i < us.toArray.size := by
      obtain ⟨l, _⟩ := List.getElem?_eq_some_iff.mp hu
      simpa using l
    refine wt.item i s _ _ lt ⟨⟨old, he⟩, hit, tp⟩ ?_
    rintro T vals h1 tk ⟨t, y, hy, rfl⟩ young isT mid same
    have yu : y = u := by
      have hy' : us.toArray[i]? = some y := hy
      rw [List.getElem?_toArray, hu] at hy'
      cases hy'
      rfl
    subst yu
    refine ⟨_, rfl, wt.go elts kk tpos i T _ _ _ mid ?_⟩
    rintro h2 ⟨on, hit2, -⟩ same2
    have out : T ∉ [e, it] := wt.apart i T h1 mid
    have fresh : H T = none := I.hok.fresh young
    have pairOk : ObjOk X.prog X.w (upd H T (.tup [.int (i : Nat), x])) h2 T (.tup [.int (i : Nat), x]) := by
      refine ⟨by show 2 ≤ sizeLine; decide, [.int i t, y], .cons ⟨t, rfl⟩ (.cons ru .nil), ?_⟩
      exact isT.at fun o ho => same2 T o out ho
    have J := I.turnedNew (t' := tk) (ch := [e, it]) (fun b ob nb hb => same2 b ob nb (same b ob nb hb)) free young pairOk
    refine ⟨.ref T, _, J, rfl, ⟨T, x, rfl, fresh, rfl, ?_⟩, ⟨on, hit2, ne⟩, ?_⟩
    · intro ys hy'
      cases I.tuple_inj hy' hq
      exact hx
    · intro b hb
      have nb : b ≠ T := by
        rintro rfl
        exact out hb
      rw [upd_ne nb]
      exact (free b hb).1
  done := by
    rintro X rfl rfl rfl hc i pins s σ H E I free ⟨⟨old, he⟩, hit, ne⟩ ⟨xs, hq, long⟩
    obtain ⟨us, rv, tp, -⟩ := I.tuple hq
    obtain ⟨f0, f1, f2, f3, f4, f5⟩ := free it (by simp)
    have none' : us.toArray[i]? = none := by
      have := rv.length
      simp
      omega
    refine wpAny_pyNext_enum_endD (drawn_out (t := a) (items := us.toArray) (I.ok.hd hc) none') he ⟨rfl, hit, tp⟩ ?_
    intro h' eb
    exact ⟨rfl, I.turned (t' := s.toks) eb f0 f1 f3 f4 f5⟩
  self := by
    rintro A i s Q E ⟨⟨old, he⟩, _⟩ k
    exact wpAny_pyIter_enum he k
def iEnumA (K : PySem.W.Frag) (ta : TA) : TI := fun σ H R => ta σ H fun vs H1 => ∃ a xs, vs = [.ref a] ∧ ((SqL K H1 a xs ∧ R (Ite K a) H1) ∨ (SqT K H1 a xs ∧ R (IteT K a) H1))
theorem pi_enumA {X : Cx} {e : Expr} {ta : TA} {p pos tpos : Pos} {elts : List Expr} {kk : Nat} (hg : Gl X "enumerate") (hm : X.mg "enumerate" = none) (ha : PA X [e] ta) (hs : starEach [e] X.env = [(false, eval e X.env)]) :
    PI X (.Tuple elts kk tpos) (.Call (.Name "enumerate" p) [e] [] pos) (iEnumA X.K ta) := by
  constructor
  intro pins s σ H R I h
  refine Call_ ?_
  refine ld_blt I hg hm boot_enumerate ?_
  refine PyProof.Rows.callWith_type1 (thn (ha.run pos pins s σ H _ I h) ?_) hs rfl
  rintro us s1 ⟨vs, H1, I1, r1, a, xs, rfl, q⟩
  cases r1 with
  | cons r rest =>
  cases rest
  cases r
  have free : ∀ b ∈ [s1.heap.objs.size + 1, s1.heap.objs.size], FpOk X pins H1 b := by
    intro b hb
    have young : s1.heap.objs.size ≤ b := by
      simp only [List.mem_cons, List.not_mem_nil, or_false] at hb
      omega
    exact I1.fpOk young (I1.hok.fresh young)
  rcases q with ⟨hq, q⟩ | ⟨hq, q⟩
  · obtain ⟨its, rv, pl, -⟩ := I1.list hq
    apply call_enumerate_list pl.isList
    intro h' he hit _ hk
    apply wpAny_pyIter_enum he
    exact ⟨_, _, _, Ite X.K a, H1, rfl, I1.kept (t' := s1.toks) hk, turn_enum a _ _, ⟨⟨.none, he⟩, hit, Nat.succ_ne_self _⟩, free, q⟩
  · obtain ⟨its, rv, pt, -⟩ := I1.tuple hq
    apply call_enum1 (begins_tuple a its.toArray) pt
    rintro h' ⟨he, hit, hk⟩
    apply wpAny_pyIter_enum he
    exact ⟨_, _, _, IteT X.K a, H1, rfl, I1.kept (t' := s1.toks) hk, turn_enumT a _ _, ⟨⟨.none, he⟩, ⟨_, hit, rfl, rfl⟩, Nat.succ_ne_self _⟩, free, q⟩
variable {R : Rc} {X : Cx} {W : WX}
def enumDs (xs : List D) : List D := xs.zipIdx.map fun p => .tup [.int (p.2 : Int), p.1]
theorem enumDs_get {xs : List D} {i : Nat} {d : D} (h : (enumDs xs)[i]? = some d) : ∃ x, xs[i]? = some x ∧ d = .tup [.int (i : Int), x] := by
  simp only [enumDs, List.getElem?_map, Option.map_eq_some_iff, List.getElem?_zipIdx] at h
  obtain ⟨⟨x, j⟩, ⟨y, e1, e2⟩, e3⟩ := h
  cases e2
  exact ⟨x, e1, by rw [← e3]; simp⟩
theorem walks_enumL1 (hK : X.K = R.K) {α : List Addr} {F : Hp} {a : Addr} {vs : List V} {ds : List D} (h : SqL R.K F a vs) (r : RepL R α F vs ds) : Walks1 R (Ite X.K a) α F (enumDs ds) := fun α' F' μ' H' ha hF hl => by
  have k1 : SqL X.K H' a vs := hK ▸ hl.sub.seq (hF.seq h)
  refine ⟨fun i hi => ⟨vs, k1, ?_⟩, fun i d hd => ?_⟩
  · simp only [enumDs, List.length_map, List.length_zipIdx] at hi
    rw [r.length]; exact hi
  · obtain ⟨x, e1, rfl⟩ := enumDs_get hd
    obtain ⟨v, hv, rv⟩ := paired_left r i x e1
    refine ⟨⟨vs, v, k1, hv⟩, fun z H'' ⟨T, x1, ez, nT, eH, f1⟩ => ?_⟩
    subst ez eH
    have q1 := f1 vs k1
    rw [hv] at q1
    cases q1
    exact pair_new hl nT (.int _) (rv.mono ha hF)
theorem walks_enumT1 (hK : X.K = R.K) {α : List Addr} {F : Hp} {a : Addr} {vs : List V} {ds : List D} (h : SqT R.K F a vs) (r : RepL R α F vs ds) : Walks1 R (IteT X.K a) α F (enumDs ds) := fun α' F' μ' H' ha hF hl => by
  have k1 : SqT X.K H' a vs := hK ▸ Same.sqT hl.sub (Same.sqT hF h)
  refine ⟨fun i hi => ⟨vs, k1, ?_⟩, fun i d hd => ?_⟩
  · simp only [enumDs, List.length_map, List.length_zipIdx] at hi
    rw [r.length]; exact hi
  · obtain ⟨x, e1, rfl⟩ := enumDs_get hd
    obtain ⟨v, hv, rv⟩ := paired_left r i x e1
    refine ⟨⟨vs, v, k1, hv⟩, fun z H'' ⟨T, x1, ez, nT, eH, f1⟩ => ?_⟩
    subst ez eH
    have q1 := f1 vs k1
    rw [hv] at q1
    cases q1
    exact pair_new hl nT (.int _) (rv.mono ha hF)
def mEnum (m : Rho → Ev (List D)) : Rho → Ev (List D) := fun ρ => (m ρ).bind fun ds μ => match ds with
  | [d] => (match sqPure d with
    | some xs => some (.ok (enumDs xs), μ)
    | none => none)
  | _ => none
theorem pid_enum (hK : X.K = R.K) {a : Expr} {m : Rho → Ev (List D)} {p pos tpos : Pos} {elts : List Expr} {kk : Nat} (hg : Gl X "enumerate") (hmg : X.mg "enumerate" = none) (ha : PAD R X W [a] m) (hs : starEach [a] X.env = [(false, eval a X.env)]) :
    PID R X W (.Tuple elts kk tpos) (.Call (.Name "enumerate" p) [a] [] pos) (mEnum m) :=
  pi_imp (pi_enumA hg hmg ha hs) fun σ H K ⟨α, F, μ, ρ, r, μ', hE, hl, hm, hp⟩ => by
    rcases Ev.bind_inv hm with ⟨ds, μ1, e1, hm1⟩ | ⟨x, e1, rfl⟩
    · refine ⟨α, F, μ, ρ, _, _, hE, hl, e1, fun α1 F1 H1 vs n1 r1 => ?_⟩
      split at hm1
      · rename_i d
        split at hm1
        · rename_i xs hx
          cases hm1
          cases r1 with
          | cons a1 t1 =>
            cases t1
            cases d with
            | lst ys =>
              cases hx
              obtain ⟨c, cs, rfl, h1, l1⟩ := a1.lst_inv
              exact ⟨c, cs, rfl, .inl ⟨hK ▸ SqL.of (n1.2.2.sub _ _ h1), hp α1 F1 H1 _ n1 fun P => walks_enumL1 (R := R.wP P) hK (SqL.of h1) l1.wP⟩⟩
            | klst ys =>
              cases hx
              obtain ⟨c, cs, rfl, h1, l1⟩ := a1.klst_inv
              exact ⟨c, cs, rfl, .inl ⟨hK ▸ n1.2.2.sub.seq h1, hp α1 F1 H1 _ n1 fun P => walks_enumL1 (R := R.wP P) hK h1 l1.wP⟩⟩
            | tup ys =>
              cases hx
              obtain ⟨c, cs, rfl, h1, l1⟩ := a1.tup_inv
              exact ⟨c, cs, rfl, .inr ⟨hK ▸ Same.sqT n1.2.2.sub h1.sq, hp α1 F1 H1 _ n1 fun P => walks_enumT1 (R := R.wP P) hK h1.sq l1.wP⟩⟩
            | _ => cases hx
        · cases hm1
      · cases hm1
    · exact ⟨α, F, μ, ρ, _, _, hE, hl, e1, hp⟩
/-! ### a text, sign by sign -/
def chD (x : Str) : List D := x.cps.toList.map fun c => D.str ⟨#[c]⟩
theorem walks_str {α : List Addr} {F : Hp} {x : Str} : Walks R (Its x) α F (chD x) := fun P α' F' μ' H' ha hF hl => by
  refine ⟨fun i hi => ?_, fun i d hd => ?_⟩
  · show x.cps.size ≤ i
    simpa [chD] using hi
  · have hi : i < x.cps.size := by
      have := (List.getElem?_eq_some_iff.mp hd).1
      simpa [chD] using this
    refine ⟨hi, fun v H'' ⟨e, c, hc, hv⟩ => ⟨α', F', by subst e; exact Nx.refl hl, ?_⟩⟩
    subst hv
    simp only [chD, List.getElem?_map, Array.getElem?_toList, hc, Option.map_some, Option.some.injEq] at hd
    subst hd
    exact .str _
/-- a list or tuple that stays, or a text -/
def mSeqS (m : Rho → Ev D) : Rho → Ev (List D) := fun ρ => (m ρ).bind fun d μ => match d with
  | .str x => some (.ok (chD x), μ)
  | _ => none
theorem pid_str {tg e : Expr} {m : Rho → Ev D} (h : PED R X W e m) : PID R X W tg e (mSeqS m) :=
  pi_imp (pi_str h) fun σ H K ⟨α, F, μ, ρ, r, μ', hE, hl, hm, hp⟩ => by
    rcases Ev.bind_inv hm with ⟨d, μ1, e1, hm1⟩ | ⟨x, e1, rfl⟩
    · refine ⟨α, F, μ, ρ, _, _, hE, hl, e1, fun α1 F1 H1 v n1 r1 => ?_⟩
      split at hm1
      · cases hm1; cases r1
        exact ⟨_, rfl, hp α1 F1 H1 _ n1 walks_str⟩
      · cases hm1
    · exact ⟨α, F, μ, ρ, _, _, hE, hl, e1, hp⟩
/-! ### targets: lists too -/
def gSeqD (n : Nat) (u : List D → Rho → Option Rho) : Tgt
  | .lst ds, ρ => if ds.length = n then u ds ρ else none
  | .klst ds, ρ => if ds.length = n then u ds ρ else none
  | _, _ => none
theorem pgd_lst {ws : List Nat} (hK : X.K = R.K) {es : List Expr} {k n : Nat} {pos : Pos} {u : List D → Rho → Option Rho} (hc : X.calm = true) (h : PGsD R X es ws u) (hn : (assignEach es X.env).length = n) (hst : (assignEach es X.env).findIdx? (·.1) = none) :
    PGD R X (.Tuple es k pos) ws (gSeqD n u) :=
  pg_imp (pg_lst hc h hn hst) fun v σ H Q ⟨α, F, μ, ρ, d, ρ', hE, hl, r, e, hq⟩ => by
    unfold gSeqD at e
    split at e
    · split at e
      · rename_i hlen
        obtain ⟨a, vs, rfl, h, la⟩ := sqOf_ok (ds := _) hl r (by rfl)
        exact ⟨a, vs, rfl, hK ▸ h, by rw [la.length]; exact hlen, α, F, μ, ρ, _, ρ', hE, hl, la, e, hq⟩
      · cases e
    · split at e
      · rename_i hlen
        obtain ⟨a, vs, rfl, h, la⟩ := sqOf_ok (ds := _) hl r (by rfl)
        exact ⟨a, vs, rfl, hK ▸ h, by rw [la.length]; exact hlen, α, F, μ, ρ, _, ρ', hE, hl, la, e, hq⟩
      · cases e
    · cases e
/-- a, b, c = e1, e2, e3 -/
def xPar3 (i j l : Nat) (ma : Rho → Ev (List D)) : Ex := fun ρ μ => match ma ρ μ with
  | some (.ok [x, y, z], μ1) => if i < ρ.length ∧ j < ρ.length ∧ l < ρ.length then some (.nx (((ρ.set i (some x)).set j (some y)).set l (some z)), μ1) else none
  | some (.err x, μ1) => some (.er x ρ, μ1)
  | _ => none
theorem psd_par3 {i j l : Nat} {x y z : Str} {a b c : Expr} {ma : Rho → Ev (List D)} {px py pz pt pos : Pos} {kt k2 pt2} (hc : X.calm = true) (hN : X.N.Nodup) (hi : X.N[i]? = some x) (hj : X.N[j]? = some y) (hl3 : X.N[l]? = some z) (hij : i ≠ j) (hil : i ≠ l) (hjl : j ≠ l)
    (hx : X.env.scope.names.lookup x = some .local) (hy : X.env.scope.names.lookup y = some .local) (hz : X.env.scope.names.lookup z = some .local)
    (ha : PAD R X W [a, b, c] ma) (hw : SwapTo X (.Tuple [.Name x px, .Name y py, .Name z pz] kt pt) (.Tuple [a, b, c] k2 pt2) [x, y, z]) : PSD R X W (.Assign [.Tuple [.Name x px, .Name y py, .Name z pz] kt pt] (.Tuple [a, b, c] k2 pt2) pos) (xPar3 i j l ma) :=
  psd_of (ps_par3 hc hN hi hj hl3 hij hil hjl hx hy hz ha hw) fun E σ H α F μ ρ o μ' hE hl hm hp => by
    unfold xPar3 at hm
    split at hm
    · rename_i d1 d2 d3 μ1 e
      split at hm
      · cases hm
        refine ⟨α, F, μ, ρ, _, _, hE, hl, e, fun α1 F1 H1 vs n1 r1 => ?_⟩
        cases r1 with
        | cons h1 t1 =>
          cases t1 with
          | cons h2 t2 =>
            cases t2 with
            | cons h3 t3 =>
              cases t3
              exact ⟨_, _, _, rfl, hp α1 F1 H1 _ n1 ((((hE.mono n1).set h1).set h2).set h3)⟩
      · cases hm
    · rename_i x μ1 e
      cases hm
      exact ⟨α, F, μ, ρ, _, _, hE, hl, e, fun α1 F1 H1 cls dd n1 xx => hp α1 F1 H1 σ cls dd n1 (hE.mono n1) xx⟩
    · cases hm
end DL
/-! DL32: comprehensions of two clauses; dict comprehensions. -/
namespace DL
open PySem PySem.Spec PyProof.Rows L2
variable {R : Rc} {X : Cx} {W : WX}
/-! ### an object that is being made is protected -/
section
variable {α : List Addr} {F H : Hp} {μ : Store} {d0 : Addr} {o o' : HO}
theorem wPP {P : Hp} : (R.wP P).P = P := rfl
theorem Rl.guardO (h : Rl R α F μ H) (hd : H d0 = none) : Rl (R.wP (upd R.P d0 o)) α F μ (upd H d0 o) := by
  have u := h.newU (o := o) hd
  refine ⟨u.sub, u.len, fun n a c e1 e2 => (u.cell n a c e1 e2).wP, u.inj, u.out, fun b ob e => ?_, fun n a c e1 e2 e3 => ?_, fun b ob e => ?_⟩
  · rw [wPP] at e
    by_cases hb : b = d0
    · subst hb; rw [upd_same] at e ⊢; exact e
    · rw [upd_ne hb] at e ⊢; exact h.prot _ _ e
  · obtain ⟨o', ho⟩ := (h.cell n a c e1 e2).there e3
    rw [wPP, upd_ne (ne_of_none ho hd)]
    exact h.pout n a c e1 e2 e3
  · by_cases hb : b = d0
    · subst hb; exact h.fresh hd
    · rw [wPP, upd_ne hb] at e
      exact h.pf _ _ e
theorem nocell (h : Rl (R.wP (upd R.P d0 o)) α F μ H) : ∀ (n : Nat) a c, α[n]? = some a → μ[n]? = some c → c.live = true → a ≠ d0 := fun n a c e1 e2 e3 z => by
  have := h.pout n _ c e1 e2 e3
  rw [wPP, z, upd_same] at this
  cases this
theorem Rl.growO (h : Rl (R.wP (upd R.P d0 o)) α F μ H) (hp : ∀ a o, R.P a = some o → a ≠ d0) : Rl (R.wP (upd R.P d0 o')) α F μ (upd H d0 o') := by
  have hF : F d0 = none := h.pf d0 _ upd_same
  have nc := nocell h
  refine ⟨fun b ob e => ?_, h.len, fun n a c e1 e2 => ?_, h.inj, h.out, fun b ob e => ?_, fun n a c e1 e2 e3 => ?_, fun b ob e => ?_⟩
  · rw [upd_ne (ne_of_none e hF)]; exact h.sub _ _ e
  · have z : CellOk (R.wP (upd R.P d0 o')) α F H a c := (h.cell n a c e1 e2).wP (R := R.wP (upd R.P d0 o))
    exact z.heap fun hl => upd_ne (nc n a c e1 e2 hl)
  · rw [wPP] at e
    by_cases hb : b = d0
    · subst hb; rw [upd_same] at e ⊢; exact e
    · rw [upd_ne hb] at e ⊢
      exact h.prot b ob (by rw [wPP, upd_ne hb]; exact e)
  · rw [wPP, upd_ne (nc n a c e1 e2 e3)]
    have := h.pout n a c e1 e2 e3
    rw [wPP, upd_ne (nc n a c e1 e2 e3)] at this
    exact this
  · rw [wPP] at e
    by_cases hb : b = d0
    · subst hb; exact hF
    · rw [upd_ne hb] at e
      exact h.pf b ob (by rw [wPP, upd_ne hb]; exact e)
theorem Rl.unguardO (h : Rl (R.wP (upd R.P d0 o)) α F μ H) (hp : ∀ a o, R.P a = some o → a ≠ d0) : Rl R α (upd F d0 o) μ H ∧ F d0 = none := by
  have hF : F d0 = none := h.pf d0 _ upd_same
  have nc := nocell h
  have pp : ∀ b ob, R.P b = some ob → (R.wP (upd R.P d0 o)).P b = some ob := fun b ob e => by rw [wPP, upd_ne (hp b ob e)]; exact e
  refine ⟨⟨fun b ob e => ?_, h.len, fun n a c e1 e2 => ?_, h.inj, fun n a c e1 e2 e3 => ?_, fun b ob e => h.prot b ob (pp b ob e), fun n a c e1 e2 e3 => ?_, fun b ob e => ?_⟩, hF⟩
  · by_cases hb : b = d0
    · subst hb
      rw [upd_same] at e
      cases e
      exact h.prot b _ upd_same
    · rw [upd_ne hb] at e; exact h.sub _ _ e
  · have z : CellOk R α F H a c := (h.cell n a c e1 e2).wP (R := R.wP (upd R.P d0 o)) (P := R.P)
    exact z.mono (List.prefix_refl _) (same_upd hF)
  · rw [upd_ne (nc n a c e1 e2 e3)]; exact h.out n a c e1 e2 e3
  · have := h.pout n a c e1 e2 e3
    rw [wPP, upd_ne (nc n a c e1 e2 e3)] at this
    exact this
  · rw [upd_ne (hp b ob e)]; exact h.pf b ob (pp b ob e)
end
/-! ### two clauses -/
def compL2 (g : Tgt) (c : Rho → Ev Bool) (mi1 : Rho → Ev (List D)) (vs1 : List Nat) (g1 : Tgt) (c1 : Rho → Ev Bool) (f : Rho → Ev D) (ρ : Rho) : List D → Ev (List D)
  | [], μ => some (.ok [], μ)
  | d :: r, μ => match g d ρ with
    | none => none
    | some ρ1 => match c ρ1 μ with
      | some (.ok true, μ1) => (match mi1 ρ1 μ1 with
        | some (.ok ds1, μ2) => (match compL g1 c1 f (wipeR ρ1 vs1) ds1 μ2 with
          | some (.ok ys, μ3) => (match compL2 g c mi1 vs1 g1 c1 f ρ r μ3 with
            | some (.ok zs, μ4) => some (.ok (ys ++ zs), μ4)
            | _ => none)
          | _ => none)
        | _ => none)
      | some (.ok false, μ1) => compL2 g c mi1 vs1 g1 c1 f ρ r μ1
      | _ => none
def mLc2 (mi : Rho → Ev (List D)) (g : Tgt) (c : Rho → Ev Bool) (mi1 : Rho → Ev (List D)) (g1 : Tgt) (c1 : Rho → Ev Bool) (f : Rho → Ev D) (vs vs1 : List Nat) : Rho → Ev D := fun ρ μ => match mi ρ μ with
  | some (.ok ds, μ1) => (match compL2 g c mi1 vs1 g1 c1 f (wipeR ρ vs) ds μ1 with
      | some (.ok ys, μ2) => if ys.length ≤ sizeLine then some (.ok (.lst ys), μ2) else none
      | _ => none)
  | some (.err x, μ1) => some (.err x, μ1)
  | none => none
theorem pi_ex {ι : Type} {tg e : Expr} {t : ι → TI} (h : ∀ i, PI X tg e (t i)) : PI X tg e (fun σ H K => ∃ i, t i σ H K) := ⟨fun pins s σ H K I ⟨i, w⟩ => (h i).run pins s σ H K I w⟩
abbrev lcI (R : Rc) (mi : Rho → Ev (List D)) : TI := fun σ H K => ∃ P, tI (R.wP P) W0 mi σ H K
section
variable {elt tg iter tg1 iter1 : Expr} {ifs ifs1 : List Expr} {scope : Scope} {own : List (Str × Nat)} {vs1 : List Nat} {pos : Pos} {mi mi1 : Rho → Ev (List D)} {g g1 : Tgt} {c c1 : Rho → Ev Bool} {f : Rho → Ev D}
theorem lc2_sp {vs : List Nat} (hv : ∀ i ∈ vs1, i ∈ vs) {σ : L2.St} {H : Hp} {Q : VK} {α F μ ρ r μ'} (hE : EnvR R α F σ ρ) (hl : Rl R α F μ H) (hm : mLc2 mi g c mi1 g1 c1 f vs vs1 ρ μ = some (r, μ')) (hp : Post R W σ α F Q r μ') :
    tLc2 (tI R W mi) (lcG R vs g) (lcT R c) (lcI R mi1) (lcG R vs1 g1) (lcT R c1) (lcE R f) vs vs1 σ H Q := by
  unfold mLc2 at hm
  split at hm
  · rename_i ds μ1 e
    split at hm
    · rename_i ys μ2 ec
      split at hm
      · rename_i hz
        cases hm
        refine ⟨α, F, μ, ρ, _, _, hE, hl, e, fun α1 F1 H1 J n1 wk D hD => ?_⟩
        have hpd : ∀ a o, R.P a = some o → a ≠ D := fun a o e => ne_of_none (n1.2.2.prot _ _ e) hD
        refine ⟨fun i n H' => ∃ α2 F2 μ3 acc done rest, n = ds.length - i ∧ i ≤ ds.length ∧ Rl (R.wP (upd R.P D (.lst acc))) α2 F2 μ3 H' ∧ α1 <+: α2 ∧ Same F1 F2 ∧ RepL R α2 F2 acc done ∧ compL2 g c mi1 vs1 g1 c1 f (wipeR ρ vs) (ds.drop i) μ3 = some (.ok rest, μ') ∧ done ++ rest = ys,
          ⟨_, α1, F1, μ1, [], [], ys, rfl, Nat.zero_le _, n1.2.2.guardO hD, List.prefix_refl _, Same.refl _, .nil, by rw [List.drop_zero]; exact ec, rfl⟩, ?_⟩
        rintro i n H' ⟨α2, F2, μ3, acc, done, rest, rfl, hi, hl2, ha2, hF2, racc, hm2, hdr⟩
        obtain ⟨w1, w2⟩ := wk (upd R.P D (.lst acc)) α2 F2 μ3 H' ha2 hF2 hl2
        by_cases hlt : i < ds.length
        · have hd : ds[i]? = some ds[i] := List.getElem?_eq_getElem hlt
          obtain ⟨w3, w4⟩ := w2 i _ hd
          rw [List.drop_eq_getElem_cons hlt] at hm2
          unfold compL2 at hm2
          split at hm2
          · cases hm2
          · rename_i ρ3 eg
            refine .inr ⟨w3, fun H4 => ∃ α4 F4 μ4 acc4 done4 rest4, Rl (R.wP (upd R.P D (.lst acc4))) α4 F4 μ4 H4 ∧ α1 <+: α4 ∧ Same F1 F4 ∧ RepL R α4 F4 acc4 done4 ∧ compL2 g c mi1 vs1 g1 c1 f (wipeR ρ vs) (ds.drop (i + 1)) μ4 = some (.ok rest4, μ') ∧ done4 ++ rest4 = ys, ?_, fun x H3 hy => ?_⟩
            · rintro H4 ⟨α4, F4, μ4, acc4, done4, rest4, z1, z2, z3, z4, z5, z6⟩
              exact ⟨ds.length - (i + 1), by omega, α4, F4, μ4, acc4, done4, rest4, rfl, hlt, z1, z2, z3, z4, z5, z6⟩
            · obtain ⟨α3, F3, n3, r3⟩ := w4 x H3 hy
              have hE3 : EnvR R α3 F3 σ ρ := by
                refine ⟨hE.1, fun j d ej => ?_⟩
                obtain ⟨v, e1, rv⟩ := hE.2 j d ej
                exact ⟨v, e1, (n1.rep rv).mono (ha2.trans n3.1) (hF2.trans n3.2.1)⟩
              refine ⟨upd R.P D (.lst acc), α3, F3, μ3, wipeR ρ vs, _, ρ3, (hE3.wipe vs).wP, n3.2.2, r3, eg, fun α4 F4 H4 σ4 n4 hw e4 => ?_⟩
              refine ⟨by rw [hw, wipe_wipe], ?_⟩
              split at hm2
              · rename_i μ5 ecd
                refine ⟨upd R.P D (.lst acc), α4, F4, μ3, ρ3, _, _, e4, n4.2.2, ecd, fun α5 F5 H5 n5 => ?_⟩
                refine iteT ?_
                split at hm2
                · rename_i ds1 μ6 ei
                  split at hm2
                  · rename_i ys1 μ7 ec1
                    split at hm2
                    · rename_i zs1 μ8 ecl
                      cases hm2
                      refine ⟨upd R.P D (.lst acc), α5, F5, μ5, ρ3, _, _, e4.mono n5, n5.2.2, ei, fun α6 F6 H6 J1 n6 wk1 => ?_⟩
                      have A6 : α2 <+: α6 := n3.1.trans (n4.1.trans (n5.1.trans n6.1))
                      have S6 : Same F2 F6 := n3.2.1.trans (n4.2.1.trans (n5.2.1.trans n6.2.1))
                      refine ⟨fun j k H' => ∃ α7 F7 μ9 acc7 done7 rest7, k = ds1.length - j ∧ j ≤ ds1.length ∧ Rl (R.wP (upd R.P D (.lst acc7))) α7 F7 μ9 H' ∧ α6 <+: α7 ∧ Same F6 F7 ∧ RepL R α7 F7 acc7 done7 ∧ compL g1 c1 f (wipeR ρ3 vs1) (ds1.drop j) μ9 = some (.ok rest7, μ7) ∧ done7 ++ rest7 ++ zs1 = ys,
                        ⟨_, α6, F6, μ6, acc, done, ys1, rfl, Nat.zero_le _, n6.2.2, List.prefix_refl _, Same.refl _, racc.mono A6 S6, by rw [List.drop_zero]; exact ec1, by rw [← hdr, List.append_assoc]⟩, ?_⟩
                      rintro j k H7 ⟨α7, F7, μ9, acc7, done7, rest7, rfl, hj, hl7, ha7, hF7, racc7, hm7, hdr7⟩
                      obtain ⟨u1, u2⟩ := wk1 (upd R.P D (.lst acc7)) α7 F7 μ9 H7 ha7 hF7 hl7
                      have E7 : EnvR R α7 F7 σ4 ρ3 := ((e4.mono n5).mono n6 |>.uP).1 |> fun h => ⟨h, fun jj d ej => by
                        obtain ⟨v, e1, rv⟩ := ((e4.mono n5).mono n6).uP.2 jj d ej
                        exact ⟨v, e1, rv.mono ha7 hF7⟩⟩
                      by_cases hlt1 : j < ds1.length
                      · have hd1 : ds1[j]? = some ds1[j] := List.getElem?_eq_getElem hlt1
                        obtain ⟨u3, u4⟩ := u2 j _ hd1
                        rw [List.drop_eq_getElem_cons hlt1] at hm7
                        unfold compL at hm7
                        split at hm7
                        · cases hm7
                        · rename_i ρ8 eg1
                          refine .inr ⟨u3, fun H8 => ∃ α8 F8 μ10 acc8 done8 rest8, Rl (R.wP (upd R.P D (.lst acc8))) α8 F8 μ10 H8 ∧ α6 <+: α8 ∧ Same F6 F8 ∧ RepL R α8 F8 acc8 done8 ∧ compL g1 c1 f (wipeR ρ3 vs1) (ds1.drop (j + 1)) μ10 = some (.ok rest8, μ7) ∧ done8 ++ rest8 ++ zs1 = ys, ?_, fun x1 H8 hy1 => ?_⟩
                          · rintro H8 ⟨α8, F8, μ10, acc8, done8, rest8, z1, z2, z3, z4, z5, z6⟩
                            exact ⟨ds1.length - (j + 1), by omega, α8, F8, μ10, acc8, done8, rest8, rfl, hlt1, z1, z2, z3, z4, z5, z6⟩
                          · obtain ⟨α8, F8, n8, r8⟩ := u4 x1 H8 hy1
                            have E8 : EnvR (R.wP (upd R.P D (.lst acc7))) α8 F8 σ4 ρ3 := (E7.wP).mono n8
                            refine ⟨upd R.P D (.lst acc7), α8, F8, μ9, wipeR ρ3 vs1, _, ρ8, E8.wipe vs1, n8.2.2, r8, eg1, fun α9 F9 H9 σ9 n9 hw9 e9 => ?_⟩
                            refine ⟨by rw [hw9, wipe_wipe], ?_⟩
                            split at hm7
                            · rename_i μ11 ecd1
                              refine ⟨upd R.P D (.lst acc7), α9, F9, μ9, ρ8, _, _, e9, n9.2.2, ecd1, fun α10 F10 H10 n10 => ?_⟩
                              refine iteT ?_
                              split at hm7
                              · rename_i y μ12 ef
                                refine ⟨upd R.P D (.lst acc7), α10, F10, μ11, ρ8, _, _, e9.mono n10, n10.2.2, ef, fun α11 F11 H11 v11 n11 r11 => ?_⟩
                                split at hm7
                                · rename_i ys6 μ13 ecl6
                                  cases hm7
                                  have A11 : α7 <+: α11 := n8.1.trans (n9.1.trans (n10.1.trans n11.1))
                                  have S11 : Same F7 F11 := n8.2.1.trans (n9.2.1.trans (n10.2.1.trans n11.2.1))
                                  refine ⟨acc7, n11.2.2.prot D _ upd_same, ?_, α11, F11, μ12, acc7 ++ [v11], done7 ++ [y], ys6, n11.2.2.growO hpd, ha7.trans A11, hF7.trans S11, ?_, ecl6, by rw [← hdr7]; simp⟩
                                  · have : done7.length < ys.length := by rw [← hdr7]; simp
                                    rw [racc7.length]; omega
                                  · exact paired_append (racc7.mono A11 S11) (.cons r11.uP .nil)
                                · cases hm7
                              · cases hm7
                            · rename_i μ11 ecd1
                              refine ⟨upd R.P D (.lst acc7), α9, F9, μ9, ρ8, _, _, e9, n9.2.2, ecd1, fun α10 F10 H10 n10 => ?_⟩
                              refine iteF ?_
                              have A10 : α7 <+: α10 := n8.1.trans (n9.1.trans n10.1)
                              have S10 : Same F7 F10 := n8.2.1.trans (n9.2.1.trans n10.2.1)
                              exact ⟨α10, F10, μ11, acc7, done7, rest7, n10.2.2, ha7.trans A10, hF7.trans S10, racc7.mono A10 S10, hm7, hdr7⟩
                            · cases hm7
                      · have ej : j = ds1.length := by omega
                        subst ej
                        rw [List.drop_length] at hm7
                        cases hm7
                        rw [List.append_nil] at hdr7
                        exact .inl ⟨u1 _ (Nat.le_refl _), α7, F7, _, acc7, done7, zs1, hl7, ha2.trans (A6.trans ha7), hF2.trans (S6.trans hF7), racc7, ecl, hdr7⟩
                    · cases hm2
                  · cases hm2
                · cases hm2
              · rename_i μ5 ecd
                refine ⟨upd R.P D (.lst acc), α4, F4, μ3, ρ3, _, _, e4, n4.2.2, ecd, fun α5 F5 H5 n5 => ?_⟩
                refine iteF ?_
                exact ⟨α5, F5, μ5, acc, done, rest, n5.2.2, ha2.trans (n3.1.trans (n4.1.trans n5.1)), hF2.trans (n3.2.1.trans (n4.2.1.trans n5.2.1)), racc.mono (n3.1.trans (n4.1.trans n5.1)) (n3.2.1.trans (n4.2.1.trans n5.2.1)), hm2, hdr⟩
              · cases hm2
        · have e : i = ds.length := by omega
          subst e
          rw [List.drop_length] at hm2
          cases hm2
          rw [List.append_nil] at hdr
          subst hdr
          obtain ⟨hlu, hFd⟩ := hl2.unguardO hpd
          refine .inl ⟨w1 _ (Nat.le_refl _), hp α2 (upd F2 D (.lst acc)) H' _ ⟨n1.1.trans ha2, (n1.2.1.trans hF2).trans (same_upd hFd), hlu⟩ ?_⟩
          exact .mkLst upd_same (racc.mono (List.prefix_refl _) (same_upd hFd))
      · cases hm
    · cases hm
  · rename_i x μ1 e
    cases hm
    exact ⟨α, F, μ, ρ, _, _, hE, hl, e, hp⟩
  · cases hm
theorem ped_lc2 (hc : X.calm = true) (hN : X.N.Nodup) (hi : PID R X W tg iter mi) (ok : BlkOk X.N X.env.scope scope own) (hv : ∀ i ∈ vs1, i ∈ own.map (·.2))
    (hg : ∀ P s H C cl fp, PGD (R.wP P) (X.blk s H scope (compEnvC scope cl C X.env) fp) tg (own.map (·.2)) g) (ht : ∀ P s H C cl fp, PTsD (R.wP P) (X.blk s H scope (compEnvC scope cl C X.env) fp) W0 ifs c)
    (hi1 : ∀ P s H C cl fp, PID (R.wP P) (X.blk s H scope (compEnvC scope cl C X.env) fp) W0 tg1 iter1 mi1)
    (hg1 : ∀ P s H C cl fp, PGD (R.wP P) (X.blk s H scope (compEnvC scope cl C X.env) fp) tg1 vs1 g1) (ht1 : ∀ P s H C cl fp, PTsD (R.wP P) (X.blk s H scope (compEnvC scope cl C X.env) fp) W0 ifs1 c1)
    (he : ∀ P s H C cl fp, PED (R.wP P) (X.blk s H scope (compEnvC scope cl C X.env) fp) W0 elt f) (hs : ∀ x, foldedSetIterable iter X.env x = pure x) (hs1 : ∀ env x, foldedSetIterable iter1 env x = pure x) :
    PED R X W (.ListComp elt [⟨tg, iter, ifs, 0⟩, ⟨tg1, iter1, ifs1, 0⟩] scope pos) (mLc2 mi g c mi1 g1 c1 f (own.map (·.2)) vs1) :=
  ped_of (pe_lc2 hc hN hi ok hv (fun s H C cl fp => pg_ex fun P => hg P s H C cl fp) (fun s H C cl fp => pts_ex fun P => ht P s H C cl fp) (fun s H C cl fp => pi_ex fun P => hi1 P s H C cl fp) (fun s H C cl fp => pg_ex fun P => hg1 P s H C cl fp) (fun s H C cl fp => pts_ex fun P => ht1 P s H C cl fp) (fun s H C cl fp => pe_ex fun P => he P s H C cl fp) hs hs1) fun σ H Q α F μ ρ r μ' hE hl hm hp => lc2_sp hv hE hl hm hp
theorem psd_setLc2 {i : Nat} {y : Str} {py spos : Pos} (hc : X.calm = true) (hN : X.N.Nodup) (hy : X.N[i]? = some y) (hyl : X.env.scope.names.lookup y = some .local)
    (hsw : swapsWith (.ListComp elt [⟨tg, iter, ifs, 0⟩, ⟨tg1, iter1, ifs1, 0⟩] scope pos) (some (.Name y py)) spos.line X.env = pure true) (hi : PID R X W tg iter mi) (ok : BlkOk X.N X.env.scope scope own) (hv : ∀ i ∈ vs1, i ∈ own.map (·.2))
    (hg : ∀ P s H C cl fp, PGD (R.wP P) (X.blk s H scope (compEnvC scope cl C X.env) fp) tg (own.map (·.2)) g) (ht : ∀ P s H C cl fp, PTsD (R.wP P) (X.blk s H scope (compEnvC scope cl C X.env) fp) W0 ifs c)
    (hi1 : ∀ P s H C cl fp, PID (R.wP P) (X.blk s H scope (compEnvC scope cl C X.env) fp) W0 tg1 iter1 mi1)
    (hg1 : ∀ P s H C cl fp, PGD (R.wP P) (X.blk s H scope (compEnvC scope cl C X.env) fp) tg1 vs1 g1) (ht1 : ∀ P s H C cl fp, PTsD (R.wP P) (X.blk s H scope (compEnvC scope cl C X.env) fp) W0 ifs1 c1)
    (he : ∀ P s H C cl fp, PED (R.wP P) (X.blk s H scope (compEnvC scope cl C X.env) fp) W0 elt f) (hs : ∀ x, foldedSetIterable iter X.env x = pure x) (hs1 : ∀ env x, foldedSetIterable iter1 env x = pure x) :
    PSD R X W (.Assign [.Name y py] (.ListComp elt [⟨tg, iter, ifs, 0⟩, ⟨tg1, iter1, ifs1, 0⟩] scope pos) spos) (xAsg (mLc2 mi g c mi1 g1 c1 f (own.map (·.2)) vs1) (gNm i)) :=
  psd_of (ps_setLc2 hc hN hy hyl hsw hi ok hv (fun s H C cl fp => pg_ex fun P => hg P s H C cl fp) (fun s H C cl fp => pts_ex fun P => ht P s H C cl fp) (fun s H C cl fp => pi_ex fun P => hi1 P s H C cl fp) (fun s H C cl fp => pg_ex fun P => hg1 P s H C cl fp) (fun s H C cl fp => pts_ex fun P => ht1 P s H C cl fp) (fun s H C cl fp => pe_ex fun P => he P s H C cl fp) hs hs1) fun E σ H α F μ ρ o μ' hE hl hm hp => by
    have key := xbind_sp (K := fun x H1 => gName i x σ H1 E.nx) hE hl hm hp fun d μ1 α1 F1 H1 v1 hk n1 r1 e1 p1 => by
      rw [Option.map_eq_some_iff] at hk
      obtain ⟨ρ', e2, hk⟩ := hk
      cases hk
      unfold gNm at e2
      split at e2
      · cases e2
        exact p1 α1 F1 H1 _ (Nx.refl n1.2.2) (e1.set r1)
      · cases e2
    obtain ⟨α, F, μ, ρ, r, μ', a1, a2, a3, a4⟩ := key
    exact lc2_sp hv a1 a2 a3 a4
end
end DL
/-! DL33: {k: v for .. for ..}. -/
namespace DL
open PySem PySem.Spec PyProof.Rows L2
/-- the clauses' tests -/
abbrev tests (cs : List Expr) (env : Env) : Sem Bool := forIn cs true fun c r => if r = true then do let ok ← isTrue c env (eval c env); pure (ForInStep.yield ok) else pure (ForInStep.yield r)
abbrev DC2 (kx vx ta ia : Expr) (fa : List Expr) (tb ib : Expr) (fb : List Expr) (scope : Scope) (pos : Pos) : Expr := .DictComp kx vx [⟨ta, ia, fa, 0⟩, ⟨tb, ib, fb, 0⟩] scope pos
section
variable {prog : Program} {w : World} {A : Around} {kx vx ta ia tb ib : Expr} {fa fb : List Expr} {scope : Scope} {pos : Pos} {env : Env}
theorem dc2_turn0 (it acc : Value) : compTurn (DC2 kx vx ta ia fa tb ib fb scope pos) 0 it acc env = (do
    standAt ia.pos
    match ← pyNext it with
    | none => pure (.done .next)
    | some v =>
      letOwnedTupleGo ta it v
      assign ta env v
      let ok ← tests fa env
      if ok then
        let x ← eval ib env
        standAt ib.pos
        let x ← foldedSetIterable ib env x
        let _ ← runOwn (.compStart (DC2 kx vx ta ia fa tb ib fb scope pos) 1 (← holding [x] (pyIter x)) acc env) env
      again (.compLoop (DC2 kx vx ta ia fa tb ib fb scope pos) 0 it acc env)) := by rfl
theorem dc2_turn1 (it : Value) (D : Addr) : compTurn (DC2 kx vx ta ia fa tb ib fb scope pos) 1 it (.ref D) env = (do
    standAt ib.pos
    match ← pyNext it with
    | none => pure (.done .next)
    | some v =>
      letOwnedTupleGo tb it v
      assign tb env v
      let ok ← tests fb env
      if ok then
        (do
          let kv ← eval kx env
          let vv ← holding [kv] (eval vx env)
          standAt { kx.pos with endLine := vx.pos.endLine, endCol := vx.pos.endCol }
          holding [kv, vv] (dictSet D kv vv))
      again (.compLoop (DC2 kx vx ta ia fa tb ib fb scope pos) 1 it (.ref D) env)) := by rfl
abbrev nb (prog : Program) (w : World) (A : Around) (env : Env) (Rz : Result → Shared → Prop) : Value → Shared → Prop := notedBy (model prog w) A env fun e s' => Rz (.error e) s'
theorem dc2_loop0 {Rz : Result → Shared → Prop} {it acc : Value} (hs : ∀ x, foldedSetIterable ib env x = pure x) (J : Nat → Shared → Prop)
    (turn : ∀ n s, J n s → wpAny (model prog w) A (pyNext it) (fun r s1 => match r with
      | none => Rz (.ok .next) s1
      | some v => wpAny (model prog w) A (letOwnedTupleGo ta it v) (fun _ s2 => wpAny (model prog w) A (assign ta env v) (fun _ s3 => wpAny (model prog w) A (tests fa env) (fun ok s4 =>
          if ok = true then wpAny (model prog w) A (eval ib env) (fun x s5 => wpAny (model prog w) A (pyIter x) (fun i1 s6 =>
            codeAny (model prog w) A (.compStart (DC2 kx vx ta ia fa tb ib fb scope pos) 1 i1 acc env) (fun r s' => match r with
              | .ok _ => ∃ m, m < n ∧ J m s'
              | .error _ => False) s6) (nb prog w A env Rz) s5) (nb prog w A env Rz) s4
          else ∃ m, m < n ∧ J m s4) (nb prog w A env Rz) s3) (nb prog w A env Rz) s2) (nb prog w A env Rz) s1) (nb prog w A env Rz) s)
    (n : Nat) {s : Shared} (h : J n s) : codeAny (model prog w) A (.compLoop (DC2 kx vx ta ia fa tb ib fb scope pos) 0 it acc env) Rz s := by
  refine codeAny_loop rfl J (fun n s hJ => ?_) n h
  show wpAny _ A ((compTurn (DC2 kx vx ta ia fa tb ib fb scope pos) 0 it acc env).onRaise (fun x => do noteFrame x env; theTreesLotGoes x)) _ _ s
  refine wpAny_noted ?_
  rw [dc2_turn0]
  refine wpAny_bind (wpAny_standAt (wpAny_bind (wpAny_mono (turn n s hJ) (fun r s1 h1 => ?_) fun _ _ z => z)))
  cases r with
  | none => exact wpAny_pure h1
  | some v =>
    refine wpAny_bind (wpAny_mono h1 (fun _ s2 h2 => ?_) fun _ _ z => z)
    refine wpAny_bind (wpAny_mono h2 (fun _ s3 h3 => wpAny_bind (wpAny_mono h3 (fun ok s4 h4 => ?_) fun _ _ z => z)) fun _ _ z => z)
    cases ok with
    | false => exact wpAny_pure ⟨rfl, h4⟩
    | true =>
      refine wpAny_bind (wpAny_mono h4 (fun x s5 h5 => ?_) fun _ _ z => z)
      refine wpAny_bind (wpAny_standAt (wpAny_bind (wpAny_of_eq (hs x) (wpAny_bind (wpAny_holding (wpAny_mono h5 (fun i1 s6 h6 => ?_) fun _ _ z => z))))))
      refine wpAny_bind (wpAny_runOwn ?_)
      rw [Around.mark_none]
      refine codeAny_mono h6 fun r s' hr => ?_
      cases r with
      | ok f => first | exact wpAny_pure ⟨rfl, hr⟩ | exact wpAny_bind (wpAny_pure (wpAny_pure ⟨rfl, hr⟩))
      | error e => exact hr.elim
theorem dc2_loop1 {Rz : Result → Shared → Prop} {it : Value} {D : Addr} (J : Nat → Shared → Prop)
    (turn : ∀ n s, J n s → wpAny (model prog w) A (pyNext it) (fun r s1 => match r with
      | none => Rz (.ok .next) s1
      | some v => wpAny (model prog w) A (letOwnedTupleGo tb it v) (fun _ s2 => wpAny (model prog w) A (assign tb env v) (fun _ s3 => wpAny (model prog w) A (tests fb env) (fun ok s4 =>
          if ok = true then wpAny (model prog w) A (eval kx env) (fun kv s5 => wpAny (model prog w) A (eval vx env) (fun vv s6 =>
            wpAny (model prog w) A (dictSet D kv vv) (fun _ s7 => ∃ m, m < n ∧ J m s7) (nb prog w A env Rz) s6) (nb prog w A env Rz) s5) (nb prog w A env Rz) s4
          else ∃ m, m < n ∧ J m s4) (nb prog w A env Rz) s3) (nb prog w A env Rz) s2) (nb prog w A env Rz) s1) (nb prog w A env Rz) s)
    (n : Nat) {s : Shared} (h : J n s) : codeAny (model prog w) A (.compLoop (DC2 kx vx ta ia fa tb ib fb scope pos) 1 it (.ref D) env) Rz s := by
  refine codeAny_loop rfl J (fun n s hJ => ?_) n h
  show wpAny _ A ((compTurn (DC2 kx vx ta ia fa tb ib fb scope pos) 1 it (.ref D) env).onRaise (fun x => do noteFrame x env; theTreesLotGoes x)) _ _ s
  refine wpAny_noted ?_
  rw [dc2_turn1]
  refine wpAny_bind (wpAny_standAt (wpAny_bind (wpAny_mono (turn n s hJ) (fun r s1 h1 => ?_) fun _ _ z => z)))
  cases r with
  | none => exact wpAny_pure h1
  | some v =>
    refine wpAny_bind (wpAny_mono h1 (fun _ s2 h2 => ?_) fun _ _ z => z)
    refine wpAny_bind (wpAny_mono h2 (fun _ s3 h3 => wpAny_bind (wpAny_mono h3 (fun ok s4 h4 => ?_) fun _ _ z => z)) fun _ _ z => z)
    cases ok with
    | false => exact wpAny_pure ⟨rfl, h4⟩
    | true =>
      refine wpAny_bind (wpAny_bind (wpAny_mono h4 (fun kv s5 h5 => ?_) fun _ _ z => z))
      refine wpAny_bind (wpAny_holding (wpAny_mono h5 (fun vv s6 h6 => ?_) fun _ _ z => z))
      refine wpAny_bind (wpAny_standAt ?_)
      exact wpAny_holding (wpAny_mono h6 (fun _ s7 h7 => wpAny_pure ⟨rfl, h7⟩) fun _ _ z => z)
theorem dc2_start1 {Rz : Result → Shared → Prop} {it acc : Value} {s : Shared} (h0 : codeAny (model prog w) A (.compLoop (DC2 kx vx ta ia fa tb ib fb scope pos) 1 it acc env) Rz s)
    (h : wpAny (model prog w) A (pyIter it) (fun i2 s' => codeAny (model prog w) A (.compLoop (DC2 kx vx ta ia fa tb ib fb scope pos) 1 i2 acc env) Rz s') (nb prog w A env Rz) s) :
    codeAny (model prog w) A (.compStart (DC2 kx vx ta ia fa tb ib fb scope pos) 1 it acc env) Rz s := by
  refine codeAny_of_tree ?_
  show wpAny _ _ ((compStart (DC2 kx vx ta ia fa tb ib fb scope pos) 1 it acc env).onRaise (fun x => do noteFrame x env; standAt theWindowsPlace)) _ _ s
  refine wpAny_notedAt ?_
  unfold compStart
  show wpAny _ _ (ask >>= _) _ _ s
  refine wpAny_bind (wpAny_askSetting (wpAny_ite ?_))
  split
  · first
      | exact wpAny_bind (wpAny_pure (wpAny_pure (And.intro rfl h0)))
      | exact wpAny_pure (And.intro rfl h0)
  · refine wpAny_bind (wpAny_rule ?_)
    show wpAny _ _ (standAt ib.pos >>= _) _ _ s
    exact wpAny_bind (wpAny_standAt (wpAny_bind (wpAny_mono h (fun i2 s' z => wpAny_pure (And.intro rfl z)) fun _ _ x => x)))
end
end DL
/-! DL34: {k: v for .. for ..} in the abstract heap, and over data. -/
namespace DL
open PySem PySem.Spec PyProof.Rows L2
variable {R : Rc} {X : Cx} {W : WX}
def tDc2 (wi : TI) (g : TG) (tt : TT) (wi1 : TI) (g1 : TG) (tt1 : TT) (tk tv : TE) (vs vs1 : List Nat) : TE := fun σ H Q => wi σ H fun J H1 => ∀ D, H1 D = none → ∃ Wo : Nat → Nat → Hp → Prop, (∃ m, Wo 0 m (upd H1 D (.dK []))) ∧ ∀ i m H, Wo i m H →
  (J.stop i H ∧ Q (.ref D) H) ∨ (J.go i H ∧ ∃ No : Hp → Prop, (∀ H', No H' → ∃ m', m' < m ∧ Wo (i + 1) m' H') ∧ ∀ x H', J.yld i H x H' → g x (L2.wipe σ vs) H' fun σ2 H2 => L2.wipe σ2 vs = L2.wipe σ vs ∧ tt σ2 H2 fun b H3 =>
    if b = true then wi1 σ2 H3 fun J1 H4 => ∃ Wi : Nat → Nat → Hp → Prop, (∃ m, Wi 0 m H4) ∧ ∀ j k H, Wi j k H →
      (J1.stop j H ∧ No H) ∨ (J1.go j H ∧ ∃ Ni : Hp → Prop, (∀ H', Ni H' → ∃ k', k' < k ∧ Wi (j + 1) k' H') ∧ ∀ x H', J1.yld j H x H' → g1 x (L2.wipe σ2 vs1) H' fun σ3 H5 => L2.wipe σ3 vs1 = L2.wipe σ2 vs1 ∧ tt1 σ3 H5 fun b H6 =>
        if b = true then tk σ3 H6 fun y H7 => tv σ3 H7 fun z H8 => ∃ kvs k, y = kV k ∧ H8 D = some (.dK kvs) ∧ kvs.length < sizeLine ∧ Ni (upd H8 D (.dK (putK kvs k z))) else Ni H6)
    else No H3)
/-- in every block that the comprehension may run in -/
abbrev AllBlk (X : Cx) (scope : Scope) (P : Cx → Prop) : Prop :=
  ∀ (s : Shared) (H : Hp) (C : Addr) (cl : List (Str × Addr)) (fp : List Addr), P (X.blk s H scope (compEnvC scope cl C X.env) fp)
/-- no slot that σ knows is another one in σ' -/
def Keeps (σ σ' : L2.St) : Prop := σ.length = σ'.length ∧ ∀ (j : Nat) v, σ[j]? = some (some v) → σ'[j]? = some (some v)
theorem Keeps.wiped (σ : L2.St) (vs : List Nat) : Keeps (L2.wipe σ vs) σ := ⟨L2.wipe_length σ vs, fun _ _ e => (L2.wipe_some e).1⟩
theorem Keeps.of_wipe {σ σ' : L2.St} {vs : List Nat} (e : L2.wipe σ' vs = L2.wipe σ vs) : Keeps (L2.wipe σ vs) σ' := e ▸ Keeps.wiped σ' vs
/-- what the inner loop forgets is forgotten by the outer one, too -/
theorem Keeps.deeper {σ σ' : L2.St} {vs ws : List Nat} (e : L2.wipe σ' vs = L2.wipe σ vs) (sub : ∀ i ∈ ws, i ∈ vs) : Keeps (L2.wipe σ vs) (L2.wipe σ' ws) := by
  rw [← e]
  constructor
  · rw [L2.wipe_length, L2.wipe_length]
  · intro j v h
    obtain ⟨known, out⟩ := L2.wipe_some h
    rw [L2.wipe_out (fun z => out (sub j z)), known]
/-- a loop at its turn i -/
structure Loops (Y : Cx) (pins : List (Addr × Obj)) (σ : L2.St) (fp : List Addr) (tn : Nat → Heap → Prop) (i : Nat) (H : Hp) (s : Shared) : Prop where
  inv : Inv Y pins σ H s
  at_ : tn i s.heap
  clear : ∀ b ∈ fp, H b = none
/-- the iterator's cells may turn as long as nothing is told of them -/
abbrev Turnable (Y : Cx) (pins : List (Addr × Obj)) (fp : List Addr) : Prop := ∀ H : Hp, (∀ b ∈ fp, H b = none) → ∀ b ∈ fp, FpOk Y pins H b
section
variable {Y : Cx} {pins : List (Addr × Obj)} {σ : L2.St} {H : Hp} {s : Shared} {fp : List Addr} {it : Addr} {tn : Nat → Heap → Prop} {J : It} {tg : Expr} {i : Nat} {E : Value → Shared → Prop}
theorem loop_ends {Yes : Value → Shared → Prop} {No : Shared → Prop} (T : Turn Y.prog Y.w Y.K tg J fp it tn) (hc : Y.calm = true) (L : Loops Y pins σ fp tn i H s) (own : Turnable Y pins fp) (stop : J.stop i H)
    (k : ∀ s1, Inv Y pins σ H s1 → No s1) :
    wpAny (model Y.prog Y.w) Y.A (pyNext (.ref it)) (fun r s1 => match r with
      | none => No s1
      | some v => Yes v s1) E s := by
  refine thnF (T.done Y rfl rfl rfl hc i pins s σ H (fun _ _ => False) L.inv (own H L.clear) L.at_ stop) ?_
  rintro r s1 ⟨rfl, I1⟩
  exact k s1 I1
theorem loop_turns {ifs : List Expr} {g : TG} {tt : TT} {V : L2.St → Prop} {R : L2.St → Bool → Hp → Prop} {Q : Bool → Shared → Prop} {No : Shared → Prop} (T : Turn Y.prog Y.w Y.K tg J fp it tn) (hc : Y.calm = true) (nox : ∀ e s1, ¬ Y.xe e s1)
    (L : Loops Y pins σ fp tn i H s) (own : Turnable Y pins fp) (go : J.go i H) (pg : PG Y tg g) (pt : PTs Y ifs tt) (step : ∀ x H1, J.yld i H x H1 → g x σ H1 fun σ2 H2 => V σ2 ∧ tt σ2 H2 (R σ2))
    (k : ∀ b s1 σ2 H2 P, Inv Y P σ2 H2 s1 → V σ2 → R σ2 b H2 → (∀ σ3 H3 s3, Inv Y P σ3 H3 s3 → ∀ ρ, Keeps ρ σ3 → Loops Y pins ρ fp tn (i + 1) H3 s3) → Q b s1) :
    wpAny (model Y.prog Y.w) Y.A (pyNext (.ref it)) (fun r s1 => match r with
      | none => No s1
      | some v => wpAny (model Y.prog Y.w) Y.A (letOwnedTupleGo tg (.ref it) v) (fun _ s2 => wpAny (model Y.prog Y.w) Y.A (assign tg Y.env v) (fun _ s3 => wpAny (model Y.prog Y.w) Y.A (tests ifs Y.env) Q E s3) E s2) E s1) E s := by
  refine thnF (T.item Y rfl rfl rfl hc i pins s σ H (fun _ _ => False) L.inv (own H L.clear) L.at_ go) ?_
  rintro r s1 ⟨u, rfl, more⟩
  refine thnF more ?_
  rintro - s2 ⟨x, H2, I2, ru, y2, st2, n2⟩
  have held := I2.pinned (own H2 n2) (T.obj _ _ st2)
  refine wpAny_mono (pg.run _ s2 σ H2 x u _ held ru (step x H2 y2)) ?_ fun e s1 z => absurd z (nox e s1)
  rintro - s3 ⟨σ3, H3, I3, v3, q3⟩
  refine wpAny_mono (pt.run _ s3 σ3 H3 _ I3 q3) ?_ fun e s1 z => absurd z (nox e s1)
  rintro b s4 ⟨H4, I4, q4⟩
  refine k b s4 σ3 H4 _ I4 v3 q4 ?_
  intro σ5 H5 s5 I5 ρ ks
  have stay : ∀ b ∈ fp, ∀ o, s2.heap.get? b = some o → s5.heap.get? b = some o ∧ H5 b = none := by
    intro b hb o ho
    have isPin := mem_pinsAt hb ho
    obtain ⟨q1, q2, -⟩ := I5.pin (b, o) (by simp [isPin])
    exact ⟨q1, q2⟩
  constructor
  · exact I5.unpinned.weak ks.1 ks.2
  · apply T.keep _ _ _ st2
    intro b hb o ho
    exact (stay b hb o ho).1
  · intro b hb
    obtain ⟨o, ho, -⟩ := T.obj _ _ st2 b hb
    exact (stay b hb o ho).2
end
/-- a comprehension's block Y (its names in cell C) at its start in the state s4 -/
structure Opened (X : Cx) (pins : List (Addr × Obj)) (σ : L2.St) (vs : List Nat) (Y : Cx) (fp : List Addr) (C : Addr) (H4 : Hp) (s4 : Shared) : Prop where
  inv : Inv Y [] (L2.wipe σ vs) H4 s4
  clear : ∀ b ∈ fp, H4 b = none
  own : Turnable Y [] fp
  back : ∀ σ' H' s', Inv Y [] σ' H' s' → Inv X pins σ H' s' ∧ H' C = none ∧ ∃ m, s'.heap.Ns C m
  freeC : ∀ H', H' C = none → FpOk X pins H' C
theorem dict_opened {pins : List (Addr × Obj)} {s : Shared} {σ : L2.St} {H : Hp} {e ta ia : Expr} {ca : Comprehension} {cs : List Comprehension} {scope : Scope} {own : List (Str × Nat)} {pos : Pos} {wi : TI} {R : It → Hp → Prop} {use : Option (Value → Sem Unit)} {Qf : Value → Shared → Prop}
    (hN : X.N.Nodup) (I : Inv X pins σ H s) (hi : PI X ta ia wi) (ok : BlkOk X.N X.env.scope scope own) (he : clausesOf e = ca :: cs) (hia : ca.iter = ia) (hs : ∀ x, foldedSetIterable ia X.env x = pure x) (h : wi σ H R)
    (k : ∀ it fp tn J H2 D C cl s3 s4, R J H2 → H2 D = none → Turn X.prog X.w X.K ta J fp it tn → tn 0 s4.heap →
      Opened X pins σ (own.map (·.2)) (X.blk s3 (upd H2 D (.dK [])) scope (compEnvC scope cl C X.env) fp) fp C (upd H2 D (.dK [])) s4 →
      codeAny (model X.prog X.w) X.A (.compStart e 0 (.ref it) (.ref D) (compEnvC scope cl C X.env)) (compPost (model X.prog X.w) X.A X.xe use Qf (.ref D) C) s4) :
    wpAny (model X.prog X.w) X.A (comprehension e scope X.env pos newDict false (eval ia X.env) use) Qf X.xe s := by
  subst hia
  have closure := closure_ok (scope := scope) (env := X.env) (by
    intro y hy e
    have := ok.free y hy e
    exact I.ok.has _ (this.imp_right fun z => z))
  refine wpAny_comprehension_free he hs closure ok.kind (by intro y hy e; rw [ok.uniq y hy, e]) ?_
  refine thn (hi.run pins s σ H _ I h) ?_
  intro xv s1 hx
  refine thn hx ?_
  rintro itv s2 ⟨it, fp, tn, J, H2, rfl, I2, T, st2, f2, q⟩
  refine wpAny_newObj_type (newEnv_comp ?_)
  have freshD : H2 s2.heap.objs.size = none := I2.hok.fresh (Nat.le_refl _)
  -- the dict
  have kept : ∀ b o, s2.heap.get? b = some o → (s2.heap.push { cls := .type "dict", data := .dict #[] }).get? b = some o := fun b o hb => Heap.get?_push_of_some _ hb
  have I3 := I2.laid (t' := s2.toks) kept (Nat.le_refl _) (dk_empty s2.heap I2.big)
  have held : ∀ b ∈ fp, FpOk X pins (upd H2 s2.heap.objs.size (.dK [])) b ∧ b < (s2.heap.push { cls := .type "dict", data := .dict #[] }).objs.size := by
    intro b hb
    obtain ⟨o, ho, -⟩ := T.obj _ _ st2 b hb
    have old := Heap.lt_size ho
    obtain ⟨z, rest⟩ := f2 b hb
    refine ⟨⟨?_, rest⟩, Heap.lt_size (kept b o ho)⟩
    rw [upd_ne (Nat.ne_of_lt old), z]
  have st3 := T.keep _ _ _ st2 fun b _ o => kept b o
  have I4 := block_start I3 ok hN held
  refine k it fp tn J H2 s2.heap.objs.size _ _ _ _ q freshD T (T.keep _ _ _ st3 ?_) ⟨I4, fun b hb => (held b hb).1.1, ?_, ?_, ?_⟩
  · intro b _ o ho
    apply pushCells_keeps
    exact Heap.get?_push_of_some _ ho
  · intro H' nn b hb
    obtain ⟨l1, l2⟩ := I4.ok.exf b hb
    exact ⟨nn b hb, l1, I4.ok.exfs b hb, .inl hb, l2, fun p hp => by cases hp⟩
  · intro σ' H' s' I'
    refine ⟨I3.call' (ch := fp) I'.os I'.base I'.hok I'.bare ?_, I'.free, ?_⟩
    · intro b hb
      obtain ⟨⟨_, q1, _, q3, q4, q5⟩, _⟩ := held b hb
      exact ⟨q3, q1, q4, q5⟩
    · obtain ⟨m, hm, -⟩ := I'.loc
      exact ⟨m, hm⟩
  · intro H' nn
    exact I3.fpOk (Nat.le_refl _) nn
section
variable {kx vx ta ia tb ib : Expr} {fa fb : List Expr} {scope : Scope} {own : List (Str × Nat)} {vs1 : List Nat} {pos : Pos} {wi wi1 : TI} {g g1 : TG} {tt tt1 : TT} {tk tv : TE}
theorem dc2_core {pins : List (Addr × Obj)} {s : Shared} {σ : L2.St} {H : Hp} {Q : VK} {pos' : Pos} {use : Option (Value → Sem Unit)} {Qf : Value → Shared → Prop} (hc : X.calm = true) (hN : X.N.Nodup) (I : Inv X pins σ H s) (hi : PI X ta ia wi) (ok : BlkOk X.N X.env.scope scope own) (hv : ∀ i ∈ vs1, i ∈ own.map (·.2))
    (hg : AllBlk X scope fun Y => PG Y ta g) (ht : AllBlk X scope fun Y => PTs Y fa tt) (hi1 : AllBlk X scope fun Y => PI Y tb ib wi1) (hg1 : AllBlk X scope fun Y => PG Y tb g1) (ht1 : AllBlk X scope fun Y => PTs Y fb tt1) (hk : AllBlk X scope fun Y => PE Y kx tk) (he : AllBlk X scope fun Y => PE Y vx tv)
    (hs : ∀ x, foldedSetIterable ia X.env x = pure x) (hs1 : ∀ env x, foldedSetIterable ib env x = pure x)
    (h : tDc2 wi g tt wi1 g1 tt1 tk tv (own.map (·.2)) vs1 σ H Q)
    (fin : ∀ D C s' m H', Inv X pins σ H' s' → Q (.ref D) H' → s'.heap.Ns C m → FpOk X pins H' C → compPost (model X.prog X.w) X.A X.xe use Qf (.ref D) C (.ok .next) s') :
    wpAny (model X.prog X.w) X.A (comprehension (DC2 kx vx ta ia fa tb ib fb scope pos) scope X.env pos' newDict false (eval ia X.env) use) Qf X.xe s := by
  refine dict_opened hN I hi ok (cs := [⟨tb, ib, fb, 0⟩]) rfl rfl hs h ?_
  intro it fp tn J H2 D C cl s3 s4 q freshD T st4 O
  obtain ⟨Wo, ⟨m0, w0⟩, turn⟩ := q D freshD
  generalize hY : X.blk s3 (upd H2 D (.dK [])) scope (compEnvC scope cl C X.env) fp = Y at O
  have pg := hg s3 (upd H2 D (.dK [])) C cl fp
  have pt := ht s3 (upd H2 D (.dK [])) C cl fp
  have pi1 := hi1 s3 (upd H2 D (.dK [])) C cl fp
  have pg1 := hg1 s3 (upd H2 D (.dK [])) C cl fp
  have pt1 := ht1 s3 (upd H2 D (.dK [])) C cl fp
  have pk := hk s3 (upd H2 D (.dK [])) C cl fp
  have pv := he s3 (upd H2 D (.dK [])) C cl fp
  have nox : ∀ e s1, ¬ Y.xe e s1 := by
    subst hY
    intro e s1 z
    exact z
  have hcY : Y.calm = true := by
    subst hY
    exact hc
  have T0 : Turn Y.prog Y.w Y.K ta J fp it tn := by
    subst hY
    exact T
  have eA : Y.A = X.A := by rw [← hY]
  have eP : model Y.prog Y.w = model X.prog X.w := by rw [← hY]
  have eE : Y.env = compEnvC scope cl C X.env := by rw [← hY]
  rw [hY] at pg pt pi1 pg1 pt1 pk pv
  rw [← eA, ← eP, ← eE]
  -- the outer loop
  have loop : codeAny (model Y.prog Y.w) Y.A (.compLoop (DC2 kx vx ta ia fa tb ib fb scope pos) 0 (.ref it) (.ref D) Y.env) (compPost (model Y.prog Y.w) Y.A X.xe use Qf (.ref D) C) s4 := by
    refine dc2_loop0 (hs1 _) (fun n s' => ∃ i H', Loops Y [] (L2.wipe σ (own.map (·.2))) fp tn i H' s' ∧ Wo i n H') ?_ m0 ⟨0, _, ⟨O.inv, st4, O.clear⟩, w0⟩
    rintro n s5 ⟨i, H5, L5, w5⟩
    rcases turn i n H5 w5 with ⟨stop, done⟩ | ⟨go, No, hNo, step⟩
    · refine loop_ends T0 hcY L5 O.own stop ?_
      intro s6 I6
      obtain ⟨I7, nC, m, hm⟩ := O.back _ _ _ I6
      rw [eA, eP]
      exact fin D C s6 m _ I7 done hm (O.freeC _ nC)
    · refine loop_turns T0 hcY nox L5 O.own go pg pt step ?_
      intro b s6 σ6 H6 P I6 same q6 next
      have fwd : ∀ σ7 H7 s7, Inv Y P σ7 H7 s7 → Keeps (L2.wipe σ (own.map (·.2))) σ7 → No H7 → ∃ m, m < n ∧ ∃ i H', Loops Y [] (L2.wipe σ (own.map (·.2))) fp tn i H' s7 ∧ Wo i m H' := by
        intro σ7 H7 s7 I7 ks nx
        obtain ⟨m, lt, w⟩ := hNo H7 nx
        exact ⟨m, lt, i + 1, H7, next σ7 H7 s7 I7 _ ks, w⟩
      cases b with
      | false => exact fwd σ6 H6 s6 I6 (.of_wipe same) q6
      | true =>
        simp only [if_true] at q6 ⊢
        have noted : ∀ e s1, Y.xe e s1 → nb Y.prog Y.w Y.A Y.env (fun r s' => compPost (model Y.prog Y.w) Y.A X.xe use Qf (.ref D) C r s') e s1 := fun e s1 z => absurd z (nox e s1)
        refine wpAny_mono (pi1.run P s6 σ6 H6 _ I6 q6) ?_ noted
        intro xv s7 hx
        refine wpAny_mono hx ?_ noted
        rintro itv s8 ⟨it1, fp1, tn1, J1, H8, rfl, I8, T1, st8, f8, Wi, ⟨m1, w1⟩, turn1⟩
        have own1 : Turnable Y P fp1 := fun H' nn b hb => ⟨nn b hb, (f8 b hb).2⟩
        -- the inner loop
        have inner : codeAny (model Y.prog Y.w) Y.A (.compLoop (DC2 kx vx ta ia fa tb ib fb scope pos) 1 (.ref it1) (.ref D) Y.env)
            (fun r s' => match r with
              | .ok _ => ∃ m, m < n ∧ ∃ i H', Loops Y [] (L2.wipe σ (own.map (·.2))) fp tn i H' s' ∧ Wo i m H'
              | .error _ => False) s8 := by
          refine dc2_loop1 (fun k s' => ∃ j H', Loops Y P (L2.wipe σ6 vs1) fp1 tn1 j H' s' ∧ Wi j k H') ?_ m1 ⟨0, H8, ⟨I8.weak (L2.wipe_length _ _) (Keeps.wiped σ6 vs1).2, st8, fun b hb => (f8 b hb).1⟩, w1⟩
          rintro k s9 ⟨j, H9, L9, w9⟩
          rcases turn1 j k H9 w9 with ⟨stop1, nx⟩ | ⟨go1, Ni, hNi, step1⟩
          · refine loop_ends T1 hcY L9 own1 stop1 ?_
            intro s10 I10
            exact fwd _ H9 s10 I10 (.deeper same hv) nx
          · refine loop_turns T1 hcY nox L9 own1 go1 pg1 pt1 step1 ?_
            intro b1 s10 σ10 H10 P1 I10 same1 q10 next1
            have fwd1 : ∀ H' s', Inv Y P1 σ10 H' s' → Ni H' → ∃ m, m < k ∧ ∃ j H', Loops Y P (L2.wipe σ6 vs1) fp1 tn1 j H' s' ∧ Wi j m H' := by
              intro H' s' I' nx
              obtain ⟨m, lt, w⟩ := hNi H' nx
              exact ⟨m, lt, j + 1, H', next1 σ10 H' s' I' _ (.of_wipe same1), w⟩
            cases b1 with
            | false => exact fwd1 H10 s10 I10 q10
            | true =>
              simp only [if_true] at q10 ⊢
              refine wpAny_mono (pk.run P1 s10 σ10 H10 _ I10 q10) ?_ fun e s1 z => absurd z (nox e s1)
              rintro u1 s11 ⟨key, H11, I11, r11, q11⟩
              refine wpAny_mono (pv.run P1 s11 σ10 H11 _ I11 q11) ?_ fun e s1 z => absurd z (nox e s1)
              rintro u2 s12 ⟨val, H12, I12, r12, kvs, kk, rfl, isD, room, nx⟩
              refine d_dictSet I12 isD room r11 r12 ?_
              intro s13 I13
              exact fwd1 _ s13 I13 nx
        exact dc2_start1 inner (T1.self Y.A 0 _ _ _ st8 inner)
  exact codeAny_compStart_dict loop (T0.self Y.A 0 _ _ _ st4 loop)
theorem pe_dc2 (hc : X.calm = true) (hN : X.N.Nodup) (hi : PI X ta ia wi) (ok : BlkOk X.N X.env.scope scope own) (hv : ∀ i ∈ vs1, i ∈ own.map (·.2))
    (hg : AllBlk X scope fun Y => PG Y ta g) (ht : AllBlk X scope fun Y => PTs Y fa tt) (hi1 : AllBlk X scope fun Y => PI Y tb ib wi1) (hg1 : AllBlk X scope fun Y => PG Y tb g1) (ht1 : AllBlk X scope fun Y => PTs Y fb tt1) (hk : AllBlk X scope fun Y => PE Y kx tk) (he : AllBlk X scope fun Y => PE Y vx tv)
    (hs : ∀ x, foldedSetIterable ia X.env x = pure x) (hs1 : ∀ env x, foldedSetIterable ib env x = pure x) : PE X (DC2 kx vx ta ia fa tb ib fb scope pos) (tDc2 wi g tt wi1 g1 tt1 tk tv (own.map (·.2)) vs1) := by
  constructor
  intro pins s σ H Q I h
  rw [arm_eval_DictComp]
  refine dc2_core hc hN I hi ok hv hg ht hi1 hg1 ht1 hk he hs hs1 h ?_
  rintro D C s' m H' I' q names ⟨f0, f1, f2, f3, f4, f5⟩
  refine ⟨m, names, fun h2 sb => ⟨.ref D, H', ?_, rfl, q⟩⟩
  exact I'.turned (t' := s'.toks) (fun b o nb hb => (sb.2 b nb).trans hb) f0 f1 f3 f4 f5
theorem ps_setDc2 {i : Nat} {y : Str} {py spos : Pos} (hc : X.calm = true) (hN : X.N.Nodup) (hy : X.N[i]? = some y) (hyl : X.env.scope.names.lookup y = some .local)
    (hsw : swapsWith (DC2 kx vx ta ia fa tb ib fb scope pos) (some (.Name y py)) spos.line X.env = pure true) (hi : PI X ta ia wi) (ok : BlkOk X.N X.env.scope scope own) (hv : ∀ i ∈ vs1, i ∈ own.map (·.2))
    (hg : AllBlk X scope fun Y => PG Y ta g) (ht : AllBlk X scope fun Y => PTs Y fa tt) (hi1 : AllBlk X scope fun Y => PI Y tb ib wi1) (hg1 : AllBlk X scope fun Y => PG Y tb g1) (ht1 : AllBlk X scope fun Y => PTs Y fb tt1) (hk : AllBlk X scope fun Y => PE Y kx tk) (he : AllBlk X scope fun Y => PE Y vx tv)
    (hs : ∀ x, foldedSetIterable ia X.env x = pure x) (hs1 : ∀ env x, foldedSetIterable ib env x = pure x) : PS X (.Assign [.Name y py] (DC2 kx vx ta ia fa tb ib fb scope pos) spos) (tAsg (tDc2 wi g tt wi1 g1 tt1 tk tv (own.map (·.2)) vs1) (gName i)) := by
  constructor
  intro pins s σ H D I h
  rw [exec_Assign_Name_used _ _ _ _ hsw]
  refine wpAny_bind (wpAny_standAt (wpAny_bind ?_))
  have made := dc2_core (pos := pos) (pos' := firstIterPos [⟨ta, ia, fa, 0⟩, ⟨tb, ib, fb, 0⟩] pos) (Q := fun x H1 => gName i x σ H1 D.nx) (use := some (assign (.Name y py) X.env)) (Qf := fun _ s' => SP X pins D .next s') hc hN I hi ok hv hg ht hi1 hg1 ht1 hk he hs hs1 h ?_
  · show wpAny _ X.A (comprehension _ scope X.env _ newDict false (eval ia X.env) (some (assign (.Name y py) X.env)) >>= _) _ _ s
    refine wpAny_bind (thn made ?_)
    intro _ s' hq
    exact wpAny_pure (wpAny_pure hq)
  · rintro L C s' m H' I' q names ⟨f0, f1, f2, f3, f4, f5⟩
    show wpAny _ _ (assign (.Name y py) X.env (.ref L)) _ _ _
    refine wpAny_assign_Name (store_ok2 (v := V.ref L) I' hN hy (.inl hyl) rfl ?_ (.inr hyl))
    rintro s2 I2 ⟨a, sb, ha⟩
    have other : C ≠ a := by
      rcases ha with rfl | z
      · exact f1
      · exact fun e => f4 y a z e.symm
    refine ⟨m, names.sameBut sb other, fun h3 sb3 => ⟨_, H', ?_, q⟩⟩
    exact I2.turned (t' := s2.toks) (fun b o nb hb => (sb3.2 b nb).trans hb) f0 f1 f3 f4 f5
/-- y = {..}: the name may be bound within the comprehension's end -/
theorem sw_trueD {elt e2 : Expr} {gs : List Comprehension} {scope : Scope} {pos py : Pos} {y : Str} {l : Nat} {env : Env} (hk : env.scope.kind = .function) (hy : env.scope.names.lookup y = some .local) (hl : (py.line == pos.line) = true)
    (ha : (scope.names.any fun (n, k) => n == y && (k == .local || k == .cell)) = false) : swapsWith (.DictComp elt e2 gs scope pos) (some (.Name y py)) l env = pure true := by
  have inFn : env.blockKind = .function := by simp [Env.blockKind, hk]
  have isLocal : env.kindOf y = some .local := hy
  simp [swapsWith, inFn, isLocal, ha, Expr.pos, hl]
end
end DL
/-! DL35: {k: v for .. for ..} over data. -/
namespace DL
open PySem PySem.Spec PyProof.Rows L2
variable {R : Rc} {X : Cx} {W : WX}
def toKey : D → Option Key
  | .int i => some (.inl i)
  | .str x => some (.inr x)
  | _ => none
theorem toKey_kD (k : Key) : toKey (kD k) = some k := by cases k <;> rfl
theorem toKey_ok {d : D} {k : Key} (h : toKey d = some k) : d = kD k := by
  cases d <;> simp [toKey] at h <;> subst h <;> rfl
def toKeys : List D → Option (List Key)
  | [] => some []
  | d :: r => match toKey d, toKeys r with
    | some k, some ks => some (k :: ks)
    | _, _ => none
theorem toKeys_kD : ∀ ks : List Key, toKeys (ks.map kD) = some ks
  | [] => rfl
  | k :: ks => by simp [toKeys, toKey_kD, toKeys_kD ks]
theorem toKeys_ok : ∀ {ds : List D} {ks : List Key}, toKeys ds = some ks → ds = ks.map kD
  | [], _, h => by cases h; rfl
  | d :: r, ks, h => by
    unfold toKeys at h
    split at h
    · rename_i k ks' e1 e2
      cases h
      rw [toKey_ok e1, toKeys_ok e2]; rfl
    · cases h
/-- what a key is: an int, a text, or a tuple of them -/
def keyOf : D → Option (Key ⊕ List Key)
  | .int i => some (.inl (.inl i))
  | .str x => some (.inl (.inr x))
  | .tup ds => (toKeys ds).map .inr
  | _ => none
def sameK (a b : D) : Bool := decide (keyOf a = keyOf b)
theorem keyOf_k (k : Key) : keyOf (kD k) = some (.inl k) := by cases k <;> rfl
theorem keyOf_t (k : List Key) : keyOf (.tup (k.map kD)) = some (.inr k) := by simp [keyOf, toKeys_kD]
theorem sameK_k (a b : Key) : sameK (kD a) (kD b) = decide (a = b) := by
  unfold sameK
  rw [keyOf_k, keyOf_k]
  by_cases e : a = b <;> simp [e]
theorem sameK_t (a b : List Key) : sameK (.tup (a.map kD)) (.tup (b.map kD)) = decide (a = b) := by
  unfold sameK
  rw [keyOf_t, keyOf_t]
  by_cases e : a = b <;> simp [e]
def valE (es : List (D × D)) (k : D) : Option D := (es.find? fun p => sameK p.1 k).map (·.2)
def putE (es : List (D × D)) (k v : D) : List (D × D) := if (es.any fun p => sameK p.1 k) = true then es.map (fun p => if sameK p.1 k = true then (p.1, v) else p) else es ++ [(k, v)]
section
variable {κ : Type} [DecidableEq κ] {kd : κ → D} {α : List Addr} {F : Hp}
theorem any_ok (hs : ∀ a b, sameK (kd a) (kd b) = decide (a = b)) (k : κ) : ∀ {kvs : List (κ × V)} {es : List (D × D)}, Paired (fun p q => q.1 = kd p.1 ∧ Rep R α F p.2 q.2) kvs es → (kvs.any fun kv => decide (kv.1 = k)) = es.any fun p => sameK p.1 (kd k)
  | [], [], _ => rfl
  | p :: kvs, q :: es, .cons h r => by
    rw [List.any_cons, List.any_cons, any_ok hs k r, h.1, hs]
theorem map_ok (hs : ∀ a b, sameK (kd a) (kd b) = decide (a = b)) (k : κ) {v : V} {d : D} (rv : Rep R α F v d) : ∀ {kvs : List (κ × V)} {es : List (D × D)}, Paired (fun p q => q.1 = kd p.1 ∧ Rep R α F p.2 q.2) kvs es →
    Paired (fun p q => q.1 = kd p.1 ∧ Rep R α F p.2 q.2) (kvs.map fun kv => if kv.1 = k then (kv.1, v) else kv) (es.map fun p => if sameK p.1 (kd k) = true then (p.1, d) else p)
  | [], [], _ => .nil
  | p :: kvs, q :: es, .cons h r => by
    refine .cons ?_ (map_ok hs k rv r)
    have hq : sameK q.1 (kd k) = decide (p.1 = k) := by rw [h.1, hs]
    by_cases e : p.1 = k
    · simp only [hq, e, decide_true, if_true]; exact ⟨by rw [h.1, e], rv⟩
    · simp only [hq, e, decide_false, Bool.false_eq_true, if_false]; exact h
theorem put_ok (hs : ∀ a b, sameK (kd a) (kd b) = decide (a = b)) (k : κ) {v : V} {d : D} (rv : Rep R α F v d) {kvs : List (κ × V)} {es : List (D × D)} (h : Paired (fun p q => q.1 = kd p.1 ∧ Rep R α F p.2 q.2) kvs es) :
    Paired (fun p q => q.1 = kd p.1 ∧ Rep R α F p.2 q.2) (putK kvs k v) (putE es (kd k) d) := by
  unfold putK putE
  rw [any_ok hs k h]
  split
  · exact map_ok hs k rv h
  · exact paired_append h (.cons ⟨rfl, rv⟩ .nil)
theorem val_ok (hs : ∀ a b, sameK (kd a) (kd b) = decide (a = b)) (k : κ) : ∀ {kvs : List (κ × V)} {es : List (D × D)}, Paired (fun p q => q.1 = kd p.1 ∧ Rep R α F p.2 q.2) kvs es →
    (valV kvs k = none ∧ valE es (kd k) = none) ∨ ∃ v d, valV kvs k = some v ∧ valE es (kd k) = some d ∧ Rep R α F v d
  | [], [], _ => .inl ⟨rfl, rfl⟩
  | p :: kvs, q :: es, .cons h r => by
    by_cases e : p.1 = k
    · refine .inr ⟨p.2, q.2, valV_pos e, ?_, h.2⟩
      simp [valE, List.find?_cons, h.1, hs, e]
    · rw [valV_neg e]
      have : valE (q :: es) (kd k) = valE es (kd k) := by simp [valE, List.find?_cons, h.1, hs, e]
      rw [this]
      exact val_ok hs k r
end
theorem key_rep {α : List Addr} {F : Hp} {v : V} {d : D} {k : Key} (r : Rep R α F v d) (h : toKey d = some k) : v = kV k := by
  have := toKey_ok h
  subst this
  cases k with
  | inl i => cases r; rfl
  | inr x => cases r; rfl
theorem length_putE (es : List (D × D)) (k v : D) : es.length ≤ (putE es k v).length := by
  unfold putE; split <;> simp
/-! ### the comprehension -/
def compD (g : Tgt) (c : Rho → Ev Bool) (fk fv : Rho → Ev D) (ρ : Rho) : List D → List (D × D) → Ev (List (D × D))
  | [], es, μ => some (.ok es, μ)
  | d :: r, es, μ => match g d ρ with
    | none => none
    | some ρ1 => match c ρ1 μ with
      | some (.ok true, μ1) => (match fk ρ1 μ1 with
        | some (.ok k, μ2) => (match fv ρ1 μ2 with
          | some (.ok v, μ3) => if es.length < sizeLine ∧ (toKey k).isSome = true then compD g c fk fv ρ r (putE es k v) μ3 else none
          | _ => none)
        | _ => none)
      | some (.ok false, μ1) => compD g c fk fv ρ r es μ1
      | _ => none
def compD2 (g : Tgt) (c : Rho → Ev Bool) (mi1 : Rho → Ev (List D)) (vs1 : List Nat) (g1 : Tgt) (c1 : Rho → Ev Bool) (fk fv : Rho → Ev D) (ρ : Rho) : List D → List (D × D) → Ev (List (D × D))
  | [], es, μ => some (.ok es, μ)
  | d :: r, es, μ => match g d ρ with
    | none => none
    | some ρ1 => match c ρ1 μ with
      | some (.ok true, μ1) => (match mi1 ρ1 μ1 with
        | some (.ok ds1, μ2) => (match compD g1 c1 fk fv (wipeR ρ1 vs1) ds1 es μ2 with
          | some (.ok es1, μ3) => compD2 g c mi1 vs1 g1 c1 fk fv ρ r es1 μ3
          | _ => none)
        | _ => none)
      | some (.ok false, μ1) => compD2 g c mi1 vs1 g1 c1 fk fv ρ r es μ1
      | _ => none
def mDc2 (mi : Rho → Ev (List D)) (g : Tgt) (c : Rho → Ev Bool) (mi1 : Rho → Ev (List D)) (g1 : Tgt) (c1 : Rho → Ev Bool) (fk fv : Rho → Ev D) (vs vs1 : List Nat) : Rho → Ev D := fun ρ μ => match mi ρ μ with
  | some (.ok ds, μ1) => (match compD2 g c mi1 vs1 g1 c1 fk fv (wipeR ρ vs) ds [] μ1 with
      | some (.ok es, μ2) => some (.ok (.dct 0 es), μ2)
      | _ => none)
  | some (.err x, μ1) => some (.err x, μ1)
  | none => none
abbrev KP (R : Rc) (α : List Addr) (F : Hp) (kvs : List (Key × V)) (es : List (D × D)) : Prop := Paired (fun p q => q.1 = kD p.1 ∧ Rep R α F p.2 q.2) kvs es
theorem KP.mono {α α' : List Addr} {F F' : Hp} {kvs : List (Key × V)} {es : List (D × D)} (h : KP R α F kvs es) (ha : α <+: α') (hF : Same F F') : KP R α' F' kvs es := Paired.mapP h fun _ _ x => ⟨x.1, x.2.mono ha hF⟩
section
variable {kx vx tg iter tg1 iter1 : Expr} {ifs ifs1 : List Expr} {scope : Scope} {own : List (Str × Nat)} {vs1 : List Nat} {pos : Pos} {mi mi1 : Rho → Ev (List D)} {g g1 : Tgt} {c c1 : Rho → Ev Bool} {fk fv : Rho → Ev D}
theorem dc2_sp {vs : List Nat} (hv : ∀ i ∈ vs1, i ∈ vs) {σ : L2.St} {H : Hp} {Q : VK} {α F μ ρ r μ'} (hE : EnvR R α F σ ρ) (hl : Rl R α F μ H) (hm : mDc2 mi g c mi1 g1 c1 fk fv vs vs1 ρ μ = some (r, μ')) (hp : Post R W σ α F Q r μ') :
    tDc2 (tI R W mi) (lcG R vs g) (lcT R c) (lcI R mi1) (lcG R vs1 g1) (lcT R c1) (lcE R fk) (lcE R fv) vs vs1 σ H Q := by
  unfold mDc2 at hm
  split at hm
  · rename_i ds μ1 e
    split at hm
    · rename_i ys μ2 ec
      cases hm
      refine ⟨α, F, μ, ρ, _, _, hE, hl, e, fun α1 F1 H1 J n1 wk D hD => ?_⟩
      have hpd : ∀ a o, R.P a = some o → a ≠ D := fun a o e => ne_of_none (n1.2.2.prot _ _ e) hD
      refine ⟨fun i n H' => ∃ α2 F2 μ3 acc done, n = ds.length - i ∧ i ≤ ds.length ∧ Rl (R.wP (upd R.P D (.dK acc))) α2 F2 μ3 H' ∧ α1 <+: α2 ∧ Same F1 F2 ∧ KP R α2 F2 acc done ∧ compD2 g c mi1 vs1 g1 c1 fk fv (wipeR ρ vs) (ds.drop i) done μ3 = some (.ok ys, μ'),
        ⟨_, α1, F1, μ1, [], [], rfl, Nat.zero_le _, n1.2.2.guardO hD, List.prefix_refl _, Same.refl _, .nil, by rw [List.drop_zero]; exact ec⟩, ?_⟩
      rintro i n H' ⟨α2, F2, μ3, acc, done, rfl, hi, hl2, ha2, hF2, racc, hm2⟩
      obtain ⟨w1, w2⟩ := wk (upd R.P D (.dK acc)) α2 F2 μ3 H' ha2 hF2 hl2
      by_cases hlt : i < ds.length
      · have hd : ds[i]? = some ds[i] := List.getElem?_eq_getElem hlt
        obtain ⟨w3, w4⟩ := w2 i _ hd
        rw [List.drop_eq_getElem_cons hlt] at hm2
        unfold compD2 at hm2
        split at hm2
        · cases hm2
        · rename_i ρ3 eg
          refine .inr ⟨w3, fun H4 => ∃ α4 F4 μ4 acc4 done4, Rl (R.wP (upd R.P D (.dK acc4))) α4 F4 μ4 H4 ∧ α1 <+: α4 ∧ Same F1 F4 ∧ KP R α4 F4 acc4 done4 ∧ compD2 g c mi1 vs1 g1 c1 fk fv (wipeR ρ vs) (ds.drop (i + 1)) done4 μ4 = some (.ok ys, μ'), ?_, fun x H3 hy => ?_⟩
          · rintro H4 ⟨α4, F4, μ4, acc4, done4, z1, z2, z3, z4, z5⟩
            exact ⟨ds.length - (i + 1), by omega, α4, F4, μ4, acc4, done4, rfl, hlt, z1, z2, z3, z4, z5⟩
          · obtain ⟨α3, F3, n3, r3⟩ := w4 x H3 hy
            have hE3 : EnvR R α3 F3 σ ρ := by
              refine ⟨hE.1, fun j d ej => ?_⟩
              obtain ⟨v, e1, rv⟩ := hE.2 j d ej
              exact ⟨v, e1, (n1.rep rv).mono (ha2.trans n3.1) (hF2.trans n3.2.1)⟩
            refine ⟨upd R.P D (.dK acc), α3, F3, μ3, wipeR ρ vs, _, ρ3, (hE3.wipe vs).wP, n3.2.2, r3, eg, fun α4 F4 H4 σ4 n4 hw e4 => ?_⟩
            refine ⟨by rw [hw, wipe_wipe], ?_⟩
            split at hm2
            · rename_i μ5 ecd
              refine ⟨upd R.P D (.dK acc), α4, F4, μ3, ρ3, _, _, e4, n4.2.2, ecd, fun α5 F5 H5 n5 => ?_⟩
              refine iteT ?_
              split at hm2
              · rename_i ds1 μ6 ei
                split at hm2
                · rename_i es1 μ7 ec1
                  refine ⟨upd R.P D (.dK acc), α5, F5, μ5, ρ3, _, _, e4.mono n5, n5.2.2, ei, fun α6 F6 H6 J1 n6 wk1 => ?_⟩
                  have A6 : α2 <+: α6 := n3.1.trans (n4.1.trans (n5.1.trans n6.1))
                  have S6 : Same F2 F6 := n3.2.1.trans (n4.2.1.trans (n5.2.1.trans n6.2.1))
                  refine ⟨fun j k H' => ∃ α7 F7 μ9 acc7 done7, k = ds1.length - j ∧ j ≤ ds1.length ∧ Rl (R.wP (upd R.P D (.dK acc7))) α7 F7 μ9 H' ∧ α6 <+: α7 ∧ Same F6 F7 ∧ KP R α7 F7 acc7 done7 ∧ compD g1 c1 fk fv (wipeR ρ3 vs1) (ds1.drop j) done7 μ9 = some (.ok es1, μ7),
                    ⟨_, α6, F6, μ6, acc, done, rfl, Nat.zero_le _, n6.2.2, List.prefix_refl _, Same.refl _, racc.mono A6 S6, by rw [List.drop_zero]; exact ec1⟩, ?_⟩
                  rintro j k H7 ⟨α7, F7, μ9, acc7, done7, rfl, hj, hl7, ha7, hF7, racc7, hm7⟩
                  obtain ⟨u1, u2⟩ := wk1 (upd R.P D (.dK acc7)) α7 F7 μ9 H7 ha7 hF7 hl7
                  have E7 : EnvR R α7 F7 σ4 ρ3 := ((e4.mono n5).mono n6 |>.uP).1 |> fun h => ⟨h, fun jj d ej => by
                    obtain ⟨v, e1, rv⟩ := ((e4.mono n5).mono n6).uP.2 jj d ej
                    exact ⟨v, e1, rv.mono ha7 hF7⟩⟩
                  by_cases hlt1 : j < ds1.length
                  · have hd1 : ds1[j]? = some ds1[j] := List.getElem?_eq_getElem hlt1
                    obtain ⟨u3, u4⟩ := u2 j _ hd1
                    rw [List.drop_eq_getElem_cons hlt1] at hm7
                    unfold compD at hm7
                    split at hm7
                    · cases hm7
                    · rename_i ρ8 eg1
                      refine .inr ⟨u3, fun H8 => ∃ α8 F8 μ10 acc8 done8, Rl (R.wP (upd R.P D (.dK acc8))) α8 F8 μ10 H8 ∧ α6 <+: α8 ∧ Same F6 F8 ∧ KP R α8 F8 acc8 done8 ∧ compD g1 c1 fk fv (wipeR ρ3 vs1) (ds1.drop (j + 1)) done8 μ10 = some (.ok es1, μ7), ?_, fun x1 H8 hy1 => ?_⟩
                      · rintro H8 ⟨α8, F8, μ10, acc8, done8, z1, z2, z3, z4, z5⟩
                        exact ⟨ds1.length - (j + 1), by omega, α8, F8, μ10, acc8, done8, rfl, hlt1, z1, z2, z3, z4, z5⟩
                      · obtain ⟨α8, F8, n8, r8⟩ := u4 x1 H8 hy1
                        have E8 : EnvR (R.wP (upd R.P D (.dK acc7))) α8 F8 σ4 ρ3 := (E7.wP).mono n8
                        refine ⟨upd R.P D (.dK acc7), α8, F8, μ9, wipeR ρ3 vs1, _, ρ8, E8.wipe vs1, n8.2.2, r8, eg1, fun α9 F9 H9 σ9 n9 hw9 e9 => ?_⟩
                        refine ⟨by rw [hw9, wipe_wipe], ?_⟩
                        split at hm7
                        · rename_i μ11 ecd1
                          refine ⟨upd R.P D (.dK acc7), α9, F9, μ9, ρ8, _, _, e9, n9.2.2, ecd1, fun α10 F10 H10 n10 => ?_⟩
                          refine iteT ?_
                          split at hm7
                          · rename_i yk μ12 efk
                            refine ⟨upd R.P D (.dK acc7), α10, F10, μ11, ρ8, _, _, e9.mono n10, n10.2.2, efk, fun α11 F11 H11 v11 n11 r11 => ?_⟩
                            split at hm7
                            · rename_i yv μ13 efv
                              refine ⟨upd R.P D (.dK acc7), α11, F11, μ12, ρ8, _, _, (e9.mono n10).mono n11, n11.2.2, efv, fun α12 F12 H12 v12 n12 r12 => ?_⟩
                              split at hm7
                              · rename_i hz
                                obtain ⟨kk, hkk⟩ := Option.isSome_iff_exists.mp hz.2
                                have A12 : α7 <+: α12 := n8.1.trans (n9.1.trans (n10.1.trans (n11.1.trans n12.1)))
                                have S12 : Same F7 F12 := n8.2.1.trans (n9.2.1.trans (n10.2.1.trans (n11.2.1.trans n12.2.1)))
                                have rr : KP R α12 F12 acc7 done7 := racc7.mono A12 S12
                                refine ⟨acc7, kk, key_rep r11 hkk, n12.2.2.prot D _ upd_same, ?_, α12, F12, μ13, putK acc7 kk v12, putE done7 yk yv, n12.2.2.growO hpd, ha7.trans A12, hF7.trans S12, ?_, hm7⟩
                                · rw [racc7.length]; exact hz.1
                                · rw [toKey_ok hkk]
                                  exact put_ok sameK_k kk r12.uP rr
                              · cases hm7
                            · cases hm7
                          · cases hm7
                        · rename_i μ11 ecd1
                          refine ⟨upd R.P D (.dK acc7), α9, F9, μ9, ρ8, _, _, e9, n9.2.2, ecd1, fun α10 F10 H10 n10 => ?_⟩
                          refine iteF ?_
                          have A10 : α7 <+: α10 := n8.1.trans (n9.1.trans n10.1)
                          have S10 : Same F7 F10 := n8.2.1.trans (n9.2.1.trans n10.2.1)
                          exact ⟨α10, F10, μ11, acc7, done7, n10.2.2, ha7.trans A10, hF7.trans S10, racc7.mono A10 S10, hm7⟩
                        · cases hm7
                  · have ej : j = ds1.length := by omega
                    subst ej
                    rw [List.drop_length] at hm7
                    cases hm7
                    exact .inl ⟨u1 _ (Nat.le_refl _), α7, F7, _, acc7, _, hl7, ha2.trans (A6.trans ha7), hF2.trans (S6.trans hF7), racc7, hm2⟩
                · cases hm2
              · cases hm2
            · rename_i μ5 ecd
              refine ⟨upd R.P D (.dK acc), α4, F4, μ3, ρ3, _, _, e4, n4.2.2, ecd, fun α5 F5 H5 n5 => ?_⟩
              refine iteF ?_
              exact ⟨α5, F5, μ5, acc, done, n5.2.2, ha2.trans (n3.1.trans (n4.1.trans n5.1)), hF2.trans (n3.2.1.trans (n4.2.1.trans n5.2.1)), racc.mono (n3.1.trans (n4.1.trans n5.1)) (n3.2.1.trans (n4.2.1.trans n5.2.1)), hm2⟩
            · cases hm2
      · have e : i = ds.length := by omega
        subst e
        rw [List.drop_length] at hm2
        cases hm2
        obtain ⟨hlu, hFd⟩ := hl2.unguardO hpd
        refine .inl ⟨w1 _ (Nat.le_refl _), hp α2 (upd F2 D (.dK acc)) H' _ ⟨n1.1.trans ha2, (n1.2.1.trans hF2).trans (same_upd hFd), hlu⟩ ?_⟩
        exact dOk_mk upd_same (.inl ⟨rfl, acc, rfl, racc.mono (List.prefix_refl _) (same_upd hFd)⟩)
    · cases hm
  · rename_i x μ1 e
    cases hm
    exact ⟨α, F, μ, ρ, _, _, hE, hl, e, hp⟩
  · cases hm
theorem ped_dc2 (hc : X.calm = true) (hN : X.N.Nodup) (hi : PID R X W tg iter mi) (ok : BlkOk X.N X.env.scope scope own) (hv : ∀ i ∈ vs1, i ∈ own.map (·.2))
    (hg : ∀ P s H C cl fp, PGD (R.wP P) (X.blk s H scope (compEnvC scope cl C X.env) fp) tg (own.map (·.2)) g) (ht : ∀ P s H C cl fp, PTsD (R.wP P) (X.blk s H scope (compEnvC scope cl C X.env) fp) W0 ifs c)
    (hi1 : ∀ P s H C cl fp, PID (R.wP P) (X.blk s H scope (compEnvC scope cl C X.env) fp) W0 tg1 iter1 mi1)
    (hg1 : ∀ P s H C cl fp, PGD (R.wP P) (X.blk s H scope (compEnvC scope cl C X.env) fp) tg1 vs1 g1) (ht1 : ∀ P s H C cl fp, PTsD (R.wP P) (X.blk s H scope (compEnvC scope cl C X.env) fp) W0 ifs1 c1)
    (hk : ∀ P s H C cl fp, PED (R.wP P) (X.blk s H scope (compEnvC scope cl C X.env) fp) W0 kx fk) (he : ∀ P s H C cl fp, PED (R.wP P) (X.blk s H scope (compEnvC scope cl C X.env) fp) W0 vx fv) (hs : ∀ x, foldedSetIterable iter X.env x = pure x) (hs1 : ∀ env x, foldedSetIterable iter1 env x = pure x) :
    PED R X W (DC2 kx vx tg iter ifs tg1 iter1 ifs1 scope pos) (mDc2 mi g c mi1 g1 c1 fk fv (own.map (·.2)) vs1) :=
  ped_of (pe_dc2 hc hN hi ok hv (fun s H C cl fp => pg_ex fun P => hg P s H C cl fp) (fun s H C cl fp => pts_ex fun P => ht P s H C cl fp) (fun s H C cl fp => pi_ex fun P => hi1 P s H C cl fp) (fun s H C cl fp => pg_ex fun P => hg1 P s H C cl fp) (fun s H C cl fp => pts_ex fun P => ht1 P s H C cl fp) (fun s H C cl fp => pe_ex fun P => hk P s H C cl fp) (fun s H C cl fp => pe_ex fun P => he P s H C cl fp) hs hs1) fun σ H Q α F μ ρ r μ' hE hl hm hp => dc2_sp hv hE hl hm hp
theorem psd_setDc2 {i : Nat} {y : Str} {py spos : Pos} (hc : X.calm = true) (hN : X.N.Nodup) (hy : X.N[i]? = some y) (hyl : X.env.scope.names.lookup y = some .local)
    (hsw : swapsWith (DC2 kx vx tg iter ifs tg1 iter1 ifs1 scope pos) (some (.Name y py)) spos.line X.env = pure true) (hi : PID R X W tg iter mi) (ok : BlkOk X.N X.env.scope scope own) (hv : ∀ i ∈ vs1, i ∈ own.map (·.2))
    (hg : ∀ P s H C cl fp, PGD (R.wP P) (X.blk s H scope (compEnvC scope cl C X.env) fp) tg (own.map (·.2)) g) (ht : ∀ P s H C cl fp, PTsD (R.wP P) (X.blk s H scope (compEnvC scope cl C X.env) fp) W0 ifs c)
    (hi1 : ∀ P s H C cl fp, PID (R.wP P) (X.blk s H scope (compEnvC scope cl C X.env) fp) W0 tg1 iter1 mi1)
    (hg1 : ∀ P s H C cl fp, PGD (R.wP P) (X.blk s H scope (compEnvC scope cl C X.env) fp) tg1 vs1 g1) (ht1 : ∀ P s H C cl fp, PTsD (R.wP P) (X.blk s H scope (compEnvC scope cl C X.env) fp) W0 ifs1 c1)
    (hk : ∀ P s H C cl fp, PED (R.wP P) (X.blk s H scope (compEnvC scope cl C X.env) fp) W0 kx fk) (he : ∀ P s H C cl fp, PED (R.wP P) (X.blk s H scope (compEnvC scope cl C X.env) fp) W0 vx fv) (hs : ∀ x, foldedSetIterable iter X.env x = pure x) (hs1 : ∀ env x, foldedSetIterable iter1 env x = pure x) :
    PSD R X W (.Assign [.Name y py] (DC2 kx vx tg iter ifs tg1 iter1 ifs1 scope pos) spos) (xAsg (mDc2 mi g c mi1 g1 c1 fk fv (own.map (·.2)) vs1) (gNm i)) :=
  psd_of (ps_setDc2 hc hN hy hyl hsw hi ok hv (fun s H C cl fp => pg_ex fun P => hg P s H C cl fp) (fun s H C cl fp => pts_ex fun P => ht P s H C cl fp) (fun s H C cl fp => pi_ex fun P => hi1 P s H C cl fp) (fun s H C cl fp => pg_ex fun P => hg1 P s H C cl fp) (fun s H C cl fp => pts_ex fun P => ht1 P s H C cl fp) (fun s H C cl fp => pe_ex fun P => hk P s H C cl fp) (fun s H C cl fp => pe_ex fun P => he P s H C cl fp) hs hs1) fun E σ H α F μ ρ o μ' hE hl hm hp => by
    have key := xbind_sp (K := fun x H1 => gName i x σ H1 E.nx) hE hl hm hp fun d μ1 α1 F1 H1 v1 hk n1 r1 e1 p1 => by
      rw [Option.map_eq_some_iff] at hk
      obtain ⟨ρ', e2, hk⟩ := hk
      cases hk
      unfold gNm at e2
      split at e2
      · cases e2
        exact p1 α1 F1 H1 _ (Nx.refl n1.2.2) (e1.set r1)
      · cases e2
    obtain ⟨α, F, μ, ρ, r, μ', a1, a2, a3, a4⟩ := key
    exact dc2_sp hv a1 a2 a3 a4
end
end DL
/-! DL36: own operators beside an int; own unary operators; abs of an own. -/
namespace DL
open PySem PySem.Spec PyProof.Rows L2
/-! ### an int declines -/
section
variable {M : Model} {A : Around} {E : Value → Shared → Prop} {s : Shared}
theorem asInt_ins {x C dx : Addr} (hx : s.heap.get? x = some (PySem.W.instObj C dx)) {Q : Option Int → Shared → Prop} (h : Q none s) : wpAny M A (asInt? (.ref x)) Q E s := by
  unfold asInt?
  exact wpAny_bind (wpAny_load hx (wpAny_pure h))
theorem binary_declines {name : String} {g : Int → Int → Sem Fin} {i : Int} {t : Tok} {x C dx : Addr} (hx : s.heap.get? x = some (PySem.W.instObj C dx)) {Q : Fin → Shared → Prop} (h : Q (.done (.ret .notImplemented)) s) :
    wpAny M A (PySem.Builtin.Int.intBinary name g false ⟨[.int i t, .ref x], []⟩) Q E s := by
  unfold PySem.Builtin.Int.intBinary
  refine wpAny_bind (m := slotArgs name 1 _) (wpAny_pure ?_)
  refine wpAny_bind (m := PySem.Builtin.Int.intOfSelf _) (wpAny_pure ?_)
  refine wpAny_bind (m := asInt? (.ref x)) (asInt_ins hx ?_)
  exact wpAny_bind (wpAny_rule (wpAny_pure h))
end
def isBin6 : Operator → Bool
  | .Add => true | .Sub => true | .Mult => true | .BitAnd => true | .BitOr => true | .BitXor => true
  | _ => false
structure Declines (op : Operator) (id : String) (B : Builtin) : Prop where
  slot : Slot "int" (dunder op.info.2) id
  fills : fillsNumberSlot (.type "int") op.info.2 = pure true
  entry : entryFor table id = some B
  args : ∀ a b, argsOk id ⟨[a, b], []⟩
  no : ∀ (M : Model) (A : Around) (E : Value → Shared → Prop) (s : Shared) (i : Int) (t : Tok) (x C dx : Addr) (Q : Fin → Shared → Prop), s.heap.get? x = some (PySem.W.instObj C dx) → Q (.done (.ret .notImplemented)) s → wpAny M A (B ⟨[.int i t, .ref x], []⟩) Q E s
theorem declines6 {op : Operator} (h : isBin6 op = true) : ∃ id B, Declines op id B := by
  cases op <;> first | (cases h; done) | skip
  · exact ⟨_, _, F.slot_int_add, F.fills_int_add, F.entry_int_add, F.args_int_add_2, fun M A E s i t x C dx Q hx q => binary_declines hx q⟩
  · exact ⟨_, _, F.slot_int_sub, F.fills_int_sub, F.entry_int_sub, F.args_int_sub_2, fun M A E s i t x C dx Q hx q => binary_declines hx q⟩
  · exact ⟨_, _, F.slot_int_mul, F.fills_int_mul, F.entry_int_mul, F.args_int_mul_2, fun M A E s i t x C dx Q hx q => binary_declines hx q⟩
  all_goals first
    | exact ⟨_, _, F.slot_int_or, F.fills_int_or, F.entry_int_or, F.args_int_or_2, fun M A E s i t x C dx Q hx q => binary_declines hx q⟩
    | exact ⟨_, _, F.slot_int_xor, F.fills_int_xor, F.entry_int_xor, F.args_int_xor_2, fun M A E s i t x C dx Q hx q => binary_declines hx q⟩
    | exact ⟨_, _, F.slot_int_and, F.fills_int_and, F.entry_int_and, F.args_int_and_2, fun M A E s i t x C dx Q hx q => binary_declines hx q⟩
section
open PySem.W
variable {prog : Program} {w : World} {A : Around} {E : Value → Shared → Prop} {s : Shared} {K : Frag} {x C f g dx : Addr} {od : Option Obj}
/-- i op x: the int declines, then the reflected method -/
theorem ksp_binR {op : Operator} {i : Int} {t : Tok} {Q : Value → Shared → Prop} (h6 : isBin6 op = true) (X : K.In s.heap) (I : PySem.W.InstAt s.heap x (instObj C dx) C od) (hc : selfFirst K C = true)
    (hs : findIn K (.ref C) (PySem.dunder op.info.2) = some (some (.ref g))) (hr : findIn K (.ref C) (dunderR op.info.2) = some (some (.ref f))) (hf : isFn K (.ref f) = true) (hsub : subIn K (.ref C) (.type "int") = some false)
    (h : wpAny (model prog w) A (call (.ref f) [.ref x, .int i t]) (PySem.W.CmpBack Q) E s) : wpAny (model prog w) A (binaryOp op (.int i t) (.ref x)) Q E s := by
  obtain ⟨id, B, dc⟩ := declines6 h6
  obtain ⟨cd, rest, hcd, hm⟩ := ksp_first hc
  have hTI := typeIs_int s i t
  have two := ksp_try X I hr hf h
  have one : wpAny (model prog w) A (tryMethod (.int i t) (PySem.dunder op.info.2) (.ref x)) (fun r s' => r = none ∧ s' = s) E s :=
    wpAny_tryMethod_declines hTI dc.slot (wpAny_call (codeAny_call_builtin dc.slot.plain dc.entry (dc.slot.check _ _ _ _ _ _ _ _ hTI (dc.args _ _)
      (dc.no _ _ _ s i t x C dx _ I.at_ (show _ ∧ _ from ⟨rfl, rfl, rfl⟩)))))
  have fills := dc.fills
  rcases hi : op.info with ⟨sym, nm'⟩
  rw [hi] at hs hr fills one two
  dsimp only at hs hr fills one two
  obtain ⟨hh, gg, d, tt, os⟩ := s
  have notSub := looks_subIn (M := model prog w) X hsub
  have alsoFills := fills_K (M := model prog w) X hcd hm hs
  have builtinSlot : numberSlotInPython (.type "int") nm' = pure false := rfl
  have differ : (Value.type "int" == Value.ref C) = false := rfl
  simp only [binaryOp, hi]
  apply wpAny_holding
  apply wpAny_bind
  unfold binaryOp1
  apply wpAny_bind
  apply wpAny_typeOf hTI
  apply wpAny_bind
  apply I.type.at
  apply wpAny_bind
  apply wpAny_of_eq fills
  simp only [differ, Bool.false_eq_true, reduceIte]
  apply wpAny_bind
  apply alsoFills.at
  simp only [Bool.and_self, reduceIte]
  apply wpAny_bind
  apply notSub.at
  simp only [builtinSlot, pure_bind, Bool.not_false, Bool.and_self, Bool.false_eq_true, reduceIte]
  -- the int's own method, then the other's
  apply wpAny_bind
  apply wpAny_mono one _ fun _ _ z => z
  rintro _ _ ⟨rfl, rfl⟩
  apply wpAny_bind
  apply wpAny_mono two _ fun _ _ z => z
  rintro _ s2 ⟨v, rfl, q⟩
  exact wpAny_bind (wpAny_rule (wpAny_pure (wpAny_pure q)))
end
variable {R : Rc} {X : Cx} {W : WX}
/-! ### over data -/
/-- what of the text an operator beside an int must have -/
def mixB (K : PySem.W.Frag) (C : Addr) (op : Operator) : Bool := (match PySem.W.findIn K (.ref C) (dunderR op.info.2) with
    | some none => true
    | some (some (.ref _)) => true
    | _ => false) && ((PySem.W.findIn K (.type "int") (PySem.dunder op.info.2)).isSome && ((PySem.W.findIn K (.type "int") (dunderR op.info.2)).isSome && decide (PySem.W.subIn K (.type "int") (.ref C) = some false)))
def refB (K : PySem.W.Frag) (C : Addr) (op : Operator) : Bool := (match PySem.W.findIn K (.ref C) (PySem.dunder op.info.2) with
    | some (some (.ref _)) => true
    | _ => false) && (isBin6 op && decide (PySem.W.subIn K (.ref C) (.type "int") = some false))
def mOwnI (c : Nat) (ma mb : Rho → Ev D) (g : Sem1) : Rho → Ev D := fun ρ => (ma ρ).bind fun a => (mb ρ).bind fun b => fun μ => match insOf a μ, b with
  | some (c1, _), .int _ => if c1 = c then g [a, b] μ else none
  | _, _ => none
def mIOwn (c : Nat) (ma mb : Rho → Ev D) (g : Sem1) : Rho → Ev D := fun ρ => (ma ρ).bind fun a => (mb ρ).bind fun b => fun μ => match a, insOf b μ with
  | .int _, some (c1, _) => if c1 = c then g [b, a] μ else none
  | _, _ => none
def mOwnU (c : Nat) (ma : Rho → Ev D) (g : Sem1) : Rho → Ev D := fun ρ => (ma ρ).bind fun a => fun μ => match insOf a μ with
  | some (c1, _) => if c1 = c then g [a] μ else none
  | _ => none
section
variable {k c : Nat} {sem : Sem1} {a b : Expr} {pos : Pos} {ma mb : Rho → Ev D}
theorem ownI_sp {σ : L2.St} {H : Hp} {Q : VK} {α F μ ρ r μ'} (hE : EnvR R α F σ ρ) (hl : Rl R α F μ H) (hm : mOwnI c ma mb sem ρ μ = some (r, μ')) (hp : Post R W σ α F Q r μ') :
    tD R W ma σ H fun x H1 => tD R W mb σ H1 fun y H2 => ∃ p i dx fs, x = .ref p ∧ y = .int i ∧ H2 p = some (.ins (R.cA c) dx fs) ∧ spD R sem [x, y] H2 Q (WE W σ) := by
  rcases Ev.bind_inv hm with ⟨a, μ1, e1, hm1⟩ | ⟨x, e1, rfl⟩
  · refine ⟨α, F, μ, ρ, _, μ1, hE, hl, e1, fun α1 F1 H1 v1 n1 r1 => ?_⟩
    rcases Ev.bind_inv hm1 with ⟨b, μ2, e2, hm2⟩ | ⟨x, e2, rfl⟩
    · refine ⟨α1, F1, μ1, ρ, _, μ2, hE.mono n1, n1.2.2, e2, fun α2 F2 H2 v2 n2 r2 => ?_⟩
      split at hm2
      · rename_i c1 f1 i i1
        split at hm2
        · rename_i hc
          obtain rfl := hc
          obtain ⟨p, dx, fs, rfl, hp1, _⟩ := insOf_ok n2.2.2 (n2.rep r1) i1
          have r2' := r2
          cases r2'
          exact ⟨p, i, dx, fs, rfl, rfl, hp1, α2, F2, μ2, [a, .int i], r, μ', .cons (n2.rep r1) (.cons r2 .nil), n2.2.2, hm2, post_f (Post.weak (n1.trans n2) hp)⟩
        · cases hm2
      · cases hm2
    · exact ⟨α1, F1, μ1, ρ, _, μ', hE.mono n1, n1.2.2, e2, Post.weak n1 hp⟩
  · exact ⟨α, F, μ, ρ, _, μ', hE, hl, e1, hp⟩
theorem iOwn_sp {σ : L2.St} {H : Hp} {Q : VK} {α F μ ρ r μ'} (hE : EnvR R α F σ ρ) (hl : Rl R α F μ H) (hm : mIOwn c ma mb sem ρ μ = some (r, μ')) (hp : Post R W σ α F Q r μ') :
    tD R W ma σ H fun x H1 => tD R W mb σ H1 fun y H2 => ∃ p i dx fs, y = .ref p ∧ x = .int i ∧ H2 p = some (.ins (R.cA c) dx fs) ∧ spD R sem [y, x] H2 Q (WE W σ) := by
  rcases Ev.bind_inv hm with ⟨a, μ1, e1, hm1⟩ | ⟨x, e1, rfl⟩
  · refine ⟨α, F, μ, ρ, _, μ1, hE, hl, e1, fun α1 F1 H1 v1 n1 r1 => ?_⟩
    rcases Ev.bind_inv hm1 with ⟨b, μ2, e2, hm2⟩ | ⟨x, e2, rfl⟩
    · refine ⟨α1, F1, μ1, ρ, _, μ2, hE.mono n1, n1.2.2, e2, fun α2 F2 H2 v2 n2 r2 => ?_⟩
      split at hm2
      · rename_i i c1 f1 i1
        split at hm2
        · rename_i hc
          obtain rfl := hc
          obtain ⟨p, dx, fs, rfl, hp1, _⟩ := insOf_ok n2.2.2 r2 i1
          have r1' := r1
          cases r1'
          exact ⟨p, i, dx, fs, rfl, rfl, hp1, α2, F2, μ2, [b, .int i], r, μ', .cons r2 (.cons (n2.rep r1) .nil), n2.2.2, hm2, post_f (Post.weak (n1.trans n2) hp)⟩
        · cases hm2
      · cases hm2
    · exact ⟨α1, F1, μ1, ρ, _, μ', hE.mono n1, n1.2.2, e2, Post.weak n1 hp⟩
  · exact ⟨α, F, μ, ρ, _, μ', hE, hl, e1, hp⟩
theorem ownU_sp {σ : L2.St} {H : Hp} {Q : VK} {α F μ ρ r μ'} (hE : EnvR R α F σ ρ) (hl : Rl R α F μ H) (hm : mOwnU c ma sem ρ μ = some (r, μ')) (hp : Post R W σ α F Q r μ') :
    tD R W ma σ H fun x H1 => ∃ p dx fs, x = .ref p ∧ H1 p = some (.ins (R.cA c) dx fs) ∧ spD R sem [x] H1 Q (WE W σ) := by
  rcases Ev.bind_inv hm with ⟨a, μ1, e1, hm1⟩ | ⟨x, e1, rfl⟩
  · refine ⟨α, F, μ, ρ, _, μ1, hE, hl, e1, fun α1 F1 H1 v1 n1 r1 => ?_⟩
    split at hm1
    · rename_i c1 f1 i1
      split at hm1
      · rename_i hc
        obtain rfl := hc
        obtain ⟨p, dx, fs, rfl, hp1, _⟩ := insOf_ok n1.2.2 r1 i1
        exact ⟨p, dx, fs, rfl, hp1, α1, F1, μ1, [a], r, μ', .cons r1 .nil, n1.2.2, hm1, post_f (Post.weak n1 hp)⟩
      · cases hm1
    · cases hm1
  · exact ⟨α, F, μ, ρ, _, μ', hE, hl, e1, hp⟩
theorem ped_ownI {op : Operator} (M : OpM X.prog X.w X.K X.mg X.base R k c (PySem.dunder op.info.2) sem) (hx : mixB X.K (R.cA c) op = true) (hr : Room k X.A) (tk : Takes X W) (ha : PED R X W a ma) (hb : PED R X W b mb) : PED R X W (.BinOp a op b pos) (mOwnI c ma mb sem) :=
  ⟨fun pins s σ H Q I ⟨α, F, μ, ρ, r, μ', hE, hl, hm, hp⟩ => by
    obtain ⟨f, hf, hi, G⟩ := M.ex
    unfold mixB at hx
    simp only [Bool.and_eq_true, decide_eq_true_eq] at hx
    obtain ⟨h1, h2, h3, h4⟩ := hx
    obtain ⟨fo, h2⟩ := Option.isSome_iff_exists.mp h2
    obtain ⟨ro, h3⟩ := Option.isSome_iff_exists.mp h3
    obtain ⟨rc, hrc, hrp⟩ : ∃ rc, PySem.W.findIn X.K (.ref (R.cA c)) (dunderR op.info.2) = some rc ∧ (rc = none ∨ ∃ g : Addr, rc = some (.ref g)) := by
      split at h1
      · exact ⟨_, by assumption, .inl rfl⟩
      · exact ⟨_, by assumption, .inr ⟨_, rfl⟩⟩
      · cases h1
    refine wpAny_BinOp (binT ha hb I (ownI_sp hE hl hm hp) fun v u s2 x y H2 I2 rx ry ⟨p, i, dx, fs, ex, ey, ep, h⟩ => ?_)
    subst ex ey
    obtain rfl : v = Value.ref p := rx
    obtain ⟨t, rfl⟩ := ry
    obtain ⟨_, J, _⟩ := ins_get I2.hok ep
    obtain ⟨od, J, _⟩ := J.look
    obtain ⟨m, hF⟩ := I2.fr
    exact PySem.W.ksp_binT (T := "int") hF I2.ok.mod.kin J rfl M.sf hf hi hrc hrp h2 h3 h4 (thn (run_D0 (us := [.ref p, .int i t]) (vs := [.ref p, .int i]) G hr tk I2 (.cons rfl (.cons ⟨t, rfl⟩ .nil)) rfl h) fun v s' h => back_of h)⟩
theorem ped_iOwn {op : Operator} (M : OpM X.prog X.w X.K X.mg X.base R k c (dunderR op.info.2) sem) (hx : refB X.K (R.cA c) op = true) (hr : Room k X.A) (tk : Takes X W) (ha : PED R X W a ma) (hb : PED R X W b mb) : PED R X W (.BinOp a op b pos) (mIOwn c ma mb sem) :=
  ⟨fun pins s σ H Q I ⟨α, F, μ, ρ, r, μ', hE, hl, hm, hp⟩ => by
    obtain ⟨f, hf, hi, G⟩ := M.ex
    unfold refB at hx
    simp only [Bool.and_eq_true, decide_eq_true_eq] at hx
    obtain ⟨h1, h2, h3⟩ := hx
    obtain ⟨g, hg⟩ : ∃ g : Addr, PySem.W.findIn X.K (.ref (R.cA c)) (PySem.dunder op.info.2) = some (some (.ref g)) := by
      split at h1
      · exact ⟨_, by assumption⟩
      · cases h1
    refine wpAny_BinOp (binT ha hb I (iOwn_sp hE hl hm hp) fun v u s2 x y H2 I2 rx ry ⟨p, i, dx, fs, ey, ex, ep, h⟩ => ?_)
    subst ex ey
    obtain rfl : u = Value.ref p := ry
    obtain ⟨t, rfl⟩ := rx
    obtain ⟨_, J, _⟩ := ins_get I2.hok ep
    obtain ⟨od, J, _⟩ := J.look
    exact ksp_binR h2 I2.kIn J M.sf hg hf hi h3 (thn (run_D0 (us := [.ref p, .int i t]) (vs := [.ref p, .int i]) G hr tk I2 (.cons rfl (.cons ⟨t, rfl⟩ .nil)) rfl h) fun v s' h => back_of h)⟩
def unName : UnaryOp → Str
  | .USub => "__neg__"
  | .UAdd => "__pos__"
  | .Invert => "__invert__"
  | .Not => "__not__"
theorem ped_ownU {op : UnaryOp} (M : MtD X.prog X.w X.K X.mg X.base R k c (unName op) 0 [] sem) (ho : op ≠ .Not) (hr : Room k X.A) (tk : Takes X W) (ha : PED R X W a ma) : PED R X W (.UnaryOp op a pos) (mOwnU c ma sem) :=
  ⟨fun pins s σ H Q I ⟨α, F, μ, ρ, r, μ', hE, hl, hm, hp⟩ => by
    obtain ⟨f, Mf, G⟩ := M.ex
    refine wpAny_UnaryOp (thn (PE.run ha pins s σ H _ I (ownU_sp hE hl hm hp)) fun v s1 ⟨x, H1, I1, rx, p, dx, fs, ex, ep, h⟩ => ?_)
    subst ex
    obtain rfl : v = Value.ref p := rx
    obtain ⟨_, J, _⟩ := ins_get I1.hok ep
    obtain ⟨od, J, _⟩ := J.look
    obtain ⟨m, hF⟩ := I1.fr
    have z := run_D0 (us := [.ref p]) (vs := [.ref p]) G hr tk I1 (.cons rfl .nil) rfl h
    cases op with
    | Not => exact absurd rfl ho
    | USub => exact PySem.W.ksp_neg hF I1.ok.mod.kin J Mf.at_ Mf.fn z
    | UAdd => exact PySem.W.ksp_pos hF I1.ok.mod.kin J Mf.at_ Mf.fn z
    | Invert => exact PySem.W.ksp_inv hF I1.ok.mod.kin J Mf.at_ Mf.fn z⟩
end
end DL
/-! DL37: abs of an own; defs with *args. -/
namespace DL
open PySem PySem.Spec PyProof.Rows L2
variable {R : Rc} {X : Cx} {W : WX}
def mAbsO (c : Nat) (ms : Rho → Ev (List D)) (g : Sem1) : Rho → Ev D := fun ρ => (ms ρ).bind fun ds => fun μ => match ds with
  | [a] => (match insOf a μ with
    | some (c1, _) => if c1 = c then g [a] μ else none
    | none => none)
  | _ => none
section
variable {k c : Nat} {sem : Sem1} {pos : Pos}
/-- a call under one more unit -/
theorem run_in1 {n : Nat} {f : Addr} {pins : List (Addr × Obj)} {σ : L2.St} {H : Hp} {s : Shared} {Q : VK} {us : List Value} {vs : List V} (G : FnD X.prog X.w X.K X.mg X.base R k f n [] sem) (hr : Room (k + 1) X.A) (tk : Takes X W) (I : Inv X pins σ H s) (r : Vals vs us) (l1 : us.length = n)
    (h : spD R sem vs H Q (WE W σ)) : wpAny (model X.prog X.w) X.A.in1 (call (.ref f) us) (EP X pins σ Q) X.xe s := by
  refine wpAny_call (codeAny_mono (G X.A.in1 X.stack s H us [] vs [] Q (WE W σ) hr.in1 I.env0.in1 r .nil l1 rfl (by rw [List.append_nil]; exact h)) fun r s' hq => ?_)
  cases r with
  | error e => exact passAt tk σ pins H s e s' I hq
  | ok fl =>
    cases fl with
    | ret u => exact I.after hq
    | next => exact False.elim hq
    | brk => exact False.elim hq
    | cont => exact False.elim hq
theorem absO_sp {ms : Rho → Ev (List D)} {σ : L2.St} {H : Hp} {Q : VK} {α F μ ρ r μ'} (hE : EnvR R α F σ ρ) (hl : Rl R α F μ H) (hm : mAbsO c ms sem ρ μ = some (r, μ')) (hp : Post R W σ α F Q r μ') :
    tDL R W ms σ H fun xs H1 => ∃ p dx fs, xs = [.ref p] ∧ H1 p = some (.ins (R.cA c) dx fs) ∧ spD R sem xs H1 Q (WE W σ) := by
  rcases Ev.bind_inv hm with ⟨ds, μ1, e1, hm1⟩ | ⟨x, e1, rfl⟩
  · refine ⟨α, F, μ, ρ, _, μ1, hE, hl, e1, fun α1 F1 H1 v1 n1 r1 => ?_⟩
    split at hm1
    · rename_i a
      split at hm1
      · rename_i c1 f1 i1
        split at hm1
        · rename_i hc
          obtain rfl := hc
          cases r1 with
          | cons ra t =>
            cases t
            obtain ⟨p, dx, fs, rfl, hp1, _⟩ := insOf_ok n1.2.2 ra i1
            exact ⟨p, dx, fs, rfl, hp1, α1, F1, μ1, [a], r, μ', .cons ra .nil, n1.2.2, hm1, post_f (Post.weak n1 hp)⟩
        · cases hm1
      · cases hm1
    · cases hm1
  · exact ⟨α, F, μ, ρ, _, μ', hE, hl, e1, hp⟩
theorem ped_absO {x : Str} {p : Pos} {e : Expr} {es : List Expr} {ms : Rho → Ev (List D)} (M : MtD X.prog X.w X.K X.mg X.base R k c "__abs__" 0 [] sem) (hr : Room (k + 1) X.A) (tk : Takes X W) (hx : x = "abs") (hg : Gl X x) (hm : X.mg x = none) (ha : PAD R X W (e :: es) ms)
    (he : FirstPlain X e es) (hpl : NoneStarred X pos es) : PED R X W (.Call (.Name x p) (e :: es) [] pos) (mAbsO c ms sem) :=
  ⟨fun pins s σ H Q I ⟨α, F, μ, ρ, r, μ', hE, hl, hmm, hp⟩ => by
    obtain ⟨f, Mf, G⟩ := M.ex
    subst hx
    refine wpAny_Call_Name_kw (ld_blt (u := .builtin "abs") I hg hm (by decide +kernel) ?_ (by decide) (by decide))
    refine PyProof.Rows.callWith_builtin1 (thn (PA.run ha pos pins s σ H _ I (absO_sp hE hl hmm hp)) fun us s1 ⟨vs, H1, I1, r1, q, dx, fs, ex, ep, h⟩ => ?_) he hpl
    subst ex
    obtain ⟨u, rfl, rfl⟩ := vals1 r1
    obtain ⟨_, J, _⟩ := ins_get I1.hok ep
    obtain ⟨od, J, _⟩ := J.look
    refine PySem.Calls.call_function_entry kind_abs plain_abs entry_abs (args_abs _) ?_
    unfold Builtin.«abs»
    refine wpAny_bind (m := oneArg "abs" _) (wpAny_pure ?_)
    refine wpAny_bind (PySem.W.special_fn I1.kIn J Mf.at_ (beq_iff_eq.mp Mf.fn) (thn (run_in1 (us := [.ref q]) (vs := [.ref q]) G hr tk I1 (.cons rfl .nil) rfl h) fun v s' z => ?_))
    exact wpAny_pure ⟨_, rfl, z⟩⟩
end
end DL
/-! DL38: list(text). -/
namespace DL
open PySem PySem.Spec PyProof.Rows L2

variable {R : Rc} {X : Cx} {W : WX}
def chV (x : Str) : List V := x.cps.toList.map fun c => V.str ⟨#[c]⟩
theorem call_listS (hc : X.calm = true) : CallR X (.type "list") (fun xs H Q => ∃ x : Str, xs = [.str x] ∧ x.cps.size ≤ sizeLine ∧ ∀ q, H q = none → Q (.ref q) (upd H q (.lst (chV x)))) := by
  intro pins s σ H xs us Q I r h
  obtain ⟨x, e, z, q⟩ := h
  subst e
  obtain ⟨u, eu, t, rfl⟩ := vals1 r
  subst eu
  refine PySem.call_list_str (I.ok.hd hc) x t (hn := z) fun h' tk acc' c' hkeep hS hacc => ?_
  refine ⟨.ref s.heap.objs.size, upd H s.heap.objs.size (.lst (chV x)), I.laid hkeep (Nat.le_refl _) (show ObjOk X.prog X.w _ _ _ (.lst (chV x)) from ⟨?_, acc'.toList, c', ?_, ?_⟩), rfl, q _ (I.hok.fresh (Nat.le_refl _))⟩
  · simp [chV]; exact z
  · have el : acc'.toList.length = acc'.size := by simp
    refine vals_of_idx _ _ (by rw [el, hacc.1]; simp [chV]) fun j u hj => ?_
    obtain ⟨c, t', hc, hu⟩ := hacc.2 j u (by rw [← Array.getElem?_toList]; exact hj)
    refine ⟨.str ⟨#[c]⟩, ?_, ?_⟩
    · simp [chV, hc]
    · subst hu; exact ⟨t', rfl⟩
  · rw [Array.toArray_toList]; exact hS
theorem repL_ch {α : List Addr} {F : Hp} (x : Str) : RepL R α F (chV x) (chD x) := by
  unfold chV chD
  generalize x.cps.toList = l
  induction l with
  | nil => exact .nil
  | cons c l ih => exact .cons (.str _) ih
/-- list(text), a list that stays -/
def listSD : OpN
  | [.str x], μ => guardD (decide (x.cps.size ≤ sizeLine)) (.lst (chD x), μ)
  | _, _ => none
/-- list(text), a list that may change -/
def newListSD : OpN
  | [.str x], μ => guardD (decide (x.cps.size ≤ sizeLine)) (.loc μ.length, μ ++ [.lst (chD x)])
  | _, _ => none
theorem call_listSD (hc : X.calm = true) : CallR X (.type "list") (rDN R listSD) := by
  intro pins s σ H xs us Q I r ⟨α, F, μ, ds, d, μ', hl, rl, e, hq⟩
  unfold listSD at e
  split at e
  · obtain ⟨hz, e⟩ := guardD_some e
    cases e
    cases rl with
    | cons r1 t =>
      cases t
      cases r1
      exact call_listS hc pins s σ H _ us Q I r ⟨_, rfl, of_decide_eq_true hz, fun q hq' => hq α (upd F q _) _ _ (Nx.new hl hq') (.mkLst upd_same ((repL_ch _).mono (List.prefix_refl _) (same_upd (hl.fresh hq'))))⟩
  · cases e
theorem call_newListSD (hc : X.calm = true) : CallR X (.type "list") (rDN R newListSD) := by
  intro pins s σ H xs us Q I r ⟨α, F, μ, ds, d, μ', hl, rl, e, hq⟩
  unfold newListSD at e
  split at e
  · obtain ⟨hz, e⟩ := guardD_some e
    cases e
    cases rl with
    | cons r1 t =>
      cases t
      cases r1
      exact call_listS hc pins s σ H _ us Q I r ⟨_, rfl, of_decide_eq_true hz, fun l hl' => postv_cell hl hq hl' ⟨_, upd_same, repL_ch _⟩⟩
  · cases e
end DL
/-! DL15: the text as a datum (E, S), its evaluator, its checker, and that the evaluator tells what the machine does. -/
namespace DL
open PySem PySem.Spec PyProof.Rows L2

/-! ### syntax -/
def noStar : PySem.Expr → Bool
  | .Starred _ _ => false
  | _ => true
theorem star_cons {e : PySem.Expr} {es : List PySem.Expr} {env : Env} (h : noStar e = true) : starEach (e :: es) env = (false, eval e env) :: starEach es env := by
  cases e <;> first | rfl | cases h
theorem star_all {pos : Pos} {env : Env} : ∀ {es : List PySem.Expr}, es.all noStar = true → (backTo pos (starEach es env)).any (·.1) = false
  | [], _ => rfl
  | e :: es, h => by
    simp only [List.all_cons, Bool.and_eq_true] at h
    rw [star_cons h.1]
    show (false || (backTo pos (starEach es env)).any (·.1)) = false
    rw [star_all h.2]; rfl
theorem star_allN {pos : Pos} {env : Env} : ∀ {es : List PySem.Expr}, es.all noStar = true → (backTo pos (starEach es env)).all (fun x => !x.1) = true
  | [], _ => rfl
  | e :: es, h => by
    simp only [List.all_cons, Bool.and_eq_true] at h
    rw [star_cons h.1]
    show (true && (backTo pos (starEach es env)).all (fun x => !x.1)) = true
    rw [star_allN h.2]; rfl
def isSlice : PySem.Expr → Bool
  | .Slice _ _ _ _ => true
  | _ => false
theorem plainIx_of {b : PySem.Expr} (h : isSlice b = false) : PlainIx b := fun o i => by
  cases b <;> first | rfl | cases h
theorem asg_sub {o i : PySem.Expr} {pos : Pos} {env : Env} (h : isSlice i = false) : ∀ v, assign (.Subscript o i pos) env v = (do
      let ov ← holding [v] (eval o env)
      let iv ← holding [v, ov] (eval i env)
      standAt pos
      holding [v, ov, iv] (setItem ov iv v)
      release [v, ov, iv] []) := fun v => by
  cases i <;> first | rfl | cases h
def isComp : PySem.Expr → Bool
  | .ListComp _ _ _ _ => true
  | .SetComp _ _ _ _ => true
  | .DictComp _ _ _ _ _ => true
  | _ => false
theorem swap_of {v : PySem.Expr} {t : Option PySem.Expr} {l : Nat} {env : Env} (h : isComp v = false) : swapsWith v t l env = pure false := by
  cases v <;> first | rfl | cases h
def isSetE : PySem.Expr → Bool
  | .Set _ _ _ => true
  | _ => false
theorem folded_of {e : PySem.Expr} {env : Env} (h : isSetE e = false) : ∀ x, foldedSetIterable e env x = pure x := fun x => by
  cases e <;> first | rfl | cases h
theorem marks_of {op : CmpOp} {b : PySem.Expr} (h : isSetE b = false) : behindInMarks op b = false := by
  cases b <;> first | rfl | cases h
/-- an expression whose truth is asked of its value -/
def plainT : PySem.Expr → Bool
  | .UnaryOp .Not _ _ => false
  | .BoolOp _ _ _ => false
  | .IfExp _ _ _ _ => false
  | .Compare _ _ _ _ => false
  | _ => true
theorem plainT_ok {e : PySem.Expr} {env : Env} (h : plainT e = true) : ∀ whole, isTrue e env whole = (do let v ← whole; standAt e.pos; holding [v] (truthy v)) := fun w => by
  cases e with
  | UnaryOp op a p => cases op <;> first | rfl | cases h
  | BoolOp op a p => cases h
  | IfExp a b c d => cases h
  | Compare a b c d => cases h
  | _ => rfl
/-! ### the datum -/
inductive Bi where
  | len | int | list | newList | tuple | all | any | sum | isinst | abs | str | sorted | listS | newListS
  deriving DecidableEq
inductive Bm where
  | append | extend | pop
  deriving DecidableEq
/-- methods of texts -/
inductive Sm where
  | join | split | partition | starts
  deriving DecidableEq
mutual
inductive Tg where
  | nm (i : Nat)
  | tup (ts : List Nat)
  | tupN (ts : Tgs)
  | seq (ts : Tgs)
inductive Tgs where
  | nil | cons (t : Tg) (r : Tgs)
end
mutual
inductive E where
  | var (i : Nat) | int (i : Int) | str (s : Str) | bl (b : Bool) | non | gl (x : Str)
  | bin (op : Operator) (a b : E) | cmp (op : CmpOp) (a b : E) | chain (o1 o2 : CmpOp) (a b c : E)
  | and_ (a b : E) | or_ (a b : E) | not_ (a : E) | ite (c a b : E) | neg (a : E) | inv (a : E)
  | tup (es : Es) | lst (es : Es) | newL (es : Es) | idx (a b : E) | attr (a : E) (f : Str)
  | call (i : Nat) (es ks : Es) | mk (i : Nat) (fz : Bool) (es ks : Es) | mth (i : Nat) (o : E) (es : Es)
  | ownB (i : Nat) (op : Operator) (a b : E) | ownC (i : Nat) (op : CmpOp) (a b : E)
  | bi (b : Bi) (es : Es) | bm (b : Bm) (o : E) (es : Es)
  | lc (elt : E) (g : Tg) (it : It1) (cond : Es) (own : List (Str × Nat))
  | slice (a : E) (lo hi : Es) | sm (b : Sm) (o : E) (es : Es)
  | ownI (i : Nat) (op : Operator) (a b : E) | iOwn (i : Nat) (op : Operator) (a b : E) | ownU (i : Nat) (op : UnaryOp) (a : E) | absO (i : Nat) (es : Es)
  | lc2 (elt : E) (g : Tg) (it : It1) (c : Es) (g1 : Tg) (it1 : It1) (c1 : Es) (own : List (Str × Nat)) (vs1 : List Nat)
  | dc2 (kx vx : E) (g : Tg) (it : It1) (c : Es) (g1 : Tg) (it1 : It1) (c1 : Es) (own : List (Str × Nat)) (vs1 : List Nat)
inductive Es where
  | nil | cons (e : E) (r : Es)
inductive It1 where
  | seq (e : E) | range (es : Es) | zip (es : Es) | enum (es : Es) | txt (e : E)
end
inductive S where
  | expr (e : E) | ret (e : E) | retN | if_ (c : E) (a b : List S) | pass | brk | cont | never
  | asg (g : Tg) (e : E) | par (i j : Nat) (es : Es) | par3 (i j l : Nat) (es : Es) | sub (o i v : E) | fld (o : E) (f : Str) (v : E)
  | for_ (g : Tg) (it : It1) (b : List S) | while_ (n : Nat) (c : E) (b : List S)
  | frz (i : Nat) | augO (i k : Nat) (op : Operator) (e : E) | augI (i : Nat) (op : Operator) (e : E)
/-! ### tables -/
structure Ent where
  name : Str
  n : Nat
  kn : List Str
structure MkE where
  name : Str
  c : Nat
  n : Nat
  kn : List Str
structure MtE where
  c : Nat
  m : Str
  n : Nat
structure Tab where
  fns : List Ent
  mks : List MkE
  mts : List MtE
  ops : List (Nat × Str)
  gls : List (Str × D)
  fld : Nat → Str → Bool
  isi : TK → TK → Option Bool
  own : Nat → Bool
  mix : List (Nat × Operator)
  rfl : List (Nat × Operator)
/-- what the defs do -/
structure Sems where
  fn : Nat → Sem1
  mkr : Nat → Sem1
  mt : Nat → Sem1
  op : Nat → Sem1
/-! ### the evaluator -/
def evBi (T : Tab) : Bi → OpN
  | .len => lenD | .int => intD | .list => listD | .newList => newListD | .tuple => tupleD | .all => allD | .any => anyD | .sum => sumD | .isinst => isiD T.isi T.own
  | .abs => absD | .str => strD | .sorted => sortedD | .listS => listSD | .newListS => newListSD
def evBm : Bm → OpM1
  | .append => appendD | .extend => extendD | .pop => popD
def evSm : Sm → OpM1
  | .join => joinD | .split => splitD | .partition => partitionD | .starts => startsD
def tgsLen : Tgs → Nat
  | .nil => 0
  | .cons _ r => tgsLen r + 1
mutual
def tgOf : Tg → Tgt
  | .nm i => gNm i
  | .tup ts => gTupD ts.length (ts.foldr (fun i r => gsCons (gNm i) r) gsNil)
  | .tupN ts => gTupD (tgsLen ts) (tgsOf ts)
  | .seq ts => gSeqD (tgsLen ts) (tgsOf ts)
def tgsOf : Tgs → List D → Rho → Option Rho
  | .nil => gsNil
  | .cons t r => gsCons (tgOf t) (tgsOf r)
end
mutual
def ev (T : Tab) (G : Sems) : E → Rho → Ev D
  | .var i => mVar i
  | .int i => mC (.int i)
  | .str s => mC (.str s)
  | .bl b => mC (.bl b)
  | .non => mC .non
  | .gl x => fun _ μ => (T.gls.lookup x).map fun d => (.ok d, μ)
  | .bin op a b => mOp2 (binD op) (ev T G a) (ev T G b)
  | .cmp op a b => mOp2 (cmpD op) (ev T G a) (ev T G b)
  | .chain o1 o2 a b c => mChain (cmpD o1) (cmpD o2) (ev T G a) (ev T G b) (ev T G c)
  | .and_ a b => mAnd (ev T G a) (ev T G b)
  | .or_ a b => mOr (ev T G a) (ev T G b)
  | .not_ a => mNot (ev T G a)
  | .ite c a b => mIf (ev T G c) (ev T G a) (ev T G b)
  | .neg a => mOp1 negD (ev T G a)
  | .inv a => mOp1 invD (ev T G a)
  | .tup es => mN oTup (evs T G es)
  | .lst es => mN oLst (evs T G es)
  | .newL es => mN oNewL (evs T G es)
  | .idx a b => mOp2 ixD (ev T G a) (ev T G b)
  | .attr a f => mOp1 (attrD T.fld f) (ev T G a)
  | .call i es ks => (match T.fns[i]? with
    | some t => mArgs t.n t.kn.length (evs T G es) (evs T G ks) (G.fn i)
    | none => fun _ _ => none)
  | .mk i fz es ks => (match T.mks[i]? with
    | some t => mArgs t.n t.kn.length (evs T G es) (evs T G ks) (semMk t.c fz (G.mkr i))
    | none => fun _ _ => none)
  | .mth i o es => (match T.mts[i]? with
    | some t => mMeth t.c t.m t.n 0 (ev T G o) (evs T G es) mNil (G.mt i)
    | none => fun _ _ => none)
  | .ownB i _ a b => (match T.ops[i]? with
    | some t => mOwn t.1 (ev T G a) (ev T G b) (G.op i)
    | none => fun _ _ => none)
  | .ownC i _ a b => (match T.ops[i]? with
    | some t => mOwn t.1 (ev T G a) (ev T G b) (G.op i)
    | none => fun _ _ => none)
  | .bi b es => mN (evBi T b) (evs T G es)
  | .bm b o es => mBM "list" (evBm b) (ev T G o) (evs T G es)
  | .lc elt g it c own => mLc (evI T G it) (tgOf g) (evC T G c) (ev T G elt) (own.map (·.2))
  | .slice a lo hi => mSlice (ev T G a) (evO T G lo) (evO T G hi)
  | .sm b o es => mBM "str" (evSm b) (ev T G o) (evs T G es)
  | .ownI i _ a b => (match T.ops[i]? with
    | some t => mOwnI t.1 (ev T G a) (ev T G b) (G.op i)
    | none => fun _ _ => none)
  | .iOwn i _ a b => (match T.ops[i]? with
    | some t => mIOwn t.1 (ev T G a) (ev T G b) (G.op i)
    | none => fun _ _ => none)
  | .ownU i _ a => (match T.mts[i]? with
    | some t => mOwnU t.c (ev T G a) (G.mt i)
    | none => fun _ _ => none)
  | .absO i es => (match T.mts[i]? with
    | some t => mAbsO t.c (evs T G es) (G.mt i)
    | none => fun _ _ => none)
  | .lc2 elt g it c g1 it1 c1 own vs1 => mLc2 (evI T G it) (tgOf g) (evC T G c) (evI T G it1) (tgOf g1) (evC T G c1) (ev T G elt) (own.map (·.2)) vs1
  | .dc2 kx vx g it c g1 it1 c1 own vs1 => mDc2 (evI T G it) (tgOf g) (evC T G c) (evI T G it1) (tgOf g1) (evC T G c1) (ev T G kx) (ev T G vx) (own.map (·.2)) vs1
def evs (T : Tab) (G : Sems) : Es → Rho → Ev (List D)
  | .nil => mNil
  | .cons e r => mCons (ev T G e) (evs T G r)
/-- a bound of a slice: none or one -/
def evO (T : Tab) (G : Sems) : Es → Option (Rho → Ev D)
  | .nil => none
  | .cons e _ => some (ev T G e)
/-- the tests of a comprehension: none or one -/
def evC (T : Tab) (G : Sems) : Es → Rho → Ev Bool
  | .nil => mYes
  | .cons e .nil => mTru (ev T G e)
  | _ => fun _ _ => none
def evI (T : Tab) (G : Sems) : It1 → Rho → Ev (List D)
  | .seq e => mSeq (ev T G e)
  | .range es => mRange (evs T G es)
  | .zip es => mZip (evs T G es)
  | .enum es => mEnum (evs T G es)
  | .txt e => mSeqS (ev T G e)
end
mutual
def xv (T : Tab) (G : Sems) : S → Ex
  | .expr e => xExpr (ev T G e)
  | .ret e => xRet (ev T G e)
  | .retN => fun _ μ => some (.rt .non, μ)
  | .if_ c a b => xIf (mTru (ev T G c)) (xvs T G a) (xvs T G b)
  | .pass => xNil
  | .brk => fun ρ μ => some (.bk ρ, μ)
  | .cont => fun ρ μ => some (.ct ρ, μ)
  | .never => fun _ _ => none
  | .asg g e => xAsg (ev T G e) (tgOf g)
  | .par i j es => xPar i j (evs T G es)
  | .par3 i j l es => xPar3 i j l (evs T G es)
  | .sub o i v => xSub (ev T G v) (ev T G o) (ev T G i)
  | .fld o f v => xFld T.fld f (ev T G v) (ev T G o)
  | .for_ g it b => xFor (evI T G it) (tgOf g) (xvs T G b)
  | .while_ n c b => whileN (mTru (ev T G c)) (xvs T G b) n
  | .frz _ => fun _ _ => none
  | .augO i k _ e => (match T.ops[k]? with
    | some t => xAugO i t.1 (ev T G e) (G.op k)
    | none => fun _ _ => none)
  | .augI i op e => xAugI i op (ev T G e)
def xvs (T : Tab) (G : Sems) : List S → Ex
  | [] => xNil
  | .frz i :: r => xFrz i (xvs T G r)
  | s :: r => xSeq (xv T G s) (xvs T G r)
end
/-! ### the checker -/
/-- where one stands: the slots, the names of the scope, the names that may be stored -/
structure Cc where
  N : List Str
  sc : Scope
  st : Str → Bool
def visB (C : Cc) (x : Str) : Bool := match C.sc.names.lookup x with
  | some .local => true
  | some .cell => true
  | some .free => true
  | _ => false
def glB (C : Cc) (x : Str) : Bool := match C.sc.names.lookup x with
  | some .globalImplicit => true
  | _ => false
def okName (x : Str) : Bool := !(x == ("__debug__" : Str)) && !(x == ("__classdict__" : Str)) && !(x == ("__name__" : Str))
def biName : Bi → Str
  | .len => "len" | .int => "int" | .list => "list" | .newList => "list" | .tuple => "tuple" | .all => "all" | .any => "any" | .sum => "sum" | .isinst => "isinstance"
  | .abs => "abs" | .str => "str" | .sorted => "sorted" | .listS => "list" | .newListS => "list"
def smName : Sm → Str
  | .join => "join" | .split => "split" | .partition => "partition" | .starts => "startswith"
def bmName : Bm → Str
  | .append => "append" | .extend => "extend" | .pop => "pop"
def storeB (C : Cc) (x : Str) (i : Nat) : Bool := decide (C.N[i]? = some x) && C.st x && (match C.sc.names.lookup x with
  | some .local => true
  | some .cell => true
  | _ => false)
mutual
def chkTg (C : Cc) : Tg → PySem.Expr → Bool
  | .nm i, .Name x _ => storeB C x i
  | .tup ts, .Tuple es _ _ => decide (ts.length = es.length) && ((ts.zip es).all fun p => match p.2 with
    | .Name x _ => storeB C x p.1
    | _ => false)
  | .tupN ts, .Tuple es _ _ => chkTgs C ts es
  | .seq ts, .Tuple es _ _ => chkTgs C ts es
  | _, _ => false
def chkTgs (C : Cc) : Tgs → List PySem.Expr → Bool
  | .nil, [] => true
  | .cons t r, e :: es => chkTg C t e && chkTgs C r es
  | _, _ => false
end
/-- the context of a comprehension's block -/
def inComp (C : Cc) (scope : Scope) : Cc := { N := C.N, sc := relS scope C.sc, st := fun x => match scope.names.lookup x with
  | some .local => true
  | some .cell => true
  | _ => false }

mutual
def chkTgV : Tg → List Nat → Bool
  | .nm i, vs => decide (i ∈ vs)
  | .tup ts, vs => ts.all fun i => decide (i ∈ vs)
  | .tupN ts, vs => chkTgsV ts vs
  | .seq ts, vs => chkTgsV ts vs
def chkTgsV : Tgs → List Nat → Bool
  | .nil, _ => true
  | .cons t r, vs => chkTgV t vs && chkTgsV r vs
end
mutual
def chk (T : Tab) (C : Cc) (t : Bool) : E → PySem.Expr → Bool
  | .var i, .Name x _ => decide (C.N[i]? = some x) && visB C x && okName x
  | .int i, .Constant (.int j) _ _ => decide (i = j)
  | .str i, .Constant (.str j) _ _ => decide (i = j)
  | .bl i, .Constant (.bool j) _ _ => i == j
  | .non, .Constant .none _ _ => true
  | .gl x, .Name y _ => decide (x = y) && glB C y && okName y
  | .bin op a b, .BinOp x op' y _ => decide (op = op') && chk T C false a x && chk T C false b y
  | .cmp op a b, .Compare x [op'] [y] _ => decide (op = op') && chk T C false a x && chk T C false b y && !isSetE y
  | .chain o1 o2 a b c, .Compare x [p1, p2] [y, z] _ => decide (o1 = p1) && decide (o2 = p2) && chk T C false a x && chk T C false b y && chk T C false c z && !isSetE y && !isSetE z
  | .and_ a (.and_ b c), .BoolOp .And (x :: y :: z :: r) p => chk T C t a x && chk T C t (.and_ b c) (.BoolOp .And (y :: z :: r) p)
  | .and_ a b, .BoolOp .And [x, y] _ => chk T C t a x && chk T C t b y
  | .or_ a (.or_ b c), .BoolOp .Or (x :: y :: z :: r) p => chk T C t a x && chk T C t (.or_ b c) (.BoolOp .Or (y :: z :: r) p)
  | .or_ a b, .BoolOp .Or [x, y] _ => chk T C t a x && chk T C t b y
  | .not_ a, .UnaryOp .Not x _ => chk T C t a x
  | .ite c a b, .IfExp z x y _ => !t && chk T C true c z && chk T C false a x && chk T C false b y
  | .neg a, .UnaryOp .USub x _ => chk T C false a x
  | .inv a, .UnaryOp .Invert x _ => chk T C false a x
  | .tup es, .Tuple xs _ _ => chks T C es xs
  | .lst es, .List xs _ => chks T C es xs
  | .newL es, .List xs _ => chks T C es xs
  | .idx a b, .Subscript x y _ => chk T C false a x && chk T C false b y && !isSlice y
  | .attr a f, .Attribute x g _ => decide (f = g) && chk T C false a x && plainO x
  | .call i es ks, .Call (.Name x _) xs kws _ => (match T.fns[i]? with
    | some t => decide (t.name = x) && glB C x && okName x && chks T C es xs && chkK T C ks kws t.kn && (!xs.isEmpty || kws.isEmpty)
    | none => false)
  | .mk i _ es ks, .Call (.Name x _) xs kws _ => (match T.mks[i]? with
    | some t => decide (t.name = x) && glB C x && okName x && chks T C es xs && chkK T C ks kws t.kn && (!xs.isEmpty || decide (t.n = 0))
    | none => false)
  | .mth i o es, .Call (.Attribute x m apos) xs [] pos => (match T.mts[i]? with
    | some t => decide (t.m = m) && chk T C false o x && chks T C es xs && plainO x && (apos.endLine == pos.line) && decide (xs.length < 30) && (!xs.isEmpty || decide (t.n = 0))
    | none => false)
  | .ownB i op a b, .BinOp x op' y _ => decide (op = op') && decide ((T.ops[i]?).map (·.2) = some (PySem.dunder op.info.2)) && chk T C false a x && chk T C false b y
  | .ownC i op a b, .Compare x [op'] [y] _ => !t && decide (op = op') && decide ((T.ops[i]?).map (·.2) = some (cmpInfo op).2.1) && chk T C false a x && chk T C false b y && (isOrd op || decide (op = .Eq))
  | .bi b es, .Call (.Name x _) xs [] _ => decide (biName b = x) && glB C x && okName x && chks T C es xs && !xs.isEmpty
  | .bm b o es, .Call (.Attribute x m apos) xs [] pos => decide (bmName b = m) && chk T C false o x && chks T C es xs && plainO x && (apos.endLine == pos.line) && decide (xs.length < 30)
  | .lc elt g it c own, .ListComp x [⟨tg, iter, ifs, 0⟩] scope _ => chkI T C it iter tg && blkC C.N C.sc scope own && chkTg (inComp C scope) g tg && chkTgV g (own.map (·.2)) && chk T (inComp C scope) false elt x && chkC T (inComp C scope) c ifs && !isSetE iter
  | .slice a lo hi, .Subscript x (.Slice l h none _) _ => chk T C false a x && chkO T C lo l && chkO T C hi h
  | .sm b o es, .Call (.Attribute x m apos) xs [] pos => decide (smName b = m) && chk T C false o x && chks T C es xs && plainO x && (apos.endLine == pos.line) && decide (xs.length < 30)
  | .ownI i op a b, .BinOp x op' y _ => decide (op = op') && (match T.ops[i]? with
    | some t => decide (t.2 = PySem.dunder op.info.2) && decide ((t.1, op) ∈ T.mix)
    | none => false) && chk T C false a x && chk T C false b y
  | .iOwn i op a b, .BinOp x op' y _ => decide (op = op') && (match T.ops[i]? with
    | some t => decide (t.2 = dunderR op.info.2) && decide ((t.1, op) ∈ T.rfl)
    | none => false) && chk T C false a x && chk T C false b y
  | .ownU i op a, .UnaryOp op' x _ => decide (op = op') && decide (op ≠ .Not) && (match T.mts[i]? with
    | some t => decide (t.m = unName op) && decide (t.n = 0)
    | none => false) && chk T C false a x
  | .absO i es, .Call (.Name x _) xs [] _ => decide (x = ("abs" : Str)) && glB C x && (match T.mts[i]? with
    | some t => decide (t.m = ("__abs__" : Str)) && decide (t.n = 0)
    | none => false) && chks T C es xs && !xs.isEmpty
  | .lc2 elt g it c g1 it1 c1 own vs1, .ListComp x [⟨tg, iter, ifs, 0⟩, ⟨tg1, iter1, ifs1, 0⟩] scope _ => chkI T C it iter tg && blkC C.N C.sc scope own && chkTg (inComp C scope) g tg && chkTgV g (own.map (·.2)) && chkC T (inComp C scope) c ifs && !isSetE iter &&
      (vs1.all fun i => decide (i ∈ own.map (·.2))) && chkI T (inComp C scope) it1 iter1 tg1 && chkTg (inComp C scope) g1 tg1 && chkTgV g1 vs1 && chkC T (inComp C scope) c1 ifs1 && !isSetE iter1 && chk T (inComp C scope) false elt x
  | .dc2 kx vx g it c g1 it1 c1 own vs1, .DictComp x x2 [⟨tg, iter, ifs, 0⟩, ⟨tg1, iter1, ifs1, 0⟩] scope _ => chkI T C it iter tg && blkC C.N C.sc scope own && chkTg (inComp C scope) g tg && chkTgV g (own.map (·.2)) && chkC T (inComp C scope) c ifs && !isSetE iter &&
      (vs1.all fun i => decide (i ∈ own.map (·.2))) && chkI T (inComp C scope) it1 iter1 tg1 && chkTg (inComp C scope) g1 tg1 && chkTgV g1 vs1 && chkC T (inComp C scope) c1 ifs1 && !isSetE iter1 && chk T (inComp C scope) false kx x && chk T (inComp C scope) false vx x2
  | _, _ => false
def chks (T : Tab) (C : Cc) : Es → List PySem.Expr → Bool
  | .nil, [] => true
  | .cons e r, x :: xs => chk T C false e x && noStar x && chks T C r xs
  | _, _ => false
def chkO (T : Tab) (C : Cc) : Es → Option PySem.Expr → Bool
  | .nil, none => true
  | .cons e .nil, some x => chk T C false e x
  | _, _ => false
def chkK (T : Tab) (C : Cc) : Es → List Keyword → List Str → Bool
  | .nil, [], [] => true
  | .cons e r, ⟨some nm, x, _⟩ :: xs, k :: ks => decide (nm = k) && chk T C false e x && chkK T C r xs ks
  | _, _, _ => false
def chkC (T : Tab) (C : Cc) : Es → List PySem.Expr → Bool
  | .nil, [] => true
  | .cons e .nil, [x] => chk T C true e x
  | _, _ => false
def chkI (T : Tab) (C : Cc) : It1 → PySem.Expr → PySem.Expr → Bool
  | .seq e, x, _ => chk T C false e x
  | .range es, .Call (.Name x _) xs [] _, _ => decide (x = ("range" : Str)) && glB C x && chks T C es xs && (decide (xs.length = 1) || decide (xs.length = 2))
  | .zip es, .Call (.Name x _) xs [] _, .Tuple _ _ _ => decide (x = ("zip" : Str)) && glB C x && chks T C es xs && decide (xs.length = 2)
  | .enum es, .Call (.Name x _) xs [] _, .Tuple _ _ _ => decide (x = ("enumerate" : Str)) && glB C x && chks T C es xs && decide (xs.length = 1)
  | .txt e, x, _ => chk T C false e x
  | _, _, _ => false
end
/-- an assignment of one target: what the target and the value must be beyond -/
def asgOk (C : Cc) (g : Tg) (t x : PySem.Expr) : Bool := match x with
  | .ListComp _ _ scope pos => (match g, t with
    | .nm _, .Name y py => decide (C.sc.names.lookup y = some .local) && (py.line == pos.line) && !(scope.names.any fun (n, k) => n == y && (k == .local || k == .cell))
    | _, _ => false)
  | .DictComp _ _ _ scope pos => (match g, t with
    | .nm _, .Name y py => decide (C.sc.names.lookup y = some .local) && (py.line == pos.line) && !(scope.names.any fun (n, k) => n == y && (k == .local || k == .cell))
    | _, _ => false)
  | .Tuple _ _ _ => (match g with
    | .nm _ => true
    | _ => false)
  | _ => !isComp x
def parOk (C : Cc) (i j : Nat) : PySem.Expr → PySem.Expr → Bool
  | .Tuple [.Name x px, .Name y py] _ _, .Tuple [a, b] _ _ => decide (C.N[i]? = some x) && decide (C.N[j]? = some y) && decide (i ≠ j) && decide (C.sc.names.lookup x = some .local) && decide (C.sc.names.lookup y = some .local) &&
      (px.line == py.line) && !(foldedForSure 8 a && foldedForSure 8 b) && !(constantsAlone 8 a && constantsAlone 8 b)
  | _, _ => false
def par3Ok (C : Cc) (i j l : Nat) : PySem.Expr → PySem.Expr → Bool
  | .Tuple [.Name x px, .Name y py, .Name z pz] _ _, .Tuple [a, b, c] _ _ => decide (C.N[i]? = some x) && decide (C.N[j]? = some y) && decide (C.N[l]? = some z) && decide (i ≠ j) && decide (i ≠ l) && decide (j ≠ l) && decide (C.sc.names.lookup x = some .local) && decide (C.sc.names.lookup y = some .local) && decide (C.sc.names.lookup z = some .local) &&
      (px.line == py.line) && (px.line == pz.line) && !(foldedForSure 8 a && foldedForSure 8 b && foldedForSure 8 c) && !(constantsAlone 8 a && constantsAlone 8 b && constantsAlone 8 c)
  | _, _ => false
theorem par3Ok_inv {C : Cc} {i j l : Nat} {t v : PySem.Expr} (h : par3Ok C i j l t v = true) : ∃ x px y py z pz kk p a b c k2 p2, t = .Tuple [.Name x px, .Name y py, .Name z pz] kk p ∧ v = .Tuple [a, b, c] k2 p2 ∧ C.N[i]? = some x ∧ C.N[j]? = some y ∧ C.N[l]? = some z ∧ i ≠ j ∧ i ≠ l ∧ j ≠ l ∧ C.sc.names.lookup x = some .local ∧ C.sc.names.lookup y = some .local ∧ C.sc.names.lookup z = some .local ∧
    (px.line == py.line) = true ∧ (px.line == pz.line) = true ∧ (foldedForSure 8 a && foldedForSure 8 b && foldedForSure 8 c) = false ∧ (constantsAlone 8 a && constantsAlone 8 b && constantsAlone 8 c) = false := by
  unfold par3Ok at h
  split at h
  · simp only [Bool.and_eq_true, Bool.not_eq_true', decide_eq_true_eq] at h
    obtain ⟨⟨⟨⟨⟨⟨⟨⟨⟨⟨⟨⟨h1, h2⟩, h3⟩, h4⟩, h5⟩, h6⟩, h7⟩, h8⟩, h9⟩, h10⟩, h11⟩, h12⟩, h13⟩ := h
    exact ⟨_, _, _, _, _, _, _, _, _, _, _, _, _, rfl, rfl, h1, h2, h3, h4, h5, h6, h7, h8, h9, h10, h11, h12, h13⟩
  · cases h
theorem parOk_inv {C : Cc} {i j : Nat} {t v : PySem.Expr} (h : parOk C i j t v = true) : ∃ x px y py kk p a b k2 p2, t = .Tuple [.Name x px, .Name y py] kk p ∧ v = .Tuple [a, b] k2 p2 ∧ C.N[i]? = some x ∧ C.N[j]? = some y ∧ i ≠ j ∧ C.sc.names.lookup x = some .local ∧ C.sc.names.lookup y = some .local ∧
    (px.line == py.line) = true ∧ (foldedForSure 8 a && foldedForSure 8 b) = false ∧ (constantsAlone 8 a && constantsAlone 8 b) = false := by
  unfold parOk at h
  split at h
  · simp only [Bool.and_eq_true, Bool.not_eq_true', decide_eq_true_eq] at h
    obtain ⟨⟨⟨⟨⟨⟨⟨h2, h3⟩, h4⟩, h5⟩, h6⟩, h7⟩, h8⟩, h9⟩ := h
    exact ⟨_, _, _, _, _, _, _, _, _, _, rfl, rfl, h2, h3, h4, h5, h6, h7, h8, h9⟩
  · cases h
mutual
def chkS (T : Tab) (C : Cc) : S → Stmt → Bool
  | .expr e, .Expr x _ => chk T C false e x && !isComp x
  | .ret e, .Return (some x) _ => chk T C false e x
  | .retN, .Return none _ => true
  | .if_ c a b, .If z x y _ => chk T C true c z && chkSs T C a x && chkSs T C b y
  | .pass, .Pass _ => true
  | .pass, .Expr (.Constant (.str _) _ _) _ => true
  | .brk, .Break _ => true
  | .cont, .Continue _ => true
  | .never, _ => true
  | .asg g e, .Assign [t] x _ => chkTg C g t && chk T C false e x && asgOk C g t x
  | .par i j es, .Assign [t] x _ => parOk C i j t x && (match x with
    | .Tuple xs _ _ => chks T C es xs
    | _ => false)
  | .par3 i j l es, .Assign [t] x _ => par3Ok C i j l t x && (match x with
    | .Tuple xs _ _ => chks T C es xs
    | _ => false)
  | .sub o i v, .Assign [t] z _ => chk T C false v z && !isComp z && (match t with
    | .Subscript x y _ => chk T C false o x && chk T C false i y && !isSlice y
    | _ => false)
  | .fld o f v, .Assign [t] z _ => chk T C false v z && !isComp z && (match t with
    | .Attribute x g _ => chk T C false o x && decide (f = g)
    | _ => false)
  | .for_ g it b, .For tg iter body [] _ => chkI T C it iter tg && chkTg C g tg && chkSs T C b body && !isSetE iter
  | .while_ _ c b, .While x body [] _ => chk T C true c x && chkSs T C b body
  | .augO i k op e, .AugAssign t op' x _ => decide (op = op') && chk T C false e x && decide ((T.ops[k]?).map (·.2) = some (PySem.dunderI op.info.2)) && (match t with
    | .Name y _ => storeB C y i
    | _ => false)
  | .augI i op e, .AugAssign t op' x _ => decide (op = op') && chk T C false e x && (match t with
    | .Name y _ => storeB C y i
    | _ => false)
  | _, _ => false
def chkSs (T : Tab) (C : Cc) : List S → List Stmt → Bool
  | .frz _ :: r, xs => chkSs T C r xs
  | [], [] => true
  | s :: r, x :: xs => chkS T C s x && chkSs T C r xs
  | _, _ => false
end
end DL
/-! DL16: the evaluator tells what the machine does (expressions). -/
namespace DL
open PySem PySem.Spec PyProof.Rows L2
def biAll : List Str := ["len", "int", "list", "tuple", "all", "any", "sum", "isinstance", "range", "zip", "abs", "str", "sorted", "enumerate"]
structure TOk (R : Rc) (T : Tab) (G : Sems) (P : Program) (w : World) (mg : Str → Option Value) (base : Heap) (k : Nat) : Prop where
  fn : ∀ i t, T.fns[i]? = some t → ∃ f, mg t.name = some (.ref f) ∧ PySem.W.keepIn R.K (.ref f) = true ∧ ∀ Pp, FnD P w R.K mg base (R.wP Pp) k f t.n t.kn (G.fn i)
  mkk : ∀ i t, T.mks[i]? = some t → ∃ f j, mg t.name = some (.ref (R.cA t.c)) ∧ Mk R.K (R.cA t.c) f ∧ j + 1 ≤ k ∧ ∀ Pp, FnD P w R.K mg base (R.wP Pp) j f (t.n + 1) t.kn (G.mkr i)
  mt : ∀ i t, T.mts[i]? = some t → ∃ j, j + 1 ≤ k ∧ ∀ Pp, MtD P w R.K mg base (R.wP Pp) j t.c t.m t.n [] (G.mt i)
  op : ∀ i t, T.ops[i]? = some t → ∀ Pp, OpM P w R.K mg base (R.wP Pp) k t.1 t.2 (G.op i)
  gl : ∀ x d, T.gls.lookup x = some d → ∃ v u, RelV v u ∧ (∀ α F, Rep R α F v d) ∧ (mg x = some u ∨ (mg x = none ∧ bootBuiltins x = some u))
  fld : FldOk R.K R T.fld
  isi : IsiOk R.K R T.isi T.own
  bi : ∀ x ∈ biAll, mg x = none
  mix : ∀ c op, (c, op) ∈ T.mix → mixB R.K (R.cA c) op = true
  rfl_ : ∀ c op, (c, op) ∈ T.rfl → refB R.K (R.cA c) op = true
theorem TOk.wP {R : Rc} {T : Tab} {G : Sems} {P : Program} {w : World} {mg : Str → Option Value} {base : Heap} {k : Nat} (h : TOk R T G P w mg base k) (Pp : Hp) : TOk (R.wP Pp) T G P w mg base k :=
  ⟨h.fn, h.mkk, h.mt, h.op, fun x d e => let ⟨v, u, a, b, c⟩ := h.gl x d e; ⟨v, u, a, fun α F => (b α F).wP, c⟩, h.fld, ⟨fun t u b e => by cases t <;> cases u <;> exact h.isi.ans _ _ _ e, h.isi.own⟩, h.bi, h.mix, h.rfl_⟩
structure Gd (R : Rc) (T : Tab) (G : Sems) (k : Nat) (C : Cc) (X : Cx) (W : WX) : Prop where
  hK : X.K = R.K
  room : Room k X.A
  nd : X.N.Nodup
  hN : X.N = C.N
  hsc : X.env.scope = C.sc
  kind : C.sc.kind = .function
  calm : X.calm = true
  tk : Takes X W
  pass : PassesOwn (model X.prog X.w) X.A X.env X.xe
  st : ∀ x, C.st x = true → X.fn x = true ∨ X.env.scope.names.lookup x = some .local
  tab : TOk R T G X.prog X.w X.mg X.base k
section
variable {R : Rc} {T : Tab} {G : Sems} {k : Nat} {C : Cc} {X : Cx} {W : WX}
theorem Gd.wP (g : Gd R T G k C X W) (Pp : Hp) : Gd (R.wP Pp) T G k C X W := ⟨g.hK, g.room, g.nd, g.hN, g.hsc, g.kind, g.calm, g.tk, g.pass, g.st, g.tab.wP Pp⟩
theorem Gd.fnD (g : Gd R T G k C X W) {i : Nat} {t : Ent} (e : T.fns[i]? = some t) : ∃ f, X.mg t.name = some (.ref f) ∧ PySem.W.keepIn X.K (.ref f) = true ∧ FnD X.prog X.w X.K X.mg X.base R k f t.n t.kn (G.fn i) := by
  obtain ⟨f, h1, h2, h3⟩ := g.tab.fn i t e
  exact ⟨f, h1, g.hK ▸ h2, by have := h3 R.P; rw [← g.hK] at this; exact this⟩
theorem Gd.mkD (g : Gd R T G k C X W) {i : Nat} {t : MkE} (e : T.mks[i]? = some t) : ∃ f j, X.mg t.name = some (.ref (R.cA t.c)) ∧ Mk X.K (R.cA t.c) f ∧ j + 1 ≤ k ∧ FnD X.prog X.w X.K X.mg X.base R j f (t.n + 1) t.kn (G.mkr i) := by
  obtain ⟨f, j, h1, h2, h3, h4⟩ := g.tab.mkk i t e
  exact ⟨f, j, h1, g.hK ▸ h2, h3, by have := h4 R.P; rw [← g.hK] at this; exact this⟩
theorem Gd.mtJ (g : Gd R T G k C X W) {i : Nat} {t : MtE} (e : T.mts[i]? = some t) : ∃ j, j + 1 ≤ k ∧ MtD X.prog X.w X.K X.mg X.base R j t.c t.m t.n [] (G.mt i) := by
  obtain ⟨j, hj, h⟩ := g.tab.mt i t e
  refine ⟨j, hj, ?_⟩
  have := h R.P
  rw [← g.hK] at this; exact this
theorem Gd.mtD (g : Gd R T G k C X W) {i : Nat} {t : MtE} (e : T.mts[i]? = some t) : MtD X.prog X.w X.K X.mg X.base R k t.c t.m t.n [] (G.mt i) := by
  obtain ⟨j, hj, h⟩ := g.mtJ e
  obtain ⟨f, h1, h2⟩ := h.ex
  exact ⟨⟨f, h1, h2.mono (by omega)⟩, h.cl⟩
theorem Gd.opD (g : Gd R T G k C X W) {i : Nat} {t : Nat × Str} (e : T.ops[i]? = some t) : OpM X.prog X.w X.K X.mg X.base R k t.1 t.2 (G.op i) := by
  have := g.tab.op i t e R.P
  rw [← g.hK] at this; exact this
theorem Gd.vis (g : Gd R T G k C X W) {x : Str} (h : visB C x = true) : Vis X.env.scope x := by
  rw [g.hsc]
  unfold visB at h
  split at h
  · exact .inl (by assumption)
  · exact .inr (.inl (by assumption))
  · exact .inr (.inr (by assumption))
  · cases h
theorem Gd.gl (g : Gd R T G k C X W) {x : Str} (h : glB C x = true) : Gl X x := by
  show X.env.scope.names.lookup x = some .globalImplicit
  rw [g.hsc]
  unfold glB at h
  split at h
  · assumption
  · cases h
theorem okName_ok {x : Str} (h : okName x = true) : (x == ("__debug__" : Str)) = false ∧ (x == ("__classdict__" : Str)) = false ∧ x ≠ "__name__" := by
  unfold okName at h
  simp only [Bool.and_eq_true, Bool.not_eq_true'] at h
  exact ⟨h.1.1, h.1.2, fun e => by
    have := h.2
    subst e
    simp at this⟩
theorem Gd.loc (g : Gd R T G k C X W) {x : Str} {i : Nat} (h : storeB C x i = true) : X.N[i]? = some x ∧ Loc X.env.scope x ∧ (X.fn x = true ∨ X.env.scope.names.lookup x = some .local) := by
  unfold storeB at h
  simp only [Bool.and_eq_true, decide_eq_true_eq] at h
  refine ⟨by rw [g.hN]; exact h.1.1, ?_, g.st x h.1.2⟩
  have h2 := h.2
  rw [g.hsc]
  split at h2
  · exact .inl (by assumption)
  · exact .inr (by assumption)
  · cases h2
/-! targets -/
theorem s_tg0 (g : Gd R T G k C X W) {vs : List Nat} {i : Nat} {x : PySem.Expr} (h : chkTg C (.nm i) x = true) (hv : chkTgV (.nm i) vs = true) : PGD R X x vs (tgOf (.nm i)) := by
  cases x with
  | Name y p =>
    obtain ⟨h1, h2, h3⟩ := g.loc (show storeB C y i = true from h)
    exact pgd_name (of_decide_eq_true hv) g.nd h1 h2 h3
  | _ => simp [chkTg] at h
theorem s_tg1 (g : Gd R T G k C X W) {vs : List Nat} {ts : List Nat} {x : PySem.Expr} (h : chkTg C (.tup ts) x = true) (hv : chkTgV (.tup ts) vs = true) : PGD R X x vs (tgOf (.tup ts)) := by
  cases x with
  | Tuple es kk p =>
    simp only [chkTg, Bool.and_eq_true, decide_eq_true_eq] at h
    obtain ⟨hl, h⟩ := h
    have all : ∀ (ts : List Nat) (es : List PySem.Expr), ts.length = es.length → ((ts.zip es).all fun p => match p.2 with
        | .Name x _ => storeB C x p.1
        | _ => false) = true → (ts.all fun i => decide (i ∈ vs)) = true → PGsD R X es vs (ts.foldr (fun i r => gsCons (gNm i) r) gsNil) ∧ (assignEach es X.env).length = es.length ∧ (assignEach es X.env).findIdx? (·.1) = none := by
      intro ts
      induction ts with
      | nil =>
        intro es hl _ _
        cases es with
        | nil => exact ⟨pgsd_nil, rfl, rfl⟩
        | cons => simp at hl
      | cons i ts ih =>
        intro es hl h hv
        cases es with
        | nil => simp at hl
        | cons e es =>
          simp only [List.zip_cons_cons, List.all_cons, Bool.and_eq_true] at h hv
          obtain ⟨i1, i2, i3⟩ := ih es (by simpa using hl) h.2 hv.2
          cases e with
          | Name y p =>
            obtain ⟨h1, h2, h3⟩ := g.loc (show storeB C y i = true from h.1)
            refine ⟨pgsd_cons (pgd_name (of_decide_eq_true hv.1) g.nd h1 h2 h3) i1 rfl, ?_, ?_⟩
            · show (assignEach es X.env).length + 1 = es.length + 1
              rw [i2]
            · show ((false, _) :: assignEach es X.env).findIdx? (·.1) = none
              rw [List.findIdx?_cons, i3]
              rfl
          | _ => simp at h
    obtain ⟨a1, a2, a3⟩ := all ts es hl h hv
    refine pgd_tup g.hK g.calm a1 (by rw [a2, hl]) a3
  | _ => simp [chkTg] at h
theorem nostar_tg {t : Tg} {e : PySem.Expr} (h : chkTg C t e = true) : noStar e = true := by
  cases e <;> first | rfl | (cases t <;> simp [chkTg] at h)
mutual
theorem s_tg (g : Gd R T G k C X W) {vs : List Nat} : ∀ {t : Tg} {x : PySem.Expr}, chkTg C t x = true → chkTgV t vs = true → PGD R X x vs (tgOf t)
  | .nm i, x, h, hv => s_tg0 g h hv
  | .tup ts, x, h, hv => s_tg1 g h hv
  | .tupN ts, x, h, hv => by
    cases x with
    | Tuple es kk p =>
      obtain ⟨a1, a2, a3⟩ := s_tgs g (ts := ts) (es := es) h hv
      exact pgd_tup g.hK g.calm a1 a2 a3
    | _ => simp [chkTg] at h
  | .seq ts, x, h, hv => by
    cases x with
    | Tuple es kk p =>
      obtain ⟨a1, a2, a3⟩ := s_tgs g (ts := ts) (es := es) h hv
      exact pgd_lst g.hK g.calm a1 a2 a3
    | _ => simp [chkTg] at h
theorem s_tgs (g : Gd R T G k C X W) {vs : List Nat} : ∀ {ts : Tgs} {es : List PySem.Expr}, chkTgs C ts es = true → chkTgsV ts vs = true → PGsD R X es vs (tgsOf ts) ∧ (assignEach es X.env).length = tgsLen ts ∧ (assignEach es X.env).findIdx? (·.1) = none
  | .nil, [], h, hv => ⟨pgsd_nil, rfl, rfl⟩
  | .nil, _ :: _, h, hv => by simp [chkTgs] at h
  | .cons t r, [], h, hv => by simp [chkTgs] at h
  | .cons t r, e :: es, h, hv => by
    simp only [chkTgs, Bool.and_eq_true] at h
    simp only [chkTgsV, Bool.and_eq_true] at hv
    have h1 := s_tg g h.1 hv.1
    obtain ⟨i1, i2, i3⟩ := s_tgs g h.2 hv.2
    have ns := nostar_tg h.1
    refine ⟨pgsd_cons h1 i1 (by cases e <;> first | rfl | cases ns), ?_, ?_⟩
    · have : (assignEach (e :: es) X.env).length = (assignEach es X.env).length + 1 := by cases e <;> rfl
      rw [this, i2]; rfl
    · have : ∃ z, assignEach (e :: es) X.env = (false, z) :: assignEach es X.env := by cases e <;> first | exact ⟨_, rfl⟩ | cases ns
      obtain ⟨z, ez⟩ := this
      rw [ez, List.findIdx?_cons, i3]
      rfl
end
/-! keywords -/
theorem kw_ok {pos : Pos} {env : Env} : ∀ {ks : Es} {kws : List Keyword} {kn : List Str}, chkK T C ks kws kn = true → (backToKw pos (keywordEach kws env)).all (·.1.isSome) = true ∧ (backToKw pos (keywordEach kws env)).filterMap (·.1) = kn ∧ (backToKw pos (keywordEach kws env)).any (·.1.isNone) = false
  | .nil, [], [], _ => ⟨rfl, rfl, rfl⟩
  | .nil, [], _ :: _, h => by simp [chkK] at h
  | .nil, _ :: _, _, h => by simp [chkK] at h
  | .cons _ _, [], _, h => by simp [chkK] at h
  | .cons _ _, ⟨none, _, _⟩ :: _, _, h => by simp [chkK] at h
  | .cons _ _, ⟨some _, _, _⟩ :: _, [], h => by simp [chkK] at h
  | .cons e r, ⟨some nm, x, p⟩ :: kws, kk :: kn, h => by
    simp only [chkK, Bool.and_eq_true, decide_eq_true_eq] at h
    obtain ⟨⟨rfl, _⟩, h⟩ := h
    obtain ⟨h1, h2, h3⟩ := kw_ok (pos := pos) (env := env) h
    refine ⟨?_, ?_, ?_⟩
    · show (true && (backToKw pos (keywordEach kws env)).all (·.1.isSome)) = true
      rw [h1]; rfl
    · show ((some nm, _) :: backToKw pos (keywordEach kws env)).filterMap (·.1) = nm :: kn
      rw [List.filterMap_cons]
      simp only [h2]
    · show (false || (backToKw pos (keywordEach kws env)).any (·.1.isNone)) = false
      rw [h3]; rfl
theorem chks_star : ∀ {es : Es} {xs : List PySem.Expr}, chks T C es xs = true → xs.all noStar = true
  | .nil, [], _ => rfl
  | .nil, _ :: _, h => by simp [chks] at h
  | .cons _ _, [], h => by simp [chks] at h
  | .cons e r, x :: xs, h => by
    simp only [chks, Bool.and_eq_true] at h
    simp only [List.all_cons, Bool.and_eq_true]
    exact ⟨h.1.2, chks_star h.2⟩
theorem evs_len : ∀ {es : Es} {xs : List PySem.Expr}, chks T C es xs = true → ∀ ρ μ ds μ', evs T G es ρ μ = some (.ok ds, μ') → ds.length = xs.length
  | .nil, [], _, ρ, μ, ds, μ', e => by cases e; rfl
  | .nil, _ :: _, h, _, _, _, _, _ => by simp [chks] at h
  | .cons _ _, [], h, _, _, _, _, _ => by simp [chks] at h
  | .cons e r, x :: xs, h, ρ, μ, ds, μ', ee => by
    simp only [chks, Bool.and_eq_true] at h
    unfold evs at ee
    rcases Ev.bind_inv ee with ⟨a, μ1, e1, e2⟩ | ⟨_, _, z⟩
    · rcases Ev.bind_inv e2 with ⟨b, μ2, e3, e4⟩ | ⟨_, _, z⟩
      · cases e4
        rw [List.length_cons, List.length_cons, evs_len h.2 ρ μ1 b _ e3]
      · cases z
    · cases z
end
/-! ### comprehension contexts -/
theorem relS_eq {scope : Scope} {env : Env} : relabel scope env = relS scope env.scope := rfl
theorem Gd.blk {R : Rc} {T : Tab} {G : Sems} {k : Nat} {C : Cc} {X : Cx} {W : WX} (g : Gd R T G k C X W) {scope : Scope} {own : List (Str × Nat)} (ok : BlkOk X.N X.env.scope scope own) (s : Shared) (H : Hp) (Ca : Addr) (cl : List (Str × Addr)) (fp : List Addr) :
    Gd R T G k (inComp C scope) (X.blk s H scope (compEnvC scope cl Ca X.env) fp) W0 where
  hK := g.hK
  room := g.room
  nd := g.nd
  hN := g.hN
  hsc := by
    show relabel scope X.env = relS scope C.sc
    rw [relS_eq, g.hsc]
  kind := by
    show (relS scope C.sc).kind = .function
    exact ok.kind
  calm := g.calm
  tk := takes0
  pass := PassesOwn.never
  st := fun x h => by
    show (scope.names.lookup x == some .cell) = true ∨ (relabel scope X.env).names.lookup x = some .local
    simp only [inComp] at h
    split at h
    · rename_i q
      exact .inr (lookup_relabel_local q)
    · rename_i q
      left
      rw [q]; rfl
    · cases h
  tab := g.tab
end DL
/-! DL17: the evaluator tells what the machine does. -/
namespace DL
open PySem PySem.Spec PyProof.Rows L2
section
variable {T : Tab} {G : Sems} {k : Nat}
abbrev Both (R : Rc) (X : Cx) (W : WX) (t : Bool) (x : PySem.Expr) (m : Rho → Ev D) : Prop := PED R X W x m ∧ (t = true → PTD R X W x (mTru m))
theorem val_both {R : Rc} {C : Cc} {X : Cx} {W : WX} (g : Gd R T G k C X W) {t : Bool} {x : PySem.Expr} {m : Rho → Ev D} (h : PED R X W x m) (hp : plainT x = true) : Both R X W t x m := ⟨h, fun _ => ptd_val g.hK h (plainT_ok hp)⟩
theorem ped_gl {R : Rc} {C : Cc} {X : Cx} {W : WX} (g : Gd R T G k C X W) {x : Str} {p : Pos} (h : glB C x = true) (ho : okName x = true) : PED R X W (.Name x p) (ev T G (.gl x)) := by
  obtain ⟨o1, _, o3⟩ := okName_ok ho
  cases e : T.gls.lookup x with
  | none =>
    refine ⟨fun pins s σ H Q I ⟨α, F, μ, ρ, r, μ', hE, hl, hm, hp⟩ => ?_⟩
    simp only [ev, e] at hm
    cases hm
  | some d =>
    obtain ⟨v, u, r1, r2, r3⟩ := g.tab.gl x d e
    have hpe : PE X (.Name x p) (tC v) := by
      rcases r3 with r3 | ⟨r3, r4⟩
      · exact pe_glob (g.gl h) r3 r1 o1
      · exact pe_bltn (g.gl h) r3 r4 r1 o3 o1
    refine ped_of hpe fun σ H Q α F μ ρ r μ' he hl hm hp => ?_
    simp only [ev, e] at hm
    cases hm
    exact hp α F H v (Nx.refl hl) (r2 α F)
theorem bi_in (b : Bi) : biName b ∈ biAll := by cases b <;> decide +kernel
theorem ped_bi {R : Rc} {C : Cc} {X : Cx} {W : WX} (g : Gd R T G k C X W) {b : Bi} {x : Str} {p pos : Pos} {e : PySem.Expr} {es : List PySem.Expr} {m : Rho → Ev (List D)} (hb : biName b = x) (h : glB C x = true) (ho : okName x = true) (ha : PAD R X W (e :: es) m) (hs : (e :: es).all noStar = true) :
    PED R X W (.Call (.Name x p) (e :: es) [] pos) (mN (evBi T b) m) := by
  subst hb
  obtain ⟨o1, _, o3⟩ := okName_ok ho
  have hm := g.tab.bi _ (bi_in b)
  have hs' := hs
  simp only [List.all_cons, Bool.and_eq_true] at hs'
  have s1 := star_cons (es := es) (env := X.env) hs'.1
  have s2 := star_all (pos := pos) (env := X.env) hs'.2
  cases b with
  | len => exact ped_callB (call_lenDD g.hK) (g.gl h) hm (by decide +kernel) ha o3 o1 s1 s2
  | int => exact ped_callTy call_intD (g.gl h) hm (by decide +kernel) ha o3 o1 s1 s2
  | list => exact ped_callTy (call_listD g.hK) (g.gl h) hm (by decide +kernel) ha o3 o1 s1 s2
  | newList => exact ped_callTy (call_newListD g.hK) (g.gl h) hm (by decide +kernel) ha o3 o1 s1 s2
  | tuple => exact ped_callTy (call_tupleD g.hK) (g.gl h) hm (by decide +kernel) ha o3 o1 s1 s2
  | all => exact ped_callB (call_allD g.hK g.calm) (g.gl h) hm (by decide +kernel) ha o3 o1 s1 s2
  | any => exact ped_callB (call_anyD g.hK g.calm) (g.gl h) hm (by decide +kernel) ha o3 o1 s1 s2
  | sum => exact ped_callB (call_sumD g.hK g.calm) (g.gl h) hm (by decide +kernel) ha o3 o1 s1 s2
  | isinst => exact ped_callB (call_isiD g.hK g.tab.isi) (g.gl h) hm (by decide +kernel) ha o3 o1 s1 s2
  | abs => exact ped_callB call_absD (g.gl h) hm (by decide +kernel) ha o3 o1 s1 s2
  | str => exact ped_callTy call_strD (g.gl h) hm (by decide +kernel) ha o3 o1 s1 s2
  | sorted => exact ped_callB (call_sortedDD g.hK g.calm) (g.gl h) hm (by decide +kernel) ha o3 o1 s1 s2
  | listS => exact ped_callTy (call_listSD g.calm) (g.gl h) hm (by decide +kernel) ha o3 o1 s1 s2
  | newListS => exact ped_callTy (call_newListSD g.calm) (g.gl h) hm (by decide +kernel) ha o3 o1 s1 s2
theorem few_ok {pos : Pos} {env : Env} {xs : List PySem.Expr} (hs : xs.all noStar = true) (hl : xs.length < 30) :
    ((backTo pos (starEach xs env)).all (fun x => !x.1) && (backToKw pos (keywordEach [] env)).all (fun x => x.1.isSome) && decide (xs.length + ([] : List Keyword).length + (if ([] : List Keyword).isEmpty then 0 else 1) < 30)) = true := by
  rw [star_allN hs]
  show (true && true && decide (xs.length + 0 + 0 < 30)) = true
  rw [decide_eq_true (show xs.length + 0 + 0 < 30 by omega)]
  rfl
theorem form_ok {pos : Pos} {env : Env} {xs : List PySem.Expr} (hs : xs.all noStar = true) (hl : xs.length < 30) : methodCallForm (xs.length + 0) (backTo pos (starEach xs env)) (backToKw pos (keywordEach [] env)) = true := by
  unfold methodCallForm
  rw [star_allN hs]
  show (true && true && decide (xs.length + 0 + 0 < 30)) = true
  rw [decide_eq_true (show xs.length + 0 + 0 < 30 by omega)]
  rfl
theorem ped_bm1 {R : Rc} {C : Cc} {X : Cx} {W : WX} (g : Gd R T G k C X W) {b : Bm} {o : PySem.Expr} {m : Str} {apos pos : Pos} {xs : List PySem.Expr} {mo : Rho → Ev D} {ma : Rho → Ev (List D)} (hb : bmName b = m) (ho : PED R X W o mo) (ha : PAD R X W xs ma) (h0 : xs = [] → ma = mNil) (hs : xs.all noStar = true) (hp : plainO o = true) (hl : (apos.endLine == pos.line) = true) (hn : xs.length < 30) :
    PED R X W (.Call (.Attribute o m apos) xs [] pos) (mBM "list" (evBm b) mo ma) := by
  subst hb
  cases xs with
  | nil =>
    rw [h0 rfl]
    cases b with
    | append => exact ped_bm0 g.hK PySem.F.plainAttrs_list PySem.F.slot_list_append PySem.F.type_list_append mt_appendD ho hp hl
    | extend => exact ped_bm0 g.hK PySem.F.plainAttrs_list PySem.F.slot_list_extend PySem.F.type_list_extend mt_extendD ho hp hl
    | pop => exact ped_bm0 g.hK PySem.F.plainAttrs_list PySem.F.slot_list_pop PySem.F.type_list_pop mt_popD ho hp hl
  | cons e es =>
    have f := few_ok (pos := pos) (env := X.env) hs hn
    simp only [List.all_cons, Bool.and_eq_true] at hs
    have s1 := star_cons (es := es) (env := X.env) hs.1
    have s2 := star_all (pos := pos) (env := X.env) hs.2
    cases b with
    | append => exact ped_bm g.hK PySem.F.plainAttrs_list PySem.F.slot_list_append PySem.F.type_list_append mt_appendD ho ha hp f hl s1 s2
    | extend => exact ped_bm g.hK PySem.F.plainAttrs_list PySem.F.slot_list_extend PySem.F.type_list_extend mt_extendD ho ha hp f hl s1 s2
    | pop => exact ped_bm g.hK PySem.F.plainAttrs_list PySem.F.slot_list_pop PySem.F.type_list_pop mt_popD ho ha hp f hl s1 s2
theorem ped_sm1 {R : Rc} {C : Cc} {X : Cx} {W : WX} (g : Gd R T G k C X W) {b : Sm} {o : PySem.Expr} {m : Str} {apos pos : Pos} {xs : List PySem.Expr} {mo : Rho → Ev D} {ma : Rho → Ev (List D)} (hb : smName b = m) (ho : PED R X W o mo) (ha : PAD R X W xs ma) (h0 : xs = [] → ma = mNil) (hs : xs.all noStar = true) (hp : plainO o = true) (hl : (apos.endLine == pos.line) = true) (hn : xs.length < 30) :
    PED R X W (.Call (.Attribute o m apos) xs [] pos) (mBM "str" (evSm b) mo ma) := by
  subst hb
  cases xs with
  | nil =>
    rw [h0 rfl]
    cases b with
    | join => exact ped_bm0 g.hK PySem.F.plainAttrs_str PySem.F.slot_str_join PySem.F.type_str_join (mt_joinD g.hK) ho hp hl
    | split => exact ped_bm0 g.hK PySem.F.plainAttrs_str PySem.F.slot_str_split PySem.F.type_str_split (mt_splitD) ho hp hl
    | partition => exact ped_bm0 g.hK PySem.F.plainAttrs_str PySem.F.slot_str_partition PySem.F.type_str_partition (mt_partitionD) ho hp hl
    | starts => exact ped_bm0 g.hK PySem.F.plainAttrs_str PySem.F.slot_str_startswith PySem.F.type_str_startswith (mt_startsD) ho hp hl
  | cons e es =>
    have f := few_ok (pos := pos) (env := X.env) hs hn
    simp only [List.all_cons, Bool.and_eq_true] at hs
    have s1 := star_cons (es := es) (env := X.env) hs.1
    have s2 := star_all (pos := pos) (env := X.env) hs.2
    cases b with
    | join => exact ped_bm g.hK PySem.F.plainAttrs_str PySem.F.slot_str_join PySem.F.type_str_join (mt_joinD g.hK) ho ha hp f hl s1 s2
    | split => exact ped_bm g.hK PySem.F.plainAttrs_str PySem.F.slot_str_split PySem.F.type_str_split (mt_splitD) ho ha hp f hl s1 s2
    | partition => exact ped_bm g.hK PySem.F.plainAttrs_str PySem.F.slot_str_partition PySem.F.type_str_partition (mt_partitionD) ho ha hp f hl s1 s2
    | starts => exact ped_bm g.hK PySem.F.plainAttrs_str PySem.F.slot_str_startswith PySem.F.type_str_startswith (mt_startsD) ho ha hp f hl s1 s2
theorem chks_nil {C : Cc} {es : Es} (h : chks T C es [] = true) : es = .nil := by
  cases es with
  | nil => rfl
  | cons e r => simp [chks] at h
theorem chkK_nil {C : Cc} {es : Es} {kn : List Str} (h : chkK T C es [] kn = true) : es = .nil ∧ kn = [] := by
  cases es with
  | nil => cases kn with
    | nil => exact ⟨rfl, rfl⟩
    | cons => simp [chkK] at h
  | cons e r => simp [chkK] at h
theorem ped_call_all {R : Rc} {C : Cc} {X : Cx} {W : WX} (g : Gd R T G k C X W) {i : Nat} {t : Ent} {es ks : Es} {xs : List PySem.Expr} {kws : List Keyword} {p pos : Pos} (ht : T.fns[i]? = some t) (hg : glB C t.name = true) (ho : okName t.name = true) (hc : chks T C es xs = true) (hk : chkK T C ks kws t.kn = true)
    (hne : xs = [] → kws = []) (ha : PAD R X W xs (evs T G es)) (hkw : PKD R X W kws (evs T G ks)) : PED R X W (.Call (.Name t.name p) xs kws pos) (mArgs t.n t.kn.length (evs T G es) (evs T G ks) (G.fn i)) := by
  obtain ⟨f, h1, h2, F⟩ := g.fnD ht
  obtain ⟨o1, _, o3⟩ := okName_ok ho
  have hs := chks_star hc
  cases xs with
  | nil =>
    have e := hne rfl
    subst e
    obtain ⟨e1, e2⟩ := chkK_nil hk
    have e3 := chks_nil hc
    subst e1 e3
    rw [e2] at F ⊢
    show PED R X W _ (mArgs t.n 0 mNil mNil (G.fn i))
    by_cases hn : t.n = 0
    · rw [hn] at F ⊢
      exact ped_call0 F g.room g.tk (g.gl hg) h1 h2 o1
    · refine ⟨fun pins s σ H Q I ⟨α, F', μ, ρ, r, μ', hE, hl, hm, hp⟩ => ?_⟩
      simp only [mArgs, mNil, Ev.bind, List.length_nil] at hm
      rw [if_neg (by omega)] at hm
      cases hm
  | cons e es' =>
    simp only [List.all_cons, Bool.and_eq_true] at hs
    have s1 := star_cons (es := es') (env := X.env) hs.1
    have s2 := star_all (pos := pos) (env := X.env) hs.2
    cases kws with
    | nil =>
      obtain ⟨e1, e2⟩ := chkK_nil hk
      subst e1
      rw [e2] at F ⊢
      exact ped_call F g.room g.tk (g.gl hg) h1 h2 ha o1 s1 s2
    | cons kw kws' =>
      obtain ⟨k1, k2, k3⟩ := kw_ok (pos := pos) (env := X.env) hk
      refine ped_callK F g.room g.tk (g.gl hg) h1 h2 ha hkw k1 k2 o1 s1 ?_
      rw [k3, s1]
      show ((false || (backTo pos (starEach es' X.env)).any (·.1)) || false) = false
      rw [s2]; rfl
theorem ped_mk_all {R : Rc} {C : Cc} {X : Cx} {W : WX} (g : Gd R T G k C X W) {i : Nat} {fz : Bool} {t : MkE} {es ks : Es} {xs : List PySem.Expr} {kws : List Keyword} {p pos : Pos} (ht : T.mks[i]? = some t) (hg : glB C t.name = true) (ho : okName t.name = true) (hc : chks T C es xs = true) (hk : chkK T C ks kws t.kn = true)
    (hne : xs = [] → t.n = 0) (ha : PAD R X W xs (evs T G es)) (hkw : PKD R X W kws (evs T G ks)) : PED R X W (.Call (.Name t.name p) xs kws pos) (mArgs t.n t.kn.length (evs T G es) (evs T G ks) (semMk t.c fz (G.mkr i))) := by
  obtain ⟨f, j, h1, h2, hj, F⟩ := g.mkD ht
  obtain ⟨o1, _, o3⟩ := okName_ok ho
  have hs := chks_star hc
  have hr : Room (j + 1) X.A := g.room.mono hj
  cases xs with
  | nil =>
    have e3 := chks_nil hc
    subst e3
    have hn := hne rfl
    rw [hn] at F ⊢
    cases kws with
    | nil =>
      obtain ⟨e1, e2⟩ := chkK_nil hk
      subst e1
      rw [e2] at F ⊢
      exact ped_make0 rfl h2 F hr g.tk (g.gl hg) h1 o1
    | cons kw kws' =>
      obtain ⟨k1, k2, k3⟩ := kw_ok (pos := pos) (env := X.env) hk
      refine ped_makeK0 rfl h2 F hr g.tk (g.gl hg) h1 hkw k1 k2 o1 ?_
      rw [k3]; rfl
  | cons e es' =>
    simp only [List.all_cons, Bool.and_eq_true] at hs
    have s1 := star_cons (es := es') (env := X.env) hs.1
    have s2 := star_all (pos := pos) (env := X.env) hs.2
    cases kws with
    | nil =>
      obtain ⟨e1, e2⟩ := chkK_nil hk
      subst e1
      rw [e2] at F ⊢
      exact ped_make rfl h2 F hr g.tk (g.gl hg) h1 ha o1 s1 s2
    | cons kw kws' =>
      obtain ⟨k1, k2, k3⟩ := kw_ok (pos := pos) (env := X.env) hk
      refine ped_makeK rfl h2 F hr g.tk (g.gl hg) h1 ha hkw k1 k2 o1 s1 ?_
      rw [k3, s1]
      show ((false || (backTo pos (starEach es' X.env)).any (·.1)) || false) = false
      rw [s2]; rfl
theorem ped_mth_all {R : Rc} {C : Cc} {X : Cx} {W : WX} (g : Gd R T G k C X W) {i : Nat} {t : MtE} {es : Es} {o : PySem.Expr} {mo : Rho → Ev D} {xs : List PySem.Expr} {apos pos : Pos} (ht : T.mts[i]? = some t) (hc : chks T C es xs = true) (hp : plainO o = true) (hl : (apos.endLine == pos.line) = true) (hn : xs.length < 30)
    (hne : xs = [] → t.n = 0) (ho : PED R X W o mo) (ha : PAD R X W xs (evs T G es)) : PED R X W (.Call (.Attribute o t.m apos) xs [] pos) (mMeth t.c t.m t.n 0 mo (evs T G es) mNil (G.mt i)) := by
  have M := g.mtD ht
  have hs := chks_star hc
  cases xs with
  | nil =>
    have e3 := chks_nil hc
    subst e3
    have hn := hne rfl
    rw [hn] at M ⊢
    exact ped_meth0 M g.room g.tk ho hp hl
  | cons e es' =>
    have f := form_ok (pos := pos) (env := X.env) hs hn
    simp only [List.all_cons, Bool.and_eq_true] at hs
    exact ped_meth M g.room g.tk ho ha hp f hl (star_cons hs.1) (star_all hs.2)
end
end DL
/-! DL18: the evaluator tells what the machine does: expressions. -/
namespace DL
open PySem PySem.Spec PyProof.Rows L2
section
variable {T : Tab} {G : Sems} {k : Nat}
structure B3 (R : Rc) (X : Cx) (W : WX) (t : Bool) (x : PySem.Expr) (m : Rho → Ev D) : Prop where
  pv : PED R X W x m
  pt : t = true → PTD R X W x (mTru m)
  pw : t = true → ∀ op es p, x = .BoolOp op es p → PWD R X W x (mTru m)
theorem val_b3 {R : Rc} {C : Cc} {X : Cx} {W : WX} (g : Gd R T G k C X W) {t : Bool} {x : PySem.Expr} {m : Rho → Ev D} (h : PED R X W x m) (hp : plainT x = true) : B3 R X W t x m := ⟨h, fun _ => ptd_val g.hK h (plainT_ok hp), fun _ op es p e => by subst e; cases hp⟩
theorem not_t {R : Rc} {X : Cx} {W : WX} {t : Bool} {x : PySem.Expr} {m : Rho → Ev D} (h : PED R X W x m) (ht : (!t) = true) : B3 R X W t x m := ⟨h, fun e => (by rw [e] at ht; cases ht), fun e => (by rw [e] at ht; cases ht)⟩
mutual
theorem sE : ∀ (e : E) {R : Rc} {C : Cc} {X : Cx} {W : WX} (g : Gd R T G k C X W) {t : Bool} {x : PySem.Expr}, chk T C t e x = true → B3 R X W t x (ev T G e)
  | .var i, R, C, X, W, g, t, x, h => by
    cases x with
    | Name y p =>
      simp only [chk, Bool.and_eq_true, decide_eq_true_eq, Bool.not_eq_true'] at h
      obtain ⟨⟨h1, h2⟩, h3⟩ := h
      obtain ⟨o1, o2, _⟩ := okName_ok h3
      exact val_b3 g (ped_var (by rw [g.hN]; exact h1) (g.vis h2) o1 o2) rfl
    | _ => simp [chk] at h
  | .int i, R, C, X, W, g, t, x, h => by
    cases x with
    | Constant v kk p =>
      cases v with
      | int j =>
        simp only [chk, Bool.and_eq_true, decide_eq_true_eq, Bool.not_eq_true', beq_iff_eq] at h
        subst h
        exact val_b3 g ped_int rfl
      | _ => simp [chk] at h
    | _ => simp [chk] at h
  | .str i, R, C, X, W, g, t, x, h => by
    cases x with
    | Constant v kk p =>
      cases v with
      | str j =>
        simp only [chk, Bool.and_eq_true, decide_eq_true_eq, Bool.not_eq_true', beq_iff_eq] at h
        subst h
        exact val_b3 g ped_str rfl
      | _ => simp [chk] at h
    | _ => simp [chk] at h
  | .bl i, R, C, X, W, g, t, x, h => by
    cases x with
    | Constant v kk p =>
      cases v with
      | bool j =>
        simp only [chk, Bool.and_eq_true, decide_eq_true_eq, Bool.not_eq_true', beq_iff_eq] at h
        subst h
        exact val_b3 g ped_bl rfl
      | _ => simp [chk] at h
    | _ => simp [chk] at h
  | .non , R, C, X, W, g, t, x, h => by
    cases x with
    | Constant v kk p =>
      cases v with
      | none => exact val_b3 g ped_non rfl
      | _ => simp [chk] at h
    | _ => simp [chk] at h
  | .gl y, R, C, X, W, g, t, x, h => by
    cases x with
    | Name z p =>
      simp only [chk, Bool.and_eq_true, decide_eq_true_eq, Bool.not_eq_true'] at h
      obtain ⟨⟨rfl, h2⟩, h3⟩ := h
      exact val_b3 g (ped_gl g h2 h3) rfl
    | _ => simp [chk] at h
  | .bin op a b, R, C, X, W, g, t, x, h => by
    cases x with
    | BinOp y op' z p =>
      simp only [chk, Bool.and_eq_true, decide_eq_true_eq, Bool.not_eq_true'] at h
      obtain ⟨⟨rfl, h1⟩, h2⟩ := h
      exact val_b3 g (ped_bin (op_binD g.hK op) (sE a g h1).pv (sE b g h2).pv) rfl
    | _ => simp [chk] at h
  | .cmp op a b, R, C, X, W, g, t, x, h => by
    cases x with
    | Compare y ops zs p =>
      rcases ops with _ | ⟨op1, _ | ⟨op2, _ | ⟨op3, ops⟩⟩⟩ <;> rcases zs with _ | ⟨z1, _ | ⟨z2, _ | ⟨z3, zs⟩⟩⟩ <;> try (simp [chk] at h; done)
      simp only [chk, Bool.and_eq_true, decide_eq_true_eq, Bool.not_eq_true'] at h
      obtain ⟨⟨⟨rfl, h1⟩, h2⟩, h3⟩ := h
      have hm := marks_of (op := op) h3
      exact ⟨ped_cmp (op_cmpD g.hK g.room.units op) (sE a g h1).pv (sE b g h2).pv hm, fun _ => ptd_cmp (op_cmpD g.hK g.room.units op) (cmpD_bl op) (sE a g h1).pv (sE b g h2).pv hm, fun _ _ _ _ e => nomatch e⟩
    | _ => simp [chk] at h
  | .chain o1 o2 a b c, R, C, X, W, g, t, x, h => by
    cases x with
    | Compare y ops zs p =>
      rcases ops with _ | ⟨op1, _ | ⟨op2, _ | ⟨op3, ops⟩⟩⟩ <;> rcases zs with _ | ⟨z1, _ | ⟨z2, _ | ⟨z3, zs⟩⟩⟩ <;> try (simp [chk] at h; done)
      simp only [chk, Bool.and_eq_true, decide_eq_true_eq, Bool.not_eq_true'] at h
      obtain ⟨⟨⟨⟨⟨⟨rfl, rfl⟩, h1⟩, h2⟩, h3⟩, h4⟩, h5⟩ := h
      have hm : lastMarks [o1, o2] [z1, z2] = false := marks_of h5
      exact ⟨ped_chain (op_cmpD g.hK g.room.units o1) (op_cmpD g.hK g.room.units o2) (sE a g h1).pv (sE b g h2).pv (sE c g h3).pv hm, fun _ => ptd_chain (op_cmpD g.hK g.room.units o1) (op_cmpD g.hK g.room.units o2) (cmpD_bl o2) (sE a g h1).pv (sE b g h2).pv (sE c g h3).pv hm, fun _ _ _ _ e => nomatch e⟩
    | _ => simp [chk] at h
  | .and_ a b, R, C, X, W, g, t, x, h => by
    cases x with
    | BoolOp op zs p =>
      cases op with
      | And =>
        rcases zs with _ | ⟨z1, _ | ⟨z2, _ | ⟨z3, zs⟩⟩⟩ <;> try (simp [chk] at h; done)
        · have hh : (chk T C t a z1 && chk T C t b z2) = true := by
            cases b <;> exact h
          rw [Bool.and_eq_true] at hh
          have ia := sE a g hh.1
          have ib := sE b g hh.2
          have W1 : t = true → PWD R X W (.BoolOp .And [z1, z2] p) (mTru (ev T G (.and_ a b))) := fun ht => pwd_and (ia.pt ht) (pwd_and1 (ib.pt ht))
          exact ⟨ped_and g.hK ia.pv (ped_one ib.pv), fun ht => (W1 ht).pt, fun ht _ _ _ _ => W1 ht⟩
        · have hh : ∃ b1 b2, b = .and_ b1 b2 ∧ (chk T C t a z1 && chk T C t b (.BoolOp .And (z2 :: z3 :: zs) p)) = true := by
            cases b <;> first | exact ⟨_, _, rfl, h⟩ | (simp [chk] at h; done)
          obtain ⟨b1, b2, hb, hh⟩ := hh
          rw [Bool.and_eq_true] at hh
          have ia := sE a g hh.1
          have ib := sE b g hh.2
          have W1 : t = true → PWD R X W (.BoolOp .And (z1 :: z2 :: z3 :: zs) p) (mTru (ev T G (.and_ a b))) := fun ht => pwd_and (ia.pt ht) (ib.pw ht _ _ _ rfl)
          exact ⟨ped_and g.hK ia.pv ib.pv, fun ht => (W1 ht).pt, fun ht _ _ _ _ => W1 ht⟩
      | _ => simp [chk] at h
    | _ => simp [chk] at h
  | .or_ a b, R, C, X, W, g, t, x, h => by
    cases x with
    | BoolOp op zs p =>
      cases op with
      | Or =>
        rcases zs with _ | ⟨z1, _ | ⟨z2, _ | ⟨z3, zs⟩⟩⟩ <;> try (simp [chk] at h; done)
        · have hh : (chk T C t a z1 && chk T C t b z2) = true := by
            cases b <;> exact h
          rw [Bool.and_eq_true] at hh
          have ia := sE a g hh.1
          have ib := sE b g hh.2
          have W1 : t = true → PWD R X W (.BoolOp .Or [z1, z2] p) (mTru (ev T G (.or_ a b))) := fun ht => pwd_or (ia.pt ht) (pwd_or1 (ib.pt ht))
          exact ⟨ped_or g.hK ia.pv (ped_one ib.pv), fun ht => (W1 ht).pt, fun ht _ _ _ _ => W1 ht⟩
        · have hh : ∃ b1 b2, b = .or_ b1 b2 ∧ (chk T C t a z1 && chk T C t b (.BoolOp .Or (z2 :: z3 :: zs) p)) = true := by
            cases b <;> first | exact ⟨_, _, rfl, h⟩ | (simp [chk] at h; done)
          obtain ⟨b1, b2, hb, hh⟩ := hh
          rw [Bool.and_eq_true] at hh
          have ia := sE a g hh.1
          have ib := sE b g hh.2
          have W1 : t = true → PWD R X W (.BoolOp .Or (z1 :: z2 :: z3 :: zs) p) (mTru (ev T G (.or_ a b))) := fun ht => pwd_or (ia.pt ht) (ib.pw ht _ _ _ rfl)
          exact ⟨ped_or g.hK ia.pv ib.pv, fun ht => (W1 ht).pt, fun ht _ _ _ _ => W1 ht⟩
      | _ => simp [chk] at h
    | _ => simp [chk] at h
  | .not_ a, R, C, X, W, g, t, x, h => by
    cases x with
    | UnaryOp op y p =>
      cases op with
      | Not =>
        simp only [chk] at h
        have ia := sE a g h
        exact ⟨ped_not g.hK ia.pv, fun ht => ptd_not (ia.pt ht), fun _ _ _ _ e => nomatch e⟩
      | _ => simp [chk] at h
    | _ => simp [chk] at h
  | .ite c a b, R, C, X, W, g, t, x, h => by
    cases x with
    | IfExp z y y2 p =>
      simp only [chk, Bool.and_eq_true] at h
      obtain ⟨⟨⟨h0, h1⟩, h2⟩, h3⟩ := h
      exact not_t (ped_if ((sE c g h1).pt rfl) (sE a g h2).pv (sE b g h3).pv) h0
    | _ => simp [chk] at h
  | .neg a, R, C, X, W, g, t, x, h => by
    cases x with
    | UnaryOp op y p =>
      cases op with
      | USub =>
        simp only [chk] at h
        exact val_b3 g (ped_un op_negD (sE a g h).pv) rfl
      | _ => simp [chk] at h
    | _ => simp [chk] at h
  | .inv a, R, C, X, W, g, t, x, h => by
    cases x with
    | UnaryOp op y p =>
      cases op with
      | Invert =>
        simp only [chk] at h
        exact val_b3 g (ped_un op_invD (sE a g h).pv) rfl
      | _ => simp [chk] at h
    | _ => simp [chk] at h
  | .tup es, R, C, X, W, g, t, x, h => by
    cases x with
    | Tuple zs kk p =>
      simp only [chk] at h
      exact val_b3 g (ped_tup (sEs es g h)) rfl
    | _ => simp [chk] at h
  | .lst es, R, C, X, W, g, t, x, h => by
    cases x with
    | List zs p =>
      simp only [chk] at h
      exact val_b3 g (ped_lst (sEs es g h)) rfl
    | _ => simp [chk] at h
  | .newL es, R, C, X, W, g, t, x, h => by
    cases x with
    | List zs p =>
      simp only [chk] at h
      exact val_b3 g (ped_newL (sEs es g h)) rfl
    | _ => simp [chk] at h
  | .idx a b, R, C, X, W, g, t, x, h => by
    cases x with
    | Subscript y z p =>
      simp only [chk, Bool.and_eq_true, decide_eq_true_eq, Bool.not_eq_true'] at h
      obtain ⟨⟨h1, h2⟩, h3⟩ := h
      exact val_b3 g (ped_ix (ix_D g.hK) (sE a g h1).pv (sE b g h2).pv (plainIx_of h3)) rfl
    | _ => simp [chk] at h
  | .attr a f, R, C, X, W, g, t, x, h => by
    cases x with
    | Attribute y f' p =>
      simp only [chk, Bool.and_eq_true, decide_eq_true_eq, Bool.not_eq_true'] at h
      obtain ⟨⟨rfl, h1⟩, h2⟩ := h
      exact val_b3 g (ped_attr (by have := g.tab.fld; rw [← g.hK] at this; exact this) (sE a g h1).pv h2) rfl
    | _ => simp [chk] at h
  | .call i es ks, R, C, X, W, g, t, x, h => by
    cases x with
    | Call f xs kws p =>
      cases f with
      | Name y py =>
        simp only [chk] at h
        split at h
        · rename_i u hu
          simp only [Bool.and_eq_true, decide_eq_true_eq, Bool.not_eq_true'] at h
          obtain ⟨⟨⟨⟨⟨rfl, h1⟩, h2⟩, h3⟩, h4⟩, h5⟩ := h
          have e : ev T G (.call i es ks) = mArgs u.n u.kn.length (evs T G es) (evs T G ks) (G.fn i) := by
            simp only [ev, hu]
          rw [e]
          refine val_b3 g (ped_call_all g hu h1 h2 h3 h4 (fun z => ?_) (sEs es g h3) (sK ks g h4)) rfl
          subst z
          cases kws with
          | nil => rfl
          | cons => cases h5
        · cases h
      | _ => simp [chk] at h
    | _ => simp [chk] at h
  | .mk i fz es ks, R, C, X, W, g, t, x, h => by
    cases x with
    | Call f xs kws p =>
      cases f with
      | Name y py =>
        simp only [chk] at h
        split at h
        · rename_i u hu
          simp only [Bool.and_eq_true, decide_eq_true_eq, Bool.not_eq_true'] at h
          obtain ⟨⟨⟨⟨⟨rfl, h1⟩, h2⟩, h3⟩, h4⟩, h5⟩ := h
          have e : ev T G (.mk i fz es ks) = mArgs u.n u.kn.length (evs T G es) (evs T G ks) (semMk u.c fz (G.mkr i)) := by
            simp only [ev, hu]
          rw [e]
          refine val_b3 g (ped_mk_all g hu h1 h2 h3 h4 (fun z => ?_) (sEs es g h3) (sK ks g h4)) rfl
          subst z
          exact of_decide_eq_true h5
        · cases h
      | _ => simp [chk] at h
    | _ => simp [chk] at h
  | .mth i o es, R, C, X, W, g, t, x, h => by
    cases x with
    | Call f xs kws p =>
      cases f with
      | Attribute y m apos =>
        cases kws with
        | nil =>
          simp only [chk] at h
          split at h
          · rename_i u hu
            simp only [Bool.and_eq_true, decide_eq_true_eq, Bool.not_eq_true'] at h
            obtain ⟨⟨⟨⟨⟨⟨rfl, h1⟩, h2⟩, h3⟩, h4⟩, h5⟩, h6⟩ := h
            have e : ev T G (.mth i o es) = mMeth u.c u.m u.n 0 (ev T G o) (evs T G es) mNil (G.mt i) := by
              simp only [ev, hu]
            rw [e]
            refine val_b3 g (ped_mth_all g hu h2 h3 h4 h5 (fun z => ?_) (sE o g h1).pv (sEs es g h2)) rfl
            subst z
            exact of_decide_eq_true h6
          · cases h
        | cons => simp [chk] at h
      | _ => simp [chk] at h
    | _ => simp [chk] at h
  | .ownB i op a b, R, C, X, W, g, t, x, h => by
    cases x with
    | BinOp y op' z p =>
      simp only [chk, Bool.and_eq_true, decide_eq_true_eq, Bool.not_eq_true'] at h
      obtain ⟨⟨⟨rfl, h0⟩, h1⟩, h2⟩ := h
      rw [Option.map_eq_some_iff] at h0
      obtain ⟨⟨c, m⟩, hu, e0⟩ := h0
      have e0 : m = PySem.dunder op.info.2 := e0
      subst e0
      have e : ev T G (.ownB i op a b) = mOwn c (ev T G a) (ev T G b) (G.op i) := by
        simp only [ev, hu]
      rw [e]
      exact val_b3 g (ped_ownB (g.opD hu) g.room g.tk (sE a g h1).pv (sE b g h2).pv) rfl
    | _ => simp [chk] at h
  | .ownC i op a b, R, C, X, W, g, t, x, h => by
    cases x with
    | Compare y ops zs p =>
      rcases ops with _ | ⟨op1, _ | ⟨op2, _ | ⟨op3, ops⟩⟩⟩ <;> rcases zs with _ | ⟨z1, _ | ⟨z2, _ | ⟨z3, zs⟩⟩⟩ <;> try (simp [chk] at h; done)
      simp only [chk, Bool.and_eq_true, decide_eq_true_eq] at h
      obtain ⟨⟨⟨⟨⟨ht, rfl⟩, h0⟩, h1⟩, h2⟩, h3⟩ := h
      rw [Option.map_eq_some_iff] at h0
      obtain ⟨⟨c, m⟩, hu, e0⟩ := h0
      have e0 : m = (cmpInfo op).2.1 := e0
      subst e0
      have e : ev T G (.ownC i op a b) = mOwn c (ev T G a) (ev T G b) (G.op i) := by
        simp only [ev, hu]
      rw [e]
      rw [Bool.or_eq_true, decide_eq_true_eq] at h3
      exact not_t (ped_ownC (g.opD hu) g.room g.tk (sE a g h1).pv (sE b g h2).pv h3) ht
    | _ => simp [chk] at h
  | .bi b es, R, C, X, W, g, t, x, h => by
    cases x with
    | Call f xs kws p =>
      cases f with
      | Name y py =>
        cases kws with
        | nil =>
          simp only [chk, Bool.and_eq_true, decide_eq_true_eq, Bool.not_eq_true'] at h
          obtain ⟨⟨⟨⟨h0, h1⟩, h2⟩, h3⟩, h4⟩ := h
          cases xs with
          | nil => cases h4
          | cons z zs => exact val_b3 g (ped_bi g h0 h1 h2 (sEs es g h3) (chks_star h3)) rfl
        | cons => simp [chk] at h
      | _ => simp [chk] at h
    | _ => simp [chk] at h
  | .bm b o es, R, C, X, W, g, t, x, h => by
    cases x with
    | Call f xs kws p =>
      cases f with
      | Attribute y m apos =>
        cases kws with
        | nil =>
          simp only [chk, Bool.and_eq_true, decide_eq_true_eq, Bool.not_eq_true'] at h
          obtain ⟨⟨⟨⟨⟨h0, h1⟩, h2⟩, h3⟩, h4⟩, h5⟩ := h
          exact val_b3 g (ped_bm1 g h0 (sE o g h1).pv (sEs es g h2) (fun z => by subst z; rw [chks_nil h2]; rfl) (chks_star h2) h3 h4 h5) rfl
        | cons => simp [chk] at h
      | _ => simp [chk] at h
    | _ => simp [chk] at h
  | .lc elt gg it c own, R, C, X, W, g, t, x, h => by
    cases x with
    | ListComp y gs scope p =>
      rcases gs with _ | ⟨⟨tg, iter, ifs, asy⟩, _ | ⟨g2, gs⟩⟩ <;> try (simp [chk] at h; done)
      by_cases ha : asy = 0
      case neg => simp [chk, ha] at h
      subst ha
      have h : (chkI T C it iter tg && blkC C.N C.sc scope own && chkTg (inComp C scope) gg tg && chkTgV gg (own.map (·.2)) && chk T (inComp C scope) false elt y && chkC T (inComp C scope) c ifs && !isSetE iter) = true := h
      simp only [Bool.and_eq_true, Bool.not_eq_true'] at h
      obtain ⟨⟨⟨⟨⟨⟨h1, h2⟩, h3⟩, h4⟩, h5⟩, h6⟩, h7⟩ := h
      have ok : BlkOk X.N X.env.scope scope own := by rw [g.hN, g.hsc]; exact blkOk_by h2
      exact val_b3 g (ped_lc g.calm g.nd (sI it g h1) ok (fun P s H Ca cl fp => s_tg ((g.wP P).blk ok s H Ca cl fp) h3 h4) (fun P s H Ca cl fp => sC c ((g.wP P).blk ok s H Ca cl fp) h6) (fun P s H Ca cl fp => (sE elt ((g.wP P).blk ok s H Ca cl fp) h5).pv) (folded_of h7)) rfl
    | _ => simp [chk] at h
  | .slice a lo hi, R, C, X, W, g, t, x, h => by
    cases x with
    | Subscript y z p =>
      cases z with
      | Slice l h2 st p2 =>
        cases st with
        | none =>
          simp only [chk, Bool.and_eq_true] at h
          obtain ⟨⟨h1, h2⟩, h3⟩ := h
          exact val_b3 g (ped_slice g.hK (sE a g h1).pv (sO lo g h2) (sO hi g h3)) rfl
        | some => simp [chk] at h
      | _ => simp [chk] at h
    | _ => simp [chk] at h
  | .sm b o es, R, C, X, W, g, t, x, h => by
    cases x with
    | Call f xs kws p =>
      cases f with
      | Attribute y m apos =>
        cases kws with
        | nil =>
          simp only [chk, Bool.and_eq_true, decide_eq_true_eq, Bool.not_eq_true'] at h
          obtain ⟨⟨⟨⟨⟨h0, h1⟩, h2⟩, h3⟩, h4⟩, h5⟩ := h
          exact val_b3 g (ped_sm1 g h0 (sE o g h1).pv (sEs es g h2) (fun z => by subst z; rw [chks_nil h2]; rfl) (chks_star h2) h3 h4 h5) rfl
        | cons => simp [chk] at h
      | _ => simp [chk] at h
    | _ => simp [chk] at h
  | .ownI i op a b, R, C, X, W, g, t, x, h => by
    cases x with
    | BinOp y op' z p =>
      simp only [chk, Bool.and_eq_true, decide_eq_true_eq] at h
      obtain ⟨⟨⟨rfl, h0⟩, h1⟩, h2⟩ := h
      split at h0
      · rename_i u hu
        obtain ⟨c, m⟩ := u
        rw [Bool.and_eq_true, decide_eq_true_eq, decide_eq_true_eq] at h0
        obtain ⟨e0, hx⟩ := h0
        have e0 : m = PySem.dunder op.info.2 := e0
        subst e0
        have e : ev T G (.ownI i op a b) = mOwnI c (ev T G a) (ev T G b) (G.op i) := by
          simp only [ev, hu]
        rw [e]
        exact val_b3 g (ped_ownI (g.opD hu) (by rw [g.hK]; exact g.tab.mix _ _ hx) g.room g.tk (sE a g h1).pv (sE b g h2).pv) rfl
      · cases h0
    | _ => simp [chk] at h
  | .iOwn i op a b, R, C, X, W, g, t, x, h => by
    cases x with
    | BinOp y op' z p =>
      simp only [chk, Bool.and_eq_true, decide_eq_true_eq] at h
      obtain ⟨⟨⟨rfl, h0⟩, h1⟩, h2⟩ := h
      split at h0
      · rename_i u hu
        obtain ⟨c, m⟩ := u
        rw [Bool.and_eq_true, decide_eq_true_eq, decide_eq_true_eq] at h0
        obtain ⟨e0, hx⟩ := h0
        have e0 : m = dunderR op.info.2 := e0
        subst e0
        have e : ev T G (.iOwn i op a b) = mIOwn c (ev T G a) (ev T G b) (G.op i) := by
          simp only [ev, hu]
        rw [e]
        exact val_b3 g (ped_iOwn (g.opD hu) (by rw [g.hK]; exact g.tab.rfl_ _ _ hx) g.room g.tk (sE a g h1).pv (sE b g h2).pv) rfl
      · cases h0
    | _ => simp [chk] at h
  | .ownU i op a, R, C, X, W, g, t, x, h => by
    cases x with
    | UnaryOp op' y p =>
      simp only [chk, Bool.and_eq_true, decide_eq_true_eq] at h
      obtain ⟨⟨⟨rfl, hn⟩, h0⟩, h1⟩ := h
      split at h0
      · rename_i u hu
        obtain ⟨c, m, n⟩ := u
        rw [Bool.and_eq_true, decide_eq_true_eq, decide_eq_true_eq] at h0
        obtain ⟨e0, e1⟩ := h0
        have e0 : m = unName op := e0
        have e1 : n = 0 := e1
        subst e0 e1
        have e : ev T G (.ownU i op a) = mOwnU c (ev T G a) (G.mt i) := by
          simp only [ev, hu]
        rw [e]
        refine val_b3 g (ped_ownU (g.mtD hu) hn g.room g.tk (sE a g h1).pv) ?_
        cases op <;> first | rfl | exact absurd rfl hn
      · cases h0
    | _ => simp [chk] at h
  | .absO i es, R, C, X, W, g, t, x, h => by
    cases x with
    | Call f xs kws p =>
      cases f with
      | Name y py =>
        cases kws with
        | nil =>
          simp only [chk, Bool.and_eq_true, decide_eq_true_eq, Bool.not_eq_true'] at h
          obtain ⟨⟨⟨⟨hy, h1⟩, h0⟩, h2⟩, h3⟩ := h
          split at h0
          · rename_i u hu
            obtain ⟨c, m, n⟩ := u
            rw [Bool.and_eq_true, decide_eq_true_eq, decide_eq_true_eq] at h0
            obtain ⟨e0, e1⟩ := h0
            have e0 : m = "__abs__" := e0
            have e1 : n = 0 := e1
            subst e0 e1
            have e : ev T G (.absO i es) = mAbsO c (evs T G es) (G.mt i) := by
              simp only [ev, hu]
            rw [e]
            obtain ⟨j, hj, M⟩ := g.mtJ hu
            have hst := chks_star h2
            cases xs with
            | nil => cases h3
            | cons z zs =>
              have ha := sEs es g h2
              simp only [List.all_cons, Bool.and_eq_true] at hst
              exact val_b3 g (ped_absO M (g.room.mono hj) g.tk hy (g.gl h1) (by rw [hy]; exact g.tab.bi _ (by decide +kernel)) ha (star_cons hst.1) (star_all hst.2)) rfl
          · cases h0
        | cons => simp [chk] at h
      | _ => simp [chk] at h
    | _ => simp [chk] at h
  | .lc2 elt gg it c g1 it1 c1 own vs1, R, C, X, W, g, t, x, h => by
    cases x with
    | ListComp y gs scope p =>
      rcases gs with _ | ⟨⟨tg, iter, ifs, asy⟩, _ | ⟨⟨tg1, iter1, ifs1, asy1⟩, _ | ⟨g3, gs⟩⟩⟩ <;> try (simp [chk] at h; done)
      by_cases ha : asy = 0
      case neg => simp [chk, ha] at h
      by_cases ha1 : asy1 = 0
      case neg => simp [chk, ha1] at h
      subst ha ha1
      have h : (chkI T C it iter tg && blkC C.N C.sc scope own && chkTg (inComp C scope) gg tg && chkTgV gg (own.map (·.2)) && chkC T (inComp C scope) c ifs && !isSetE iter &&
        (vs1.all fun i => decide (i ∈ own.map (·.2))) && chkI T (inComp C scope) it1 iter1 tg1 && chkTg (inComp C scope) g1 tg1 && chkTgV g1 vs1 && chkC T (inComp C scope) c1 ifs1 && !isSetE iter1 && chk T (inComp C scope) false elt y) = true := h
      simp only [Bool.and_eq_true, Bool.not_eq_true', List.all_eq_true] at h
      obtain ⟨⟨⟨⟨⟨⟨⟨⟨⟨⟨⟨⟨h1, h2⟩, h3⟩, h4⟩, h5⟩, h6⟩, h7⟩, h8⟩, h9⟩, h10⟩, h11⟩, h12⟩, h13⟩ := h
      have ok : BlkOk X.N X.env.scope scope own := by rw [g.hN, g.hsc]; exact blkOk_by h2
      exact val_b3 g (ped_lc2 g.calm g.nd (sI it g h1) ok (fun i hi => of_decide_eq_true (h7 i hi)) (fun P s H Ca cl fp => s_tg ((g.wP P).blk ok s H Ca cl fp) h3 h4) (fun P s H Ca cl fp => sC c ((g.wP P).blk ok s H Ca cl fp) h5)
        (fun P s H Ca cl fp => sI it1 ((g.wP P).blk ok s H Ca cl fp) h8) (fun P s H Ca cl fp => s_tg ((g.wP P).blk ok s H Ca cl fp) h9 h10) (fun P s H Ca cl fp => sC c1 ((g.wP P).blk ok s H Ca cl fp) h11)
        (fun P s H Ca cl fp => (sE elt ((g.wP P).blk ok s H Ca cl fp) h13).pv) (folded_of h6) (fun env => folded_of h12)) rfl
    | _ => simp [chk] at h
  | .dc2 kx vx gg it c g1 it1 c1 own vs1, R, C, X, W, g, t, x, h => by
    cases x with
    | DictComp y y2 gs scope p =>
      rcases gs with _ | ⟨⟨tg, iter, ifs, asy⟩, _ | ⟨⟨tg1, iter1, ifs1, asy1⟩, _ | ⟨g3, gs⟩⟩⟩ <;> try (simp [chk] at h; done)
      by_cases ha : asy = 0
      case neg => simp [chk, ha] at h
      by_cases ha1 : asy1 = 0
      case neg => simp [chk, ha1] at h
      subst ha ha1
      have h : (chkI T C it iter tg && blkC C.N C.sc scope own && chkTg (inComp C scope) gg tg && chkTgV gg (own.map (·.2)) && chkC T (inComp C scope) c ifs && !isSetE iter &&
        (vs1.all fun i => decide (i ∈ own.map (·.2))) && chkI T (inComp C scope) it1 iter1 tg1 && chkTg (inComp C scope) g1 tg1 && chkTgV g1 vs1 && chkC T (inComp C scope) c1 ifs1 && !isSetE iter1 && chk T (inComp C scope) false kx y && chk T (inComp C scope) false vx y2) = true := h
      simp only [Bool.and_eq_true, Bool.not_eq_true', List.all_eq_true] at h
      obtain ⟨⟨⟨⟨⟨⟨⟨⟨⟨⟨⟨⟨⟨h1, h2⟩, h3⟩, h4⟩, h5⟩, h6⟩, h7⟩, h8⟩, h9⟩, h10⟩, h11⟩, h12⟩, h13⟩, h14⟩ := h
      have ok : BlkOk X.N X.env.scope scope own := by rw [g.hN, g.hsc]; exact blkOk_by h2
      exact val_b3 g (ped_dc2 g.calm g.nd (sI it g h1) ok (fun i hi => of_decide_eq_true (h7 i hi)) (fun P s H Ca cl fp => s_tg ((g.wP P).blk ok s H Ca cl fp) h3 h4) (fun P s H Ca cl fp => sC c ((g.wP P).blk ok s H Ca cl fp) h5)
        (fun P s H Ca cl fp => sI it1 ((g.wP P).blk ok s H Ca cl fp) h8) (fun P s H Ca cl fp => s_tg ((g.wP P).blk ok s H Ca cl fp) h9 h10) (fun P s H Ca cl fp => sC c1 ((g.wP P).blk ok s H Ca cl fp) h11)
        (fun P s H Ca cl fp => (sE kx ((g.wP P).blk ok s H Ca cl fp) h13).pv) (fun P s H Ca cl fp => (sE vx ((g.wP P).blk ok s H Ca cl fp) h14).pv) (folded_of h6) (fun env => folded_of h12)) rfl
    | _ => simp [chk] at h
theorem sO : ∀ (es : Es) {R : Rc} {C : Cc} {X : Cx} {W : WX} (g : Gd R T G k C X W) {x : Option PySem.Expr}, chkO T C es x = true → PO X x (tDO R W (mPart (evO T G es)))
  | .nil, R, C, X, W, g, x, h => by
    cases x with
    | none => exact pod_none
    | some => simp [chkO] at h
  | .cons e .nil, R, C, X, W, g, x, h => by
    cases x with
    | none => simp [chkO] at h
    | some x =>
      simp only [chkO] at h
      exact pod_some (sE e g h).pv
  | .cons e (.cons e2 r), R, C, X, W, g, x, h => by
    cases x <;> simp [chkO] at h
theorem sEs : ∀ (es : Es) {R : Rc} {C : Cc} {X : Cx} {W : WX} (g : Gd R T G k C X W) {xs : List PySem.Expr}, chks T C es xs = true → PAD R X W xs (evs T G es)
  | .nil, R, C, X, W, g, xs, h => by
    cases xs with
    | nil => exact pad_nil
    | cons => simp [chks] at h
  | .cons e r, R, C, X, W, g, xs, h => by
    cases xs with
    | nil => simp [chks] at h
    | cons x xs =>
      simp only [chks, Bool.and_eq_true] at h
      exact pad_cons (sE e g h.1.1).pv (sEs r g h.2) (star_cons h.1.2)
theorem sK : ∀ (es : Es) {R : Rc} {C : Cc} {X : Cx} {W : WX} (g : Gd R T G k C X W) {kws : List Keyword} {kn : List Str}, chkK T C es kws kn = true → PKD R X W kws (evs T G es)
  | .nil, R, C, X, W, g, kws, kn, h => by
    cases kws with
    | nil => exact pkd_nil
    | cons => simp [chkK] at h
  | .cons e r, R, C, X, W, g, kws, kn, h => by
    rcases kws with _ | ⟨⟨nm, x, kp⟩, kws⟩
    · simp [chkK] at h
    · cases nm with
      | none => simp [chkK] at h
      | some nm =>
        cases kn with
        | nil => simp [chkK] at h
        | cons k1 kn =>
          simp only [chkK, Bool.and_eq_true, decide_eq_true_eq] at h
          exact pkd_cons (sE e g h.1.2).pv (sK r g h.2)
theorem sC : ∀ (es : Es) {R : Rc} {C : Cc} {X : Cx} {W : WX} (g : Gd R T G k C X W) {xs : List PySem.Expr}, chkC T C es xs = true → PTsD R X W xs (evC T G es)
  | .nil, R, C, X, W, g, xs, h => by
    cases xs with
    | nil => exact ptsd_nil
    | cons => simp [chkC] at h
  | .cons e .nil, R, C, X, W, g, xs, h => by
    rcases xs with _ | ⟨x, _ | ⟨y, xs⟩⟩ <;> try (simp [chkC] at h; done)
    simp only [chkC] at h
    exact ptsd_one ((sE e g h).pt rfl)
  | .cons e (.cons e2 r), R, C, X, W, g, xs, h => by
    rcases xs with _ | ⟨x, _ | ⟨y, xs⟩⟩ <;> simp [chkC] at h
theorem sI : ∀ (it : It1) {R : Rc} {C : Cc} {X : Cx} {W : WX} (g : Gd R T G k C X W) {x tg : PySem.Expr}, chkI T C it x tg = true → PID R X W tg x (evI T G it)
  | .seq e, R, C, X, W, g, x, tg, h => pid_seq g.hK (sE e g (by simp only [chkI] at h; exact h)).pv
  | .range es, R, C, X, W, g, x, tg, h => by
    cases x with
    | Call f xs kws p =>
      cases f with
      | Name y py =>
        cases kws with
        | nil =>
          simp only [chkI, Bool.and_eq_true, decide_eq_true_eq, Bool.or_eq_true] at h
          obtain ⟨⟨⟨rfl, h1⟩, h2⟩, h3⟩ := h
          have hst := chks_star h2
          have hm := g.tab.bi "range" (by decide +kernel)
          have hlen := evs_len (G := G) h2
          have ha := sEs es g h2
          rcases xs with _ | ⟨a, _ | ⟨b, _ | ⟨c, xs⟩⟩⟩
          · simp at h3
          · simp only [List.all_cons, Bool.and_eq_true] at hst
            exact pid_range1 (g.gl h1) hm ha (star_cons hst.1) hlen
          · simp only [List.all_cons, Bool.and_eq_true] at hst
            exact pid_range2 (g.gl h1) hm ha (by rw [star_cons hst.1, star_cons hst.2.1]; rfl) (star_cons hst.2.1) hlen
          · simp at h3
        | cons => simp [chkI] at h
      | _ => simp [chkI] at h
    | _ => simp [chkI] at h
  | .zip es, R, C, X, W, g, x, tg, h => by
    cases x with
    | Call f xs kws p =>
      cases f with
      | Name y py =>
        cases kws with
        | nil =>
          cases tg with
          | Tuple ts kk tp =>
            simp only [chkI, Bool.and_eq_true, decide_eq_true_eq] at h
            obtain ⟨⟨⟨rfl, h1⟩, h2⟩, h3⟩ := h
            have hst := chks_star h2
            have hm := g.tab.bi "zip" (by decide +kernel)
            have ha := sEs es g h2
            rcases xs with _ | ⟨a, _ | ⟨b, _ | ⟨c, xs⟩⟩⟩ <;> try (simp at h3; done)
            have hst2 := hst
            simp only [List.all_cons, Bool.and_eq_true] at hst
            exact pid_zip g.hK (g.gl h1) hm ha (star_cons hst.1) (star_all (es := [b]) (by simp only [List.all_cons, List.all_nil, Bool.and_true]; exact hst.2.1))
          | _ => simp [chkI] at h
        | cons => simp [chkI] at h
      | _ => simp [chkI] at h
    | _ => simp [chkI] at h
  | .enum es, R, C, X, W, g, x, tg, h => by
    cases x with
    | Call f xs kws p =>
      cases f with
      | Name y py =>
        cases kws with
        | nil =>
          cases tg with
          | Tuple ts kk tp =>
            simp only [chkI, Bool.and_eq_true, decide_eq_true_eq] at h
            obtain ⟨⟨⟨rfl, h1⟩, h2⟩, h3⟩ := h
            have hst := chks_star h2
            have hm := g.tab.bi "enumerate" (by decide +kernel)
            have ha := sEs es g h2
            rcases xs with _ | ⟨a, _ | ⟨b, xs⟩⟩ <;> try (simp at h3; done)
            simp only [List.all_cons, Bool.and_eq_true] at hst
            exact pid_enum g.hK (g.gl h1) hm ha (star_cons hst.1)
          | _ => simp [chkI] at h
        | cons => simp [chkI] at h
      | _ => simp [chkI] at h
    | _ => simp [chkI] at h
  | .txt e, R, C, X, W, g, x, tg, h => pid_str (sE e g (by simp only [chkI] at h; exact h)).pv
end
end
end DL
/-! DL19: the evaluator tells what the machine does: statements. -/
namespace DL
open PySem PySem.Spec PyProof.Rows L2
section
variable {T : Tab} {G : Sems} {k : Nat}
mutual
def tgVs : Tg → List Nat
  | .nm i => [i]
  | .tup ts => ts
  | .tupN ts => tgsVs ts
  | .seq ts => tgsVs ts
def tgsVs : Tgs → List Nat
  | .nil => []
  | .cons t r => tgVs t ++ tgsVs r
end
mutual
theorem tgV_mono {vs ws : List Nat} (hs : ∀ i ∈ vs, i ∈ ws) : ∀ t : Tg, chkTgV t vs = true → chkTgV t ws = true
  | .nm i, h => by
    simp only [chkTgV, decide_eq_true_eq] at h ⊢
    exact hs _ h
  | .tup ts, h => by
    simp only [chkTgV, List.all_eq_true, decide_eq_true_eq] at h ⊢
    exact fun x hx => hs _ (h x hx)
  | .tupN ts, h => by
    simp only [chkTgV] at h ⊢
    exact tgsV_mono hs ts h
  | .seq ts, h => by
    simp only [chkTgV] at h ⊢
    exact tgsV_mono hs ts h
theorem tgsV_mono {vs ws : List Nat} (hs : ∀ i ∈ vs, i ∈ ws) : ∀ t : Tgs, chkTgsV t vs = true → chkTgsV t ws = true
  | .nil, h => rfl
  | .cons t r, h => by
    simp only [chkTgsV, Bool.and_eq_true] at h ⊢
    exact ⟨tgV_mono hs t h.1, tgsV_mono hs r h.2⟩
end
mutual
theorem tgVs_ok : ∀ t : Tg, chkTgV t (tgVs t) = true
  | .nm i => by simp [chkTgV, tgVs]
  | .tup ts => by
    simp only [chkTgV, tgVs, List.all_eq_true]
    exact fun x h => decide_eq_true h
  | .tupN ts => by
    simp only [chkTgV, tgVs]
    exact tgsVs_ok ts
  | .seq ts => by
    simp only [chkTgV, tgVs]
    exact tgsVs_ok ts
theorem tgsVs_ok : ∀ t : Tgs, chkTgsV t (tgsVs t) = true
  | .nil => rfl
  | .cons t r => by
    simp only [chkTgsV, tgsVs, Bool.and_eq_true]
    exact ⟨tgV_mono (fun i h => List.mem_append_left _ h) t (tgVs_ok t), tgsV_mono (fun i h => List.mem_append_right _ h) r (tgsVs_ok r)⟩
end
theorem star_match : ∀ a : PySem.Expr, noStar a = true → (match a with | .Starred _ _ => true | _ => false) = false := fun a h => by
  cases a <;> first | rfl | cases h
theorem sole_of {v t : PySem.Expr} {l : Nat} {env : Env} (h : isComp v = false) : swapsWithSole [t] v l env = pure false := by
  cases v <;> first | rfl | cases h
theorem nd_inj {α : Type} {l : List α} (h : l.Nodup) {i j : Nat} {x : α} (h1 : l[i]? = some x) (h2 : l[j]? = some x) : i = j := by
  obtain ⟨q1, e1⟩ := List.getElem?_eq_some_iff.mp h1
  obtain ⟨q2, e2⟩ := List.getElem?_eq_some_iff.mp h2
  have hp := List.pairwise_iff_getElem.mp h
  rcases Nat.lt_trichotomy i j with h | h | h
  · exact absurd (e1.trans e2.symm) (hp i j q1 q2 h)
  · exact h
  · exact absurd (e2.trans e1.symm) (hp j i q2 q1 h)
theorem sw_par {env : Env} {x y : Str} {px py pt pt2 : Pos} {kt k2 : Nat} {a b : PySem.Expr} (hk : env.scope.kind = .function) (hx : env.scope.names.lookup x = some .local) (hy : env.scope.names.lookup y = some .local) (hl : (px.line == py.line) = true) (hxy : x ≠ y) (na : noStar a = true) (nb : noStar b = true)
    (f1 : (foldedForSure 8 a && foldedForSure 8 b) = false) (f2 : (constantsAlone 8 a && constantsAlone 8 b) = false) : swappedStores [.Tuple [.Name x px, .Name y py] kt pt] (.Tuple [a, b] k2 pt2) env = pure (some [x, y]) := by
  have kx : env.kindOf x = some .local := hx
  have ky : env.kindOf y = some .local := hy
  have hb : env.blockKind = .function := by simp [Env.blockKind, hk]
  have hyx : (py.line == px.line) = true := by rw [beq_iff_eq] at hl ⊢; exact hl.symm
  have sa := star_match a na
  have sb := star_match b nb
  unfold swappedStores
  simp only [List.length_cons, List.length_nil, hb, kx, ky, List.any_cons, List.any_nil, sa, sb, List.head?_cons, Option.map_some, Option.getD_some, Expr.pos, List.filterMap_cons, List.filterMap_nil, beq_self_eq_true, hyx, Bool.and_self, if_true, List.all_cons, List.all_nil, Bool.and_true, f1, f2]
  have : [x, y].eraseDups.length = 2 := by
    simp [List.eraseDups_cons, hxy, Ne.symm hxy]
  simp [this]
  intro z
  rcases z with z | z
  · exfalso; cases a <;> first | (cases na; done) | (cases z; done)
  · exfalso; cases b <;> first | (cases nb; done) | (cases z; done)

theorem sw_par3 {env : Env} {x y z : Str} {px py pz pt pt2 : Pos} {kt k2 : Nat} {a b c : PySem.Expr} (hk : env.scope.kind = .function) (hx : env.scope.names.lookup x = some .local) (hy : env.scope.names.lookup y = some .local) (hz : env.scope.names.lookup z = some .local) (hl : (px.line == py.line) = true) (hl2 : (px.line == pz.line) = true) (hxy : x ≠ y) (hxz : x ≠ z) (hyz : y ≠ z) (na : noStar a = true) (nb : noStar b = true) (nc : noStar c = true)
    (f1 : (foldedForSure 8 a && foldedForSure 8 b && foldedForSure 8 c) = false) (f2 : (constantsAlone 8 a && constantsAlone 8 b && constantsAlone 8 c) = false) : swappedStores [.Tuple [.Name x px, .Name y py, .Name z pz] kt pt] (.Tuple [a, b, c] k2 pt2) env = pure (some [x, y, z]) := by
  have kx : env.kindOf x = some .local := hx
  have ky : env.kindOf y = some .local := hy
  have kz : env.kindOf z = some .local := hz
  have hb : env.blockKind = .function := by simp [Env.blockKind, hk]
  have hyx : (py.line == px.line) = true := by rw [beq_iff_eq] at hl ⊢; exact hl.symm
  have hzx : (pz.line == px.line) = true := by rw [beq_iff_eq] at hl2 ⊢; exact hl2.symm
  have sa := star_match a na
  have sb := star_match b nb
  have sc := star_match c nc
  have g1 : (foldedForSure 8 a && (foldedForSure 8 b && foldedForSure 8 c)) = false := by rw [← Bool.and_assoc]; exact f1
  have g2 : (constantsAlone 8 a && (constantsAlone 8 b && constantsAlone 8 c)) = false := by rw [← Bool.and_assoc]; exact f2
  unfold swappedStores
  simp only [List.length_cons, List.length_nil, hb, kx, ky, kz, List.any_cons, List.any_nil, sa, sb, sc, List.head?_cons, Option.map_some, Option.getD_some, Expr.pos, List.filterMap_cons, List.filterMap_nil, beq_self_eq_true, hyx, hzx, Bool.and_self, if_true, List.all_cons, List.all_nil, Bool.and_true, g1, g2]
  have : [x, y, z].eraseDups.length = 3 := by
    simp [List.eraseDups_cons, hxy, Ne.symm hxy, hxz, Ne.symm hxz, hyz, Ne.symm hyz]
  simp [this]
  intro w
  rcases w with w | w | w
  · exfalso; cases a <;> first | (cases na; done) | (cases w; done)
  · exfalso; cases b <;> first | (cases nb; done) | (cases w; done)
  · exfalso; cases c <;> first | (cases nc; done) | (cases w; done)
theorem s_expr1 {R : Rc} {C : Cc} {X : Cx} {W : WX} (g : Gd R T G k C X W) {e : E} {x : Stmt} (h : chkS T C (.expr e) x = true) : PSD R X W x (xv T G (.expr e)) := by
  cases x with
  | Expr y p =>
    simp only [chkS, Bool.and_eq_true, Bool.not_eq_true'] at h
    exact psd_expr (sE e g h.1).pv (swap_of h.2)
  | _ => simp [chkS] at h
theorem s_ret2 {R : Rc} {C : Cc} {X : Cx} {W : WX} (g : Gd R T G k C X W) {e : E} {x : Stmt} (h : chkS T C (.ret e) x = true) : PSD R X W x (xv T G (.ret e)) := by
  cases x with
  | Return y p =>
    cases y with
    | none => simp [chkS] at h
    | some y =>
      simp only [chkS] at h
      exact psd_ret (sE e g h).pv
  | _ => simp [chkS] at h
theorem s_retN3 {R : Rc} {C : Cc} {X : Cx} {W : WX} (g : Gd R T G k C X W)  {x : Stmt} (h : chkS T C (.retN) x = true) : PSD R X W x (xv T G (.retN)) := by
  cases x with
  | Return y p =>
    cases y with
    | none => exact psd_retN
    | some y => simp [chkS] at h
  | _ => simp [chkS] at h
theorem s_pass4 {R : Rc} {C : Cc} {X : Cx} {W : WX} (g : Gd R T G k C X W)  {x : Stmt} (h : chkS T C (.pass) x = true) : PSD R X W x (xv T G (.pass)) := by
  cases x with
  | Pass p => exact psd_pass
  | Expr y p =>
    cases y with
    | Constant v kk p2 =>
      cases v with
      | str s => exact psd_doc
      | _ => simp [chkS] at h
    | _ => simp [chkS] at h
  | _ => simp [chkS] at h
theorem s_brk5 {R : Rc} {C : Cc} {X : Cx} {W : WX} (g : Gd R T G k C X W)  {x : Stmt} (h : chkS T C (.brk) x = true) : PSD R X W x (xv T G (.brk)) := by
  cases x with
  | Break p => exact psd_break
  | _ => simp [chkS] at h
theorem s_cont6 {R : Rc} {C : Cc} {X : Cx} {W : WX} (g : Gd R T G k C X W)  {x : Stmt} (h : chkS T C (.cont) x = true) : PSD R X W x (xv T G (.cont)) := by
  cases x with
  | Continue p => exact psd_cont
  | _ => simp [chkS] at h
theorem dc_of {C : Cc} {t : Bool} {e : E} {x x2 : PySem.Expr} {gs : List Comprehension} {scope : Scope} {p : Pos} (h : chk T C t e (.DictComp x x2 gs scope p) = true) : ∃ kx vx gg it c g1 it1 c1 own vs1, e = .dc2 kx vx gg it c g1 it1 c1 own vs1 := by
  cases e with
  | dc2 kx vx gg it c g1 it1 c1 own vs1 => exact ⟨_, _, _, _, _, _, _, _, _, _, rfl⟩
  | _ => simp [chk] at h
theorem lc_of {C : Cc} {t : Bool} {e : E} {x : PySem.Expr} {gs : List Comprehension} {scope : Scope} {p : Pos} (h : chk T C t e (.ListComp x gs scope p) = true) : (∃ elt gg it c own, e = .lc elt gg it c own) ∨ ∃ elt gg it c g1 it1 c1 own vs1, e = .lc2 elt gg it c g1 it1 c1 own vs1 := by
  cases e with
  | lc elt gg it c own => exact .inl ⟨_, _, _, _, _, rfl⟩
  | lc2 elt gg it c g1 it1 c1 own vs1 => exact .inr ⟨_, _, _, _, _, _, _, _, _, rfl⟩
  | _ => simp [chk] at h
theorem s_asg {R : Rc} {C : Cc} {X : Cx} {W : WX} (g : Gd R T G k C X W) {gg : Tg} {e : E} {x : Stmt} (h : chkS T C (.asg gg e) x = true) : PSD R X W x (xv T G (.asg gg e)) := by
  cases x with
  | Assign ts v p =>
    rcases ts with _ | ⟨t1, _ | ⟨t2, ts⟩⟩ <;> try (simp [chkS] at h; done)
    simp only [chkS, Bool.and_eq_true] at h
    obtain ⟨⟨h1, h2⟩, h3⟩ := h
    have h3' := h3
    unfold asgOk at h3
    split at h3
    · rename_i z gs scope pos
      split at h3
      · rename_i i y py
        simp only [Bool.and_eq_true, Bool.not_eq_true', decide_eq_true_eq] at h3
        obtain ⟨⟨k4, k5⟩, k6⟩ := h3
        rcases lc_of h2 with ⟨elt, gg, it, c, own, rfl⟩ | ⟨elt, gg, it, c, g1, it1, c1, own, vs1, rfl⟩
        · rcases gs with _ | ⟨⟨tg, iter, ifs, asy⟩, _ | ⟨g2, gs⟩⟩ <;> try (simp [chk] at h2; done)
          by_cases ha : asy = 0
          case neg => simp [chk, ha] at h2
          subst ha
          have h : (chkI T C it iter tg && blkC C.N C.sc scope own && chkTg (inComp C scope) gg tg && chkTgV gg (own.map (·.2)) && chk T (inComp C scope) false elt z && chkC T (inComp C scope) c ifs && !isSetE iter) = true := h2
          simp only [Bool.and_eq_true, Bool.not_eq_true'] at h
          obtain ⟨⟨⟨⟨⟨⟨q1, q2⟩, q3⟩, q4⟩, q5⟩, q6⟩, q7⟩ := h
          have ok : BlkOk X.N X.env.scope scope own := by rw [g.hN, g.hsc]; exact blkOk_by q2
          obtain ⟨l1, _, _⟩ := g.loc (show storeB C y i = true from h1)
          have hyl : X.env.scope.names.lookup y = some .local := by rw [g.hsc]; exact k4
          exact psd_setLc g.calm g.nd l1 hyl (sw_true (by rw [g.hsc]; exact g.kind) hyl k5 k6) (sI it g q1) ok (fun P s H Ca cl fp => s_tg ((g.wP P).blk ok s H Ca cl fp) q3 q4) (fun P s H Ca cl fp => sC c ((g.wP P).blk ok s H Ca cl fp) q6) (fun P s H Ca cl fp => (sE elt ((g.wP P).blk ok s H Ca cl fp) q5).pv) (folded_of q7)
        · rcases gs with _ | ⟨⟨tg, iter, ifs, asy⟩, _ | ⟨⟨tg1, iter1, ifs1, asy1⟩, _ | ⟨g3, gs⟩⟩⟩ <;> try (simp [chk] at h2; done)
          by_cases ha : asy = 0
          case neg => simp [chk, ha] at h2
          by_cases ha1 : asy1 = 0
          case neg => simp [chk, ha1] at h2
          subst ha ha1
          have h : (chkI T C it iter tg && blkC C.N C.sc scope own && chkTg (inComp C scope) gg tg && chkTgV gg (own.map (·.2)) && chkC T (inComp C scope) c ifs && !isSetE iter &&
            (vs1.all fun i => decide (i ∈ own.map (·.2))) && chkI T (inComp C scope) it1 iter1 tg1 && chkTg (inComp C scope) g1 tg1 && chkTgV g1 vs1 && chkC T (inComp C scope) c1 ifs1 && !isSetE iter1 && chk T (inComp C scope) false elt z) = true := h2
          simp only [Bool.and_eq_true, Bool.not_eq_true', List.all_eq_true] at h
          obtain ⟨⟨⟨⟨⟨⟨⟨⟨⟨⟨⟨⟨q1, q2⟩, q3⟩, q4⟩, q5⟩, q6⟩, q7⟩, q8⟩, q9⟩, q10⟩, q11⟩, q12⟩, q13⟩ := h
          have ok : BlkOk X.N X.env.scope scope own := by rw [g.hN, g.hsc]; exact blkOk_by q2
          obtain ⟨l1, _, _⟩ := g.loc (show storeB C y i = true from h1)
          have hyl : X.env.scope.names.lookup y = some .local := by rw [g.hsc]; exact k4
          exact psd_setLc2 g.calm g.nd l1 hyl (sw_true (by rw [g.hsc]; exact g.kind) hyl k5 k6) (sI it g q1) ok (fun i hi => of_decide_eq_true (q7 i hi)) (fun P s H Ca cl fp => s_tg ((g.wP P).blk ok s H Ca cl fp) q3 q4) (fun P s H Ca cl fp => sC c ((g.wP P).blk ok s H Ca cl fp) q5)
            (fun P s H Ca cl fp => sI it1 ((g.wP P).blk ok s H Ca cl fp) q8) (fun P s H Ca cl fp => s_tg ((g.wP P).blk ok s H Ca cl fp) q9 q10) (fun P s H Ca cl fp => sC c1 ((g.wP P).blk ok s H Ca cl fp) q11)
            (fun P s H Ca cl fp => (sE elt ((g.wP P).blk ok s H Ca cl fp) q13).pv) (folded_of q6) (fun env => folded_of q12)
      · cases h3
    · rename_i z z2 gs scope pos
      split at h3
      · rename_i i y py
        obtain ⟨kx, vx, gg, it, c, g1, it1, c1, own, vs1, rfl⟩ := dc_of h2
        simp only [Bool.and_eq_true, Bool.not_eq_true', decide_eq_true_eq] at h3
        obtain ⟨⟨k4, k5⟩, k6⟩ := h3
        rcases gs with _ | ⟨⟨tg, iter, ifs, asy⟩, _ | ⟨⟨tg1, iter1, ifs1, asy1⟩, _ | ⟨g3, gs⟩⟩⟩ <;> try (simp [chk] at h2; done)
        by_cases ha : asy = 0
        case neg => simp [chk, ha] at h2
        by_cases ha1 : asy1 = 0
        case neg => simp [chk, ha1] at h2
        subst ha ha1
        have h : (chkI T C it iter tg && blkC C.N C.sc scope own && chkTg (inComp C scope) gg tg && chkTgV gg (own.map (·.2)) && chkC T (inComp C scope) c ifs && !isSetE iter &&
          (vs1.all fun i => decide (i ∈ own.map (·.2))) && chkI T (inComp C scope) it1 iter1 tg1 && chkTg (inComp C scope) g1 tg1 && chkTgV g1 vs1 && chkC T (inComp C scope) c1 ifs1 && !isSetE iter1 && chk T (inComp C scope) false kx z && chk T (inComp C scope) false vx z2) = true := h2
        simp only [Bool.and_eq_true, Bool.not_eq_true', List.all_eq_true] at h
        obtain ⟨⟨⟨⟨⟨⟨⟨⟨⟨⟨⟨⟨⟨q1, q2⟩, q3⟩, q4⟩, q5⟩, q6⟩, q7⟩, q8⟩, q9⟩, q10⟩, q11⟩, q12⟩, q13⟩, q14⟩ := h
        have ok : BlkOk X.N X.env.scope scope own := by rw [g.hN, g.hsc]; exact blkOk_by q2
        obtain ⟨l1, _, _⟩ := g.loc (show storeB C y i = true from h1)
        have hyl : X.env.scope.names.lookup y = some .local := by rw [g.hsc]; exact k4
        exact psd_setDc2 g.calm g.nd l1 hyl (sw_trueD (by rw [g.hsc]; exact g.kind) hyl k5 k6) (sI it g q1) ok (fun i hi => of_decide_eq_true (q7 i hi)) (fun P s H Ca cl fp => s_tg ((g.wP P).blk ok s H Ca cl fp) q3 q4) (fun P s H Ca cl fp => sC c ((g.wP P).blk ok s H Ca cl fp) q5)
          (fun P s H Ca cl fp => sI it1 ((g.wP P).blk ok s H Ca cl fp) q8) (fun P s H Ca cl fp => s_tg ((g.wP P).blk ok s H Ca cl fp) q9 q10) (fun P s H Ca cl fp => sC c1 ((g.wP P).blk ok s H Ca cl fp) q11)
          (fun P s H Ca cl fp => (sE kx ((g.wP P).blk ok s H Ca cl fp) q13).pv) (fun P s H Ca cl fp => (sE vx ((g.wP P).blk ok s H Ca cl fp) q14).pv) (folded_of q6) (fun env => folded_of q12)
      · cases h3
    · rename_i es kk pp
      split at h3
      · rename_i i
        cases t1 with
        | Name y py => exact psd_asg (sE e g h2).pv (s_tg g h1 (tgVs_ok _)) rfl rfl rfl
        | _ => simp [chkTg] at h1
      · cases h3
    · rename_i n1 n3 n2
      have hc : isComp v = false := by simpa using h3
      refine psd_asg (sE e g h2).pv (s_tg g h1 (tgVs_ok _)) (sole_of hc) ?_ ?_
      · have : ∀ es kk pp, v ≠ .Tuple es kk pp := fun es kk pp e => n2 _ _ _ e
        cases v <;> first | (exact absurd rfl (this _ _ _)) | (cases t1 <;> rfl)
      · cases gg with
        | nm i => cases t1 with
          | Name y py => rfl
          | _ => simp [chkTg] at h1
        | tup ts => cases t1 with
          | Tuple es kk pp => rfl
          | _ => simp [chkTg] at h1
        | tupN ts => cases t1 with
          | Tuple es kk pp => rfl
          | _ => simp [chkTg] at h1
        | seq ts => cases t1 with
          | Tuple es kk pp => rfl
          | _ => simp [chkTg] at h1
  | _ => simp [chkS] at h
theorem s_par9 {R : Rc} {C : Cc} {X : Cx} {W : WX} (g : Gd R T G k C X W) {i j : Nat} {es : Es} {x : Stmt} (h : chkS T C (.par i j es) x = true) : PSD R X W x (xv T G (.par i j es)) := by
  cases x with
  | Assign us v p =>
    rcases us with _ | ⟨t1, _ | ⟨t2, us⟩⟩ <;> try (simp [chkS] at h; done)
    simp only [chkS, Bool.and_eq_true] at h
    obtain ⟨y, py, z, pz, kk, p2, v1, v2, k2, p3, rfl, rfl, h2, h3, h4, h5, h6, h7, h8, h9⟩ := parOk_inv h.1
    have h1 : chks T C es [v1, v2] = true := h.2
    have hst := chks_star h1
    simp only [List.all_cons, Bool.and_eq_true] at hst
    have i1 : X.N[i]? = some y := by rw [g.hN]; exact h2
    have i2 : X.N[j]? = some z := by rw [g.hN]; exact h3
    have hyz : y ≠ z := fun e => by
      subst e
      exact h4 (nd_inj g.nd i1 i2)
    exact psd_par g.calm g.nd i1 i2 h4 (by rw [g.hsc]; exact h5) (by rw [g.hsc]; exact h6) (sEs es g h1) (sw_par (by rw [g.hsc]; exact g.kind) (by rw [g.hsc]; exact h5) (by rw [g.hsc]; exact h6) h7 hyz hst.1 hst.2.1 h8 h9)
  | _ => simp [chkS] at h
theorem s_par3 {R : Rc} {C : Cc} {X : Cx} {W : WX} (g : Gd R T G k C X W) {i j l : Nat} {es : Es} {x : Stmt} (h : chkS T C (.par3 i j l es) x = true) : PSD R X W x (xv T G (.par3 i j l es)) := by
  cases x with
  | Assign us v p =>
    rcases us with _ | ⟨t1, _ | ⟨t2, us⟩⟩ <;> try (simp [chkS] at h; done)
    simp only [chkS, Bool.and_eq_true] at h
    obtain ⟨y, py, z, pz, w, pw, kk, p2, v1, v2, v3, k2, p3, rfl, rfl, h1, h2, h3, d1, d2, d3, h4, h5, h6, h7, h8, h9, h10⟩ := par3Ok_inv h.1
    have hc : chks T C es [v1, v2, v3] = true := h.2
    have hst := chks_star hc
    simp only [List.all_cons, Bool.and_eq_true] at hst
    have i1 : X.N[i]? = some y := by rw [g.hN]; exact h1
    have i2 : X.N[j]? = some z := by rw [g.hN]; exact h2
    have i3 : X.N[l]? = some w := by rw [g.hN]; exact h3
    have hyz : y ≠ z := fun e => by subst e; exact d1 (nd_inj g.nd i1 i2)
    have hyw : y ≠ w := fun e => by subst e; exact d2 (nd_inj g.nd i1 i3)
    have hzw : z ≠ w := fun e => by subst e; exact d3 (nd_inj g.nd i2 i3)
    exact psd_par3 g.calm g.nd i1 i2 i3 d1 d2 d3 (by rw [g.hsc]; exact h4) (by rw [g.hsc]; exact h5) (by rw [g.hsc]; exact h6) (sEs es g hc) (sw_par3 (by rw [g.hsc]; exact g.kind) (by rw [g.hsc]; exact h4) (by rw [g.hsc]; exact h5) (by rw [g.hsc]; exact h6) h7 h8 hyz hyw hzw hst.1 hst.2.1 hst.2.2.1 h9 h10)
  | _ => simp [chkS] at h
theorem s_sub10 {R : Rc} {C : Cc} {X : Cx} {W : WX} (g : Gd R T G k C X W) {o i v : E} {x : Stmt} (h : chkS T C (.sub o i v) x = true) : PSD R X W x (xv T G (.sub o i v)) := by
  cases x with
  | Assign us w p =>
    rcases us with _ | ⟨t1, _ | ⟨t2, us⟩⟩ <;> try (simp [chkS] at h; done)
    cases t1 with
    | Subscript y z p2 =>
      simp only [chkS, Bool.and_eq_true, Bool.not_eq_true'] at h
      obtain ⟨⟨h3, h4⟩, ⟨h1, h2⟩, h5⟩ := h
      exact psd_sub (sE v g h3).pv (sE o g h1).pv (sE i g h2).pv (sole_of h4) rfl (asg_sub h5)
    | _ => simp [chkS] at h
  | _ => simp [chkS] at h
theorem s_fld11 {R : Rc} {C : Cc} {X : Cx} {W : WX} (g : Gd R T G k C X W) {o : E} {f : Str} {v : E} {x : Stmt} (h : chkS T C (.fld o f v) x = true) : PSD R X W x (xv T G (.fld o f v)) := by
  cases x with
  | Assign us w p =>
    rcases us with _ | ⟨t1, _ | ⟨t2, us⟩⟩ <;> try (simp [chkS] at h; done)
    cases t1 with
    | Attribute y f' p2 =>
      simp only [chkS, Bool.and_eq_true, Bool.not_eq_true', decide_eq_true_eq] at h
      obtain ⟨⟨h2, h4⟩, h1, rfl⟩ := h
      exact psd_fld g.hK g.tab.fld (sE v g h2).pv (sE o g h1).pv (swap_of h4)
    | _ => simp [chkS] at h
  | _ => simp [chkS] at h
theorem s_augO {R : Rc} {C : Cc} {X : Cx} {W : WX} (g : Gd R T G k C X W) {i j : Nat} {op : Operator} {e : E} {x : Stmt} (h : chkS T C (.augO i j op e) x = true) : PSD R X W x (xv T G (.augO i j op e)) := by
  cases x with
  | AugAssign t op' v p =>
    simp only [chkS, Bool.and_eq_true, decide_eq_true_eq] at h
    obtain ⟨⟨⟨rfl, h1⟩, h0⟩, h2⟩ := h
    cases t with
    | Name y py =>
      rw [Option.map_eq_some_iff] at h0
      obtain ⟨⟨c, m⟩, hu, e0⟩ := h0
      have e0 : m = PySem.dunderI op.info.2 := e0
      subst e0
      have ee : xv T G (.augO i j op e) = xAugO i c (ev T G e) (G.op j) := by
        simp only [xv, hu]
      rw [ee]
      obtain ⟨l1, l2, l3⟩ := g.loc (show storeB C y i = true from h2)
      exact psd_augO g.nd l1 l2 l3 (g.opD hu) g.room g.tk (sE e g h1).pv
    | _ => cases h2
  | _ => simp [chkS] at h
theorem s_augI {R : Rc} {C : Cc} {X : Cx} {W : WX} (g : Gd R T G k C X W) {i : Nat} {op : Operator} {e : E} {x : Stmt} (h : chkS T C (.augI i op e) x = true) : PSD R X W x (xv T G (.augI i op e)) := by
  cases x with
  | AugAssign t op' v p =>
    simp only [chkS, Bool.and_eq_true, decide_eq_true_eq] at h
    obtain ⟨⟨rfl, h1⟩, h2⟩ := h
    cases t with
    | Name y py =>
      obtain ⟨l1, l2, l3⟩ := g.loc (show storeB C y i = true from h2)
      exact psd_augI g.nd l1 l2 l3 (sE e g h1).pv
    | _ => cases h2
  | _ => simp [chkS] at h
mutual
theorem sS : ∀ (q : S) {R : Rc} {C : Cc} {X : Cx} {W : WX} (g : Gd R T G k C X W) {x : Stmt}, chkS T C q x = true → PSD R X W x (xv T G q)
  | .expr e, R, C, X, W, g, x, h => s_expr1 g h
  | .ret e, R, C, X, W, g, x, h => s_ret2 g h
  | .retN, R, C, X, W, g, x, h => s_retN3 g h
  | .if_ c a b, R, C, X, W, g, x, h => by
    cases x with
    | If z y y2 p =>
      simp only [chkS, Bool.and_eq_true] at h
      exact psd_if ((sE c g h.1.1).pt rfl) (sSs a g h.1.2) (sSs b g h.2)
    | _ => simp [chkS] at h
  | .pass, R, C, X, W, g, x, h => s_pass4 g h
  | .brk, R, C, X, W, g, x, h => s_brk5 g h
  | .cont, R, C, X, W, g, x, h => s_cont6 g h
  | .never, R, C, X, W, g, x, h => psd_never
  | .asg gg e, R, C, X, W, g, x, h => s_asg g h
  | .par i j es, R, C, X, W, g, x, h => s_par9 g h
  | .par3 i j l es, R, C, X, W, g, x, h => s_par3 g h
  | .sub o i v, R, C, X, W, g, x, h => s_sub10 g h
  | .fld o f v, R, C, X, W, g, x, h => s_fld11 g h
  | .for_ gg it b, R, C, X, W, g, x, h => by
    cases x with
    | For tg iter body els p =>
      cases els with
      | nil =>
        simp only [chkS, Bool.and_eq_true, Bool.not_eq_true'] at h
        obtain ⟨⟨⟨h1, h2⟩, h3⟩, h4⟩ := h
        exact psd_for g.pass g.calm (sI it g h1) (s_tg g h2 (tgVs_ok _)) (sSs b g h3) (folded_of h4)
      | cons => simp [chkS] at h
    | _ => simp [chkS] at h
  | .while_ n c b, R, C, X, W, g, x, h => by
    cases x with
    | While z body els p =>
      cases els with
      | nil =>
        simp only [chkS, Bool.and_eq_true] at h
        exact psd_while g.pass ((sE c g h.1).pt rfl) (sSs b g h.2)
      | cons => simp [chkS] at h
    | _ => simp [chkS] at h
  | .frz i, R, C, X, W, g, x, h => by simp [chkS] at h
  | .augO i j op e, R, C, X, W, g, x, h => s_augO g h
  | .augI i op e, R, C, X, W, g, x, h => s_augI g h

theorem sSs : ∀ (q : List S) {R : Rc} {C : Cc} {X : Cx} {W : WX} (g : Gd R T G k C X W) {xs : List Stmt}, chkSs T C q xs = true → PSsD R X W xs (xvs T G q)
  | [], R, C, X, W, g, xs, h => by
    cases xs with
    | nil => exact pssd_nil
    | cons => simp [chkSs] at h
  | s :: r, R, C, X, W, g, xs, h => by
    by_cases hf : ∃ i, s = .frz i
    · obtain ⟨i, rfl⟩ := hf
      exact pssd_frz (sSs r g (by cases xs <;> exact h))
    · cases xs with
      | nil => cases s <;> first | (simp [chkSs] at h; done) | exact absurd ⟨_, rfl⟩ hf
      | cons x xs =>
        have e1 : xvs T G (s :: r) = xSeq (xv T G s) (xvs T G r) := by cases s <;> first | rfl | exact absurd ⟨_, rfl⟩ hf
        have h2 : (chkS T C s x && chkSs T C r xs) = true := by cases s <;> first | exact h | exact absurd ⟨_, rfl⟩ hf
        rw [Bool.and_eq_true] at h2
        rw [e1]
        exact pssd_cons (sS s g h2.1) (sSs r g h2.2)
end
end
end DL
/-! DL20: a def of the text, by its datum. -/
namespace DL
open PySem PySem.Spec PyProof.Rows L2
/-- what a def's body does with the arguments -/
def runB (np nN : Nat) (m : Ex) : Sem1 := fun ds μ => if ds.length = np then (match m (ds.map some ++ List.replicate (nN - np) none) μ with
  | some (.nx _, μ') => some (.ok .non, μ')
  | some (.rt d, μ') => some (.ok d, μ')
  | some (.er x _, μ') => some (.err x, μ')
  | _ => none) else none
theorem envR_start {R : Rc} {α : List Addr} {F : Hp} {vs : List V} {ds : List D} (h : RepL R α F vs ds) (N : List Str) : EnvR R α F (L2.start N vs) (ds.map some ++ List.replicate (N.length - ds.length) none) := by
  unfold L2.start
  have hlen := h.length
  refine ⟨by simp [hlen], fun i d e => ?_⟩
  by_cases hi : i < ds.length
  · rw [List.getElem?_append_left (by simpa using hi), List.getElem?_map] at e
    cases e2 : ds[i]? with
    | none => rw [e2] at e; cases e
    | some d' =>
      rw [e2] at e
      cases e
      obtain ⟨v, hv, r⟩ : ∃ v, vs[i]? = some v ∧ Rep R α F v d := by
        have hi2 : i < vs.length := by omega
        exact ⟨vs[i], List.getElem?_eq_getElem hi2, paired_ix h i _ _ (List.getElem?_eq_getElem hi2) e2⟩
      exact ⟨v, by rw [List.getElem?_append_left (by simp; omega), List.getElem?_map, hv]; rfl, r⟩
  · rw [List.getElem?_append_right (by simpa using hi), List.getElem?_replicate] at e
    split at e <;> cases e
section
variable {R : Rc} {T : Tab} {G : Sems} {P : Program} {w : World} {mg : Str → Option Value} {base : Heap} {k : Nat} {x qual : Str} {params : Arguments} {body : List Stmt} {scope : Scope} {dvs : List V} {kws : List (Str × V)} {f : Addr} {fd : FuncData} {N ps : List Str} {q : List S}
theorem fn_body (Sc : FnScope N ps scope) (hT : TOk R T G P w mg base k) (hc : chkSs T ⟨N, scope, fun _ => true⟩ q body = true) (cdv : Value) (A : Around) (outer : List Env) (s : Shared) (H : Hp) (vs : List V) (Q : VK) (E : XK)
    (hr : Room k (A.deeper (envOfC qual scope s.heap.objs.size f cdv))) (h : spD R (runB ps.length N.length (xvs T G q)) vs H Q E) : ∃ t, PSs (cxOf (L2.CX P w) P w R.K mg base N qual scope f cdv A outer s H E) body t ∧ t { nx := fun _ H' => Q .non H', rt := Q } (start N vs) H := by
  obtain ⟨α, F, μ, ds, r, μ', rl, hl, e, hq⟩ := h
  have g : Gd R T G k ⟨N, scope, fun _ => true⟩ (cxOf (L2.CX P w) P w R.K mg base N qual scope f cdv A outer s H E) (fun cls d _ H => E cls d H) := {
    hK := rfl, room := hr, nd := Sc.nd, hN := rfl, hsc := rfl, kind := Sc.kind, calm := rfl, tk := takes_of rfl rfl rfl rfl, pass := passes_of rfl, st := fun _ _ => .inl rfl, tab := hT }
  refine ⟨_, sSs q g hc, ?_⟩
  unfold runB at e
  split at e
  · rename_i hlen
    have hE := envR_start rl N
    rw [hlen] at hE
    split at e
    · rename_i ρ1 μ1 e1
      cases e
      exact ⟨α, F, μ, _, _, _, hE, hl, e1, fun α' F' H' σ' n1 e' => hq α' F' H' _ n1 .non⟩
    · rename_i d μ1 e1
      cases e
      exact ⟨α, F, μ, _, _, _, hE, hl, e1, fun α' F' H' v n1 r1 => hq α' F' H' v n1 r1⟩
    · rename_i x1 ρ1 μ1 e1
      cases e
      exact ⟨α, F, μ, _, _, _, hE, hl, e1, fun α' F' H' σ' cls dd n1 e' xx => hq α' F' H' cls dd n1 xx⟩
    · cases e
  · cases e
/-- THE RULE for a def -/
theorem fn_ok (F : FunD R.K x qual params body scope dvs kws f fd) (Sc : FnScope N ps scope) (hT : TOk R T G P w mg base k) (hc : chkSs T ⟨N, scope, fun _ => true⟩ q body = true) :
    FnOk P w R.K mg base (L2.CX P w) (k + 1) f fd ps (spD R (runB ps.length N.length (xvs T G q))) := by
  have hpl : ps.length ≤ N.length := by have := congrArg List.length Sc.pre; rw [List.length_take] at this; omega
  refine F.ok Sc ?_ ?_
  · rintro vs H Q E ⟨α, F, μ, ds, r, μ', rl, hl, e, hq⟩
    unfold runB at e
    split at e
    · rename_i hh
      rw [rl.length]; exact hh
    · cases e
  · exact fun cdv A outer s H vs Q E hr h => fn_body Sc hT hc cdv A outer s H vs Q E hr h
/-- def f(a, .., *v), called with n values -/
theorem fnd_star {pv : Str} {n : Nat} (F : FunD R.K x qual params body scope dvs kws f fd) (Sc : FnScope N (ps ++ [pv]) scope) (hT : TOk R T G P w mg base k) (hc : chkSs T ⟨N, scope, fun _ => true⟩ q body = true)
    (hdv : dvs = []) (hb : ∀ (kV doc pm : Value) (an : Option Addr) (cdv ct : Value) (us rest : List Value), us.length = ps.length → bindArgs (PySem.W.fnOf x qual params body scope .none kV doc pm an cdv ct) ⟨us ++ rest, []⟩ = (newTuple rest >>= fun t => pure (ps.zip us ++ [(pv, t)])))
    (hn : ps.length ≤ n) (hz : n ≤ sizeLine) : FnD P w R.K mg base R (k + 1) f n [] (fun as => runB (ps.length + 1) N.length (xvs T G q) (as.take ps.length ++ [.tup (as.drop ps.length)])) :=
  fun A outer s H us ws vs zs Q E hr e0 r rz l1 l2 ⟨α, F', μ, ds, r0, μ', rl, hl, e, hq⟩ => by
    have ew : ws = [] := List.length_eq_zero_iff.mp l2
    subst ew
    cases rz
    rw [List.append_nil] at rl
    obtain ⟨kl, dct, dfs, kwd, txt, md, ann, code, ctv, slt, rfl, lk, hcd, hD, hK⟩ := F.ex
    obtain rfl : dfs = .none := by
      rw [hdv] at hD
      rcases hD with ⟨_, z⟩ | ⟨z, _⟩
      · exact z
      · exact absurd rfl z
    have hlen : (ps ++ [pv]).length = ps.length + 1 := by simp
    have Z := StX.fn_star (CX := L2.CX P w) (P := P) (w := w) (mg := mg) (base := base) (k := k) (sp := spD R (runB (ps ++ [pv]).length N.length (xvs T G q))) lk hcd Sc StX.cxUp (hb kwd txt md ann code ctv) (fun A outer s H vs Q E hr h => fn_body Sc hT hc code A outer s H vs Q E hr h)
    have hvl : vs.length = n := by rw [r.length]; exact l1
    refine Z A outer s H us vs Q E hr e0 r ⟨vs.take ps.length, vs.drop ps.length, (List.take_append_drop _ _).symm, by rw [List.length_take]; omega, by rw [List.length_drop]; omega, fun p hp => ?_⟩
    have nn : Nx R α F' μ α (upd F' p (.tup (vs.drop ps.length))) (upd H p (.tup (vs.drop ps.length))) := Nx.new hl hp
    refine ⟨α, upd F' p (.tup (vs.drop ps.length)), μ, ds.take ps.length ++ [.tup (ds.drop ps.length)], r0, μ', ?_, nn.2.2, by rw [hlen]; exact e, ?_⟩
    · refine paired_append (nn.repL (paired_take _ rl)) (.cons (.mkTup (.inl upd_same) (nn.repL (paired_drop _ rl))) .nil)
    · cases r0 with
      | ok d => exact fun α' F2 H' v n1 r1 => hq α' F2 H' v (nn.trans n1) r1
      | err x => exact fun α' F2 H' cls dd n1 xx => hq α' F2 H' cls dd (nn.trans n1) xx
/-- f(a, ..): all parameters are given -/
theorem fnd_all {sem : Sem1} (F : FnOk P w R.K mg base (L2.CX P w) k f fd ps (spD R sem)) (hb : Binds R.K fd ps []) : FnD P w R.K mg base R k f ps.length [] sem :=
  fun A outer s H us ws vs zs Q E hr e0 r rz l1 l2 h => by
    have ew : ws = [] := List.length_eq_zero_iff.mp l2
    subst ew
    cases rz
    rw [List.append_nil] at h
    have KX : R.K.In s.heap := e0.mod.kin.keeps fun b o e => (e0.bs b o e).1
    have hb := hb s us KX (by rw [List.append_nil]; exact l1)
    rw [List.append_nil] at hb
    exact F.run A outer s H ⟨us, []⟩ us vs Q E hr e0 hb r h
/-- f(a, ..): the last parameters are defaults -/
theorem fnd_dfl {sem : Sem1} {dv : List V} {dd : List D} {du : List Value} {n : Nat} (F : FnOk P w R.K mg base (L2.CX P w) k f fd ps (spD R sem)) (hb : Binds R.K fd ps du) (hv : Vals dv du) (hd : ∀ α F, RepL R α F dv dd) (hn : n + du.length = ps.length) :
    FnD P w R.K mg base R k f n [] (fun ds => sem (ds ++ dd)) :=
  fun A outer s H us ws vs zs Q E hr e0 r rz l1 l2 ⟨α, F', μ, ds, r0, μ', rl, hl, e, hq⟩ => by
    have ew : ws = [] := List.length_eq_zero_iff.mp l2
    subst ew
    cases rz
    rw [List.append_nil] at rl
    have KX : R.K.In s.heap := e0.mod.kin.keeps fun b o e => (e0.bs b o e).1
    have hb := hb s us KX (by rw [List.length_append, l1]; exact hn)
    exact F.run A outer s H ⟨us, []⟩ (us ++ du) (vs ++ dv) Q E hr e0 hb (r.append hv) ⟨α, F', μ, ds ++ dd, r0, μ', paired_append rl (hd α F'), hl, e, hq⟩
/-- f(a, .., k = v, ..) -/
theorem fnd_kw {sem : Sem1} {n : Nat} {kn : List Str} {g : List Value → List Value → List Value} {gV : List V → List V → List V} (gD : List D → List D → List D) (F : FnOk P w R.K mg base (L2.CX P w) k f fd ps (spD R sem)) (hb : KBn R.K fd ps n kn g gV)
    (hg : ∀ α F vs zs ds es, RepL R α F vs ds → RepL R α F zs es → RepL R α F (gV vs zs) (gD ds es)) :
    FnD P w R.K mg base R k f n kn (fun as => sem (gD (as.take n) (as.drop n))) :=
  fun A outer s H us ws vs zs Q E hr e0 r rz l1 l2 ⟨α, F', μ, ds, r0, μ', rl, hl, e, hq⟩ => by
    have KX : R.K.In s.heap := e0.mod.kin.keeps fun b o e => (e0.bs b o e).1
    have hvl : vs.length = n := by rw [r.length]; exact l1
    have h1 : RepL R α F' vs (ds.take n) := by
      have := paired_take n rl
      rwa [List.take_append_of_le_length (by omega), ← hvl, List.take_length, hvl] at this
    have h2 : RepL R α F' zs (ds.drop n) := by
      have := paired_drop n rl
      rwa [← hvl, List.drop_left, hvl] at this
    exact F.run A outer s H ⟨us, kn.zip ws⟩ (g us ws) (gV vs zs) Q E hr e0 (hb.to s us ws KX l1 l2) (hb.rel r rz) ⟨α, F', μ, _, r0, μ', hg _ _ _ _ _ _ h1 h2, hl, e, hq⟩
end
end DL
/-! DL21: a whole text: its defs by levels. -/
namespace DL
open PySem PySem.Spec PyProof.Rows L2
/-- where a parameter's value comes from: the i-th value written, the i-th default -/
inductive Src where
  | arg (i : Nat) | dfl (i : Nat) | rest (i : Nat)
def Src.plain : Src → Bool
  | .rest _ => false
  | _ => true
def pick {α : Type} (as df : List α) (z : α) : Src → α
  | .arg i => as.getD i z
  | .dfl i => df.getD i z
  | .rest _ => z
/-- over data: what is left over is a tuple -/
def pickD (as df : List D) : Src → D
  | .arg i => as.getD i .non
  | .dfl i => df.getD i .non
  | .rest i => .tup (as.drop i)
theorem pickD_plain {as df : List D} : ∀ {ss : List Src}, ss.all Src.plain = true → ss.map (pickD as df) = ss.map (pick as df .non)
  | [], _ => rfl
  | s :: ss, h => by
    simp only [List.all_cons, Bool.and_eq_true] at h
    rw [List.map_cons, List.map_cons, pickD_plain h.2]
    congr 1
    cases s <;> first | rfl | cases h.1
theorem paired_getD {α β : Type} {P : α → β → Prop} {xs : List α} {ys : List β} (h : Paired P xs ys) {x : α} {y : β} (hz : P x y) (i : Nat) : P (xs.getD i x) (ys.getD i y) := by
  rw [List.getD_eq_getElem?_getD, List.getD_eq_getElem?_getD]
  by_cases hi : i < xs.length
  · have hj : i < ys.length := by rw [← h.length]; exact hi
    rw [List.getElem?_eq_getElem hi, List.getElem?_eq_getElem hj]
    exact paired_ix h i _ _ (List.getElem?_eq_getElem hi) (List.getElem?_eq_getElem hj)
  · have hj : ¬ i < ys.length := by rw [← h.length]; exact hi
    rw [List.getElem?_eq_none (by omega), List.getElem?_eq_none (by omega)]
    exact hz
theorem paired_pick {α β : Type} {P : α → β → Prop} {xs df : List α} {ys dg : List β} (h : Paired P xs ys) (hd : Paired P df dg) {x : α} {y : β} (hz : P x y) : ∀ ss : List Src, Paired P (ss.map (pick xs df x)) (ss.map (pick ys dg y))
  | [] => .nil
  | .arg i :: ss => .cons (paired_getD h hz i) (paired_pick h hd hz ss)
  | .dfl i :: ss => .cons (paired_getD hd hz i) (paired_pick h hd hz ss)
  | .rest i :: ss => .cons hz (paired_pick h hd hz ss)
theorem vals_getD {xs : List V} {ys : List Value} (h : Vals xs ys) (i : Nat) : RelV (xs.getD i .non) (ys.getD i .none) := by
  rw [List.getD_eq_getElem?_getD, List.getD_eq_getElem?_getD]
  cases e : xs[i]? with
  | none =>
    have : ys[i]? = none := by
      rw [List.getElem?_eq_none_iff] at e ⊢
      rw [← h.length]; exact e
    rw [this]
    exact rfl
  | some v =>
    obtain ⟨u, hu, r⟩ := h.get e
    rw [hu]
    exact r
theorem vals_pick {xs df : List V} {ys dg : List Value} (h : Vals xs ys) (hd : Vals df dg) : ∀ ss : List Src, Vals (ss.map (pick xs df .non)) (ss.map (pick ys dg .none))
  | [] => .nil
  | .arg i :: ss => .cons (vals_getD h i) (vals_pick h hd ss)
  | .dfl i :: ss => .cons (vals_getD hd i) (vals_pick h hd ss)
  | .rest i :: ss => .cons rfl (vals_pick h hd ss)
/-- a call with n values and the keywords kn binds the parameters so -/
def BindN (K : PySem.W.Frag) (d : He.DefD) (ps : List Str) (n : Nat) (kn : List Str) (ss : List Src) : Prop :=
  ∀ f fd, FunD K d.name d.qual d.params d.body d.scope (d.dvs K) (d.kws K) f fd → ∃ its : List Value, Vals (d.dvs K) its ∧ ∀ (s : Shared) (us ws : List Value), K.In s.heap → us.length = n → ws.length = kn.length → BindsTo s fd ⟨us, kn.zip ws⟩ (ps.zip (ss.map (pick (us ++ ws) its .none)))
/-- .. with *v -/
def StarOk (d : He.DefD) (ps : List Str) (n : Nat) (kn : List Str) (ss : List Src) : Prop := kn = [] ∧ ∃ ps' pv, ps = ps' ++ [pv] ∧ ss = (List.range ps'.length).map .arg ++ [.rest ps'.length] ∧ ps'.length ≤ n ∧ n ≤ sizeLine ∧
  d.dfl = [] ∧ ∀ (kV doc pm : Value) (an : Option Addr) (cdv ct : Value) (us rest : List Value), us.length = ps'.length → bindArgs (PySem.W.fnOf d.name d.qual d.params d.body d.scope .none kV doc pm an cdv ct) ⟨us ++ rest, []⟩ = (newTuple rest >>= fun t => pure (ps'.zip us ++ [(pv, t)]))
def BindOk (K : PySem.W.Frag) (d : He.DefD) (ps : List Str) (n : Nat) (kn : List Str) (ss : List Src) : Prop := (ss.all Src.plain = true ∧ BindN K d ps n kn ss) ∨ StarOk d ps n kn ss
theorem bind_star {K : PySem.W.Frag} {d : He.DefD} {n : Nat} (ps' : List Str) (pv : Str) (h1 : ps'.length ≤ n) (h2 : n ≤ sizeLine)
    (hd : d.dfl = []) (h : ∀ (kV doc pm : Value) (an : Option Addr) (cdv ct : Value) (us rest : List Value), us.length = ps'.length → bindArgs (PySem.W.fnOf d.name d.qual d.params d.body d.scope .none kV doc pm an cdv ct) ⟨us ++ rest, []⟩ = (newTuple rest >>= fun t => pure (ps'.zip us ++ [(pv, t)]))) :
    BindOk K d (ps' ++ [pv]) n [] ((List.range ps'.length).map .arg ++ [.rest ps'.length]) := .inr ⟨rfl, ps', pv, rfl, rfl, h1, h2, hd, h⟩
theorem bind_non {K : PySem.W.Frag} {d : He.DefD} {ps : List Str} {n : Nat} {kn : List Str} {ss : List Src} (hs : ss.all Src.plain = true) (hd : d.dfl = [])
    (h : ∀ (kV doc pm : Value) (an : Option Addr) (cdv ct : Value) (us ws : List Value), us.length = n → ws.length = kn.length → bindArgs (PySem.W.fnOf d.name d.qual d.params d.body d.scope .none kV doc pm an cdv ct) ⟨us, kn.zip ws⟩ = pure (ps.zip (ss.map (pick (us ++ ws) [] .none)))) :
    BindOk K d ps n kn ss := .inl ⟨hs, fun f fd F => by
  have e : d.dvs K = [] := by unfold He.DefD.dvs; rw [hd]; rfl
  obtain ⟨kl, dct, dfs, kwd, txt, md, ann, code, ctv, slt, rfl, lk, hcd, hD, hK⟩ := F.ex
  rw [e] at hD ⊢
  rcases hD with ⟨_, rfl⟩ | ⟨z, _⟩
  · exact ⟨[], .nil, fun s us ws _ l1 l2 => .of_eq (h kwd txt md ann code ctv us ws l1 l2)⟩
  · exact absurd rfl z⟩
theorem bind_dfl {K : PySem.W.Frag} {d : He.DefD} {ps : List Str} {n : Nat} {kn : List Str} {ss : List Src} (hs : ss.all Src.plain = true) (hd : d.dfl ≠ [])
    (h : ∀ (T : Addr) (kV doc pm : Value) (an : Option Addr) (cdv ct : Value) (us its ws : List Value), us.length = n → its.length = d.dfl.length → ws.length = kn.length →
      ∃ k, bindArgs (PySem.W.fnOf d.name d.qual d.params d.body d.scope (.ref T) kV doc pm an cdv ct) ⟨us, kn.zip ws⟩ = seqItems? (.ref T) >>= k ∧ k (some its.toArray) = pure (ps.zip (ss.map (pick (us ++ ws) its .none)))) :
    BindOk K d ps n kn ss := .inl ⟨hs, fun f fd F => by
  obtain ⟨kl, dct, dfs, kwd, txt, md, ann, code, ctv, slt, rfl, lk, hcd, hD, hK⟩ := F.ex
  rcases hD with ⟨e, _⟩ | ⟨_, T, o, its, m, rfl, lT, oT, rT⟩
  · unfold He.DefD.dvs at e
    rw [List.map_eq_nil_iff] at e
    exact absurd e hd
  · refine ⟨its, rT, fun s us ws X l1 l2 => ?_⟩
    have l3 : its.length = d.dfl.length := by
      rw [← rT.length]; unfold He.DefD.dvs; rw [List.length_map]
    obtain ⟨k, e1, e2⟩ := h T kwd txt md ann code ctv us its ws l1 l3 l2
    refine BindsTo.of_looks fun M => ?_
    rw [e1]
    exact looks_items X lT oT (.of_pure e2)⟩
/-- a default as data -/
def dvD : He.Dv → D
  | .non => .non
  | .bl b => .bl b
  | .int i => .int i
  | .str x => .str x
  | .ty n => .ty n
  | _ => .non
def dvOk : He.Dv → Bool
  | .non => true
  | .bl b => true
  | .int i => true
  | .str x => true
  | .ty n => true
  | _ => false
theorem dvD_ok {R : Rc} {α : List Addr} {F : Hp} {K : PySem.W.Frag} : ∀ {l : List He.Dv}, l.all dvOk = true → RepL R α F (l.map (He.Dv.v K)) (l.map dvD)
  | [], _ => .nil
  | d :: l, h => by
    simp only [List.all_cons, Bool.and_eq_true] at h
    refine .cons ?_ (dvD_ok h.2)
    cases d <;> first | exact .non | exact .bl _ | exact .int _ | exact .str _ | exact .ty _ | cases h.1
structure DefI where
  d : He.DefD
  ps : List Str
  N : List Str
  q : List S
structure EntI where
  j : Nat
  ss : List Src
structure Mod where
  T : Tab
  defs : List DefI
  fnE : List EntI
  mkE : List EntI
  mtE : List EntI
  opE : List EntI
def bot : Sem1 := fun _ _ => none
def Mod.entS (M : Mod) (l : Nat → Sem1) : Option EntI → Sem1
  | some e => (match M.defs[e.j]? with
    | some d => fun as => l e.j (e.ss.map (pickD as (d.d.dfl.map dvD)))
    | none => bot)
  | none => bot
def Mod.sems (M : Mod) (l : Nat → Sem1) : Sems where
  fn := fun i => M.entS l M.fnE[i]?
  mkr := fun i => M.entS l M.mkE[i]?
  mt := fun i => M.entS l M.mtE[i]?
  op := fun i => M.entS l M.opE[i]?
def Mod.lev (M : Mod) : Nat → Nat → Sem1
  | 0 => fun _ => bot
  | k + 1 => fun j => match M.defs[j]? with
    | some d => runB d.ps.length d.N.length (xvs M.T (M.sems (Mod.lev M k)) d.q)
    | none => bot
structure DOkI (M : Mod) (R : Rc) (d : DefI) : Prop where
  fu : ∃ fd, FunD R.K d.d.name d.d.qual d.d.params d.d.body d.d.scope (d.d.dvs R.K) (d.d.kws R.K) (He.fAd R.K d.d.at_) fd
  sc : FnScope d.N d.ps d.d.scope
  ck : chkSs M.T ⟨d.N, d.d.scope, fun _ => true⟩ d.q d.d.body = true
  df : d.d.dfl.all dvOk = true
structure MOk (M : Mod) (R : Rc) (mg : Str → Option Value) : Prop where
  defs : ∀ (j : Nat) d, M.defs[j]? = some d → DOkI M R d
  fn : ∀ (i : Nat) t, M.T.fns[i]? = some t → ∃ e d, M.fnE[i]? = some e ∧ M.defs[e.j]? = some d ∧ mg t.name = some (.ref (He.fAd R.K d.d.at_)) ∧ BindOk R.K d.d d.ps t.n t.kn e.ss
  mkk : ∀ (i : Nat) t, M.T.mks[i]? = some t → ∃ e d, M.mkE[i]? = some e ∧ M.defs[e.j]? = some d ∧ mg t.name = some (.ref (R.cA t.c)) ∧ Mk R.K (R.cA t.c) (He.fAd R.K d.d.at_) ∧ BindOk R.K d.d d.ps (t.n + 1) t.kn e.ss
  mt : ∀ (i : Nat) t, M.T.mts[i]? = some t → ∃ e d, M.mtE[i]? = some e ∧ M.defs[e.j]? = some d ∧ Meth R.K (R.cA t.c) t.m (He.fAd R.K d.d.at_) ∧ Cls R.K (R.cA t.c) ∧ BindOk R.K d.d d.ps (t.n + 1) [] e.ss
  op : ∀ (i : Nat) t, M.T.ops[i]? = some t → ∃ e d, M.opE[i]? = some e ∧ M.defs[e.j]? = some d ∧ PySem.W.findIn R.K (.ref (R.cA t.1)) t.2 = some (some (.ref (He.fAd R.K d.d.at_))) ∧ PySem.W.isFn R.K (.ref (He.fAd R.K d.d.at_)) = true ∧ PySem.W.selfFirst R.K (R.cA t.1) = true ∧ BindOk R.K d.d d.ps 2 [] e.ss
  gl : ∀ x d, M.T.gls.lookup x = some d → ∃ v u, RelV v u ∧ (∀ α F, Rep R α F v d) ∧ (mg x = some u ∨ (mg x = none ∧ bootBuiltins x = some u))
  fld : FldOk R.K R M.T.fld
  isi : IsiOk R.K R M.T.isi M.T.own
  bi : ∀ x ∈ biAll, mg x = none
  mix : ∀ c op, (c, op) ∈ M.T.mix → mixB R.K (R.cA c) op = true
  rfl_ : ∀ c op, (c, op) ∈ M.T.rfl → refB R.K (R.cA c) op = true
section
variable {M : Mod} {R : Rc} {P : Program} {w : World} {mg : Str → Option Value} {base : Heap}
theorem fnd_bot {k : Nat} {f : Addr} {n : Nat} {kn : List Str} : FnD P w R.K mg base R k f n kn bot := fun A outer s H us ws vs zs Q E hr e0 r rz l1 l2 ⟨α, F', μ, ds, r0, μ', rl, hl, e, hq⟩ => nomatch e
theorem entS_bot {o : Option EntI} : M.entS (fun _ => bot) o = bot := by
  cases o with
  | none => rfl
  | some e =>
    unfold Mod.entS
    dsimp only
    split <;> rfl
theorem FnD.impL {k : Nat} {f : Addr} {n : Nat} {kn : List Str} {sem sem' : Sem1} (F : FnD P w R.K mg base R k f n kn sem) (h : ∀ ds μ r, ds.length = n + kn.length → sem' ds μ = some r → sem ds μ = some r) : FnD P w R.K mg base R k f n kn sem' :=
  fun A outer s H us ws vs zs Q E hr e0 r1 r2 l1 l2 ⟨α, F', μ, ds, r, μ', a, b, c, d⟩ => F A outer s H us ws vs zs Q E hr e0 r1 r2 l1 l2 ⟨α, F', μ, ds, r, μ', a, b, h _ _ _ (by
    rw [← a.length, List.length_append, r1.length, r2.length, l1, l2]) c, d⟩
/-- an entry's def at a level -/
theorem fnd_ent (h : MOk M R mg) {k : Nat} (hT : TOk R M.T (M.sems (M.lev k)) P w mg base (2 * k + 2)) {e : EntI} {d : DefI} {n : Nat} {kn : List Str} (hd : M.defs[e.j]? = some d) (hb : BindOk R.K d.d d.ps n kn e.ss) (Pp : Hp) :
    FnD P w R.K mg base (R.wP Pp) (2 * k + 3) (He.fAd R.K d.d.at_) n kn (M.entS (M.lev (k + 1)) (some e)) := by
  obtain ⟨⟨fd, F⟩, sc, ck, df⟩ := h.defs _ _ hd
  have eqS : M.entS (M.lev (k + 1)) (some e) = fun as => runB d.ps.length d.N.length (xvs M.T (M.sems (M.lev k)) d.q) (e.ss.map (pickD as (d.d.dfl.map dvD))) := by
    funext as
    unfold Mod.entS
    simp only [hd]
    show (match M.defs[e.j]? with
      | some d => runB d.ps.length d.N.length (xvs M.T (M.sems (Mod.lev M k)) d.q)
      | none => bot) _ = _
    simp only [hd]
  rcases hb with ⟨hpl, hb⟩ | ⟨rfl, ps', pv, eps, ess, h1, h2, hdf, hb⟩
  case inr =>
    have sc' : FnScope d.N (ps' ++ [pv]) d.d.scope := eps ▸ sc
    have Z := fnd_star (R := R.wP Pp) (n := n) F sc' (hT.wP Pp) ck (by show d.d.dvs R.K = []; unfold He.DefD.dvs; rw [hdf]; rfl) hb h1 h2
    rw [eqS]
    refine Z.impL fun ds μ r hl z => ?_
    rw [List.length_nil, Nat.add_zero] at hl
    rw [eps, ess] at z
    have e1 : ((List.range ps'.length).map Src.arg ++ [Src.rest ps'.length]).map (pickD ds (d.d.dfl.map dvD)) = ds.take ps'.length ++ [.tup (ds.drop ps'.length)] := by
      rw [List.map_append, List.map_map]
      show (List.range ps'.length).map (fun i => ds.getD i .non) ++ _ = _
      congr 1
      apply List.ext_getElem?
      intro i
      by_cases hi : i < ps'.length
      · rw [List.getElem?_map, List.getElem?_range hi, List.getElem?_take_of_lt hi, List.getElem?_eq_getElem (by omega)]
        simp [List.getD_eq_getElem?_getD, List.getElem?_eq_getElem (show i < ds.length by omega)]
      · rw [List.getElem?_eq_none (by simp; omega), List.getElem?_eq_none (by simp; omega)]
    rw [e1] at z
    rw [List.length_append] at z
    exact z
  have G := fn_ok (R := R.wP Pp) F sc (hT.wP Pp) ck
  obtain ⟨its, hv, hb⟩ := hb _ _ F
  have kb : KBn R.K fd d.ps n kn (fun us ws => e.ss.map (pick (us ++ ws) its .none)) (fun vs zs => e.ss.map (pick (vs ++ zs) (d.d.dvs R.K) .non)) := ⟨hb, fun r1 r2 => vals_pick (r1.append r2) hv e.ss⟩
  have Z := fnd_kw (R := R.wP Pp) (fun ds es => e.ss.map (pick (ds ++ es) (d.d.dfl.map dvD) .non)) G kb fun α F vs zs ds es r1 r2 => paired_pick (paired_append r1 r2) (dvD_ok df) .non e.ss
  have eq : M.entS (M.lev (k + 1)) (some e) = fun as => runB d.ps.length d.N.length (xvs M.T (M.sems (M.lev k)) d.q) (e.ss.map (pick (as.take n ++ as.drop n) (d.d.dfl.map dvD) .non)) := by
    rw [eqS]
    funext as
    rw [List.take_append_drop, pickD_plain hpl]
  rw [eq]
  exact Z
theorem tok (h : MOk M R mg) : ∀ k, TOk R M.T (M.sems (M.lev k)) P w mg base (2 * k + 2)
  | 0 => by
    have b : ∀ o, M.entS (M.lev 0) o = bot := fun o => entS_bot
    refine ⟨fun i t e => ?_, fun i t e => ?_, fun i t e => ?_, fun i t e Pp => ?_, h.gl, h.fld, h.isi, h.bi, h.mix, h.rfl_⟩
    · obtain ⟨en, d, e1, e2, e3, e4⟩ := h.fn i t e
      obtain ⟨fd, F⟩ := (h.defs _ _ e2).fu
      refine ⟨_, e3, F.kp, fun Pp => ?_⟩
      show FnD P w R.K mg base (R.wP Pp) _ _ _ _ (M.entS (M.lev 0) M.fnE[i]?)
      rw [b]
      exact fnd_bot (R := R.wP Pp)
    · obtain ⟨en, d, e1, e2, e3, e4, e5⟩ := h.mkk i t e
      refine ⟨_, 0, e3, e4, by omega, fun Pp => ?_⟩
      show FnD P w R.K mg base (R.wP Pp) _ _ _ _ (M.entS (M.lev 0) M.mkE[i]?)
      rw [b]
      exact fnd_bot (R := R.wP Pp)
    · obtain ⟨en, d, e1, e2, e3, e4, e5⟩ := h.mt i t e
      refine ⟨0, by omega, fun Pp => ⟨⟨_, e3, ?_⟩, e4⟩⟩
      show FnD P w R.K mg base (R.wP Pp) _ _ _ _ (M.entS (M.lev 0) M.mtE[i]?)
      rw [b]
      exact fnd_bot (R := R.wP Pp)
    · obtain ⟨en, d, e1, e2, e3, e4, e5, e6⟩ := h.op i t e
      refine ⟨⟨_, e3, e4, ?_⟩, e5⟩
      show FnD P w R.K mg base (R.wP Pp) _ _ _ _ (M.entS (M.lev 0) M.opE[i]?)
      rw [b]
      exact fnd_bot (R := R.wP Pp)
  | k + 1 => by
    have ih := tok h k
    refine ⟨fun i t e => ?_, fun i t e => ?_, fun i t e => ?_, fun i t e Pp => ?_, h.gl, h.fld, h.isi, h.bi, h.mix, h.rfl_⟩
    · obtain ⟨en, d, e1, e2, e3, e4⟩ := h.fn i t e
      obtain ⟨fd, F⟩ := (h.defs _ _ e2).fu
      refine ⟨_, e3, F.kp, fun Pp => ?_⟩
      have z := fnd_ent h ih e2 e4 Pp
      show FnD P w R.K mg base (R.wP Pp) (2 * (k + 1) + 2) _ _ _ (M.entS (M.lev (k + 1)) M.fnE[i]?)
      rw [e1]
      exact z.mono (by omega)
    · obtain ⟨en, d, e1, e2, e3, e4, e5⟩ := h.mkk i t e
      refine ⟨_, 2 * k + 3, e3, e4, by omega, fun Pp => ?_⟩
      have z := fnd_ent h ih e2 e5 Pp
      show FnD P w R.K mg base (R.wP Pp) _ _ _ _ (M.entS (M.lev (k + 1)) M.mkE[i]?)
      rw [e1]
      exact z
    · obtain ⟨en, d, e1, e2, e3, e4, e5⟩ := h.mt i t e
      refine ⟨2 * k + 3, by omega, fun Pp => ⟨⟨_, e3, ?_⟩, e4⟩⟩
      have z := fnd_ent h ih e2 e5 Pp
      show FnD P w R.K mg base (R.wP Pp) _ _ _ _ (M.entS (M.lev (k + 1)) M.mtE[i]?)
      rw [e1]
      exact z
    · obtain ⟨en, d, e1, e2, e3, e4, e5, e6⟩ := h.op i t e
      refine ⟨⟨_, e3, e4, ?_⟩, e5⟩
      have z := fnd_ent h ih e2 e6 Pp
      show FnD P w R.K mg base (R.wP Pp) _ _ _ _ (M.entS (M.lev (k + 1)) M.opE[i]?)
      rw [e1]
      exact z.mono (by omega)
end
end DL
/-! DL22: what the top has made, by one Bool; the law from its evaluation. -/
namespace DL
open PySem PySem.Spec PyProof.Rows L2
/-! the head's hook: facts, defs, one Bool more -/
def hookE (n : Nat) (fn : List He.DefD) (ex : PySem.W.Frag → Bool) : PySem.W.Hook where
  α := He.AlD × Bool
  obs := fun s => (He.obsDG n [] fn s.heap.get?, ex (He.frG s.heap.get? (He.asD s.heap.get? n)))
  val := fun _ => (He.valD fn, true)
  says := fun _ h => ∃ K : PySem.W.Frag, K.In h ∧ He.SaysD [] fn K ∧ ex K = true
  of := fun _ _ e => ⟨_, He.frG_in, congrArg Prod.fst e, congrArg Prod.snd e⟩
  keeps := by
    rintro w h h' ⟨K, here, facts⟩ grown
    exact ⟨K, here.keeps grown, facts⟩
def obE (n : Nat) (fn : List He.DefD) (ex : PySem.W.Frag → Bool) (g : Addr → Option Obj) : He.AlD × Bool := (He.obsDG n [] fn g, ex (He.frG g (He.asD g n)))
theorem obE_eq {n : Nat} {fn : List He.DefD} {ex : PySem.W.Frag → Bool} (s : PySem.W.SharedT) : obE n fn ex (HandSHeadRun.getT s) = (hookE n fn ex).obs s.abs := by
  have e : HandSHeadRun.getT s = s.abs.heap.get? := funext (HandSHeadRun.getT_eq s)
  unfold obE
  rw [e]
  rfl
def clsBody : Stmt → List Stmt
  | .ClassDef _ _ _ b _ _ _ _ _ _ _ => b
  | _ => []
def defD (at_ : Str × Option Str) (qual : Str) (st : Stmt) (dfl : List He.Dv := []) (kwd : List (Str × He.Dv) := []) : He.DefD := match st with
  | .FunctionDef n a b _ _ _ sc _ _ _ => ⟨at_, n, qual, a, b, sc, dfl, kwd⟩
  | _ => ⟨at_, qual, qual, ⟨[], [], none, [], [], none, []⟩, [], ⟨.function, [], false, false, []⟩, dfl, kwd⟩
/-- classes by number: names, plain fields; isinstance's answers; classes that isinstance may be asked of -/
structure Facts where
  cls : List Str
  fld : List (List Str)
  isi : List ((TK × TK) × Bool)
  own : List Nat
def Facts.nm (Fx : Facts) (c : Nat) : Str := Fx.cls.getD c ""
def Facts.rc (Fx : Facts) (K : PySem.W.Frag) : Rc := ⟨K, fun c => He.ga K (Fx.nm c), fun _ => none⟩
def Facts.fldT (Fx : Facts) : Nat → Str → Bool := fun c f => match Fx.fld[c]? with
  | some l => decide (f ∈ l)
  | none => false
def Facts.isiT (Fx : Facts) : TK → TK → Option Bool := fun t u => Fx.isi.lookup (t, u)
def Facts.ownT (Fx : Facts) : Nat → Bool := fun c => decide (c ∈ Fx.own)
def Facts.fldB (Fx : Facts) (K : PySem.W.Frag) : Bool := Fx.fld.zipIdx.all fun p => p.1.isEmpty || ((He.Fa.cls (Fx.nm p.2)).ok K && p.1.all fun f => (He.Fa.noat (Fx.nm p.2) f).ok K)
def Facts.isiB (Fx : Facts) (K : PySem.W.Frag) : Bool := Fx.isi.all fun p => decide (PySem.W.kitOne K (p.1.1.val (Fx.rc K)) (p.1.2.val (Fx.rc K)) = some p.2)
def Facts.ownB (Fx : Facts) (K : PySem.W.Frag) : Bool := Fx.own.all fun c => (He.Fa.cls (Fx.nm c)).ok K && (He.eqO (PySem.W.findIn K (.ref (He.ga K (Fx.nm c))) "__class__") (some (some (.builtin "object.__class__"))) &&
  (He.eqO (PySem.W.specialIn K (.builtin "object.__class__") "__get__") (some (some (.builtin "getset_descriptor.__get__"))) && (decide (PySem.W.takesIn K (.builtin "object.__class__") = some true) && decide (PySem.W.mroIn K (He.ga K (Fx.nm c)) (.type "object") = some true))))
def dvOf : D → Option He.Dv
  | .non => some .non
  | .bl b => some (.bl b)
  | .int i => some (.int i)
  | .str x => some (.str x)
  | .ty n => some (.ty n)
  | _ => none
def dvsOf : List D → Option (List He.Dv)
  | [] => some []
  | d :: ds => match dvOf d, dvsOf ds with
    | some v, some vs => some (v :: vs)
    | _, _ => none
def Facts.glB (Fx : Facts) (K : PySem.W.Frag) (p : Str × D) : Bool := match p.2 with
  | .ty n => (He.Fa.free p.1).ok K && decide (bootBuiltins p.1 = some (.type n))
  | .cls c => (He.Fa.glo p.1).ok K && decide (Fx.nm c = p.1)
  | .int i => (He.Fa.int p.1 i).ok K
  | .str x => (He.Fa.str p.1 x).ok K
  | .tup ds => (match dvsOf ds with
    | some vs => (He.Fa.glo p.1).ok K && He.tupB K p.1 vs
    | none => false)
  | .klst ds => (match dvsOf ds with
    | some vs => (He.Fa.glo p.1).ok K && He.lstB K p.1 vs
    | none => false)
  | _ => false
section
variable {Fx : Facts} {K : PySem.W.Frag} {h : Heap} {mg : Str → Option Value}
theorem fld_ok (b : Fx.fldB K = true) : FldOk K (Fx.rc K) Fx.fldT := fun c f e => by
  unfold Facts.fldT at e
  split at e
  · rename_i l hl
    have hf := of_decide_eq_true e
    have := List.all_eq_true.mp b (l, c) (List.mem_zipIdx_iff_getElem?.mpr hl)
    rcases Bool.or_eq_true_iff.mp this with z | z
    · rw [List.isEmpty_iff] at z
      have z : l = [] := z
      subst z
      cases hf
    · obtain ⟨z1, z2⟩ := He.ba z
      exact ⟨He.cls_ok z1, He.noat_ok (List.all_eq_true.mp z2 f hf)⟩
  · cases e
theorem lookup_in {α β : Type} [BEq α] [LawfulBEq α] {k : α} {v : β} : ∀ {l : List (α × β)}, l.lookup k = some v → (k, v) ∈ l
  | [], e => by cases e
  | (k', v') :: l, e => by
    rw [List.lookup_cons] at e
    split at e
    · rename_i q
      cases e
      rw [beq_iff_eq] at q
      subst q
      exact List.mem_cons_self
    · exact List.mem_cons_of_mem _ (lookup_in e)
theorem isi_ok (b : Fx.isiB K = true) (o : Fx.ownB K = true) : IsiOk K (Fx.rc K) Fx.isiT Fx.ownT where
  ans := fun t u r e => of_decide_eq_true (List.all_eq_true.mp b ((t, u), r) (lookup_in e))
  own := fun c e => by
    have := List.all_eq_true.mp o c (of_decide_eq_true e)
    obtain ⟨z1, z⟩ := He.ba this
    obtain ⟨z2, z⟩ := He.ba z
    obtain ⟨z3, z⟩ := He.ba z
    obtain ⟨z4, z5⟩ := He.ba z
    exact ⟨He.cls_ok z1, He.eqO_ok z2, He.eqO_ok z3, of_decide_eq_true z4, of_decide_eq_true z5⟩
theorem dvsOf_ok {R : Rc} {α : List Addr} {F : Hp} : ∀ {ds : List D} {vs : List He.Dv}, dvsOf ds = some vs → RepL R α F (vs.map (He.Dv.v K)) ds
  | [], vs, e => by cases e; exact .nil
  | d :: ds, vs, e => by
    unfold dvsOf at e
    split at e
    · rename_i v vs' e1 e2
      cases e
      refine .cons ?_ (dvsOf_ok e2)
      cases d <;> first | (cases e1; done) | skip
      all_goals (cases e1; first | exact .non | exact .bl _ | exact .int _ | exact .str _ | exact .ty _)
    · cases e
theorem gl_ok (X : K.In h) (G : h.Ns mainGlobals mg) {x : Str} {d : D} (b : Fx.glB K (x, d) = true) : ∃ v u, RelV v u ∧ (∀ α F, Rep (Fx.rc K) α F v d) ∧ (mg x = some u ∨ (mg x = none ∧ bootBuiltins x = some u)) := by
  unfold Facts.glB at b
  cases d with
  | ty n =>
    obtain ⟨z1, z2⟩ := He.ba b
    exact ⟨.ty n, .type n, rfl, fun _ _ => .ty n, .inr ⟨He.free_ok X G z1, of_decide_eq_true z2⟩⟩
  | cls c =>
    obtain ⟨z1, z2⟩ := He.ba b
    have z2 : Fx.nm c = x := of_decide_eq_true z2
    refine ⟨.ref (He.ga K x), .ref (He.ga K x), rfl, fun α F => ?_, .inl (He.glo_ok X G z1)⟩
    have : Rep (Fx.rc K) α F (.ref ((Fx.rc K).cA c)) (.cls c) := .cls c
    rw [show (Fx.rc K).cA c = He.ga K (Fx.nm c) from rfl, z2] at this
    exact this
  | int i =>
    obtain ⟨t, e⟩ := He.int_ok X G b
    exact ⟨.int i, .int i t, ⟨t, rfl⟩, fun _ _ => .int i, .inl e⟩
  | str i =>
    obtain ⟨t, e⟩ := He.str_ok X G b
    exact ⟨.str i, .str i t, ⟨t, rfl⟩, fun _ _ => .str i, .inl e⟩
  | tup ds =>
    simp only at b
    split at b
    · rename_i vs e
      obtain ⟨z1, z2⟩ := He.ba b
      refine ⟨.ref (He.ga K x), .ref (He.ga K x), rfl, fun α F => ?_, .inl (He.glo_ok X G z1)⟩
      refine .mkTup (vs := vs.map (He.Dv.v K)) ?_ (dvsOf_ok e)
      rcases He.tupB_ok z2 (fun _ => none) with (z | ⟨o, z⟩) | z
      · cases z
      · cases z
      · exact .inr z
    · cases b
  | klst ds =>
    simp only at b
    split at b
    · rename_i vs e
      obtain ⟨z1, z2⟩ := He.ba b
      refine ⟨.ref (He.ga K x), .ref (He.ga K x), rfl, fun α F => ?_, .inl (He.glo_ok X G z1)⟩
      have rl : RepL (Fx.rc K) α F (vs.map (He.Dv.v K)) ds := dvsOf_ok e
      exact .klst (He.lstB_ok z2 F) rl.length (paired_ix rl)
    · cases b
  | _ => cases b
end
/-! ### a module's Bools -/
def scB (N ps : List Str) (sc : Scope) : Bool := (match sc.kind with | .function => true | _ => false) && !sc.isCoroutine && !sc.isGenerator && decide N.Nodup && decide (N.take ps.length = ps) &&
  (ps.all fun x => match sc.names.lookup x with
    | some .local => true
    | some .cell => true
    | _ => false) && sc.names.all fun y => match y.2 with
    | .free => false
    | _ => true
theorem scB_ok {N ps : List Str} {sc : Scope} (h : scB N ps sc = true) : FnScope N ps sc := by
  unfold scB at h
  simp only [Bool.and_eq_true, Bool.not_eq_true', decide_eq_true_eq, List.all_eq_true] at h
  obtain ⟨⟨⟨⟨⟨⟨h1, h2⟩, h3⟩, h4⟩, h5⟩, h6⟩, h7⟩ := h
  refine ⟨?_, h2, h3, h4, h5, fun x hx => ?_, fun y hy => ?_⟩
  · split at h1
    · assumption
    · cases h1
  · have := h6 x hx
    split at this
    · exact .inl (by assumption)
    · exact .inr (by assumption)
    · cases this
  · have := h7 y hy
    intro z
    rw [z] at this
    cases this
def Mod.stB (M : Mod) : Bool := M.defs.all fun d => scB d.N d.ps d.d.scope && (chkSs M.T ⟨d.N, d.d.scope, fun _ => true⟩ d.q d.d.body && d.d.dfl.all dvOk)
def Mod.ent (M : Mod) (e : Option EntI) (f : DefI → Bool) : Bool := match e with
  | some e => (match M.defs[e.j]? with
    | some d => f d
    | none => false)
  | none => false
def Mod.fnB (M : Mod) (K : PySem.W.Frag) : Bool := M.T.fns.zipIdx.all fun p => M.ent M.fnE[p.2]? fun d => decide (d.d.at_ = (p.1.name, none)) && (He.Fa.glo p.1.name).ok K
def Mod.mkB (M : Mod) (Fx : Facts) (K : PySem.W.Frag) : Bool := M.T.mks.zipIdx.all fun p => M.ent M.mkE[p.2]? fun d => decide (d.d.at_ = (p.1.name, some ("__init__" : Str))) && (decide (Fx.nm p.1.c = p.1.name) && ((He.Fa.glo p.1.name).ok K && (He.Fa.mkr p.1.name).ok K))
def Mod.mtB (M : Mod) (Fx : Facts) (K : PySem.W.Frag) : Bool := M.T.mts.zipIdx.all fun p => M.ent M.mtE[p.2]? fun d => decide (d.d.at_ = (Fx.nm p.1.c, some p.1.m)) && ((He.Fa.meth (Fx.nm p.1.c) p.1.m).ok K && (He.Fa.cls (Fx.nm p.1.c)).ok K)
def Mod.opB (M : Mod) (Fx : Facts) (K : PySem.W.Frag) : Bool := M.T.ops.zipIdx.all fun p => M.ent M.opE[p.2]? fun d => decide (d.d.at_ = (Fx.nm p.1.1, some p.1.2)) && ((He.Fa.meth (Fx.nm p.1.1) p.1.2).ok K && PySem.W.selfFirst K (He.ga K (Fx.nm p.1.1)))
def Mod.okB (M : Mod) (Fx : Facts) (K : PySem.W.Frag) : Bool := M.fnB K && (M.mkB Fx K && (M.mtB Fx K && (M.opB Fx K && ((M.T.gls.all (Fx.glB K)) && (Fx.fldB K && (Fx.isiB K && (Fx.ownB K && ((M.T.mix.all fun p => mixB K (He.ga K (Fx.nm p.1)) p.2) && ((M.T.rfl.all fun p => refB K (He.ga K (Fx.nm p.1)) p.2) && biAll.all fun x => (He.Fa.free x).ok K)))))))))
/-- how each entry binds -/
structure Mod.Binds (M : Mod) (K : PySem.W.Frag) : Prop where
  fn : ∀ (i : Nat) t e d, M.T.fns[i]? = some t → M.fnE[i]? = some e → M.defs[e.j]? = some d → BindOk K d.d d.ps t.n t.kn e.ss
  mkk : ∀ (i : Nat) t e d, M.T.mks[i]? = some t → M.mkE[i]? = some e → M.defs[e.j]? = some d → BindOk K d.d d.ps (t.n + 1) t.kn e.ss
  mt : ∀ (i : Nat) t e d, M.T.mts[i]? = some t → M.mtE[i]? = some e → M.defs[e.j]? = some d → BindOk K d.d d.ps (t.n + 1) [] e.ss
  op : ∀ (i : Nat) t e d, M.T.ops[i]? = some t → M.opE[i]? = some e → M.defs[e.j]? = some d → BindOk K d.d d.ps 2 [] e.ss
section
variable {M : Mod} {Fx : Facts} {K : PySem.W.Frag} {h : Heap} {mg : Str → Option Value}
theorem ent_inv {e : Option EntI} {f : DefI → Bool} (b : M.ent e f = true) : ∃ en d, e = some en ∧ M.defs[en.j]? = some d ∧ f d = true := by
  unfold Mod.ent at b
  split at b
  · split at b
    · exact ⟨_, _, rfl, by assumption, b⟩
    · cases b
  · cases b
theorem mok (hT : M.T.fld = Fx.fldT ∧ M.T.isi = Fx.isiT ∧ M.T.own = Fx.ownT) (X : K.In h) (G : h.Ns mainGlobals mg) (c : He.SaysD [] (M.defs.map (·.d)) K) (b : M.okB Fx K = true) (st : M.stB = true) (bn : M.Binds K) : MOk M (Fx.rc K) mg := by
  obtain ⟨b1, b⟩ := He.ba b
  obtain ⟨b2, b⟩ := He.ba b
  obtain ⟨b3, b⟩ := He.ba b
  obtain ⟨b4, b⟩ := He.ba b
  obtain ⟨b5, b⟩ := He.ba b
  obtain ⟨b6, b⟩ := He.ba b
  obtain ⟨b7, b⟩ := He.ba b
  obtain ⟨b8, b⟩ := He.ba b
  obtain ⟨b10, b⟩ := He.ba b
  obtain ⟨b11, b9⟩ := He.ba b
  refine ⟨fun j d e => ?_, fun i t e => ?_, fun i t e => ?_, fun i t e => ?_, fun i t e => ?_, fun x d e => ?_, ?_, ?_, fun x hx => ?_, fun c op h => List.all_eq_true.mp b10 (c, op) h, fun c op h => List.all_eq_true.mp b11 (c, op) h⟩
  · have := List.all_eq_true.mp st d (List.mem_of_getElem? e)
    obtain ⟨z1, z⟩ := He.ba this
    obtain ⟨z2, z3⟩ := He.ba z
    exact ⟨c.def_ j (d := d.d) (by rw [List.getElem?_map, e]; rfl), scB_ok z1, z2, z3⟩
  · have := List.all_eq_true.mp b1 (t, i) (List.mem_zipIdx_iff_getElem?.mpr e)
    obtain ⟨en, d, e1, e2, z⟩ := ent_inv this
    obtain ⟨z1, z2⟩ := He.ba z
    refine ⟨en, d, e1, e2, ?_, bn.fn i t en d e e1 e2⟩
    rw [of_decide_eq_true z1]
    exact He.glo_ok X G z2
  · have := List.all_eq_true.mp b2 (t, i) (List.mem_zipIdx_iff_getElem?.mpr e)
    obtain ⟨en, d, e1, e2, z⟩ := ent_inv this
    obtain ⟨z1, z⟩ := He.ba z
    obtain ⟨z2, z⟩ := He.ba z
    obtain ⟨z3, z4⟩ := He.ba z
    have z2 : Fx.nm t.c = t.name := of_decide_eq_true z2
    have ec : (Fx.rc K).cA t.c = He.ga K t.name := by
      show He.ga K (Fx.nm t.c) = _
      rw [z2]
    refine ⟨en, d, e1, e2, ?_, ?_, bn.mkk i t en d e e1 e2⟩
    · rw [ec]; exact He.glo_ok X G z3
    · rw [ec, of_decide_eq_true z1]
      exact He.mkr_ok z4
  · have := List.all_eq_true.mp b3 (t, i) (List.mem_zipIdx_iff_getElem?.mpr e)
    obtain ⟨en, d, e1, e2, z⟩ := ent_inv this
    obtain ⟨z1, z⟩ := He.ba z
    obtain ⟨z2, z3⟩ := He.ba z
    refine ⟨en, d, e1, e2, ?_, He.cls_ok z3, bn.mt i t en d e e1 e2⟩
    rw [of_decide_eq_true z1]
    exact He.meth_ok z2
  · have := List.all_eq_true.mp b4 (t, i) (List.mem_zipIdx_iff_getElem?.mpr e)
    obtain ⟨en, d, e1, e2, z⟩ := ent_inv this
    obtain ⟨z1, z⟩ := He.ba z
    obtain ⟨z2, z3⟩ := He.ba z
    obtain ⟨q1, q2, _⟩ := He.meth_ok z2
    refine ⟨en, d, e1, e2, ?_, ?_, z3, bn.op i t en d e e1 e2⟩
    · rw [of_decide_eq_true z1]; exact q1
    · rw [of_decide_eq_true z1]; exact q2
  · exact gl_ok X G (List.all_eq_true.mp b5 (x, d) (lookup_in e))
  · rw [hT.1]; exact fld_ok b6
  · rw [hT.2.1, hT.2.2]; exact isi_ok b7 b8
  · exact He.free_ok X G (List.all_eq_true.mp b9 x hx)
end
/-! ### the law -/
theorem rl_start {R : Rc} (hP : R.P = fun _ => none) (H : Hp) : Rl R [] H [] H where
  sub := Same.refl _
  len := rfl
  cell := fun n a c e => by simp at e
  inj := fun n m a c c' e => by simp at e
  out := fun n a c e => by simp at e
  prot := fun a o e => by rw [hP] at e; cases e
  pout := fun n a c e => by simp at e
  pf := fun a o e => by rw [hP] at e; cases e
theorem law_sp {K : PySem.W.Frag} {Fx : Facts} {sem : Sem1} (hs : ∀ ns : List Int, ns.length ≤ 63 → ∃ μ', sem [.klst (ns.map D.int)] [] = some (.ok (.bl true), μ')) (H : Hp) (a : Addr) (ns : List Int) (hl : ns.length ≤ 63) (hS : SqL K H a (ns.map V.int)) :
    spD (Fx.rc K) sem [.ref a] H (fun v _ => v = .bl true) fun _ _ _ => False := by
  obtain ⟨μ', e⟩ := hs ns hl
  have rl : RepL (Fx.rc K) [] H (ns.map V.int) (ns.map D.int) := by
    induction ns with
    | nil => exact .nil
    | cons i ns ih => exact .cons (.int i) (by
        clear e hS
        have : ∀ l : List Int, RepL (Fx.rc K) [] H (l.map V.int) (l.map D.int) := fun l => by
          induction l with
          | nil => exact .nil
          | cons i l ih => exact .cons (.int i) ih
        exact this ns)
  refine ⟨[], H, [], [.klst (ns.map D.int)], _, μ', .cons (.klst hS rl.length (paired_ix rl)) .nil, rl_start rfl H, e, fun α' F' H' v n rr => ?_⟩
  cases rr
  rfl
/-- the whole: the run of the top, then the law's evaluation -/
theorem facts_law {M : Mod} {Fx : Facts} (hT : M.T.fld = Fx.fldT ∧ M.T.isi = Fx.isiT ∧ M.T.own = Fx.ownT) (st : M.stB = true) (bn : ∀ K, M.Binds K) {k j : Nat} {d : DefI} {x : Str} (hd : M.defs[j]? = some d) (hat : d.d.at_ = (("law" : Str), (none : Option Str))) (hps : d.ps = [x])
    (hdf : d.d.dfl = []) (hb : ∀ (kV doc pm : Value) (an : Option Addr) (cdv ct v : Value), bindArgs (PySem.W.fnOf d.d.name d.d.qual d.d.params d.d.body d.d.scope .none kV doc pm an cdv ct) ⟨[v], []⟩ = pure [(x, v)])
    (hev : ∀ ns : List Int, ns.length ≤ 63 → ∃ μ', M.lev (k + 1) j [.klst (ns.map D.int)] [] = some (.ok (.bl true), μ'))
    {P : Program} {w : World} {K : PySem.W.Frag} {h : Heap} {mg : Str → Option Value} {f : Addr} (X : K.In h) (G : h.Ns mainGlobals mg) (hfa : mg ("law" : Str) = some (.ref f)) (c : He.SaysD [] (M.defs.map (·.d)) K) (b : M.okB Fx K = true) (gl : (He.Fa.glo "law").ok K = true) :
    ∃ (fd : FuncData) (sp : Sp), (∀ (s : Shared) (v : Value), BindsTo s fd ⟨[v], []⟩ [(x, v)]) ∧ (∀ (H : Hp) (a : Addr) (ns : List Int), ns.length ≤ 63 → SqL K H a (ns.map V.int) → sp [.ref a] H (fun v _ => v = .bl true) fun _ _ _ => False) ∧
      ∀ base : Heap, K.In base → base.Ns mainGlobals mg → FnOk P w K mg base (L2.CX P w) (2 * k + 3) f fd [x] sp := by
  have m := mok hT X G c b st (bn K)
  obtain ⟨⟨fd, F⟩, sc, ck, df⟩ := m.defs j d hd
  have e := hfa.symm.trans (He.glo_ok X G gl)
  cases e
  have ea : He.fAd (Fx.rc K).K d.d.at_ = He.ga K "law" := by rw [hat]; rfl
  have F := F
  rw [ea] at F
  refine ⟨fd, spD (Fx.rc K) (runB d.ps.length d.N.length (xvs M.T (M.sems (M.lev k)) d.q)), fun s v => ?_, fun H a ns hl hS => law_sp (fun ns hl => ?_) H a ns hl hS, fun base KB GB => ?_⟩
  · have e : d.d.dvs K = [] := by unfold He.DefD.dvs; rw [hdf]; rfl
    obtain ⟨kl, dct, dfs, kwd, txt, md, ann, code, ctv, slt, rfl, lk, hcd, hD, hK⟩ := F.ex
    have hD : DflV K dfs (d.d.dvs K) := hD
    rw [e] at hD
    rcases hD with ⟨_, rfl⟩ | ⟨z, _⟩
    · exact .of_eq (hb kwd txt md ann code ctv v)
    · exact absurd rfl z
  · obtain ⟨μ', e⟩ := hev ns hl
    refine ⟨μ', ?_⟩
    have : M.lev (k + 1) j = runB d.ps.length d.N.length (xvs M.T (M.sems (M.lev k)) d.q) := by
      show (match M.defs[j]? with
        | some d => runB d.ps.length d.N.length (xvs M.T (M.sems (Mod.lev M k)) d.q)
        | none => bot) = _
      rw [hd]
    rw [← this]
    exact e
  · have z := fn_ok (P := P) (w := w) (base := base) (mg := mg) F sc (tok m k) ck
    rw [hps] at z
    rw [hps]
    exact z
/-- a law's end, where what a call lets out depends on the world -/
theorem walk_ofW {l : PySem.W.OpenLaw} {n k : Nat} {q : Program} {loose : List Str} {XP : (Str → Option Value) → Heap → Prop} {YP : World → Heap → Prop} {d : DefRec} {x : Str} (most : l.most = some n) (fits : n ≤ sizeLine) (plain : d.params.defaults = []) (room : Room k callerA)
    (promise : ∀ w mg fa h, YP w h → Heap.Ns h mainGlobals mg → mg d.name = some (.ref fa) → ∃ (K : PySem.W.Frag) (fd : FuncData) (sp : Sp), K.In h ∧ (∀ s u, BindsTo s fd ⟨[u], []⟩ [(x, u)]) ∧
      (∀ H a (ns : List Int), ns.length ≤ n → SqL K H a (ns.map V.int) → sp [.ref a] H (fun v _ => v = .bl true) fun _ _ _ => False) ∧ ∀ base : Heap, K.In base → base.Ns mainGlobals mg → FnOk l.prog w K mg base (L2.CX l.prog w) k fa fd [x] sp) :
    PySem.W.WalkO q loose XP YP l.row.toRowW d [] (fun f vs => PySem.call f vs) := by
  refine LamX.walk_ofTsE (CX := fun w => L2.CX l.prog w) (x := x) most fits plain room ?_ ?_
  · intro w mg fa h Y g at_
    obtain ⟨K, fd, sp, here, binds, meets, fn⟩ := promise w mg fa h Y g at_
    refine ⟨K, here, fd, [], sp, ?_, ?_, ?_, binds, ?_, ?_⟩
    · rintro p ⟨⟩
    · rintro p ⟨⟩
    · rintro p ⟨⟩
    · intro H a ns few _ _
      exact meets H a ns few
    · intro base kin names _
      exact fn base kin names
  · rintro w H s e s' ⟨_, _, _, _, _, _, _, _, _, _, _, _, z⟩
    exact z
end DL
/-! DL23: the evaluator's equations, for simp. -/
namespace DL
open PySem PySem.Spec L2
section
variable {T : Tab} {G : Sems}
@[simp] theorem s_bind {α β : Type} (m : Ev α) (k : α → Ev β) (μ : Store) : Ev.bind m k μ = match m μ with
  | none => none
  | some (.ok a, μ1) => k a μ1
  | some (.err x, μ1) => some (.err x, μ1) := rfl
@[simp] theorem s_op {α : Type} (o : Store → Option (α × Store)) (μ : Store) : Ev.op o μ = match o μ with
  | none => none
  | some (a, μ1) => some (.ok a, μ1) := rfl
@[simp] theorem s_ret {α : Type} (a : α) (μ : Store) : Ev.ret a μ = some (.ok a, μ) := rfl
@[simp] theorem s_var (i : Nat) (ρ : Rho) (μ : Store) : mVar i ρ μ = match ρ[i]? with
  | some (some d) => some (.ok d, μ)
  | _ => none := rfl
@[simp] theorem s_c (d : D) (ρ : Rho) (μ : Store) : mC d ρ μ = some (.ok d, μ) := rfl
@[simp] theorem s_op2 (f : Op2) (ma mb : Rho → Ev D) (ρ : Rho) : mOp2 f ma mb ρ = (ma ρ).bind fun a => (mb ρ).bind fun b => Ev.op (f a b) := rfl
@[simp] theorem s_op1 (f : Op1) (ma : Rho → Ev D) (ρ : Rho) : mOp1 f ma ρ = (ma ρ).bind fun a => Ev.op (f a) := rfl
@[simp] theorem s_nil (ρ : Rho) (μ : Store) : mNil ρ μ = some (.ok [], μ) := rfl
@[simp] theorem s_cons (m : Rho → Ev D) (r : Rho → Ev (List D)) (ρ : Rho) : mCons m r ρ = (m ρ).bind fun d => (r ρ).bind fun ds => Ev.ret (d :: ds) := rfl
@[simp] theorem s_mN (f : OpN) (m : Rho → Ev (List D)) (ρ : Rho) : mN f m ρ = (m ρ).bind fun ds => Ev.op (f ds) := rfl
@[simp] theorem s_bm (T : String) (f : OpM1) (mo : Rho → Ev D) (ma : Rho → Ev (List D)) (ρ : Rho) : mBM T f mo ma ρ = (mo ρ).bind fun o => fun μ => if isT T o μ = true then ((ma ρ).bind fun ds => Ev.op (f o ds)) μ else none := rfl
@[simp] theorem s_tru (d : D) (μ : Store) : tru d μ = match truD d μ with
  | none => none
  | some b => some (.ok b, μ) := by
  simp only [tru, Ev.op]
  cases truD d μ <;> rfl
@[simp] theorem s_mTru (m : Rho → Ev D) (ρ : Rho) : mTru m ρ = (m ρ).bind tru := rfl
@[simp] theorem s_and (ma mb : Rho → Ev D) (ρ : Rho) : mAnd ma mb ρ = (ma ρ).bind fun a => (tru a).bind fun c => if c = true then mb ρ else Ev.ret a := rfl
@[simp] theorem s_or (ma mb : Rho → Ev D) (ρ : Rho) : mOr ma mb ρ = (ma ρ).bind fun a => (tru a).bind fun c => if c = true then Ev.ret a else mb ρ := rfl
@[simp] theorem s_not (ma : Rho → Ev D) (ρ : Rho) : mNot ma ρ = (ma ρ).bind fun a => (tru a).bind fun c => Ev.ret (.bl (!c)) := rfl
@[simp] theorem s_mIf (mc ma mb : Rho → Ev D) (ρ : Rho) : mIf mc ma mb ρ = (mTru mc ρ).bind fun c => if c = true then ma ρ else mb ρ := rfl
@[simp] theorem s_chain (f g : Op2) (ma mb mc : Rho → Ev D) (ρ : Rho) : mChain f g ma mb mc ρ = (ma ρ).bind fun a => (mb ρ).bind fun b => (Ev.op (f a b)).bind fun z => match z with
  | .bl true => (mc ρ).bind fun c => Ev.op (g b c)
  | .bl false => Ev.ret (.bl false)
  | _ => fun _ => none := rfl
@[simp] theorem s_args (n m : Nat) (ma mk : Rho → Ev (List D)) (g : Sem1) (ρ : Rho) : mArgs n m ma mk g ρ = (ma ρ).bind fun xs => (mk ρ).bind fun ys => if xs.length = n ∧ ys.length = m then g (xs ++ ys) else fun _ => none := rfl
@[simp] theorem s_meth (c : Nat) (m : Str) (n j : Nat) (mo : Rho → Ev D) (ma mk : Rho → Ev (List D)) (g : Sem1) (ρ : Rho) : mMeth c m n j mo ma mk g ρ = (mo ρ).bind fun o => fun μ => match insOf o μ with
  | some (c', fs) => if c' = c ∧ fs.lookup m = none then (mArgs n j ma mk (fun xs => g (o :: xs)) ρ) μ else none
  | none => none := rfl
@[simp] theorem s_own (c : Nat) (ma mb : Rho → Ev D) (g : Sem1) (ρ : Rho) : mOwn c ma mb g ρ = (ma ρ).bind fun a => (mb ρ).bind fun b => fun μ => match insOf a μ, insOf b μ with
  | some (c1, _), some (c2, _) => if c1 = c ∧ c2 = c then g [a, b] μ else none
  | _, _ => none := rfl
theorem s_semMk (c : Nat) (fz : Bool) (sem : Sem1) (ds : List D) (μ : Store) : semMk c fz sem ds μ = match sem (.loc μ.length :: ds) (μ ++ [.ins c []]) with
  | some (.ok .non, μ') => if fz then (match freezeD μ.length μ' with
      | some (d, μ2) => some (.ok d, μ2)
      | none => none) else some (.ok (.loc μ.length), μ')
  | some (.err x, μ') => some (.err x, μ')
  | _ => none := rfl
@[simp] theorem s_mSeq (m : Rho → Ev D) (ρ : Rho) : mSeq m ρ = (m ρ).bind fun d μ => match sqPure d with
  | none => none
  | some ds => some (.ok ds, μ) := by
  unfold mSeq
  congr 1
  funext d μ
  cases sqPure d <;> rfl
@[simp] theorem s_mRange (m : Rho → Ev (List D)) (ρ : Rho) : mRange m ρ = (m ρ).bind fun ds μ => match ds with
  | [.int j] => guardD (bndI j) (.ok (rngD 0 j.toNat), μ)
  | [.int i, .int j] => guardD (bndI i && bndI j) (.ok (rngD i (j - i).toNat), μ)
  | _ => none := rfl
@[simp] theorem s_mZip (m : Rho → Ev (List D)) (ρ : Rho) : mZip m ρ = (m ρ).bind fun ds μ => match ds with
  | [.tup xs, .tup ys] => some (.ok (zipDs xs ys), μ)
  | [.lst xs, .lst ys] => some (.ok (zipDs xs ys), μ)
  | [.klst xs, .lst ys] => some (.ok (zipDs xs ys), μ)
  | _ => none := rfl
@[simp] theorem s_lc (mi : Rho → Ev (List D)) (g : Tgt) (c : Rho → Ev Bool) (f : Rho → Ev D) (vs : List Nat) (ρ : Rho) (μ : Store) : mLc mi g c f vs ρ μ = match mi ρ μ with
  | some (.ok ds, μ1) => if ds.length ≤ sizeLine then (match compL g c f (wipeR ρ vs) ds μ1 with
      | some (.ok ys, μ2) => some (.ok (.lst ys), μ2)
      | _ => none) else none
  | some (.err x, μ1) => some (.err x, μ1)
  | none => none := rfl
@[simp] theorem s_yes (ρ : Rho) (μ : Store) : mYes ρ μ = some (.ok true, μ) := rfl
/-! statements -/
@[simp] theorem s_xBind (m : Rho → Ev D) (k : D → Ex) (ρ : Rho) (μ : Store) : xBind m k ρ μ = match m ρ μ with
  | some (.ok d, μ1) => k d ρ μ1
  | some (.err x, μ1) => some (.er x ρ, μ1)
  | none => none := rfl
@[simp] theorem s_xTest (m : Rho → Ev Bool) (k : Bool → Ex) (ρ : Rho) (μ : Store) : xTest m k ρ μ = match m ρ μ with
  | some (.ok d, μ1) => k d ρ μ1
  | some (.err x, μ1) => some (.er x ρ, μ1)
  | none => none := rfl
@[simp] theorem s_xSeq (m1 m2 : Ex) (ρ : Rho) (μ : Store) : xSeq m1 m2 ρ μ = match m1 ρ μ with
  | some (.nx ρ', μ1) => m2 ρ' μ1
  | r => r := rfl
@[simp] theorem s_xNil (ρ : Rho) (μ : Store) : xNil ρ μ = some (.nx ρ, μ) := rfl
@[simp] theorem s_xExpr (m : Rho → Ev D) : xExpr m = xBind m fun _ => xNil := rfl
@[simp] theorem s_xRet (m : Rho → Ev D) : xRet m = xBind m fun d _ μ => some (.rt d, μ) := rfl
@[simp] theorem s_xIf (m : Rho → Ev Bool) (a b : Ex) : xIf m a b = xTest m fun c => if c = true then a else b := rfl
@[simp] theorem s_xAsg (m : Rho → Ev D) (g : Tgt) : xAsg m g = xBind m fun d ρ μ => match g d ρ with
  | some ρ' => some (.nx ρ', μ)
  | none => none := by
  unfold xAsg
  congr 1
  funext d ρ μ
  cases g d ρ <;> rfl
@[simp] theorem s_gNm (i : Nat) (d : D) (ρ : Rho) : gNm i d ρ = if i < ρ.length then some (ρ.set i (some d)) else none := rfl
@[simp] theorem s_gTup (n : Nat) (u : List D → Rho → Option Rho) (ds : List D) (ρ : Rho) : gTupD n u (.tup ds) ρ = if ds.length = n then u ds ρ else none := rfl
@[simp] theorem s_gsNil (ρ : Rho) : gsNil [] ρ = some ρ := rfl
@[simp] theorem s_gsCons (g : Tgt) (r : List D → Rho → Option Rho) (d : D) (ds : List D) (ρ : Rho) : gsCons g r (d :: ds) ρ = match g d ρ with
  | some ρ1 => r ds ρ1
  | none => none := by
  simp only [gsCons]
  cases g d ρ <;> rfl
@[simp] theorem s_tgTupN (ts : Tgs) : tgOf (.tupN ts) = gTupD (tgsLen ts) (tgsOf ts) := rfl
@[simp] theorem s_tgSeq (ts : Tgs) : tgOf (.seq ts) = gSeqD (tgsLen ts) (tgsOf ts) := rfl
@[simp] theorem s_tgsNil : tgsOf .nil = gsNil := rfl
@[simp] theorem s_tgsCons (t : Tg) (r : Tgs) : tgsOf (.cons t r) = gsCons (tgOf t) (tgsOf r) := rfl
@[simp] theorem s_tglNil : tgsLen .nil = 0 := rfl
@[simp] theorem s_tglCons (t : Tg) (r : Tgs) : tgsLen (.cons t r) = tgsLen r + 1 := rfl
@[simp] theorem s_gSeq (n : Nat) (u : List D → Rho → Option Rho) (ds : List D) (ρ : Rho) : gSeqD n u (.lst ds) ρ = if ds.length = n then u ds ρ else none := rfl
@[simp] theorem s_gSeqK (n : Nat) (u : List D → Rho → Option Rho) (ds : List D) (ρ : Rho) : gSeqD n u (.klst ds) ρ = if ds.length = n then u ds ρ else none := rfl
@[simp] theorem s_mSlice (ma : Rho → Ev D) (ml mh : Option (Rho → Ev D)) (ρ : Rho) : mSlice ma ml mh ρ = (ma ρ).bind fun a => (mPart ml ρ).bind fun l => (mPart mh ρ).bind fun h => Ev.op (sliceD a l h) := rfl
@[simp] theorem s_ownI (c : Nat) (ma mb : Rho → Ev D) (g : Sem1) (ρ : Rho) : mOwnI c ma mb g ρ = (ma ρ).bind fun a => (mb ρ).bind fun b => fun μ => match insOf a μ, b with
  | some (c1, _), .int _ => if c1 = c then g [a, b] μ else none
  | _, _ => none := rfl
@[simp] theorem s_iOwn (c : Nat) (ma mb : Rho → Ev D) (g : Sem1) (ρ : Rho) : mIOwn c ma mb g ρ = (ma ρ).bind fun a => (mb ρ).bind fun b => fun μ => match a, insOf b μ with
  | .int _, some (c1, _) => if c1 = c then g [b, a] μ else none
  | _, _ => none := rfl
@[simp] theorem s_ownU (c : Nat) (ma : Rho → Ev D) (g : Sem1) (ρ : Rho) : mOwnU c ma g ρ = (ma ρ).bind fun a => fun μ => match insOf a μ with
  | some (c1, _) => if c1 = c then g [a] μ else none
  | _ => none := rfl
@[simp] theorem s_absO (c : Nat) (ms : Rho → Ev (List D)) (g : Sem1) (ρ : Rho) : mAbsO c ms g ρ = (ms ρ).bind fun ds => fun μ => match ds with
  | [a] => (match insOf a μ with
    | some (c1, _) => if c1 = c then g [a] μ else none
    | none => none)
  | _ => none := rfl
@[simp] theorem s_mSeqS (m : Rho → Ev D) (ρ : Rho) : mSeqS m ρ = (m ρ).bind fun d μ => match d with
  | .str x => some (.ok (chD x), μ)
  | _ => none := rfl
@[simp] theorem s_xPar3 (i j l : Nat) (ma : Rho → Ev (List D)) (ρ : Rho) (μ : Store) : xPar3 i j l ma ρ μ = match ma ρ μ with
  | some (.ok [x, y, z], μ1) => if i < ρ.length ∧ j < ρ.length ∧ l < ρ.length then some (.nx (((ρ.set i (some x)).set j (some y)).set l (some z)), μ1) else none
  | some (.err x, μ1) => some (.er x ρ, μ1)
  | _ => none := rfl
@[simp] theorem s_lc2 (mi : Rho → Ev (List D)) (g : Tgt) (c : Rho → Ev Bool) (mi1 : Rho → Ev (List D)) (g1 : Tgt) (c1 : Rho → Ev Bool) (f : Rho → Ev D) (vs vs1 : List Nat) (ρ : Rho) (μ : Store) : mLc2 mi g c mi1 g1 c1 f vs vs1 ρ μ = match mi ρ μ with
  | some (.ok ds, μ1) => (match compL2 g c mi1 vs1 g1 c1 f (wipeR ρ vs) ds μ1 with
      | some (.ok ys, μ2) => if ys.length ≤ sizeLine then some (.ok (.lst ys), μ2) else none
      | _ => none)
  | some (.err x, μ1) => some (.err x, μ1)
  | none => none := rfl
@[simp] theorem s_dc2 (mi : Rho → Ev (List D)) (g : Tgt) (c : Rho → Ev Bool) (mi1 : Rho → Ev (List D)) (g1 : Tgt) (c1 : Rho → Ev Bool) (fk fv : Rho → Ev D) (vs vs1 : List Nat) (ρ : Rho) (μ : Store) : mDc2 mi g c mi1 g1 c1 fk fv vs vs1 ρ μ = match mi ρ μ with
  | some (.ok ds, μ1) => (match compD2 g c mi1 vs1 g1 c1 fk fv (wipeR ρ vs) ds [] μ1 with
      | some (.ok es, μ2) => some (.ok (.dct 0 es), μ2)
      | _ => none)
  | some (.err x, μ1) => some (.err x, μ1)
  | none => none := rfl
@[simp] theorem s_tgNm (i : Nat) : tgOf (.nm i) = gNm i := rfl
@[simp] theorem s_tgTup (ts : List Nat) : tgOf (.tup ts) = gTupD ts.length (ts.foldr (fun i r => gsCons (gNm i) r) gsNil) := rfl
@[simp] theorem s_xSub (mv mo mi : Rho → Ev D) : xSub mv mo mi = xBind mv fun v => xBind mo fun o => xBind mi fun i ρ μ => match setD o i v μ with
  | some μ' => some (.nx ρ, μ')
  | none => none := by
  unfold xSub
  congr 1
  funext v
  congr 1
  funext o
  congr 1
  funext i ρ μ
  cases setD o i v μ <;> rfl
@[simp] theorem s_xFld (T : Nat → Str → Bool) (f : Str) (mv mo : Rho → Ev D) : xFld T f mv mo = xBind mv fun v => xBind mo fun o ρ μ => match setF T f o v μ with
  | some μ' => some (.nx ρ, μ')
  | none => none := by
  unfold xFld
  congr 1
  funext v
  congr 1
  funext o ρ μ
  cases setF T f o v μ <;> rfl
@[simp] theorem s_xPar (i j : Nat) (ma : Rho → Ev (List D)) (ρ : Rho) (μ : Store) : xPar i j ma ρ μ = match ma ρ μ with
  | some (.ok [x, y], μ1) => if i < ρ.length ∧ j < ρ.length then some (.nx ((ρ.set i (some x)).set j (some y)), μ1) else none
  | some (.err x, μ1) => some (.er x ρ, μ1)
  | _ => none := rfl
@[simp] theorem s_xFrz (i : Nat) (m : Ex) (ρ : Rho) (μ : Store) : xFrz i m ρ μ = match ρ[i]? with
  | some (some (.loc n)) => (match freezeD n μ with
    | some (d, μ2) => m (ρ.set i (some d)) μ2
    | none => none)
  | _ => none := rfl
@[simp] theorem s_xFor (mi : Rho → Ev (List D)) (g : Tgt) (b : Ex) (ρ : Rho) (μ : Store) : xFor mi g b ρ μ = match mi ρ μ with
  | some (.ok ds, μ1) => forL g b ds ρ μ1
  | some (.err x, μ1) => some (.er x ρ, μ1)
  | none => none := rfl
@[simp] theorem s_xAugO (i c : Nat) (me : Rho → Ev D) (g : Sem1) (ρ : Rho) (μ : Store) : xAugO i c me g ρ μ = match ρ[i]? with
  | some (some x) => (match me ρ μ with
    | some (.ok y, μ1) => (match insOf x μ1 with
      | some (c1, _) => if c1 = c then (match g [x, y] μ1 with
          | some (.ok z, μ2) => some (.nx (ρ.set i (some z)), μ2)
          | some (.err e, μ2) => some (.er e ρ, μ2)
          | none => none) else none
      | none => none)
    | some (.err e, μ1) => some (.er e ρ, μ1)
    | none => none)
  | _ => none := rfl
@[simp] theorem s_runB (np nN : Nat) (m : Ex) (ds : List D) (μ : Store) : runB np nN m ds μ = if ds.length = np then (match m (ds.map some ++ List.replicate (nN - np) none) μ with
  | some (.nx _, μ') => some (.ok .non, μ')
  | some (.rt d, μ') => some (.ok d, μ')
  | some (.er x _, μ') => some (.err x, μ')
  | _ => none) else none := rfl

@[simp] theorem se_var (i : Nat) : ev T G (.var i) = mVar i := rfl
@[simp] theorem se_int (i : Int) : ev T G (.int i) = mC (.int i) := rfl
@[simp] theorem se_str (s : Str) : ev T G (.str s) = mC (.str s) := rfl
@[simp] theorem se_bl (b : Bool) : ev T G (.bl b) = mC (.bl b) := rfl
@[simp] theorem se_non  : ev T G .non = mC .non := rfl
@[simp] theorem se_gl (x : Str) : ev T G (.gl x) = fun _ μ => (T.gls.lookup x).map fun d => (.ok d, μ) := rfl
@[simp] theorem se_bin (op : Operator) (a : E) (b : E) : ev T G (.bin op a b) = mOp2 (binD op) (ev T G a) (ev T G b) := rfl
@[simp] theorem se_cmp (op : CmpOp) (a : E) (b : E) : ev T G (.cmp op a b) = mOp2 (cmpD op) (ev T G a) (ev T G b) := rfl
@[simp] theorem se_chain (o1 : CmpOp) (o2 : CmpOp) (a : E) (b : E) (c : E) : ev T G (.chain o1 o2 a b c) = mChain (cmpD o1) (cmpD o2) (ev T G a) (ev T G b) (ev T G c) := rfl
@[simp] theorem se_and_ (a : E) (b : E) : ev T G (.and_ a b) = mAnd (ev T G a) (ev T G b) := rfl
@[simp] theorem se_or_ (a : E) (b : E) : ev T G (.or_ a b) = mOr (ev T G a) (ev T G b) := rfl
@[simp] theorem se_not_ (a : E) : ev T G (.not_ a) = mNot (ev T G a) := rfl
@[simp] theorem se_ite (c : E) (a : E) (b : E) : ev T G (.ite c a b) = mIf (ev T G c) (ev T G a) (ev T G b) := rfl
@[simp] theorem se_neg (a : E) : ev T G (.neg a) = mOp1 negD (ev T G a) := rfl
@[simp] theorem se_inv (a : E) : ev T G (.inv a) = mOp1 invD (ev T G a) := rfl
@[simp] theorem se_tup (es : Es) : ev T G (.tup es) = mN oTup (evs T G es) := rfl
@[simp] theorem se_lst (es : Es) : ev T G (.lst es) = mN oLst (evs T G es) := rfl
@[simp] theorem se_newL (es : Es) : ev T G (.newL es) = mN oNewL (evs T G es) := rfl
@[simp] theorem se_idx (a : E) (b : E) : ev T G (.idx a b) = mOp2 ixD (ev T G a) (ev T G b) := rfl
@[simp] theorem se_attr (a : E) (f : Str) : ev T G (.attr a f) = mOp1 (attrD T.fld f) (ev T G a) := rfl
@[simp] theorem se_call (i : Nat) (es : Es) (ks : Es) : ev T G (.call i es ks) = (match T.fns[i]? with
    | some t => mArgs t.n t.kn.length (evs T G es) (evs T G ks) (G.fn i)
    | none => fun _ _ => none) := rfl
@[simp] theorem se_mk (i : Nat) (fz : Bool) (es : Es) (ks : Es) : ev T G (.mk i fz es ks) = (match T.mks[i]? with
    | some t => mArgs t.n t.kn.length (evs T G es) (evs T G ks) (semMk t.c fz (G.mkr i))
    | none => fun _ _ => none) := rfl
@[simp] theorem se_mth (i : Nat) (o : E) (es : Es) : ev T G (.mth i o es) = (match T.mts[i]? with
    | some t => mMeth t.c t.m t.n 0 (ev T G o) (evs T G es) mNil (G.mt i)
    | none => fun _ _ => none) := rfl
@[simp] theorem se_ownB (i : Nat) (u1 : Operator) (a : E) (b : E) : ev T G (.ownB i u1 a b) = (match T.ops[i]? with
    | some t => mOwn t.1 (ev T G a) (ev T G b) (G.op i)
    | none => fun _ _ => none) := rfl
@[simp] theorem se_ownC (i : Nat) (u1 : CmpOp) (a : E) (b : E) : ev T G (.ownC i u1 a b) = (match T.ops[i]? with
    | some t => mOwn t.1 (ev T G a) (ev T G b) (G.op i)
    | none => fun _ _ => none) := rfl
@[simp] theorem se_bi (b : Bi) (es : Es) : ev T G (.bi b es) = mN (evBi T b) (evs T G es) := rfl
@[simp] theorem se_bm (b : Bm) (o : E) (es : Es) : ev T G (.bm b o es) = mBM "list" (evBm b) (ev T G o) (evs T G es) := rfl
theorem se_lc (elt : E) (g : Tg) (it : It1) (c : Es) (own : List (Str × Nat)) : ev T G (.lc elt g it c own) = mLc (evI T G it) (tgOf g) (evC T G c) (ev T G elt) (own.map (·.2)) := rfl
@[simp] theorem se_slice (a : E) (lo : Es) (hi : Es) : ev T G (.slice a lo hi) = mSlice (ev T G a) (evO T G lo) (evO T G hi) := rfl
@[simp] theorem se_sm (b : Sm) (o : E) (es : Es) : ev T G (.sm b o es) = mBM "str" (evSm b) (ev T G o) (evs T G es) := rfl
@[simp] theorem se_ownI (i : Nat) (u1 : Operator) (a : E) (b : E) : ev T G (.ownI i u1 a b) = (match T.ops[i]? with
    | some t => mOwnI t.1 (ev T G a) (ev T G b) (G.op i)
    | none => fun _ _ => none) := rfl
@[simp] theorem se_iOwn (i : Nat) (u1 : Operator) (a : E) (b : E) : ev T G (.iOwn i u1 a b) = (match T.ops[i]? with
    | some t => mIOwn t.1 (ev T G a) (ev T G b) (G.op i)
    | none => fun _ _ => none) := rfl
@[simp] theorem se_ownU (i : Nat) (u1 : UnaryOp) (a : E) : ev T G (.ownU i u1 a) = (match T.mts[i]? with
    | some t => mOwnU t.c (ev T G a) (G.mt i)
    | none => fun _ _ => none) := rfl
@[simp] theorem se_absO (i : Nat) (es : Es) : ev T G (.absO i es) = (match T.mts[i]? with
    | some t => mAbsO t.c (evs T G es) (G.mt i)
    | none => fun _ _ => none) := rfl
theorem se_lc2 (elt : E) (g : Tg) (it : It1) (c : Es) (g1 : Tg) (it1 : It1) (c1 : Es) (own : List (Str × Nat)) (vs1 : List Nat) : ev T G (.lc2 elt g it c g1 it1 c1 own vs1) = mLc2 (evI T G it) (tgOf g) (evC T G c) (evI T G it1) (tgOf g1) (evC T G c1) (ev T G elt) (own.map (·.2)) vs1 := rfl
theorem se_dc2 (kx : E) (vx : E) (g : Tg) (it : It1) (c : Es) (g1 : Tg) (it1 : It1) (c1 : Es) (own : List (Str × Nat)) (vs1 : List Nat) : ev T G (.dc2 kx vx g it c g1 it1 c1 own vs1) = mDc2 (evI T G it) (tgOf g) (evC T G c) (evI T G it1) (tgOf g1) (evC T G c1) (ev T G kx) (ev T G vx) (own.map (·.2)) vs1 := rfl
@[simp] theorem ses_nil : evs T G .nil = mNil := rfl
@[simp] theorem ses_cons (e : E) (r : Es) : evs T G (.cons e r) = mCons (ev T G e) (evs T G r) := rfl
@[simp] theorem sec_nil : evC T G .nil = mYes := rfl
@[simp] theorem sec_one (e : E) : evC T G (.cons e .nil) = mTru (ev T G e) := rfl
@[simp] theorem sei_seq (e : E) : evI T G (.seq e) = mSeq (ev T G e) := rfl
@[simp] theorem sei_range (e : Es) : evI T G (.range e) = mRange (evs T G e) := rfl
@[simp] theorem sei_zip (e : Es) : evI T G (.zip e) = mZip (evs T G e) := rfl
@[simp] theorem sei_enum (e : Es) : evI T G (.enum e) = mEnum (evs T G e) := rfl
@[simp] theorem sei_txt (e : E) : evI T G (.txt e) = mSeqS (ev T G e) := rfl
@[simp] theorem seo_nil : evO T G .nil = none := rfl
@[simp] theorem seo_one (e : E) (r : Es) : evO T G (.cons e r) = some (ev T G e) := rfl
@[simp] theorem sx_expr (e : E) : xv T G (.expr e) = xExpr (ev T G e) := rfl
@[simp] theorem sx_ret (e : E) : xv T G (.ret e) = xRet (ev T G e) := rfl
@[simp] theorem sx_retN  : xv T G .retN = fun _ μ => some (.rt .non, μ) := rfl
@[simp] theorem sx_if_ (c : E) (a : List S) (b : List S) : xv T G (.if_ c a b) = xIf (mTru (ev T G c)) (xvs T G a) (xvs T G b) := rfl
@[simp] theorem sx_pass  : xv T G .pass = xNil := rfl
@[simp] theorem sx_brk  : xv T G .brk = fun ρ μ => some (.bk ρ, μ) := rfl
@[simp] theorem sx_cont  : xv T G .cont = fun ρ μ => some (.ct ρ, μ) := rfl
@[simp] theorem sx_never  : xv T G .never = fun _ _ => none := rfl
@[simp] theorem sx_asg (g : Tg) (e : E) : xv T G (.asg g e) = xAsg (ev T G e) (tgOf g) := rfl
@[simp] theorem sx_par (i : Nat) (j : Nat) (es : Es) : xv T G (.par i j es) = xPar i j (evs T G es) := rfl
@[simp] theorem sx_par3 (i : Nat) (j : Nat) (l : Nat) (es : Es) : xv T G (.par3 i j l es) = xPar3 i j l (evs T G es) := rfl
@[simp] theorem sx_sub (o : E) (i : E) (v : E) : xv T G (.sub o i v) = xSub (ev T G v) (ev T G o) (ev T G i) := rfl
@[simp] theorem sx_fld (o : E) (f : Str) (v : E) : xv T G (.fld o f v) = xFld T.fld f (ev T G v) (ev T G o) := rfl
theorem sx_for_ (g : Tg) (it : It1) (b : List S) : xv T G (.for_ g it b) = xFor (evI T G it) (tgOf g) (xvs T G b) := rfl
theorem sx_while_ (n : Nat) (c : E) (b : List S) : xv T G (.while_ n c b) = whileN (mTru (ev T G c)) (xvs T G b) n := rfl
@[simp] theorem sx_augO (i : Nat) (k : Nat) (u2 : Operator) (e : E) : xv T G (.augO i k u2 e) = (match T.ops[k]? with
    | some t => xAugO i t.1 (ev T G e) (G.op k)
    | none => fun _ _ => none) := rfl
@[simp] theorem sx_augI (i : Nat) (op : Operator) (e : E) : xv T G (.augI i op e) = xAugI i op (ev T G e) := rfl
@[simp] theorem sxs_nil : xvs T G [] = xNil := rfl
@[simp] theorem sxs_frz (i : Nat) (r : List S) : xvs T G (.frz i :: r) = xFrz i (xvs T G r) := rfl
@[simp] theorem sxs_expr (a0 : E) (r : List S) : xvs T G (.expr a0 :: r) = xSeq (xv T G (.expr a0)) (xvs T G r) := rfl
@[simp] theorem sxs_ret (a0 : E) (r : List S) : xvs T G (.ret a0 :: r) = xSeq (xv T G (.ret a0)) (xvs T G r) := rfl
@[simp] theorem sxs_retN  (r : List S) : xvs T G (.retN :: r) = xSeq (xv T G (.retN)) (xvs T G r) := rfl
@[simp] theorem sxs_if_ (a0 : E) (a1 : List S) (a2 : List S) (r : List S) : xvs T G (.if_ a0 a1 a2 :: r) = xSeq (xv T G (.if_ a0 a1 a2)) (xvs T G r) := rfl
@[simp] theorem sxs_pass  (r : List S) : xvs T G (.pass :: r) = xSeq (xv T G (.pass)) (xvs T G r) := rfl
@[simp] theorem sxs_brk  (r : List S) : xvs T G (.brk :: r) = xSeq (xv T G (.brk)) (xvs T G r) := rfl
@[simp] theorem sxs_cont  (r : List S) : xvs T G (.cont :: r) = xSeq (xv T G (.cont)) (xvs T G r) := rfl
@[simp] theorem sxs_never  (r : List S) : xvs T G (.never :: r) = xSeq (xv T G (.never)) (xvs T G r) := rfl
@[simp] theorem sxs_asg (a0 : Tg) (a1 : E) (r : List S) : xvs T G (.asg a0 a1 :: r) = xSeq (xv T G (.asg a0 a1)) (xvs T G r) := rfl
@[simp] theorem sxs_par (a0 : Nat) (a1 : Nat) (a2 : Es) (r : List S) : xvs T G (.par a0 a1 a2 :: r) = xSeq (xv T G (.par a0 a1 a2)) (xvs T G r) := rfl
@[simp] theorem sxs_par3 (a0 : Nat) (a1 : Nat) (a2 : Nat) (a3 : Es) (r : List S) : xvs T G (.par3 a0 a1 a2 a3 :: r) = xSeq (xv T G (.par3 a0 a1 a2 a3)) (xvs T G r) := rfl
@[simp] theorem sxs_sub (a0 : E) (a1 : E) (a2 : E) (r : List S) : xvs T G (.sub a0 a1 a2 :: r) = xSeq (xv T G (.sub a0 a1 a2)) (xvs T G r) := rfl
@[simp] theorem sxs_fld (a0 : E) (a1 : Str) (a2 : E) (r : List S) : xvs T G (.fld a0 a1 a2 :: r) = xSeq (xv T G (.fld a0 a1 a2)) (xvs T G r) := rfl
@[simp] theorem sxs_for_ (a0 : Tg) (a1 : It1) (a2 : List S) (r : List S) : xvs T G (.for_ a0 a1 a2 :: r) = xSeq (xv T G (.for_ a0 a1 a2)) (xvs T G r) := rfl
@[simp] theorem sxs_while_ (a0 : Nat) (a1 : E) (a2 : List S) (r : List S) : xvs T G (.while_ a0 a1 a2 :: r) = xSeq (xv T G (.while_ a0 a1 a2)) (xvs T G r) := rfl
@[simp] theorem sxs_augO (a0 : Nat) (a1 : Nat) (a2 : Operator) (a3 : E) (r : List S) : xvs T G (.augO a0 a1 a2 a3 :: r) = xSeq (xv T G (.augO a0 a1 a2 a3)) (xvs T G r) := rfl
@[simp] theorem sxs_augI (a0 : Nat) (a1 : Operator) (a2 : E) (r : List S) : xvs T G (.augI a0 a1 a2 :: r) = xSeq (xv T G (.augI a0 a1 a2)) (xvs T G r) := rfl
end
/-! operations -/
@[simp] theorem s_guard_t {α : Type} (x : α) : guardD true x = some x := rfl
@[simp] theorem s_guard_f {α : Type} (x : α) : guardD false x = none := rfl
theorem s_guard {α : Type} {b : Bool} (h : b = true) (x : α) : guardD b x = some x := by subst h; rfl
@[simp] theorem s_add (a b : Int) (μ : Store) : binD .Add (.int a) (.int b) μ = some (.int (a + b), μ) := rfl
@[simp] theorem s_addS (a b : Str) (μ : Store) : binD .Add (.str a) (.str b) μ = guardD (decide (a.length + b.length ≤ sizeLine)) (.str (a ++ b), μ) := rfl
@[simp] theorem s_addT (a b : List D) (μ : Store) : binD .Add (.tup a) (.tup b) μ = guardD (decide (a.length + b.length ≤ sizeLine)) (.tup (a ++ b), μ) := rfl
@[simp] theorem s_addL (a b : List D) (μ : Store) : binD .Add (.lst a) (.lst b) μ = guardD (decide (a.length + b.length ≤ sizeLine)) (.lst (a ++ b), μ) := rfl
@[simp] theorem s_sub (a b : Int) (μ : Store) : binD .Sub (.int a) (.int b) μ = some (.int (a - b), μ) := rfl
@[simp] theorem s_mul (a b : Int) (μ : Store) : binD .Mult (.int a) (.int b) μ = guardD (smallI a || smallI b) (.int (a * b), μ) := by
  show (match guardD (smallI a || smallI b) (D.int (a * b), μ) with
    | some r => some r
    | none => none) = _
  cases guardD (smallI a || smallI b) (D.int (a * b), μ) <;> rfl
@[simp] theorem s_fdiv (a b : Int) (μ : Store) : binD .FloorDiv (.int a) (.int b) μ = guardD (decide (0 < b) && decide (b < 1073741824)) (.int (a / b), μ) := rfl
@[simp] theorem s_mod (a b : Int) (μ : Store) : binD .Mod (.int a) (.int b) μ = guardD (decide (0 < b)) (.int (a % b), μ) := rfl
@[simp] theorem s_pow (a b : Int) (μ : Store) : binD .Pow (.int a) (.int b) μ = guardD (powC a b) (.int (a ^ b.toNat), μ) := rfl
@[simp] theorem s_neg (a : Int) (μ : Store) : negD (.int a) μ = some (.int (-a), μ) := rfl
@[simp] theorem s_tbl (b : Bool) (μ : Store) : truD (.bl b) μ = some b := rfl
@[simp] theorem s_tint (i : Int) (μ : Store) : truD (.int i) μ = some (i != 0) := rfl
@[simp] theorem s_tnon (μ : Store) : truD .non μ = some false := rfl
@[simp] theorem s_eq (a b : D) (μ : Store) : cmpD .Eq a b μ = (match eqS a b μ with
  | some r => some (.bl r, μ)
  | none => none) := by
  show (eqS a b μ).map _ = _
  cases eqS a b μ <;> rfl
@[simp] theorem s_ne (a b : D) (μ : Store) : cmpD .NotEq a b μ = (match eqS a b μ with
  | some r => some (.bl (!r), μ)
  | none => none) := by
  show (eqS a b μ).map _ = _
  cases eqS a b μ <;> rfl
@[simp] theorem s_eqII (a b : Int) (μ : Store) : eqS (.int a) (.int b) μ = some (decide (a = b)) := by
  show guardD true (eqb (.int a) (.int b)) = _
  by_cases h : a = b <;> simp [eqb, h]
@[simp] theorem s_eqBB (a b : Bool) (μ : Store) : eqS (.bl a) (.bl b) μ = some (a == b) := by
  show guardD true (eqb (.bl a) (.bl b)) = _
  simp [eqb]
@[simp] theorem s_eqSS (a b : Str) (μ : Store) : eqS (.str a) (.str b) μ = some (decide (a = b)) := by
  show guardD true (eqb (.str a) (.str b)) = _
  simp [eqb]
  rfl
@[simp] theorem s_lt (a b : Int) (μ : Store) : cmpD .Lt (.int a) (.int b) μ = some (.bl (decide (a < b)), μ) := rfl
@[simp] theorem s_le (a b : Int) (μ : Store) : cmpD .LtE (.int a) (.int b) μ = some (.bl (decide (a ≤ b)), μ) := rfl
@[simp] theorem s_gt (a b : Int) (μ : Store) : cmpD .Gt (.int a) (.int b) μ = some (.bl (decide (b < a)), μ) := rfl
@[simp] theorem s_ge (a b : Int) (μ : Store) : cmpD .GtE (.int a) (.int b) μ = some (.bl (decide (b ≤ a)), μ) := rfl
@[simp] theorem s_isB (a b : Bool) (μ : Store) : cmpD .Is (.bl a) (.bl b) μ = some (.bl (decide (a = b)), μ) := rfl
/-- an index that lies in the list -/
theorem atI_nat {α : Type} (xs : List α) (i : Nat) : atI xs (i : Int) = xs[i]? := by
  unfold atI ixN
  rw [if_pos (by omega)]
  split
  · simp
  · rename_i h
    rw [List.getElem?_eq_none (by omega)]
    rfl
@[simp] theorem atI_0 {α : Type} (xs : List α) : atI xs 0 = xs[0]? := atI_nat xs 0
@[simp] theorem atI_1 {α : Type} (xs : List α) : atI xs 1 = xs[1]? := atI_nat xs 1
@[simp] theorem atI_2 {α : Type} (xs : List α) : atI xs 2 = xs[2]? := atI_nat xs 2
@[simp] theorem atI_3 {α : Type} (xs : List α) : atI xs 3 = xs[3]? := atI_nat xs 3
@[simp] theorem ixD_lst (xs : List D) (i : Int) (μ : Store) : ixD (.lst xs) (.int i) μ = match atI xs i with
  | some v => some (v, μ)
  | none => none := by
  show Option.map _ (Option.bind _ _) = _
  simp only [itOf, sqOf, lsOf, Option.bind_some]
  cases atI xs i <;> rfl
@[simp] theorem ixD_tup (xs : List D) (i : Int) (μ : Store) : ixD (.tup xs) (.int i) μ = match atI xs i with
  | some v => some (v, μ)
  | none => none := by
  show Option.map _ (Option.bind _ _) = _
  simp only [itOf, sqOf, lsOf, Option.bind_some]
  cases atI xs i <;> rfl
@[simp] theorem ixD_klst (xs : List D) (i : Int) (μ : Store) : ixD (.klst xs) (.int i) μ = match atI xs i with
  | some v => some (v, μ)
  | none => none := by
  show Option.map _ (Option.bind _ _) = _
  simp only [itOf, sqOf, lsOf, Option.bind_some]
  cases atI xs i <;> rfl
@[simp] theorem ixD_loc (n : Nat) (i : Int) (μ : Store) : ixD (.loc n) (.int i) μ = match μ[n]? with
  | some (.lst xs) => (match atI xs i with
    | some v => some (v, μ)
    | none => none)
  | _ => none := by
  show Option.map _ (Option.bind _ _) = _
  simp only [itOf, sqOf, lsOf]
  cases h : μ[n]? with
  | none => rfl
  | some c =>
    cases c with
    | lst xs =>
      simp only [Option.bind_some]
      cases atI xs i <;> rfl
    | _ => rfl
@[simp] theorem s_setD (n : Nat) (i : Int) (v : D) (μ : Store) : setD (.loc n) (.int i) v μ = match μ[n]? with
  | some (.lst xs) => (match ixN xs.length i with
    | some j => some (μ.set n (.lst (xs.set j v)))
    | none => none)
  | _ => none := by
  simp only [setD, cellL]
  cases h : μ[n]? with
  | none => rfl
  | some c =>
    cases c with
    | lst xs =>
      simp only
      cases ixN xs.length i <;> rfl
    | _ => rfl
@[simp] theorem ixN_lit (n : Nat) (i : Nat) : ixN n (no_index (OfNat.ofNat i)) = if (OfNat.ofNat i : Nat) < n then some (OfNat.ofNat i) else none := by
  unfold ixN
  have : (0 : Int) ≤ (OfNat.ofNat i : Int) := by exact Int.natCast_nonneg i
  rw [if_pos this]
  have e : ((OfNat.ofNat i : Int) < (n : Int)) ↔ ((OfNat.ofNat i : Nat) < n) := by exact Int.ofNat_lt
  by_cases h : (OfNat.ofNat i : Nat) < n
  · rw [if_pos (e.mpr h), if_pos h]; rfl
  · rw [if_neg (fun z => h (e.mp z)), if_neg h]
end DL
/-! DL24: the laws' own helpers: draws, sameness. -/
namespace DL
open PySem PySem.Spec L2
def drawQ : List S := [(.sub (.var 0) (.int 2) (.bin .Add (.idx (.var 0) (.int 2)) (.int 1))), (.if_ (.and_ (.cmp .Eq (.idx (.var 0) (.int 1)) (.int 0)) (.cmp .NotEq (.idx (.var 0) (.int 0)) (.lst .nil))) [(.sub (.var 0) (.int 1) (.bm .pop (.idx (.var 0) (.int 0)) (.cons (.int 0) .nil))), (.if_ (.cmp .Lt (.idx (.var 0) (.int 1)) (.bin .Pow (.int 10) (.int 18))) [(.sub (.var 0) (.int 3) (.bin .Mod (.bi .int (.cons (.bin .Add (.bin .Add (.bin .Mult (.idx (.var 0) (.int 3)) (.int 31)) (.idx (.var 0) (.int 1))) (.int 7)) .nil)) (.int 2147483647))), (.sub (.var 0) (.int 1) (.int 0))] [])] []), (.if_ (.cmp .Gt (.idx (.var 0) (.int 1)) (.int 0)) [(.asg (.nm 3) (.bin .Mod (.bi .int (.cons (.idx (.var 0) (.int 1)) .nil)) (.var 1))), (.sub (.var 0) (.int 1) (.bin .FloorDiv (.idx (.var 0) (.int 1)) (.var 1))), (.ret (.var 3))] []), (.asg (.nm 2) (.bin .Mod (.bin .Pow (.bin .Add (.bin .Add (.idx (.var 0) (.int 3)) (.bin .Mult (.int 104729) (.idx (.var 0) (.int 2)))) (.int 17)) (.int 5)) (.int 2147483629))), (.ret (.bin .Mod (.bin .Mod (.bin .Pow (.bin .Add (.bin .Add (.bin .Mult (.var 2) (.int 48271)) (.bin .Mult (.bin .Mult (.int 40503) (.idx (.var 0) (.int 2))) (.idx (.var 0) (.int 2)))) (.int 13)) (.int 3)) (.int 1000000007)) (.var 1)))]
def startQ : List S := [(.ret (.newL (.cons (.bi .newList (.cons (.var 0) .nil)) (.cons (.int 0) (.cons (.int 0) (.cons (.int 0) .nil))))))]
def sameQ (i : Nat) : List S := [(.if_ (.bi .isinst (.cons (.var 1) (.cons (.tup (.cons (.gl "list") (.cons (.gl "tuple") .nil))) .nil))) [(.if_ (.or_ (.cmp .NotEq (.bi .isinst (.cons (.var 0) (.cons (.gl "list") .nil))) (.bi .isinst (.cons (.var 1) (.cons (.gl "list") .nil)))) (.cmp .NotEq (.bi .isinst (.cons (.var 0) (.cons (.gl "tuple") .nil))) (.bi .isinst (.cons (.var 1) (.cons (.gl "tuple") .nil))))) [(.ret (.bl false))] []), (.ret (.and_ (.cmp .Eq (.bi .len (.cons (.var 0) .nil)) (.bi .len (.cons (.var 1) .nil))) (.bi .all (.cons (.lc (.call i (.cons (.var 3) (.cons (.var 4) .nil)) .nil) (.tup [3, 4]) (.zip (.cons (.var 0) (.cons (.var 1) .nil))) .nil [("_law_one", 3), ("_law_other", 4)]) .nil))))] []), (.if_ (.bi .isinst (.cons (.var 1) (.cons (.gl "dict") .nil))) [.never, .never] []), (.if_ (.bi .isinst (.cons (.var 1) (.cons (.gl "int") .nil))) [(.ret (.and_ (.bi .isinst (.cons (.var 0) (.cons (.gl "int") .nil))) (.and_ (.cmp .Eq (.bi .isinst (.cons (.var 0) (.cons (.gl "bool") .nil))) (.bi .isinst (.cons (.var 1) (.cons (.gl "bool") .nil)))) (.cmp .Eq (.var 0) (.var 1)))))] []), (.ret (.and_ (.cmp .Eq (.var 0) (.var 1)) (.cmp .Is (.bi .isinst (.cons (.var 0) (.cons (.tup (.cons (.gl "int") (.cons (.gl "list") (.cons (.gl "tuple") (.cons (.gl "dict") .nil))))) .nil))) (.bl false))))]
/-- a stream of draws: the cells left, the digits left, the count, the mix -/
structure Sk where
  xs : List Int
  r : Int
  n : Int
  s : Int
structure Sk.ok (k : Sk) (b : Int) : Prop where
  r0 : 0 ≤ k.r
  n0 : 0 ≤ k.n
  nb : k.n ≤ b
  s0 : 0 ≤ k.s
  s1 : k.s < 2147483647
def Sk.st (k : Sk) (rest : Store) : Store := .lst (k.xs.map D.int) :: .lst [.loc 0, .int k.r, .int k.n, .int k.s] :: rest
@[simp] theorem Sk.st_app (k : Sk) (rest l : Store) : k.st rest ++ l = k.st (rest ++ l) := rfl
@[simp] theorem Sk.st_len (k : Sk) (rest : Store) : (k.st rest).length = rest.length + 2 := rfl
theorem Sk.ok.mono {k : Sk} {b c : Int} (h : k.ok b) (hb : b ≤ c) : k.ok c := ⟨h.r0, h.n0, Int.le_trans h.nb hb, h.s0, h.s1⟩
/-- a for by an invariant -/
theorem forL_inv {g : Tgt} {b : Ex} (I : Nat → Rho → Store → Prop) : ∀ (ds : List D) (i0 : Nat), (∀ i d ρ μ, ds[i]? = some d → I (i0 + i) ρ μ → ∃ ρ1 ρ2 μ2, g d ρ = some ρ1 ∧ b ρ1 μ = some (.nx ρ2, μ2) ∧ I (i0 + i + 1) ρ2 μ2) → ∀ ρ μ, I i0 ρ μ →
    ∃ ρ' μ', forL g b ds ρ μ = some (.nx ρ', μ') ∧ I (i0 + ds.length) ρ' μ'
  | [], i0, _, ρ, μ, h => ⟨ρ, μ, rfl, h⟩
  | d :: ds, i0, step, ρ, μ, h => by
    obtain ⟨ρ1, ρ2, μ2, e1, e2, h2⟩ := step 0 d ρ μ rfl h
    obtain ⟨ρ', μ', e3, h3⟩ := forL_inv I ds (i0 + 1) (fun i d ρ μ e hI => by
      have := step (i + 1) d ρ μ (by simpa using e) (by rw [show i0 + (i + 1) = i0 + 1 + i by omega]; exact hI)
      rw [show i0 + (i + 1) + 1 = i0 + 1 + i + 1 by omega] at this
      exact this) ρ2 μ2 h2
    refine ⟨ρ', μ', ?_, by rw [List.length_cons, show i0 + (ds.length + 1) = i0 + 1 + ds.length by omega]; exact h3⟩
    unfold forL
    rw [e1]
    simp only
    rw [e2]
    exact e3
theorem dOk_ints (n : Nat) (xs : List Int) : dOk (n + 1) (.lst (xs.map D.int)) = true := by
  simp only [dOk, List.all_map, List.all_eq_true, Function.comp]
  intro x _
  cases n <;> trivial
theorem powC_of {i j : Int} (h0 : 0 ≤ j) (h1 : j ≤ 1000000) (h2 : 0 ≤ i) (h3 : i < 18446744073709551616) : powC i j = true := by
  unfold powC
  simp only [Bool.and_eq_true, decide_eq_true_eq]
  exact ⟨⟨h0, h1⟩, by omega⟩
section
variable {T : Tab} {G : Sems}
theorem mixed_ok (μ : Store) (s n m : Int) (hs : 0 ≤ s) (hs1 : s < 2147483647) (hn : 0 ≤ n) (hn1 : n ≤ 10000000) (hm : 0 < m) : ∃ v, 0 ≤ v ∧ v < m ∧ powC (s + 104729 * n + 17) 5 = true ∧ powC ((s + 104729 * n + 17) ^ 5 % 2147483629 * 48271 + 40503 * n * n + 13) 3 = true ∧
    ((s + 104729 * n + 17) ^ 5 % 2147483629 * 48271 + 40503 * n * n + 13) ^ 3 % 1000000007 % m = v := by
  refine ⟨_, Int.emod_nonneg _ (by omega), Int.emod_lt_of_pos _ hm, ?_, ?_, rfl⟩
  · exact powC_of (by decide) (by decide) (by omega) (by omega)
  · have h1 : 0 ≤ (s + 104729 * n + 17) ^ 5 % 2147483629 := Int.emod_nonneg _ (by omega)
    have h2 : (s + 104729 * n + 17) ^ 5 % 2147483629 < 2147483629 := Int.emod_lt_of_pos _ (by omega)
    generalize (s + 104729 * n + 17) ^ 5 % 2147483629 = x at *
    have h3 : 0 ≤ n * n := Int.mul_nonneg hn hn
    have h4 : n * n ≤ 10000000 * 10000000 := Int.mul_le_mul hn1 hn1 hn (by omega)
    have h5 : 40503 * n * n = 40503 * (n * n) := Int.mul_assoc _ _ _
    rw [h5]
    generalize n * n = y at *
    exact powC_of (by decide) (by decide) (by omega) (by omega)
theorem draw_run (k : Sk) (m : Int) (rest : Store) {b : Int} (ok : k.ok b) (hb : b < 10000000) (hm : 0 < m) (hm2 : m < 1073741824) :
    ∃ (d : Int) (k' : Sk), runB 2 4 (xvs T G drawQ) [.loc 1, .int m] (k.st rest) = some (.ok (.int d), k'.st rest) ∧ 0 ≤ d ∧ d < m ∧ k'.ok (b + 1) := by
  obtain ⟨xs, r, n, s⟩ := k
  obtain ⟨r0, n0, nb, s0, s1⟩ := ok
  simp only at r0 n0 nb s0 s1
  have pow : powC 10 18 = true := by decide
  have sm : smallI 104729 = true := by decide
  have sm2 : smallI 40503 = true := by decide
  have sm3 : smallI 48271 = true := by decide
  have sm4 : smallI 31 = true := by decide
  have digits : ∀ (xs : List Int) (r : Int), 0 < r → ∃ (d : Int) (k' : Sk), xvs T G (drawQ.drop 2) [some (.loc 1), some (.int m), none, none] (Sk.st ⟨xs, r, n + 1, s⟩ rest) = some (.rt (.int d), Sk.st k' rest) ∧ 0 ≤ d ∧ d < m ∧ Sk.ok k' (b + 1) := fun xs r hr => by
    refine ⟨r % m, ⟨xs, r / m, n + 1, s⟩, ?_, Int.emod_nonneg _ (by omega), Int.emod_lt_of_pos _ hm, ⟨Int.ediv_nonneg (by first | omega | (simp only; omega)) (by omega), by first | omega | (simp only; omega), by first | omega | (simp only; omega), s0, s1⟩⟩
    simp [Sk.st, drawQ, evBi, DL.intD, hr, hm, hm2]
  have mixed : ∀ (xs : List Int) (s : Int), 0 ≤ s → s < 2147483647 → ∃ (d : Int) (k' : Sk), xvs T G (drawQ.drop 2) [some (.loc 1), some (.int m), none, none] (Sk.st ⟨xs, 0, n + 1, s⟩ rest) = some (.rt (.int d), Sk.st k' rest) ∧ 0 ≤ d ∧ d < m ∧ Sk.ok k' (b + 1) := fun xs s s0 s1 => by
    obtain ⟨v, v0, v1, p1, p2, e⟩ := mixed_ok (rest) s (n + 1) m s0 s1 (by omega) (by omega) hm
    refine ⟨v, ⟨xs, 0, n + 1, s⟩, ?_, v0, v1, ⟨by simp, by first | omega | (simp only; omega), by first | omega | (simp only; omega), s0, s1⟩⟩
    have sn : smallI (n + 1) = true := by
      unfold smallI
      simp only [Bool.and_eq_true, decide_eq_true_eq]
      omega
    simp [Sk.st, drawQ, p1, p2, sm, sm2, sm3, sn, hm, e]
  have first : ∀ (xs : List Int) (r s n : Int), xv T G (drawQ.getD 0 .pass) [some (.loc 1), some (.int m), none, none] (Sk.st ⟨xs, r, n, s⟩ rest) = some (.nx [some (.loc 1), some (.int m), none, none], Sk.st ⟨xs, r, n + 1, s⟩ rest) := fun xs r s n => by
    simp [Sk.st, drawQ]
  have eqN : ∀ (xs : List Int) (μ : Store), eqS (.loc 0) (.lst []) (.lst (xs.map D.int) :: μ) = some (decide (xs = [])) := fun xs μ => by
    unfold eqS
    simp only [vwD, List.getElem?_cons_zero, dOk_ints, Bool.true_and]
    have : dOk 60 (.lst []) = true := rfl
    rw [this]
    cases xs <;> simp [eqb, eqbL]
  have second : ∀ (xs : List Int) (r s : Int), 0 ≤ r → 0 ≤ s → s < 2147483647 → ∃ xs' r' s', xv T G (drawQ.getD 1 .pass) [some (.loc 1), some (.int m), none, none] (Sk.st ⟨xs, r, n + 1, s⟩ rest) = some (.nx [some (.loc 1), some (.int m), none, none], Sk.st ⟨xs', r', n + 1, s'⟩ rest) ∧ 0 ≤ r' ∧ 0 ≤ s' ∧ s' < 2147483647 ∧ (0 < r' → s' = s) := fun xs r s r0 s0 s1 => by
    by_cases hr : r = 0
    · subst hr
      cases xs with
      | nil =>
        refine ⟨[], 0, s, ?_, by omega, s0, s1, fun _ => rfl⟩
        have e := eqN [] (.lst [.loc 0, .int 0, .int (n + 1), .int s] :: rest)
        simp only [List.map_nil] at e
        simp [Sk.st, drawQ, oLst, sizeLine, e]
      | cons x xs =>
        have e := eqN (x :: xs) (.lst [.loc 0, .int 0, .int (n + 1), .int s] :: rest)
        simp only [List.map_cons] at e
        by_cases hx : x < 1000000000000000000
        · refine ⟨xs, 0, (s * 31 + x + 7) % 2147483647, ?_, by omega, Int.emod_nonneg _ (by omega), Int.emod_lt_of_pos _ (by omega), by omega⟩
          simp [Sk.st, drawQ, oLst, sizeLine, e, isT, sqOf, lsOf, evBm, popD, cellL, seqIndex?, evBi, DL.intD, pow, sm4, hx]
        · refine ⟨xs, x, s, ?_, by omega, s0, s1, fun _ => rfl⟩
          simp [Sk.st, drawQ, oLst, sizeLine, e, isT, sqOf, lsOf, evBm, popD, cellL, seqIndex?, evBi, DL.intD, pow, hx]
    · refine ⟨xs, r, s, ?_, r0, s0, s1, fun _ => rfl⟩
      simp [Sk.st, drawQ, hr]
  have go : ∀ {d : Int} {k' : Sk}, xvs T G drawQ [some (.loc 1), some (.int m), none, none] (Sk.st ⟨xs, r, n, s⟩ rest) = some (.rt (.int d), Sk.st k' rest) → runB 2 4 (xvs T G drawQ) [.loc 1, .int m] (Sk.st ⟨xs, r, n, s⟩ rest) = some (.ok (.int d), k'.st rest) := fun {d k'} h => by
    have e : ([D.loc 1, D.int m].map some ++ List.replicate (4 - 2) none) = [some (.loc 1), some (.int m), none, none] := rfl
    rw [s_runB, if_pos (show [D.loc 1, D.int m].length = 2 from rfl), e, h]
  have step : xvs T G drawQ = xSeq (xv T G (drawQ.getD 0 .pass)) (xSeq (xv T G (drawQ.getD 1 .pass)) (xvs T G (drawQ.drop 2))) := rfl
  obtain ⟨xs', r', s', e2, r0', s0', s1', hs⟩ := second xs r s r0 s0 s1
  by_cases hr : 0 < r'
  · have := hs hr
    subst this
    obtain ⟨d, k', e3, h⟩ := digits xs' r' hr
    refine ⟨d, k', go ?_, h⟩
    rw [step, s_xSeq, first]
    simp only
    rw [s_xSeq, e2]
    exact e3
  · have : r' = 0 := by omega
    subst this
    obtain ⟨d, k', e3, h⟩ := mixed xs' s' s0' s1'
    refine ⟨d, k', go ?_, h⟩
    rw [step, s_xSeq, first]
    simp only
    rw [s_xSeq, e2]
    exact e3
theorem start_run (ns : List Int) : runB 1 1 (xvs T G startQ) [.klst (ns.map D.int)] [] = some (.ok (.loc 1), Sk.st ⟨ns, 0, 0, 0⟩ []) := by
  simp [startQ, evBi, newListD, itOf, sqOf, oNewL, sizeLine, Sk.st]
theorem start_ok (ns : List Int) : Sk.ok ⟨ns, 0, 0, 0⟩ 0 := ⟨by simp, by simp, by simp, by simp, by simp⟩
end
/-! ### comprehensions over pure elements -/
theorem compL_map {g : Tgt} {c : Rho → Ev Bool} {f : Rho → Ev D} {ρ : Rho} {μ : Store} (F : D → D) : ∀ {ds : List D}, (∀ d ∈ ds, ∃ ρ1, g d ρ = some ρ1 ∧ c ρ1 μ = some (.ok true, μ) ∧ f ρ1 μ = some (.ok (F d), μ)) → compL g c f ρ ds μ = some (.ok (ds.map F), μ)
  | [], _ => rfl
  | d :: ds, h => by
    obtain ⟨ρ1, e1, e2, e3⟩ := h d (by simp)
    unfold compL
    rw [e1]
    simp only
    rw [e2]
    simp only
    rw [e3]
    simp only
    rw [compL_map F fun x hx => h x (by simp [hx])]
    rfl
/-- .. with a test -/
theorem compL_filter {g : Tgt} {c : Rho → Ev Bool} {f : Rho → Ev D} {ρ : Rho} {μ : Store} (F : D → D) (p : D → Bool) : ∀ {ds : List D}, (∀ d ∈ ds, ∃ ρ1, g d ρ = some ρ1 ∧ c ρ1 μ = some (.ok (p d), μ) ∧ (p d = true → f ρ1 μ = some (.ok (F d), μ))) → compL g c f ρ ds μ = some (.ok ((ds.filter p).map F), μ)
  | [], _ => rfl
  | d :: ds, h => by
    obtain ⟨ρ1, e1, e2, e3⟩ := h d (by simp)
    have ih := compL_filter F p (ds := ds) fun x hx => h x (by simp [hx])
    unfold compL
    rw [e1]
    simp only
    rw [e2]
    cases q : p d with
    | false =>
      simp only
      rw [ih, List.filter_cons_of_neg (by simp [q])]
    | true =>
      simp only
      rw [e3 q]
      simp only
      rw [ih, List.filter_cons_of_pos q]
      rfl
/-! ### what the tables say of the built-in kinds -/
def btN : List String := ["NoneType", "bool", "int", "str", "list", "dict", "tuple"]
def tyN : List String := ["list", "tuple", "dict", "int", "bool"]
structure BaseT (T : Tab) : Prop where
  gl : ∀ x ∈ tyN, T.gls.lookup (Str.ofString x) = some (.ty x)
  isi : ∀ t ∈ btN, ∀ u ∈ tyN, T.isi (.bt t) (.bt u) = some (decide (t = u) || (decide (t = "bool") && decide (u = "int")))
theorem BaseT.five_NoneType {T : Tab} (h : BaseT T) : T.isi (.bt "NoneType") (.bt "list") = some false ∧ T.isi (.bt "NoneType") (.bt "tuple") = some false ∧ T.isi (.bt "NoneType") (.bt "dict") = some false ∧ T.isi (.bt "NoneType") (.bt "int") = some false ∧ T.isi (.bt "NoneType") (.bt "bool") = some false :=
  ⟨h.isi _ (by decide) _ (by decide), h.isi _ (by decide) _ (by decide), h.isi _ (by decide) _ (by decide), h.isi _ (by decide) _ (by decide), h.isi _ (by decide) _ (by decide)⟩
theorem BaseT.five_bool {T : Tab} (h : BaseT T) : T.isi (.bt "bool") (.bt "list") = some false ∧ T.isi (.bt "bool") (.bt "tuple") = some false ∧ T.isi (.bt "bool") (.bt "dict") = some false ∧ T.isi (.bt "bool") (.bt "int") = some true ∧ T.isi (.bt "bool") (.bt "bool") = some true :=
  ⟨h.isi _ (by decide) _ (by decide), h.isi _ (by decide) _ (by decide), h.isi _ (by decide) _ (by decide), h.isi _ (by decide) _ (by decide), h.isi _ (by decide) _ (by decide)⟩
theorem BaseT.five_int {T : Tab} (h : BaseT T) : T.isi (.bt "int") (.bt "list") = some false ∧ T.isi (.bt "int") (.bt "tuple") = some false ∧ T.isi (.bt "int") (.bt "dict") = some false ∧ T.isi (.bt "int") (.bt "int") = some true ∧ T.isi (.bt "int") (.bt "bool") = some false :=
  ⟨h.isi _ (by decide) _ (by decide), h.isi _ (by decide) _ (by decide), h.isi _ (by decide) _ (by decide), h.isi _ (by decide) _ (by decide), h.isi _ (by decide) _ (by decide)⟩
theorem BaseT.five_str {T : Tab} (h : BaseT T) : T.isi (.bt "str") (.bt "list") = some false ∧ T.isi (.bt "str") (.bt "tuple") = some false ∧ T.isi (.bt "str") (.bt "dict") = some false ∧ T.isi (.bt "str") (.bt "int") = some false ∧ T.isi (.bt "str") (.bt "bool") = some false :=
  ⟨h.isi _ (by decide) _ (by decide), h.isi _ (by decide) _ (by decide), h.isi _ (by decide) _ (by decide), h.isi _ (by decide) _ (by decide), h.isi _ (by decide) _ (by decide)⟩
theorem BaseT.five_list {T : Tab} (h : BaseT T) : T.isi (.bt "list") (.bt "list") = some true ∧ T.isi (.bt "list") (.bt "tuple") = some false ∧ T.isi (.bt "list") (.bt "dict") = some false ∧ T.isi (.bt "list") (.bt "int") = some false ∧ T.isi (.bt "list") (.bt "bool") = some false :=
  ⟨h.isi _ (by decide) _ (by decide), h.isi _ (by decide) _ (by decide), h.isi _ (by decide) _ (by decide), h.isi _ (by decide) _ (by decide), h.isi _ (by decide) _ (by decide)⟩
theorem BaseT.five_tuple {T : Tab} (h : BaseT T) : T.isi (.bt "tuple") (.bt "list") = some false ∧ T.isi (.bt "tuple") (.bt "tuple") = some true ∧ T.isi (.bt "tuple") (.bt "dict") = some false ∧ T.isi (.bt "tuple") (.bt "int") = some false ∧ T.isi (.bt "tuple") (.bt "bool") = some false :=
  ⟨h.isi _ (by decide) _ (by decide), h.isi _ (by decide) _ (by decide), h.isi _ (by decide) _ (by decide), h.isi _ (by decide) _ (by decide), h.isi _ (by decide) _ (by decide)⟩
/-- plain data of a depth of at most n -/
def pOk : Nat → D → Bool
  | _, .non => true
  | _, .bl _ => true
  | _, .int _ => true
  | _, .str _ => true
  | n + 1, .tup xs => xs.all (pOk n) && decide (xs.length ≤ sizeLine)
  | n + 1, .lst xs => xs.all (pOk n) && decide (xs.length ≤ sizeLine)
  | _, _ => false
theorem pOk_mono : ∀ {n : Nat} {d : D}, pOk n d = true → pOk (n + 1) d = true
  | n, .non, _ => by cases n <;> rfl
  | n, .bl _, _ => by cases n <;> rfl
  | n, .int _, _ => by cases n <;> rfl
  | n, .str _, _ => by cases n <;> rfl
  | n + 1, .tup xs, h => by
    simp only [pOk, Bool.and_eq_true, List.all_eq_true] at h ⊢
    exact ⟨fun x hx => pOk_mono (h.1 x hx), h.2⟩
  | n + 1, .lst xs, h => by
    simp only [pOk, Bool.and_eq_true, List.all_eq_true] at h ⊢
    exact ⟨fun x hx => pOk_mono (h.1 x hx), h.2⟩
  | 0, .tup xs, h => by simp [pOk] at h
  | 0, .lst xs, h => by simp [pOk] at h
  | n, .klst _, h => by cases n <;> simp [pOk] at h
  | n, .dct _ _, h => by cases n <;> simp [pOk] at h
  | n, .ins _ _, h => by cases n <;> simp [pOk] at h
  | n, .loc _, h => by cases n <;> simp [pOk] at h
  | n, .cls _, h => by cases n <;> simp [pOk] at h
  | n, .ty _, h => by cases n <;> simp [pOk] at h
theorem pOk_le {m n : Nat} {d : D} (h : pOk m d = true) (hl : m ≤ n) : pOk n d = true := by
  induction hl with
  | refl => exact h
  | step _ ih => exact pOk_mono ih
theorem pOk_dOk : ∀ {n : Nat} {d : D}, pOk n d = true → dOk n d = true
  | n, .non, _ => by cases n <;> rfl
  | n, .bl _, _ => by cases n <;> rfl
  | n, .int _, _ => by cases n <;> rfl
  | n, .str _, _ => by cases n <;> rfl
  | n + 1, .tup xs, h => by
    simp only [pOk, dOk, Bool.and_eq_true, List.all_eq_true] at h ⊢
    exact fun x hx => pOk_dOk (h.1 x hx)
  | n + 1, .lst xs, h => by
    simp only [pOk, dOk, Bool.and_eq_true, List.all_eq_true] at h ⊢
    exact fun x hx => pOk_dOk (h.1 x hx)
  | 0, .tup xs, h => by simp [pOk] at h
  | 0, .lst xs, h => by simp [pOk] at h
  | n, .klst _, h => by cases n <;> simp [pOk] at h
  | n, .dct _ _, h => by cases n <;> simp [pOk] at h
  | n, .ins _ _, h => by cases n <;> simp [pOk] at h
  | n, .loc _, h => by cases n <;> simp [pOk] at h
  | n, .cls _, h => by cases n <;> simp [pOk] at h
  | n, .ty _, h => by cases n <;> simp [pOk] at h
section
variable {M : Mod}
theorem lev_def {j : Nat} {d : DefI} (hd : M.defs[j]? = some d) (k : Nat) : M.lev (k + 1) j = runB d.ps.length d.N.length (xvs M.T (M.sems (M.lev k)) d.q) := by
  show (match M.defs[j]? with
    | some d => runB d.ps.length d.N.length (xvs M.T (M.sems (Mod.lev M k)) d.q)
    | none => bot) = _
  rw [hd]
theorem all_true (xs : List D) : ∀ bs : List D, bs = xs.map (fun _ => D.bl true) → blsOf bs = some (xs.map fun _ => true) := by
  intro bs h
  subst h
  induction xs with
  | nil => rfl
  | cons x xs ih => simp only [List.map_cons, blsOf, ih, Option.map_some]
/-- the helper _law_same stands in the module -/
structure SameAt (M : Mod) (j i : Nat) : Prop where
  base : BaseT M.T
  df : ∃ d, M.defs[j]? = some d ∧ d.q = sameQ i ∧ d.ps.length = 2 ∧ d.N.length = 5
  en : M.fnE[i]? = some ⟨j, [.arg 0, .arg 1]⟩
  fn : ∃ t, M.T.fns[i]? = some t ∧ t.n = 2 ∧ t.kn = []
theorem SameAt.call {j i : Nat} (h : SameAt M j i) (l : Nat → Sem1) (a b : D) : (M.sems l).fn i [a, b] = l j [a, b] := by
  obtain ⟨d, hd, _⟩ := h.df
  show M.entS l M.fnE[i]? [a, b] = _
  rw [h.en]
  unfold Mod.entS
  simp only [hd]
  rfl
theorem same_refl {j i : Nat} (h : SameAt M j i) : ∀ (n : Nat) (d : D), pOk n d = true → n ≤ 59 → ∀ k, n < k → ∀ μ, M.lev k j [d, d] μ = some (.ok (.bl true), μ) := by
  obtain ⟨dd, hd, hq, hp, hN⟩ := h.df
  obtain ⟨t, ht, htn, htk⟩ := h.fn
  have g1 := h.base.gl "list" (by decide)
  have g2 := h.base.gl "tuple" (by decide)
  have g3 := h.base.gl "dict" (by decide)
  have g4 := h.base.gl "int" (by decide)
  have g5 := h.base.gl "bool" (by decide)
  obtain ⟨n1, n2, n3, n4, n5⟩ := h.base.five_NoneType
  obtain ⟨b1, b2, b3, b4, b5⟩ := h.base.five_bool
  obtain ⟨i1, i2, i3, i4, i5⟩ := h.base.five_int
  obtain ⟨s1, s2, s3, s4, s5⟩ := h.base.five_str
  obtain ⟨l1, l2, l3, l4, l5⟩ := h.base.five_list
  obtain ⟨t1, t2, t3, t4, t5⟩ := h.base.five_tuple
  intro n
  induction n with
  | zero =>
    intro d hd0 hn k hk μ
    obtain ⟨k, rfl⟩ : ∃ k', k = k' + 1 := ⟨k - 1, by omega⟩
    rw [lev_def hd, hq, hp, hN]
    cases d <;> simp [pOk] at hd0
    · simp [sameQ, evBi, isiD, tkOf, clsD, isiL, TK.known, g1, g2, g3, g4, g5, n1, n2, n3, n4, n5, oTup, sizeLine, eqS, vwD, dOk, eqb]
    · simp [sameQ, evBi, isiD, tkOf, clsD, isiL, TK.known, g1, g2, g3, g4, g5, b1, b2, b3, b4, b5, oTup, sizeLine]
    · simp [sameQ, evBi, isiD, tkOf, clsD, isiL, TK.known, g1, g2, g3, g4, g5, i1, i2, i3, i4, i5, oTup, sizeLine]
    · simp [sameQ, evBi, isiD, tkOf, clsD, isiL, TK.known, g1, g2, g3, g4, g5, s1, s2, s3, s4, s5, oTup, sizeLine]
  | succ n ih =>
    intro d hd0 hn k hk μ
    have flat : pOk 0 d = true → M.lev k j [d, d] μ = some (.ok (.bl true), μ) := fun h0 => by
      obtain ⟨k, rfl⟩ : ∃ k', k = k' + 1 := ⟨k - 1, by omega⟩
      rw [lev_def hd, hq, hp, hN]
      cases d <;> simp [pOk] at h0
      · simp [sameQ, evBi, isiD, tkOf, clsD, isiL, TK.known, g1, g2, g3, g4, g5, n1, n2, n3, n4, n5, oTup, sizeLine, eqS, vwD, dOk, eqb]
      · simp [sameQ, evBi, isiD, tkOf, clsD, isiL, TK.known, g1, g2, g3, g4, g5, b1, b2, b3, b4, b5, oTup, sizeLine]
      · simp [sameQ, evBi, isiD, tkOf, clsD, isiL, TK.known, g1, g2, g3, g4, g5, i1, i2, i3, i4, i5, oTup, sizeLine]
      · simp [sameQ, evBi, isiD, tkOf, clsD, isiL, TK.known, g1, g2, g3, g4, g5, s1, s2, s3, s4, s5, oTup, sizeLine]
    have seq : ∀ (con : List D → D) (xs : List D), (con = D.tup ∨ con = D.lst) → d = con xs → (∀ x ∈ xs, pOk n x = true) → xs.length ≤ sizeLine → M.lev k j [d, d] μ = some (.ok (.bl true), μ) := fun con xs hcon hdx hx hz => by
      subst hdx
      obtain ⟨k, rfl⟩ : ∃ k', k = k' + 1 := ⟨k - 1, by omega⟩
      rw [lev_def hd, hq, hp, hN]
      have hzl : (zipDs xs xs).length ≤ sizeLine := by simp [zipDs]; exact hz
      have comp : ev M.T (M.sems (M.lev k)) (.lc (.call i (.cons (.var 3) (.cons (.var 4) .nil)) .nil) (.tup [3, 4]) (.zip (.cons (.var 0) (.cons (.var 1) .nil))) .nil [("_law_one", 3), ("_law_other", 4)]) [some (con xs), some (con xs), none, none, none] μ = some (.ok (.lst (xs.map fun _ => .bl true)), μ) := by
        have ez : mZip (evs M.T (M.sems (M.lev k)) (.cons (.var 0) (.cons (.var 1) .nil))) [some (con xs), some (con xs), none, none, none] μ = some (.ok (zipDs xs xs), μ) := by
          rcases hcon with rfl | rfl <;> simp
        show mLc _ _ _ _ _ _ _ = _
        rw [s_lc]
        rw [sei_zip, ez]
        simp only
        rw [if_pos hzl, compL_map (fun _ => .bl true)]
        · simp [zipDs, Function.comp_def, List.map_const']
        · intro z hz
          simp only [zipDs, List.mem_map] at hz
          obtain ⟨⟨a, b⟩, hab, rfl⟩ := hz
          have e : a = b ∧ a ∈ xs := by
            have : ∀ (l : List D), (a, b) ∈ l.zip l → a = b ∧ a ∈ l := fun l => by
              induction l with
              | nil => intro h; simp at h
              | cons y l ih =>
                intro h
                simp only [List.zip_cons_cons, List.mem_cons, Prod.mk.injEq] at h
                rcases h with ⟨rfl, rfl⟩ | h
                · exact ⟨rfl, by simp⟩
                · exact ⟨(ih h).1, by simp [(ih h).2]⟩
            exact this xs hab
          obtain ⟨rfl, ha⟩ := e
          refine ⟨[some (con xs), some (con xs), none, some a, some a], ?_, ?_, ?_⟩
          · simp [wipeR]
          · simp
          · simp [ht, htn, htk, h.call, ih a (hx a ha) (by omega) k (by omega) μ]
      have ba := all_true xs _ rfl
      rcases hcon with rfl | rfl
      · simp [sameQ, evBi, isiD, tkOf, clsD, isiL, TK.known, g1, g2, g3, g4, g5, t1, t2, t3, t4, t5, oTup, sizeLine, lenD, itOf, sqOf, lsOf, allD, comp, ba]
      · simp [sameQ, evBi, isiD, tkOf, clsD, isiL, TK.known, g1, g2, g3, g4, g5, l1, l2, l3, l4, l5, oTup, sizeLine, lenD, itOf, sqOf, lsOf, allD, comp, ba]
    cases d with
    | tup xs =>
      simp only [pOk, Bool.and_eq_true, List.all_eq_true, decide_eq_true_eq] at hd0
      exact seq _ xs (.inl rfl) rfl hd0.1 hd0.2
    | lst xs =>
      simp only [pOk, Bool.and_eq_true, List.all_eq_true, decide_eq_true_eq] at hd0
      exact seq _ xs (.inr rfl) rfl hd0.1 hd0.2
    | non => exact flat rfl
    | bl b => exact flat rfl
    | int b => exact flat rfl
    | str b => exact flat rfl
    | _ => simp [pOk] at hd0
end
end DL
namespace L13
open PySem PySem.Spec PyProof.Rows L2 DL
abbrev Rw : PySem.W.OpenLaw := PySem.Challenge.rw_levelwalks_k13_operators_build
def top (i : Nat) : Stmt := PySem.Challenge.pw_levelwalks_k13_operators_build.main.body.getD i (.Pass ⟨0, 0, 0, 0⟩)
def cl (i j : Nat) : Stmt := (clsBody (top i)).getD j (.Pass ⟨0, 0, 0, 0⟩)
def Fx : Facts := ⟨["Expression"], [["accesses", "kind", "letters", "node_count", "parts"]],
  [((.bt "NoneType", .bt "list"), false),
    ((.bt "NoneType", .bt "tuple"), false),
    ((.bt "NoneType", .bt "dict"), false),
    ((.bt "NoneType", .bt "int"), false),
    ((.bt "NoneType", .bt "bool"), false),
    ((.bt "NoneType", .bt "str"), false),
    ((.bt "bool", .bt "list"), false),
    ((.bt "bool", .bt "tuple"), false),
    ((.bt "bool", .bt "dict"), false),
    ((.bt "bool", .bt "int"), true),
    ((.bt "bool", .bt "bool"), true),
    ((.bt "bool", .bt "str"), false),
    ((.bt "int", .bt "list"), false),
    ((.bt "int", .bt "tuple"), false),
    ((.bt "int", .bt "dict"), false),
    ((.bt "int", .bt "int"), true),
    ((.bt "int", .bt "bool"), false),
    ((.bt "int", .bt "str"), false),
    ((.bt "str", .bt "list"), false),
    ((.bt "str", .bt "tuple"), false),
    ((.bt "str", .bt "dict"), false),
    ((.bt "str", .bt "int"), false),
    ((.bt "str", .bt "bool"), false),
    ((.bt "str", .bt "str"), true),
    ((.bt "list", .bt "list"), true),
    ((.bt "list", .bt "tuple"), false),
    ((.bt "list", .bt "dict"), false),
    ((.bt "list", .bt "int"), false),
    ((.bt "list", .bt "bool"), false),
    ((.bt "list", .bt "str"), false),
    ((.bt "dict", .bt "list"), false),
    ((.bt "dict", .bt "tuple"), false),
    ((.bt "dict", .bt "dict"), true),
    ((.bt "dict", .bt "int"), false),
    ((.bt "dict", .bt "bool"), false),
    ((.bt "dict", .bt "str"), false),
    ((.bt "tuple", .bt "list"), false),
    ((.bt "tuple", .bt "tuple"), true),
    ((.bt "tuple", .bt "dict"), false),
    ((.bt "tuple", .bt "int"), false),
    ((.bt "tuple", .bt "bool"), false),
    ((.bt "tuple", .bt "str"), false),
    ((.oc 0, .bt "list"), false),
    ((.oc 0, .bt "tuple"), false),
    ((.oc 0, .bt "dict"), false),
    ((.oc 0, .bt "int"), false),
    ((.oc 0, .bt "bool"), false),
    ((.oc 0, .bt "str"), false),
    ((.oc 0, .oc 0), true),
    ((.bt "NoneType", .oc 0), false),
    ((.bt "bool", .oc 0), false),
    ((.bt "int", .oc 0), false),
    ((.bt "str", .oc 0), false),
    ((.bt "list", .oc 0), false),
    ((.bt "dict", .oc 0), false),
    ((.bt "tuple", .oc 0), false)],
  [0]⟩
def q0 : List S := [(.ret (.mk 0 true (.cons (.str "number") (.cons (.tup (.cons (.var 0) .nil)) .nil)) .nil))]
def d0 : DefI := ⟨defD ("number", none) "number" (top 9) [], ["n"], ["n"], q0⟩
def q1 : List S := [(.asg (.nm 2) (.call 0 (.cons (.var 1) .nil) .nil)), (.if_ (.cmp .IsNot (.var 2) .non) [.never] []), (.ret (.mk 0 true (.cons (.str "access") (.cons (.tup (.cons (.var 0) (.cons (.bi .tuple (.cons (.var 1) .nil)) .nil))) .nil)) .nil))]
def d1 : DefI := ⟨defD ("access", none) "access" (top 10) [], ["name", "letters"], ["name", "letters", "first"], q1⟩
def q2_fb0 : List S := [(.if_ (.cmp .In (.var 2) (.slice (.var 0) .nil (.cons (.var 1) .nil))) [(.ret (.var 2))] [])]
def q2_for0 : S := .for_ (.tup [1, 2]) (.enum (.cons (.var 0) .nil)) q2_fb0
@[simp] theorem sxs_q2_for0 {T : Tab} {G : Sems} (r : List S) : xvs T G (q2_for0 :: r) = xSeq (xv T G q2_for0) (xvs T G r) := rfl
def q2 : List S := [q2_for0, (.ret .non)]
def d2 : DefI := ⟨defD ("repeated", none) "repeated" (top 11) [], ["letters"], ["letters", "at", "letter"], q2⟩
def q3 : List S := [(.if_ (.not_ (.bi .isinst (.cons (.var 0) (.cons (.gl "Expression") .nil)))) [(.ret (.call 1 (.cons (.var 0) .nil) .nil))] []), (.if_ (.cmp .In (.attr (.var 0) "kind") (.gl "CHANGES")) [.never] []), (.ret (.var 0))]
def d3 : DefI := ⟨defD ("operand", none) "operand" (top 12) [], ["one"], ["one"], q3⟩
def q4 : List S := [(.ret (.mk 0 true (.cons (.var 0) (.cons (.tup (.cons (.call 2 (.cons (.var 1) .nil) .nil) (.cons (.call 2 (.cons (.var 2) .nil) .nil) .nil))) .nil)) .nil))]
def d4 : DefI := ⟨defD ("paired", none) "paired" (top 13) [], ["kind", "left", "right"], ["kind", "left", "right"], q4⟩
def q5 : List S := [(.asg (.nm 3) (.call 2 (.cons (.var 1) .nil) .nil)), (.if_ (.not_ (.call 3 (.cons (.var 0) (.cons (.var 2) .nil)) .nil)) [.never] []), (.ret (.mk 0 true (.cons (.var 0) (.cons (.tup (.cons (.var 3) (.cons (.var 2) .nil))) .nil)) .nil))]
def d5 : DefI := ⟨defD ("numbered", none) "numbered" (top 14) [], ["kind", "one", "n"], ["kind", "one", "n", "inner"], q5⟩
def q6 : List S := [(.if_ (.cmp .In (.var 0) (.tup (.cons (.str "quotient") (.cons (.str "remainder") .nil)))) [(.ret (.cmp .NotEq (.var 1) (.int 0)))] []), (.if_ (.cmp .Eq (.var 0) (.str "power")) [(.ret (.chain .LtE .LtE (.int 1) (.var 1) (.int 4)))] []), (.ret (.chain .LtE .LtE (.int 0) (.var 1) (.int 60)))]
def d6 : DefI := ⟨defD ("number_fits", none) "number_fits" (top 15) [], ["kind", "n"], ["kind", "n"], q6⟩
def q7_lc0 : E := .lc (.var 6) (.nm 6) (.seq (.var 2)) (.cons (.bi .isinst (.cons (.var 6) (.cons (.gl "Expression") .nil))) .nil) [("part", 6)]
def q7_lc1 : E := .lc2 (.var 8) (.nm 6) (.seq (.var 3)) .nil (.nm 8) (.seq (.attr (.var 6) "accesses")) .nil [("part", 6), ("one", 8)] [8]
def q7_lc2 : E := .dc2 (.var 7) (.bl true) (.tup [9, 10]) (.seq (.var 4)) .nil (.nm 7) (.seq (.var 10)) .nil [("name", 9), ("letters", 10), ("letter", 7)] [7]
def q7_lc3 : E := .lc (.attr (.var 6) "node_count") (.nm 6) (.seq (.var 3)) .nil [("part", 6)]
def q7 : List S := [(.asg (.nm 3) q7_lc0), (.asg (.nm 4) (.ite (.cmp .Eq (.var 1) (.str "access")) (.lst (.cons (.var 2) .nil)) q7_lc1)), (.asg (.nm 5) q7_lc2), (.fld (.var 0) "kind" (.var 1)), (.fld (.var 0) "parts" (.var 2)), (.fld (.var 0) "accesses" (.bi .tuple (.cons (.var 4) .nil))), (.fld (.var 0) "letters" (.bi .tuple (.cons (.bi .sorted (.cons (.var 5) .nil)) .nil))), (.fld (.var 0) "node_count" (.bin .Add (.int 1) (.bi .sum (.cons q7_lc3 .nil))))]
def d7 : DefI := ⟨defD ("Expression", some "__init__") "Expression.__init__" (cl 17 0) [], ["self", "kind", "parts"], ["self", "kind", "parts", "inner", "found", "known", "part", "letter", "one", "name", "letters"], q7⟩
def q8 : List S := [(.ret (.call 4 (.cons (.str "plus") (.cons (.var 0) (.cons (.var 1) .nil))) .nil))]
def d8 : DefI := ⟨defD ("Expression", some "__add__") "Expression.__add__" (cl 17 2) [], ["self", "other"], ["self", "other"], q8⟩
def q9 : List S := [(.ret (.call 4 (.cons (.str "plus") (.cons (.var 1) (.cons (.var 0) .nil))) .nil))]
def d9 : DefI := ⟨defD ("Expression", some "__radd__") "Expression.__radd__" (cl 17 3) [], ["self", "other"], ["self", "other"], q9⟩
def q10 : List S := [(.ret (.call 4 (.cons (.str "minus") (.cons (.var 0) (.cons (.var 1) .nil))) .nil))]
def d10 : DefI := ⟨defD ("Expression", some "__sub__") "Expression.__sub__" (cl 17 4) [], ["self", "other"], ["self", "other"], q10⟩
def q11 : List S := [(.ret (.call 4 (.cons (.str "minus") (.cons (.var 1) (.cons (.var 0) .nil))) .nil))]
def d11 : DefI := ⟨defD ("Expression", some "__rsub__") "Expression.__rsub__" (cl 17 5) [], ["self", "other"], ["self", "other"], q11⟩
def q12 : List S := [(.ret (.call 4 (.cons (.str "times") (.cons (.var 0) (.cons (.var 1) .nil))) .nil))]
def d12 : DefI := ⟨defD ("Expression", some "__mul__") "Expression.__mul__" (cl 17 6) [], ["self", "other"], ["self", "other"], q12⟩
def q13 : List S := [(.ret (.call 4 (.cons (.str "times") (.cons (.var 1) (.cons (.var 0) .nil))) .nil))]
def d13 : DefI := ⟨defD ("Expression", some "__rmul__") "Expression.__rmul__" (cl 17 7) [], ["self", "other"], ["self", "other"], q13⟩
def q14 : List S := [(.ret (.call 4 (.cons (.str "both") (.cons (.var 0) (.cons (.var 1) .nil))) .nil))]
def d14 : DefI := ⟨defD ("Expression", some "__and__") "Expression.__and__" (cl 17 8) [], ["self", "other"], ["self", "other"], q14⟩
def q15 : List S := [(.ret (.call 4 (.cons (.str "both") (.cons (.var 1) (.cons (.var 0) .nil))) .nil))]
def d15 : DefI := ⟨defD ("Expression", some "__rand__") "Expression.__rand__" (cl 17 9) [], ["self", "other"], ["self", "other"], q15⟩
def q16 : List S := [(.ret (.call 4 (.cons (.str "either") (.cons (.var 0) (.cons (.var 1) .nil))) .nil))]
def d16 : DefI := ⟨defD ("Expression", some "__or__") "Expression.__or__" (cl 17 10) [], ["self", "other"], ["self", "other"], q16⟩
def q17 : List S := [(.ret (.call 4 (.cons (.str "either") (.cons (.var 1) (.cons (.var 0) .nil))) .nil))]
def d17 : DefI := ⟨defD ("Expression", some "__ror__") "Expression.__ror__" (cl 17 11) [], ["self", "other"], ["self", "other"], q17⟩
def q18 : List S := [(.ret (.call 4 (.cons (.str "unlike") (.cons (.var 0) (.cons (.var 1) .nil))) .nil))]
def d18 : DefI := ⟨defD ("Expression", some "__xor__") "Expression.__xor__" (cl 17 12) [], ["self", "other"], ["self", "other"], q18⟩
def q19 : List S := [(.ret (.call 4 (.cons (.str "unlike") (.cons (.var 1) (.cons (.var 0) .nil))) .nil))]
def d19 : DefI := ⟨defD ("Expression", some "__rxor__") "Expression.__rxor__" (cl 17 13) [], ["self", "other"], ["self", "other"], q19⟩
def q20 : List S := [(.ret (.call 5 (.cons (.str "quotient") (.cons (.var 0) (.cons (.var 1) .nil))) .nil))]
def d20 : DefI := ⟨defD ("Expression", some "__floordiv__") "Expression.__floordiv__" (cl 17 14) [], ["self", "other"], ["self", "other"], q20⟩
def q21 : List S := [(.ret (.call 5 (.cons (.str "power") (.cons (.var 0) (.cons (.var 1) .nil))) .nil))]
def d21 : DefI := ⟨defD ("Expression", some "__pow__") "Expression.__pow__" (cl 17 16) [], ["self", "other"], ["self", "other"], q21⟩
def q22 : List S := [(.ret (.call 5 (.cons (.str "left") (.cons (.var 0) (.cons (.var 1) .nil))) .nil))]
def d22 : DefI := ⟨defD ("Expression", some "__lshift__") "Expression.__lshift__" (cl 17 17) [], ["self", "other"], ["self", "other"], q22⟩
def q23 : List S := [(.ret (.call 5 (.cons (.str "right") (.cons (.var 0) (.cons (.var 1) .nil))) .nil))]
def d23 : DefI := ⟨defD ("Expression", some "__rshift__") "Expression.__rshift__" (cl 17 18) [], ["self", "other"], ["self", "other"], q23⟩
def q24 : List S := [(.ret (.mk 0 true (.cons (.str "negative") (.cons (.tup (.cons (.call 2 (.cons (.var 0) .nil) .nil) .nil)) .nil)) .nil))]
def d24 : DefI := ⟨defD ("Expression", some "__neg__") "Expression.__neg__" (cl 17 19) [], ["self"], ["self"], q24⟩
def q25 : List S := [(.ret (.call 2 (.cons (.var 0) .nil) .nil))]
def d25 : DefI := ⟨defD ("Expression", some "__pos__") "Expression.__pos__" (cl 17 20) [], ["self"], ["self"], q25⟩
def q26 : List S := [(.ret (.mk 0 true (.cons (.str "inverse") (.cons (.tup (.cons (.call 2 (.cons (.var 0) .nil) .nil) .nil)) .nil)) .nil))]
def d26 : DefI := ⟨defD ("Expression", some "__invert__") "Expression.__invert__" (cl 17 21) [], ["self"], ["self"], q26⟩
def q27 : List S := [(.ret (.mk 0 true (.cons (.str "absolute") (.cons (.tup (.cons (.call 2 (.cons (.var 0) .nil) .nil) .nil)) .nil)) .nil))]
def d27 : DefI := ⟨defD ("Expression", some "__abs__") "Expression.__abs__" (cl 17 22) [], ["self"], ["self"], q27⟩
def q28 : List S := [(.ret (.call 4 (.cons (.str "greater") (.cons (.var 0) (.cons (.var 1) .nil))) .nil))]
def d28 : DefI := ⟨defD ("greater", none) "greater" (top 19) [], ["x", "y"], ["x", "y"], q28⟩
def q29 : List S := [(.ret (.call 4 (.cons (.str "lesser") (.cons (.var 0) (.cons (.var 1) .nil))) .nil))]
def d29 : DefI := ⟨defD ("lesser", none) "lesser" (top 20) [], ["x", "y"], ["x", "y"], q29⟩
def q30 : List S := [(.ret (.call 4 (.cons (.str "below") (.cons (.var 0) (.cons (.var 1) .nil))) .nil))]
def d30 : DefI := ⟨defD ("below", none) "below" (top 21) [], ["x", "y"], ["x", "y"], q30⟩
def q31 : List S := [(.ret (.call 4 (.cons (.str "at_most") (.cons (.var 0) (.cons (.var 1) .nil))) .nil))]
def d31 : DefI := ⟨defD ("at_most", none) "at_most" (top 22) [], ["x", "y"], ["x", "y"], q31⟩
def q32 : List S := [(.ret (.call 4 (.cons (.str "equal") (.cons (.var 0) (.cons (.var 1) .nil))) .nil))]
def d32 : DefI := ⟨defD ("equal", none) "equal" (top 23) [], ["x", "y"], ["x", "y"], q32⟩
def q33 : List S := [(.ret (.call 4 (.cons (.str "unequal") (.cons (.var 0) (.cons (.var 1) .nil))) .nil))]
def d33 : DefI := ⟨defD ("unequal", none) "unequal" (top 24) [], ["x", "y"], ["x", "y"], q33⟩
def q34_fb0 : List S := [(.expr (.bm .append (.var 6) (.cons (.tup (.cons (.var 3) (.cons (.bi .tuple (.cons (.slice (.call 10 (.cons (.var 0) (.cons (.var 4) .nil)) .nil) .nil (.cons (.call 9 (.cons (.var 0) (.cons (.int 4) .nil)) .nil) .nil)) .nil)) .nil))) .nil)))]
def q34_for0 : S := .for_ (.nm 3) (.seq (.slice (.var 5) .nil (.cons (.var 1) .nil))) q34_fb0
@[simp] theorem sxs_q34_for0 {T : Tab} {G : Sems} (r : List S) : xvs T G (q34_for0 :: r) = xSeq (xv T G q34_for0) (xvs T G r) := rfl
def q34 : List S := [(.par3 4 5 6 (.cons (.call 7 (.cons (.var 0) (.cons (.int 4) .nil)) .nil) (.cons (.call 6 (.cons (.var 0) (.cons (.int 4) .nil)) .nil) (.cons (.newL .nil) .nil)))), (.asg (.nm 2) (.call 8 (.cons (.var 0) (.cons (.lst (.cons (.str "below") (.cons (.str "equal") (.cons (.str "greater") (.cons (.str "lesser") (.cons (.str "unequal") (.cons (.str "absolute") (.cons (.str "all") (.cons (.str "none") (.cons (.str "add") .nil)))))))))) .nil)) .nil)), (.if_ (.and_ (.cmp .NotIn (.var 2) (.var 5)) (.cmp .Eq (.call 9 (.cons (.var 0) (.cons (.int 3) .nil)) .nil) (.int 0))) [(.sub (.var 5) (.int 0) (.var 2))] []), q34_for0, (.frz 6), (.ret (.var 6))]
def d34 : DefI := ⟨defD ("_law_own_accesses", none) "_law_own_accesses" (top 26) [], ["_law_stream", "_law_many"], ["_law_stream", "_law_many", "_law_word", "_law_name_here", "_law_letters_here", "_law_names_here", "_law_own"], q34⟩
def q35 : List S := drawQ
def d35 : DefI := ⟨defD ("_law_draw", none) "_law_draw" (top 27) [], ["_law_stream", "_law_many"], ["_law_stream", "_law_many", "_law_mixed_here", "_law_digit"], q35⟩
def q36 : List S := startQ
def d36 : DefI := ⟨defD ("_law_start", none) "_law_start" (top 28) [], ["_law_script"], ["_law_script"], q36⟩
def q37 : List S := [(.ret (.idx (.var 1) (.call 9 (.cons (.var 0) (.cons (.bi .len (.cons (.var 1) .nil)) .nil)) .nil)))]
def d37 : DefI := ⟨defD ("_law_pick", none) "_law_pick" (top 29) [], ["_law_stream", "_law_some"], ["_law_stream", "_law_some"], q37⟩
def q38_lc0 : E := .lc (.bm .pop (.var 2) (.cons (.call 9 (.cons (.var 0) (.cons (.bi .len (.cons (.var 2) .nil)) .nil)) .nil) .nil)) (.nm 3) (.range (.cons (.bi .len (.cons (.var 2) .nil)) .nil)) .nil [("_law_k", 3)]
def q38 : List S := [(.asg (.nm 2) (.bi .newList (.cons (.var 1) .nil))), (.ret q38_lc0)]
def d38 : DefI := ⟨defD ("_law_mixed", none) "_law_mixed" (top 30) [], ["_law_stream", "_law_some"], ["_law_stream", "_law_some", "_law_left", "_law_k"], q38⟩
def q39 : List S := sameQ 11
def d39 : DefI := ⟨defD ("_law_same", none) "_law_same" (top 31) [], ["_law_found", "_law_due_here"], ["_law_found", "_law_due_here", "_law_key", "_law_one", "_law_other"], q39⟩
def q40_lc0 : E := .lc (.call 8 (.cons (.var 0) (.cons (.str "abcdefghijklmnopqrstuvwxyz") .nil)) .nil) (.nm 1) (.range (.cons (.bin .Add (.int 1) (.call 9 (.cons (.var 0) (.cons (.int 8) .nil)) .nil)) .nil)) .nil [("_law_k", 1)]
def q40 : List S := [(.ret (.sm .join (.str "") (.cons q40_lc0 .nil)))]
def d40 : DefI := ⟨defD ("_law_name", none) "_law_name" (top 32) [], ["_law_stream"], ["_law_stream", "_law_k"], q40⟩
def q41_lc0 : E := .lc (.bin .Add (.bin .Add (.str "zz") (.var 6)) (.slice (.var 4) .nil (.cons (.int 5) .nil))) (.nm 6) (.txt (.str "abcdefgh")) .nil [("_law_sign", 6)]
def q41_lc1 : E := .lc (.var 5) (.nm 5) (.seq (.bin .Add (.lst (.cons (.var 4) .nil)) q41_lc0)) (.cons (.cmp .NotIn (.var 5) (.var 2)) .nil) [("_law_one", 5)]
def q41_fb0 : List S := [(.asg (.nm 4) (.call 12 (.cons (.var 0) .nil) .nil)), (.expr (.bm .append (.var 2) (.cons (.idx q41_lc1 (.int 0)) .nil)))]
def q41_for0 : S := .for_ (.nm 3) (.range (.cons (.var 1) .nil)) q41_fb0
@[simp] theorem sxs_q41_for0 {T : Tab} {G : Sems} (r : List S) : xvs T G (q41_for0 :: r) = xSeq (xv T G q41_for0) (xvs T G r) := rfl
def q41 : List S := [(.asg (.nm 2) (.newL .nil)), q41_for0, (.ret (.var 2))]
def d41 : DefI := ⟨defD ("_law_names", none) "_law_names" (top 33) [], ["_law_stream", "_law_many"], ["_law_stream", "_law_many", "_law_names_here", "_law_k", "_law_name_here", "_law_one", "_law_sign"], q41⟩
def q42_lc0 : E := .lc (.bm .pop (.var 2) (.cons (.call 9 (.cons (.var 0) (.cons (.bi .len (.cons (.var 2) .nil)) .nil)) .nil) .nil)) (.nm 3) (.range (.cons (.var 1) .nil)) .nil [("_law_k", 3)]
def q42 : List S := [(.asg (.nm 2) (.bi .newListS (.cons (.str "abcdefghijklmnopqrstuvwxyz") .nil))), (.ret q42_lc0)]
def d42 : DefI := ⟨defD ("_law_letters", none) "_law_letters" (top 34) [], ["_law_stream", "_law_many"], ["_law_stream", "_law_many", "_law_left", "_law_k"], q42⟩
def q43 : List S := [(.if_ (.cmp .Eq (.bi .len (.cons (.var 1) .nil)) (.int 0)) [(.ret (.call 13 (.cons (.var 0) .nil) .nil))] []), (.if_ (.cmp .Eq (.bi .len (.cons (.var 1) .nil)) (.int 1)) [(.ret (.call 14 (.cons (.var 0) (.cons (.idx (.var 1) (.int 0)) .nil)) .nil))] []), (.if_ (.cmp .Eq (.bi .len (.cons (.var 1) .nil)) (.int 2)) [(.ret (.call 15 (.cons (.var 0) (.cons (.idx (.var 1) (.int 0)) (.cons (.idx (.var 1) (.int 1)) .nil))) .nil))] []), (.ret (.call 16 (.cons (.var 0) (.cons (.idx (.var 1) (.int 0)) (.cons (.idx (.var 1) (.int 1)) (.cons (.idx (.var 1) (.int 2)) .nil)))) .nil))]
def d43 : DefI := ⟨defD ("_law_access", none) "_law_access" (top 35) [], ["_law_name_here", "_law_letters_here"], ["_law_name_here", "_law_letters_here"], q43⟩
def q44 : List S := [(.if_ (.cmp .In (.var 0) (.tup (.cons (.str "plus") (.cons (.str "minus") (.cons (.str "times") .nil))))) [(.ret (.ite (.cmp .Eq (.var 0) (.str "plus")) (.ownB 0 .Add (.var 1) (.var 2)) (.ite (.cmp .Eq (.var 0) (.str "minus")) (.ownB 1 .Sub (.var 1) (.var 2)) (.ownB 2 .Mult (.var 1) (.var 2)))))] []), (.if_ (.cmp .In (.var 0) (.tup (.cons (.str "both") (.cons (.str "either") (.cons (.str "unlike") .nil))))) [(.ret (.ite (.cmp .Eq (.var 0) (.str "both")) (.ownB 3 .BitAnd (.var 1) (.var 2)) (.ite (.cmp .Eq (.var 0) (.str "either")) (.ownB 4 .BitOr (.var 1) (.var 2)) (.ownB 5 .BitXor (.var 1) (.var 2)))))] []), (.if_ (.cmp .In (.var 0) (.tup (.cons (.str "greater") (.cons (.str "lesser") .nil)))) [(.ret (.ite (.cmp .Eq (.var 0) (.str "greater")) (.call 17 (.cons (.var 1) (.cons (.var 2) .nil)) .nil) (.call 18 (.cons (.var 1) (.cons (.var 2) .nil)) .nil)))] []), (.if_ (.cmp .In (.var 0) (.tup (.cons (.str "below") (.cons (.str "at_most") .nil)))) [(.ret (.ite (.cmp .Eq (.var 0) (.str "below")) (.call 19 (.cons (.var 1) (.cons (.var 2) .nil)) .nil) (.call 20 (.cons (.var 1) (.cons (.var 2) .nil)) .nil)))] []), (.ret (.ite (.cmp .Eq (.var 0) (.str "equal")) (.call 21 (.cons (.var 1) (.cons (.var 2) .nil)) .nil) (.call 22 (.cons (.var 1) (.cons (.var 2) .nil)) .nil)))]
def d44 : DefI := ⟨defD ("_law_pair_built", none) "_law_pair_built" (top 36) [], ["_law_kind", "_law_x", "_law_y"], ["_law_kind", "_law_x", "_law_y"], q44⟩
def q45_lc0 : E := .lc (.ite (.bi .isinst (.cons (.var 2) (.cons (.tup (.cons (.gl "int") (.cons (.gl "str") (.cons (.gl "tuple") .nil)))) .nil))) (.var 2) (.call 23 (.cons (.var 2) .nil) .nil)) (.nm 2) (.seq (.attr (.var 0) "parts")) .nil [("_law_part", 2)]
def q45 : List S := [(.asg (.nm 1) q45_lc0), (.ret (.tup (.cons (.attr (.var 0) "kind") (.cons (.bi .isinst (.cons (.attr (.var 0) "parts") (.cons (.gl "tuple") .nil))) (.cons (.var 1) .nil)))))]
def d45 : DefI := ⟨defD ("_law_seen", none) "_law_seen" (top 37) [], ["_law_e"], ["_law_e", "_law_parts", "_law_part"], q45⟩
def q46_lc0 : E := .lc (.ite (.bi .isinst (.cons (.var 1) (.cons (.gl "tuple") .nil))) (.call 24 (.cons (.var 1) .nil) .nil) (.var 1)) (.nm 1) (.seq (.slice (.var 0) (.cons (.int 1) .nil) .nil)) .nil [("_law_part", 1)]
def q46 : List S := [(.if_ (.cmp .Eq (.idx (.var 0) (.int 0)) (.str "access")) [(.ret (.tup (.cons (.str "access") (.cons (.bl true) (.cons (.lst (.cons (.idx (.var 0) (.int 1)) (.cons (.idx (.var 0) (.int 2)) .nil))) .nil)))))] []), (.ret (.tup (.cons (.idx (.var 0) (.int 0)) (.cons (.bl true) (.cons q46_lc0 .nil)))))]
def d46 : DefI := ⟨defD ("_law_due", none) "_law_due" (top 38) [], ["_law_e"], ["_law_e", "_law_part"], q46⟩
def q47 : List S := [(.if_ (.cmp .In (.var 0) (.tup (.cons (.str "plus") (.cons (.str "minus") (.cons (.str "times") .nil))))) [(.ret (.ite (.cmp .Eq (.var 0) (.str "plus")) (.ownI 0 .Add (.var 1) (.var 2)) (.ite (.cmp .Eq (.var 0) (.str "minus")) (.ownI 1 .Sub (.var 1) (.var 2)) (.ownI 2 .Mult (.var 1) (.var 2)))))] []), (.if_ (.cmp .In (.var 0) (.tup (.cons (.str "both") (.cons (.str "either") (.cons (.str "unlike") .nil))))) [(.ret (.ite (.cmp .Eq (.var 0) (.str "both")) (.ownI 3 .BitAnd (.var 1) (.var 2)) (.ite (.cmp .Eq (.var 0) (.str "either")) (.ownI 4 .BitOr (.var 1) (.var 2)) (.ownI 5 .BitXor (.var 1) (.var 2)))))] []), (.if_ (.cmp .In (.var 0) (.tup (.cons (.str "greater") (.cons (.str "lesser") .nil)))) [(.ret (.ite (.cmp .Eq (.var 0) (.str "greater")) (.call 17 (.cons (.var 1) (.cons (.var 2) .nil)) .nil) (.call 18 (.cons (.var 1) (.cons (.var 2) .nil)) .nil)))] []), (.if_ (.cmp .In (.var 0) (.tup (.cons (.str "below") (.cons (.str "at_most") .nil)))) [(.ret (.ite (.cmp .Eq (.var 0) (.str "below")) (.call 19 (.cons (.var 1) (.cons (.var 2) .nil)) .nil) (.call 20 (.cons (.var 1) (.cons (.var 2) .nil)) .nil)))] []), (.ret (.ite (.cmp .Eq (.var 0) (.str "equal")) (.call 21 (.cons (.var 1) (.cons (.var 2) .nil)) .nil) (.call 22 (.cons (.var 1) (.cons (.var 2) .nil)) .nil)))]
def d47 : DefI := ⟨defD ("_law_beside", none) "_law_beside" (top 39) [], ["_law_kind", "_law_x", "_law_n"], ["_law_kind", "_law_x", "_law_n"], q47⟩
def q48 : List S := [(.if_ (.cmp .In (.var 0) (.tup (.cons (.str "plus") (.cons (.str "minus") (.cons (.str "times") .nil))))) [(.ret (.ite (.cmp .Eq (.var 0) (.str "plus")) (.iOwn 6 .Add (.var 1) (.var 2)) (.ite (.cmp .Eq (.var 0) (.str "minus")) (.iOwn 7 .Sub (.var 1) (.var 2)) (.iOwn 8 .Mult (.var 1) (.var 2)))))] []), (.if_ (.cmp .In (.var 0) (.tup (.cons (.str "both") (.cons (.str "either") (.cons (.str "unlike") .nil))))) [(.ret (.ite (.cmp .Eq (.var 0) (.str "both")) (.iOwn 9 .BitAnd (.var 1) (.var 2)) (.ite (.cmp .Eq (.var 0) (.str "either")) (.iOwn 10 .BitOr (.var 1) (.var 2)) (.iOwn 11 .BitXor (.var 1) (.var 2)))))] []), (.if_ (.cmp .In (.var 0) (.tup (.cons (.str "greater") (.cons (.str "lesser") .nil)))) [(.ret (.ite (.cmp .Eq (.var 0) (.str "greater")) (.call 17 (.cons (.var 1) (.cons (.var 2) .nil)) .nil) (.call 18 (.cons (.var 1) (.cons (.var 2) .nil)) .nil)))] []), (.if_ (.cmp .In (.var 0) (.tup (.cons (.str "below") (.cons (.str "at_most") .nil)))) [(.ret (.ite (.cmp .Eq (.var 0) (.str "below")) (.call 19 (.cons (.var 1) (.cons (.var 2) .nil)) .nil) (.call 20 (.cons (.var 1) (.cons (.var 2) .nil)) .nil)))] []), (.ret (.ite (.cmp .Eq (.var 0) (.str "equal")) (.call 21 (.cons (.var 1) (.cons (.var 2) .nil)) .nil) (.call 22 (.cons (.var 1) (.cons (.var 2) .nil)) .nil)))]
def d48 : DefI := ⟨defD ("_law_behind", none) "_law_behind" (top 40) [], ["_law_kind", "_law_n", "_law_x"], ["_law_kind", "_law_n", "_law_x"], q48⟩
def q49 : List S := [(.par 4 3 (.cons (.call 8 (.cons (.var 0) (.cons (.lst (.cons (.str "negative") (.cons (.str "inverse") (.cons (.str "absolute") (.cons (.str "quotient") (.cons (.str "power") (.cons (.str "left") (.cons (.str "right") .nil)))))))) .nil)) .nil) (.cons (.int 0) .nil))), (.if_ (.cmp .In (.var 4) (.tup (.cons (.str "negative") (.cons (.str "inverse") (.cons (.str "absolute") .nil))))) [(.ret (.tup (.cons (.tup (.cons (.var 4) (.cons (.var 1) .nil))) (.cons (.ite (.cmp .Eq (.var 4) (.str "negative")) (.ownU 0 .USub (.var 2)) (.ite (.cmp .Eq (.var 4) (.str "inverse")) (.ownU 1 .Invert (.var 2)) (.absO 2 (.cons (.var 2) .nil)))) .nil))))] []), (.if_ (.cmp .Eq (.var 4) (.str "quotient")) [(.asg (.nm 3) (.idx (.lst (.cons (.int 7) (.cons (.neg (.int 3)) (.cons (.bin .Pow (.int 10) (.int 19)) .nil)))) (.call 9 (.cons (.var 0) (.cons (.int 3) .nil)) .nil))), (.ret (.tup (.cons (.tup (.cons (.var 4) (.cons (.var 1) (.cons (.var 3) .nil)))) (.cons (.ownI 12 .FloorDiv (.var 2) (.var 3)) .nil))))] []), (.if_ (.cmp .Eq (.var 4) (.str "power")) [(.asg (.nm 3) (.call 9 (.cons (.var 0) (.cons (.int 2) .nil)) .nil)), (.ret (.tup (.cons (.tup (.cons (.var 4) (.cons (.var 1) (.cons (.bin .Add (.var 3) (.int 1)) .nil)))) (.cons (.idx (.lst (.cons (.ownI 13 .Pow (.var 2) (.int 1)) (.cons (.ownI 13 .Pow (.var 2) (.int 2)) .nil))) (.var 3)) .nil))))] []), (.asg (.nm 3) (.call 8 (.cons (.var 0) (.cons (.lst (.cons (.int 0) (.cons (.int 60) (.cons (.bin .Add (.int 1) (.call 9 (.cons (.var 0) (.cons (.int 59) .nil)) .nil)) .nil)))) .nil)) .nil)), (.ret (.tup (.cons (.tup (.cons (.var 4) (.cons (.var 1) (.cons (.var 3) .nil)))) (.cons (.ite (.cmp .Eq (.var 4) (.str "left")) (.ownI 14 .LShift (.var 2) (.var 3)) (.ownI 15 .RShift (.var 2) (.var 3))) .nil))))]
def d49 : DefI := ⟨defD ("_law_single", none) "_law_single" (top 41) [], ["_law_stream", "_law_e", "_law_x"], ["_law_stream", "_law_e", "_law_x", "_law_n", "_law_kind"], q49⟩
def q50_lc0 : E := .lc (.call 24 (.cons (.var 19) .nil) .nil) (.tup [18, 19]) (.seq (.var 11)) .nil [("_law_one", 18), ("_law_due_here", 19)]
def q50_lc1 : E := .lc (.call 23 (.cons (.var 18) .nil) .nil) (.tup [18, 19]) (.seq (.var 11)) .nil [("_law_one", 18), ("_law_due_here", 19)]
def q50_fb1 : List S := [(.asg (.nm 10) (.call 8 (.cons (.var 1) (.cons (.var 2) .nil)) .nil)), (.asg (.nm 11) (.newL (.cons (.tup (.cons (.var 7) (.cons (.var 6) .nil))) (.cons (.tup (.cons (.call 28 (.cons (.var 10) (.cons (.var 7) (.cons (.var 9) .nil))) .nil) (.cons (.tup (.cons (.var 10) (.cons (.var 6) (.cons (.var 8) .nil)))) .nil))) .nil)))), (.expr (.bm .append (.var 11) (.cons (.tup (.cons (.call 29 (.cons (.var 10) (.cons (.var 7) (.cons (.var 4) .nil))) .nil) (.cons (.tup (.cons (.var 10) (.cons (.var 6) (.cons (.tup (.cons (.str "number") (.cons (.var 4) .nil))) .nil)))) .nil))) .nil))), (.expr (.bm .append (.var 11) (.cons (.tup (.cons (.call 30 (.cons (.var 10) (.cons (.var 4) (.cons (.var 7) .nil))) .nil) (.cons (.tup (.cons (.var 10) (.cons (.tup (.cons (.str "number") (.cons (.var 4) .nil))) (.cons (.var 6) .nil)))) .nil))) .nil))), (.asg (.tup [16, 17]) (.call 31 (.cons (.var 1) (.cons (.var 6) (.cons (.var 7) .nil))) .nil)), (.expr (.bm .extend (.var 11) (.cons (.lst (.cons (.tup (.cons (.var 17) (.cons (.var 16) .nil))) (.cons (.tup (.cons (.ownU 3 .UAdd (.var 7)) (.cons (.var 6) .nil))) (.cons (.tup (.cons (.var 9) (.cons (.var 8) .nil))) .nil)))) .nil))), (.frz 11), (.if_ (.not_ (.call 11 (.cons q50_lc1 (.cons q50_lc0 .nil)) .nil)) [(.ret (.bl false))] []), (.asg (.tup [7, 6]) (.idx (.var 11) (.bin .Add (.int 1) (.call 9 (.cons (.var 1) (.cons (.int 4) .nil)) .nil))))]
def q50_for1 : S := .for_ (.nm 5) (.range (.cons (.int 3) .nil)) q50_fb1
@[simp] theorem sxs_q50_for1 {T : Tab} {G : Sems} (r : List S) : xvs T G (q50_for1 :: r) = xSeq (xv T G q50_for1) (xvs T G r) := rfl
def q50_fb0 : List S := [(.asg (.seq (.cons (.tup [12, 13]) (.cons (.tup [14, 15]) .nil))) (.call 26 (.cons (.var 1) (.cons (.int 2) .nil)) .nil)), (.asg (.nm 4) (.idx (.lst (.cons (.bin .Sub (.call 9 (.cons (.var 1) (.cons (.int 30) .nil)) .nil) (.int 9)) (.cons (.bin .Add (.bin .Pow (.int 10) (.int 19)) (.int 1)) .nil))) (.bi .int (.cons (.cmp .Eq (.call 9 (.cons (.var 1) (.cons (.int 5) .nil)) .nil) (.int 0)) .nil)))), (.par 6 7 (.cons (.tup (.cons (.str "access") (.cons (.var 12) (.cons (.var 13) .nil)))) (.cons (.call 27 (.cons (.var 12) (.cons (.var 13) .nil)) .nil) .nil))), (.asg (.tup [8, 9]) (.idx (.lst (.cons (.tup (.cons (.tup (.cons (.str "access") (.cons (.var 14) (.cons (.var 15) .nil)))) (.cons (.call 27 (.cons (.var 14) (.cons (.var 15) .nil)) .nil) .nil))) (.cons (.tup (.cons (.tup (.cons (.str "number") (.cons (.var 4) .nil))) (.cons (.call 1 (.cons (.var 4) .nil) .nil) .nil))) .nil))) (.call 9 (.cons (.var 1) (.cons (.int 2) .nil)) .nil))), q50_for1]
def q50_for0 : S := .for_ (.nm 3) (.range (.cons (.int 6) .nil)) q50_fb0
@[simp] theorem sxs_q50_for0 {T : Tab} {G : Sems} (r : List S) : xvs T G (q50_for0 :: r) = xSeq (xv T G q50_for0) (xvs T G r) := rfl
def q50 : List S := [(.asg (.nm 1) (.call 25 (.cons (.var 0) .nil) .nil)), (.asg (.nm 2) (.lst (.cons (.str "plus") (.cons (.str "minus") (.cons (.str "times") (.cons (.str "both") (.cons (.str "either") (.cons (.str "unlike") (.cons (.str "greater") (.cons (.str "lesser") .nil)))))))))), (.asg (.nm 2) (.bin .Add (.var 2) (.lst (.cons (.str "below") (.cons (.str "at_most") (.cons (.str "equal") (.cons (.str "unequal") .nil))))))), q50_for0, (.ret (.bl true))]
def d50 : DefI := ⟨defD ("law", none) "law" (top 42) [], ["_law_script"], ["_law_script", "_law_stream", "_law_pairs", "_law_turn", "_law_n", "_law_k", "_law_e", "_law_x", "_law_f", "_law_y", "_law_kind", "_law_made", "_law_name_here", "_law_letters_here", "_law_other", "_law_more", "_law_data", "_law_built", "_law_one", "_law_due_here"], q50⟩
def T : Tab := {
  fns := [⟨"repeated", 1, []⟩, ⟨"number", 1, []⟩, ⟨"operand", 1, []⟩, ⟨"number_fits", 2, []⟩, ⟨"paired", 3, []⟩, ⟨"numbered", 3, []⟩, ⟨"_law_names", 2, []⟩, ⟨"_law_letters", 2, []⟩, ⟨"_law_pick", 2, []⟩, ⟨"_law_draw", 2, []⟩, ⟨"_law_mixed", 2, []⟩, ⟨"_law_same", 2, []⟩, ⟨"_law_name", 1, []⟩, ⟨"access", 1, []⟩, ⟨"access", 2, []⟩, ⟨"access", 3, []⟩, ⟨"access", 4, []⟩, ⟨"greater", 2, []⟩, ⟨"lesser", 2, []⟩, ⟨"below", 2, []⟩, ⟨"at_most", 2, []⟩, ⟨"equal", 2, []⟩, ⟨"unequal", 2, []⟩, ⟨"_law_seen", 1, []⟩, ⟨"_law_due", 1, []⟩, ⟨"_law_start", 1, []⟩, ⟨"_law_own_accesses", 2, []⟩, ⟨"_law_access", 2, []⟩, ⟨"_law_pair_built", 3, []⟩, ⟨"_law_beside", 3, []⟩, ⟨"_law_behind", 3, []⟩, ⟨"_law_single", 3, []⟩]
  mks := [⟨"Expression", 0, 2, []⟩]
  mts := [⟨0, "__neg__", 0⟩, ⟨0, "__invert__", 0⟩, ⟨0, "__abs__", 0⟩, ⟨0, "__pos__", 0⟩]
  ops := [(0, "__add__"), (0, "__sub__"), (0, "__mul__"), (0, "__and__"), (0, "__or__"), (0, "__xor__"), (0, "__radd__"), (0, "__rsub__"), (0, "__rmul__"), (0, "__rand__"), (0, "__ror__"), (0, "__rxor__"), (0, "__floordiv__"), (0, "__pow__"), (0, "__lshift__"), (0, "__rshift__")]
  gls := [("Expression", .cls 0), ("CHANGES", .tup [.str "gain", .str "loss"]), ("tuple", .ty "tuple"), ("list", .ty "list"), ("dict", .ty "dict"), ("int", .ty "int"), ("bool", .ty "bool"), ("str", .ty "str")]
  fld := Fx.fldT
  isi := Fx.isiT
  own := Fx.ownT
  mix := [(0, .Add), (0, .Sub), (0, .Mult), (0, .BitAnd), (0, .BitOr), (0, .BitXor), (0, .FloorDiv), (0, .Pow), (0, .LShift), (0, .RShift)]
  rfl := [(0, .Add), (0, .Sub), (0, .Mult), (0, .BitAnd), (0, .BitOr), (0, .BitXor)] }
def M : Mod := {
  T := T
  defs := [d0, d1, d2, d3, d4, d5, d6, d7, d8, d9, d10, d11, d12, d13, d14, d15, d16, d17, d18, d19, d20, d21, d22, d23, d24, d25, d26, d27, d28, d29, d30, d31, d32, d33, d34, d35, d36, d37, d38, d39, d40, d41, d42, d43, d44, d45, d46, d47, d48, d49, d50]
  fnE := [⟨2, [.arg 0]⟩, ⟨0, [.arg 0]⟩, ⟨3, [.arg 0]⟩, ⟨6, [.arg 0, .arg 1]⟩, ⟨4, [.arg 0, .arg 1, .arg 2]⟩, ⟨5, [.arg 0, .arg 1, .arg 2]⟩, ⟨41, [.arg 0, .arg 1]⟩, ⟨42, [.arg 0, .arg 1]⟩, ⟨37, [.arg 0, .arg 1]⟩, ⟨35, [.arg 0, .arg 1]⟩, ⟨38, [.arg 0, .arg 1]⟩, ⟨39, [.arg 0, .arg 1]⟩, ⟨40, [.arg 0]⟩, ⟨1, [.arg 0, .rest 1]⟩, ⟨1, [.arg 0, .rest 1]⟩, ⟨1, [.arg 0, .rest 1]⟩, ⟨1, [.arg 0, .rest 1]⟩, ⟨28, [.arg 0, .arg 1]⟩, ⟨29, [.arg 0, .arg 1]⟩, ⟨30, [.arg 0, .arg 1]⟩, ⟨31, [.arg 0, .arg 1]⟩, ⟨32, [.arg 0, .arg 1]⟩, ⟨33, [.arg 0, .arg 1]⟩, ⟨45, [.arg 0]⟩, ⟨46, [.arg 0]⟩, ⟨36, [.arg 0]⟩, ⟨34, [.arg 0, .arg 1]⟩, ⟨43, [.arg 0, .arg 1]⟩, ⟨44, [.arg 0, .arg 1, .arg 2]⟩, ⟨47, [.arg 0, .arg 1, .arg 2]⟩, ⟨48, [.arg 0, .arg 1, .arg 2]⟩, ⟨49, [.arg 0, .arg 1, .arg 2]⟩]
  mkE := [⟨7, [.arg 0, .arg 1, .arg 2]⟩]
  mtE := [⟨24, [.arg 0]⟩, ⟨26, [.arg 0]⟩, ⟨27, [.arg 0]⟩, ⟨25, [.arg 0]⟩]
  opE := [⟨8, [.arg 0, .arg 1]⟩, ⟨10, [.arg 0, .arg 1]⟩, ⟨12, [.arg 0, .arg 1]⟩, ⟨14, [.arg 0, .arg 1]⟩, ⟨16, [.arg 0, .arg 1]⟩, ⟨18, [.arg 0, .arg 1]⟩, ⟨9, [.arg 0, .arg 1]⟩, ⟨11, [.arg 0, .arg 1]⟩, ⟨13, [.arg 0, .arg 1]⟩, ⟨15, [.arg 0, .arg 1]⟩, ⟨17, [.arg 0, .arg 1]⟩, ⟨19, [.arg 0, .arg 1]⟩, ⟨20, [.arg 0, .arg 1]⟩, ⟨21, [.arg 0, .arg 1]⟩, ⟨22, [.arg 0, .arg 1]⟩, ⟨23, [.arg 0, .arg 1]⟩] }
theorem b_fns (K : PySem.W.Frag) : ∀ (i : Nat) t e d, M.T.fns[i]? = some t → M.fnE[i]? = some e → M.defs[e.j]? = some d → BindOk K d.d d.ps t.n t.kn e.ss
  | 0, _, _, _, rfl, rfl, rfl => bind_non rfl rfl fun kV doc pm an cdv ct us ws l1 l2 => match us, ws, l1, l2 with | [u0], [], _, _ => rfl
  | 1, _, _, _, rfl, rfl, rfl => bind_non rfl rfl fun kV doc pm an cdv ct us ws l1 l2 => match us, ws, l1, l2 with | [u0], [], _, _ => rfl
  | 2, _, _, _, rfl, rfl, rfl => bind_non rfl rfl fun kV doc pm an cdv ct us ws l1 l2 => match us, ws, l1, l2 with | [u0], [], _, _ => rfl
  | 3, _, _, _, rfl, rfl, rfl => bind_non rfl rfl fun kV doc pm an cdv ct us ws l1 l2 => match us, ws, l1, l2 with | [u0, u1], [], _, _ => rfl
  | 4, _, _, _, rfl, rfl, rfl => bind_non rfl rfl fun kV doc pm an cdv ct us ws l1 l2 => match us, ws, l1, l2 with | [u0, u1, u2], [], _, _ => rfl
  | 5, _, _, _, rfl, rfl, rfl => bind_non rfl rfl fun kV doc pm an cdv ct us ws l1 l2 => match us, ws, l1, l2 with | [u0, u1, u2], [], _, _ => rfl
  | 6, _, _, _, rfl, rfl, rfl => bind_non rfl rfl fun kV doc pm an cdv ct us ws l1 l2 => match us, ws, l1, l2 with | [u0, u1], [], _, _ => rfl
  | 7, _, _, _, rfl, rfl, rfl => bind_non rfl rfl fun kV doc pm an cdv ct us ws l1 l2 => match us, ws, l1, l2 with | [u0, u1], [], _, _ => rfl
  | 8, _, _, _, rfl, rfl, rfl => bind_non rfl rfl fun kV doc pm an cdv ct us ws l1 l2 => match us, ws, l1, l2 with | [u0, u1], [], _, _ => rfl
  | 9, _, _, _, rfl, rfl, rfl => bind_non rfl rfl fun kV doc pm an cdv ct us ws l1 l2 => match us, ws, l1, l2 with | [u0, u1], [], _, _ => rfl
  | 10, _, _, _, rfl, rfl, rfl => bind_non rfl rfl fun kV doc pm an cdv ct us ws l1 l2 => match us, ws, l1, l2 with | [u0, u1], [], _, _ => rfl
  | 11, _, _, _, rfl, rfl, rfl => bind_non rfl rfl fun kV doc pm an cdv ct us ws l1 l2 => match us, ws, l1, l2 with | [u0, u1], [], _, _ => rfl
  | 12, _, _, _, rfl, rfl, rfl => bind_non rfl rfl fun kV doc pm an cdv ct us ws l1 l2 => match us, ws, l1, l2 with | [u0], [], _, _ => rfl
  | 13, _, _, _, rfl, rfl, rfl => bind_star ["name"] "letters" (by decide) (by decide) rfl fun kV doc pm an cdv ct us rest l1 => match us, rest, l1 with | [u0], [], _ => rfl | [u0], _ :: _, _ => rfl
  | 14, _, _, _, rfl, rfl, rfl => bind_star ["name"] "letters" (by decide) (by decide) rfl fun kV doc pm an cdv ct us rest l1 => match us, rest, l1 with | [u0], [], _ => rfl | [u0], _ :: _, _ => rfl
  | 15, _, _, _, rfl, rfl, rfl => bind_star ["name"] "letters" (by decide) (by decide) rfl fun kV doc pm an cdv ct us rest l1 => match us, rest, l1 with | [u0], [], _ => rfl | [u0], _ :: _, _ => rfl
  | 16, _, _, _, rfl, rfl, rfl => bind_star ["name"] "letters" (by decide) (by decide) rfl fun kV doc pm an cdv ct us rest l1 => match us, rest, l1 with | [u0], [], _ => rfl | [u0], _ :: _, _ => rfl
  | 17, _, _, _, rfl, rfl, rfl => bind_non rfl rfl fun kV doc pm an cdv ct us ws l1 l2 => match us, ws, l1, l2 with | [u0, u1], [], _, _ => rfl
  | 18, _, _, _, rfl, rfl, rfl => bind_non rfl rfl fun kV doc pm an cdv ct us ws l1 l2 => match us, ws, l1, l2 with | [u0, u1], [], _, _ => rfl
  | 19, _, _, _, rfl, rfl, rfl => bind_non rfl rfl fun kV doc pm an cdv ct us ws l1 l2 => match us, ws, l1, l2 with | [u0, u1], [], _, _ => rfl
  | 20, _, _, _, rfl, rfl, rfl => bind_non rfl rfl fun kV doc pm an cdv ct us ws l1 l2 => match us, ws, l1, l2 with | [u0, u1], [], _, _ => rfl
  | 21, _, _, _, rfl, rfl, rfl => bind_non rfl rfl fun kV doc pm an cdv ct us ws l1 l2 => match us, ws, l1, l2 with | [u0, u1], [], _, _ => rfl
  | 22, _, _, _, rfl, rfl, rfl => bind_non rfl rfl fun kV doc pm an cdv ct us ws l1 l2 => match us, ws, l1, l2 with | [u0, u1], [], _, _ => rfl
  | 23, _, _, _, rfl, rfl, rfl => bind_non rfl rfl fun kV doc pm an cdv ct us ws l1 l2 => match us, ws, l1, l2 with | [u0], [], _, _ => rfl
  | 24, _, _, _, rfl, rfl, rfl => bind_non rfl rfl fun kV doc pm an cdv ct us ws l1 l2 => match us, ws, l1, l2 with | [u0], [], _, _ => rfl
  | 25, _, _, _, rfl, rfl, rfl => bind_non rfl rfl fun kV doc pm an cdv ct us ws l1 l2 => match us, ws, l1, l2 with | [u0], [], _, _ => rfl
  | 26, _, _, _, rfl, rfl, rfl => bind_non rfl rfl fun kV doc pm an cdv ct us ws l1 l2 => match us, ws, l1, l2 with | [u0, u1], [], _, _ => rfl
  | 27, _, _, _, rfl, rfl, rfl => bind_non rfl rfl fun kV doc pm an cdv ct us ws l1 l2 => match us, ws, l1, l2 with | [u0, u1], [], _, _ => rfl
  | 28, _, _, _, rfl, rfl, rfl => bind_non rfl rfl fun kV doc pm an cdv ct us ws l1 l2 => match us, ws, l1, l2 with | [u0, u1, u2], [], _, _ => rfl
  | 29, _, _, _, rfl, rfl, rfl => bind_non rfl rfl fun kV doc pm an cdv ct us ws l1 l2 => match us, ws, l1, l2 with | [u0, u1, u2], [], _, _ => rfl
  | 30, _, _, _, rfl, rfl, rfl => bind_non rfl rfl fun kV doc pm an cdv ct us ws l1 l2 => match us, ws, l1, l2 with | [u0, u1, u2], [], _, _ => rfl
  | 31, _, _, _, rfl, rfl, rfl => bind_non rfl rfl fun kV doc pm an cdv ct us ws l1 l2 => match us, ws, l1, l2 with | [u0, u1, u2], [], _, _ => rfl
  | i + 32, _, _, _, e, _, _ => by simp [M, T] at e
theorem b_mks (K : PySem.W.Frag) : ∀ (i : Nat) t e d, M.T.mks[i]? = some t → M.mkE[i]? = some e → M.defs[e.j]? = some d → BindOk K d.d d.ps (t.n + 1) t.kn e.ss
  | 0, _, _, _, rfl, rfl, rfl => bind_non rfl rfl fun kV doc pm an cdv ct us ws l1 l2 => match us, ws, l1, l2 with | [u0, u1, u2], [], _, _ => rfl
  | i + 1, _, _, _, e, _, _ => by simp [M, T] at e
theorem b_mts (K : PySem.W.Frag) : ∀ (i : Nat) t e d, M.T.mts[i]? = some t → M.mtE[i]? = some e → M.defs[e.j]? = some d → BindOk K d.d d.ps (t.n + 1) [] e.ss
  | 0, _, _, _, rfl, rfl, rfl => bind_non rfl rfl fun kV doc pm an cdv ct us ws l1 l2 => match us, ws, l1, l2 with | [u0], [], _, _ => rfl
  | 1, _, _, _, rfl, rfl, rfl => bind_non rfl rfl fun kV doc pm an cdv ct us ws l1 l2 => match us, ws, l1, l2 with | [u0], [], _, _ => rfl
  | 2, _, _, _, rfl, rfl, rfl => bind_non rfl rfl fun kV doc pm an cdv ct us ws l1 l2 => match us, ws, l1, l2 with | [u0], [], _, _ => rfl
  | 3, _, _, _, rfl, rfl, rfl => bind_non rfl rfl fun kV doc pm an cdv ct us ws l1 l2 => match us, ws, l1, l2 with | [u0], [], _, _ => rfl
  | i + 4, _, _, _, e, _, _ => by simp [M, T] at e
theorem b_ops (K : PySem.W.Frag) : ∀ (i : Nat) t e d, M.T.ops[i]? = some t → M.opE[i]? = some e → M.defs[e.j]? = some d → BindOk K d.d d.ps 2 [] e.ss
  | 0, _, _, _, rfl, rfl, rfl => bind_non rfl rfl fun kV doc pm an cdv ct us ws l1 l2 => match us, ws, l1, l2 with | [u0, u1], [], _, _ => rfl
  | 1, _, _, _, rfl, rfl, rfl => bind_non rfl rfl fun kV doc pm an cdv ct us ws l1 l2 => match us, ws, l1, l2 with | [u0, u1], [], _, _ => rfl
  | 2, _, _, _, rfl, rfl, rfl => bind_non rfl rfl fun kV doc pm an cdv ct us ws l1 l2 => match us, ws, l1, l2 with | [u0, u1], [], _, _ => rfl
  | 3, _, _, _, rfl, rfl, rfl => bind_non rfl rfl fun kV doc pm an cdv ct us ws l1 l2 => match us, ws, l1, l2 with | [u0, u1], [], _, _ => rfl
  | 4, _, _, _, rfl, rfl, rfl => bind_non rfl rfl fun kV doc pm an cdv ct us ws l1 l2 => match us, ws, l1, l2 with | [u0, u1], [], _, _ => rfl
  | 5, _, _, _, rfl, rfl, rfl => bind_non rfl rfl fun kV doc pm an cdv ct us ws l1 l2 => match us, ws, l1, l2 with | [u0, u1], [], _, _ => rfl
  | 6, _, _, _, rfl, rfl, rfl => bind_non rfl rfl fun kV doc pm an cdv ct us ws l1 l2 => match us, ws, l1, l2 with | [u0, u1], [], _, _ => rfl
  | 7, _, _, _, rfl, rfl, rfl => bind_non rfl rfl fun kV doc pm an cdv ct us ws l1 l2 => match us, ws, l1, l2 with | [u0, u1], [], _, _ => rfl
  | 8, _, _, _, rfl, rfl, rfl => bind_non rfl rfl fun kV doc pm an cdv ct us ws l1 l2 => match us, ws, l1, l2 with | [u0, u1], [], _, _ => rfl
  | 9, _, _, _, rfl, rfl, rfl => bind_non rfl rfl fun kV doc pm an cdv ct us ws l1 l2 => match us, ws, l1, l2 with | [u0, u1], [], _, _ => rfl
  | 10, _, _, _, rfl, rfl, rfl => bind_non rfl rfl fun kV doc pm an cdv ct us ws l1 l2 => match us, ws, l1, l2 with | [u0, u1], [], _, _ => rfl
  | 11, _, _, _, rfl, rfl, rfl => bind_non rfl rfl fun kV doc pm an cdv ct us ws l1 l2 => match us, ws, l1, l2 with | [u0, u1], [], _, _ => rfl
  | 12, _, _, _, rfl, rfl, rfl => bind_non rfl rfl fun kV doc pm an cdv ct us ws l1 l2 => match us, ws, l1, l2 with | [u0, u1], [], _, _ => rfl
  | 13, _, _, _, rfl, rfl, rfl => bind_non rfl rfl fun kV doc pm an cdv ct us ws l1 l2 => match us, ws, l1, l2 with | [u0, u1], [], _, _ => rfl
  | 14, _, _, _, rfl, rfl, rfl => bind_non rfl rfl fun kV doc pm an cdv ct us ws l1 l2 => match us, ws, l1, l2 with | [u0, u1], [], _, _ => rfl
  | 15, _, _, _, rfl, rfl, rfl => bind_non rfl rfl fun kV doc pm an cdv ct us ws l1 l2 => match us, ws, l1, l2 with | [u0, u1], [], _, _ => rfl
  | i + 16, _, _, _, e, _, _ => by simp [M, T] at e
theorem binds (K : PySem.W.Frag) : M.Binds K := ⟨b_fns K, b_mks K, b_mts K, b_ops K⟩
theorem stB : M.stB = true := by decide +kernel
@[simp] theorem t_fn0 : M.T.fns[0]? = some ⟨"repeated", 1, []⟩ := rfl
@[simp] theorem s_fn0 (l : Nat → Sem1) (a0 : D) : (M.sems l).fn 0 [a0] = l 2 [a0] := rfl
@[simp] theorem t_fn1 : M.T.fns[1]? = some ⟨"number", 1, []⟩ := rfl
@[simp] theorem s_fn1 (l : Nat → Sem1) (a0 : D) : (M.sems l).fn 1 [a0] = l 0 [a0] := rfl
@[simp] theorem t_fn2 : M.T.fns[2]? = some ⟨"operand", 1, []⟩ := rfl
@[simp] theorem s_fn2 (l : Nat → Sem1) (a0 : D) : (M.sems l).fn 2 [a0] = l 3 [a0] := rfl
@[simp] theorem t_fn3 : M.T.fns[3]? = some ⟨"number_fits", 2, []⟩ := rfl
@[simp] theorem s_fn3 (l : Nat → Sem1) (a0 a1 : D) : (M.sems l).fn 3 [a0, a1] = l 6 [a0, a1] := rfl
@[simp] theorem t_fn4 : M.T.fns[4]? = some ⟨"paired", 3, []⟩ := rfl
@[simp] theorem s_fn4 (l : Nat → Sem1) (a0 a1 a2 : D) : (M.sems l).fn 4 [a0, a1, a2] = l 4 [a0, a1, a2] := rfl
@[simp] theorem t_fn5 : M.T.fns[5]? = some ⟨"numbered", 3, []⟩ := rfl
@[simp] theorem s_fn5 (l : Nat → Sem1) (a0 a1 a2 : D) : (M.sems l).fn 5 [a0, a1, a2] = l 5 [a0, a1, a2] := rfl
@[simp] theorem t_fn6 : M.T.fns[6]? = some ⟨"_law_names", 2, []⟩ := rfl
@[simp] theorem s_fn6 (l : Nat → Sem1) (a0 a1 : D) : (M.sems l).fn 6 [a0, a1] = l 41 [a0, a1] := rfl
@[simp] theorem t_fn7 : M.T.fns[7]? = some ⟨"_law_letters", 2, []⟩ := rfl
@[simp] theorem s_fn7 (l : Nat → Sem1) (a0 a1 : D) : (M.sems l).fn 7 [a0, a1] = l 42 [a0, a1] := rfl
@[simp] theorem t_fn8 : M.T.fns[8]? = some ⟨"_law_pick", 2, []⟩ := rfl
@[simp] theorem s_fn8 (l : Nat → Sem1) (a0 a1 : D) : (M.sems l).fn 8 [a0, a1] = l 37 [a0, a1] := rfl
@[simp] theorem t_fn9 : M.T.fns[9]? = some ⟨"_law_draw", 2, []⟩ := rfl
@[simp] theorem s_fn9 (l : Nat → Sem1) (a0 a1 : D) : (M.sems l).fn 9 [a0, a1] = l 35 [a0, a1] := rfl
@[simp] theorem t_fn10 : M.T.fns[10]? = some ⟨"_law_mixed", 2, []⟩ := rfl
@[simp] theorem s_fn10 (l : Nat → Sem1) (a0 a1 : D) : (M.sems l).fn 10 [a0, a1] = l 38 [a0, a1] := rfl
@[simp] theorem t_fn11 : M.T.fns[11]? = some ⟨"_law_same", 2, []⟩ := rfl
@[simp] theorem s_fn11 (l : Nat → Sem1) (a0 a1 : D) : (M.sems l).fn 11 [a0, a1] = l 39 [a0, a1] := rfl
@[simp] theorem t_fn12 : M.T.fns[12]? = some ⟨"_law_name", 1, []⟩ := rfl
@[simp] theorem s_fn12 (l : Nat → Sem1) (a0 : D) : (M.sems l).fn 12 [a0] = l 40 [a0] := rfl
@[simp] theorem t_fn13 : M.T.fns[13]? = some ⟨"access", 1, []⟩ := rfl
@[simp] theorem s_fn13 (l : Nat → Sem1) (a0 : D) : (M.sems l).fn 13 [a0] = l 1 [a0, (.tup [])] := rfl
@[simp] theorem t_fn14 : M.T.fns[14]? = some ⟨"access", 2, []⟩ := rfl
@[simp] theorem s_fn14 (l : Nat → Sem1) (a0 a1 : D) : (M.sems l).fn 14 [a0, a1] = l 1 [a0, (.tup [a1])] := rfl
@[simp] theorem t_fn15 : M.T.fns[15]? = some ⟨"access", 3, []⟩ := rfl
@[simp] theorem s_fn15 (l : Nat → Sem1) (a0 a1 a2 : D) : (M.sems l).fn 15 [a0, a1, a2] = l 1 [a0, (.tup [a1, a2])] := rfl
@[simp] theorem t_fn16 : M.T.fns[16]? = some ⟨"access", 4, []⟩ := rfl
@[simp] theorem s_fn16 (l : Nat → Sem1) (a0 a1 a2 a3 : D) : (M.sems l).fn 16 [a0, a1, a2, a3] = l 1 [a0, (.tup [a1, a2, a3])] := rfl
@[simp] theorem t_fn17 : M.T.fns[17]? = some ⟨"greater", 2, []⟩ := rfl
@[simp] theorem s_fn17 (l : Nat → Sem1) (a0 a1 : D) : (M.sems l).fn 17 [a0, a1] = l 28 [a0, a1] := rfl
@[simp] theorem t_fn18 : M.T.fns[18]? = some ⟨"lesser", 2, []⟩ := rfl
@[simp] theorem s_fn18 (l : Nat → Sem1) (a0 a1 : D) : (M.sems l).fn 18 [a0, a1] = l 29 [a0, a1] := rfl
@[simp] theorem t_fn19 : M.T.fns[19]? = some ⟨"below", 2, []⟩ := rfl
@[simp] theorem s_fn19 (l : Nat → Sem1) (a0 a1 : D) : (M.sems l).fn 19 [a0, a1] = l 30 [a0, a1] := rfl
@[simp] theorem t_fn20 : M.T.fns[20]? = some ⟨"at_most", 2, []⟩ := rfl
@[simp] theorem s_fn20 (l : Nat → Sem1) (a0 a1 : D) : (M.sems l).fn 20 [a0, a1] = l 31 [a0, a1] := rfl
@[simp] theorem t_fn21 : M.T.fns[21]? = some ⟨"equal", 2, []⟩ := rfl
@[simp] theorem s_fn21 (l : Nat → Sem1) (a0 a1 : D) : (M.sems l).fn 21 [a0, a1] = l 32 [a0, a1] := rfl
@[simp] theorem t_fn22 : M.T.fns[22]? = some ⟨"unequal", 2, []⟩ := rfl
@[simp] theorem s_fn22 (l : Nat → Sem1) (a0 a1 : D) : (M.sems l).fn 22 [a0, a1] = l 33 [a0, a1] := rfl
@[simp] theorem t_fn23 : M.T.fns[23]? = some ⟨"_law_seen", 1, []⟩ := rfl
@[simp] theorem s_fn23 (l : Nat → Sem1) (a0 : D) : (M.sems l).fn 23 [a0] = l 45 [a0] := rfl
@[simp] theorem t_fn24 : M.T.fns[24]? = some ⟨"_law_due", 1, []⟩ := rfl
@[simp] theorem s_fn24 (l : Nat → Sem1) (a0 : D) : (M.sems l).fn 24 [a0] = l 46 [a0] := rfl
@[simp] theorem t_fn25 : M.T.fns[25]? = some ⟨"_law_start", 1, []⟩ := rfl
@[simp] theorem s_fn25 (l : Nat → Sem1) (a0 : D) : (M.sems l).fn 25 [a0] = l 36 [a0] := rfl
@[simp] theorem t_fn26 : M.T.fns[26]? = some ⟨"_law_own_accesses", 2, []⟩ := rfl
@[simp] theorem s_fn26 (l : Nat → Sem1) (a0 a1 : D) : (M.sems l).fn 26 [a0, a1] = l 34 [a0, a1] := rfl
@[simp] theorem t_fn27 : M.T.fns[27]? = some ⟨"_law_access", 2, []⟩ := rfl
@[simp] theorem s_fn27 (l : Nat → Sem1) (a0 a1 : D) : (M.sems l).fn 27 [a0, a1] = l 43 [a0, a1] := rfl
@[simp] theorem t_fn28 : M.T.fns[28]? = some ⟨"_law_pair_built", 3, []⟩ := rfl
@[simp] theorem s_fn28 (l : Nat → Sem1) (a0 a1 a2 : D) : (M.sems l).fn 28 [a0, a1, a2] = l 44 [a0, a1, a2] := rfl
@[simp] theorem t_fn29 : M.T.fns[29]? = some ⟨"_law_beside", 3, []⟩ := rfl
@[simp] theorem s_fn29 (l : Nat → Sem1) (a0 a1 a2 : D) : (M.sems l).fn 29 [a0, a1, a2] = l 47 [a0, a1, a2] := rfl
@[simp] theorem t_fn30 : M.T.fns[30]? = some ⟨"_law_behind", 3, []⟩ := rfl
@[simp] theorem s_fn30 (l : Nat → Sem1) (a0 a1 a2 : D) : (M.sems l).fn 30 [a0, a1, a2] = l 48 [a0, a1, a2] := rfl
@[simp] theorem t_fn31 : M.T.fns[31]? = some ⟨"_law_single", 3, []⟩ := rfl
@[simp] theorem s_fn31 (l : Nat → Sem1) (a0 a1 a2 : D) : (M.sems l).fn 31 [a0, a1, a2] = l 49 [a0, a1, a2] := rfl
@[simp] theorem t_mkr0 : M.T.mks[0]? = some ⟨"Expression", 0, 2, []⟩ := rfl
@[simp] theorem s_mkr0 (l : Nat → Sem1) (a0 a1 a2 : D) : (M.sems l).mkr 0 [a0, a1, a2] = l 7 [a0, a1, a2] := rfl
@[simp] theorem t_mt0 : M.T.mts[0]? = some ⟨0, "__neg__", 0⟩ := rfl
@[simp] theorem s_mt0 (l : Nat → Sem1) (a0 : D) : (M.sems l).mt 0 [a0] = l 24 [a0] := rfl
@[simp] theorem t_mt1 : M.T.mts[1]? = some ⟨0, "__invert__", 0⟩ := rfl
@[simp] theorem s_mt1 (l : Nat → Sem1) (a0 : D) : (M.sems l).mt 1 [a0] = l 26 [a0] := rfl
@[simp] theorem t_mt2 : M.T.mts[2]? = some ⟨0, "__abs__", 0⟩ := rfl
@[simp] theorem s_mt2 (l : Nat → Sem1) (a0 : D) : (M.sems l).mt 2 [a0] = l 27 [a0] := rfl
@[simp] theorem t_mt3 : M.T.mts[3]? = some ⟨0, "__pos__", 0⟩ := rfl
@[simp] theorem s_mt3 (l : Nat → Sem1) (a0 : D) : (M.sems l).mt 3 [a0] = l 25 [a0] := rfl
@[simp] theorem t_op0 : M.T.ops[0]? = some ((0, "__add__") : Nat × Str) := rfl
@[simp] theorem s_op0 (l : Nat → Sem1) (a0 a1 : D) : (M.sems l).op 0 [a0, a1] = l 8 [a0, a1] := rfl
@[simp] theorem t_op1 : M.T.ops[1]? = some ((0, "__sub__") : Nat × Str) := rfl
@[simp] theorem s_op1 (l : Nat → Sem1) (a0 a1 : D) : (M.sems l).op 1 [a0, a1] = l 10 [a0, a1] := rfl
@[simp] theorem t_op2 : M.T.ops[2]? = some ((0, "__mul__") : Nat × Str) := rfl
@[simp] theorem s_op2 (l : Nat → Sem1) (a0 a1 : D) : (M.sems l).op 2 [a0, a1] = l 12 [a0, a1] := rfl
@[simp] theorem t_op3 : M.T.ops[3]? = some ((0, "__and__") : Nat × Str) := rfl
@[simp] theorem s_op3 (l : Nat → Sem1) (a0 a1 : D) : (M.sems l).op 3 [a0, a1] = l 14 [a0, a1] := rfl
@[simp] theorem t_op4 : M.T.ops[4]? = some ((0, "__or__") : Nat × Str) := rfl
@[simp] theorem s_op4 (l : Nat → Sem1) (a0 a1 : D) : (M.sems l).op 4 [a0, a1] = l 16 [a0, a1] := rfl
@[simp] theorem t_op5 : M.T.ops[5]? = some ((0, "__xor__") : Nat × Str) := rfl
@[simp] theorem s_op5 (l : Nat → Sem1) (a0 a1 : D) : (M.sems l).op 5 [a0, a1] = l 18 [a0, a1] := rfl
@[simp] theorem t_op6 : M.T.ops[6]? = some ((0, "__radd__") : Nat × Str) := rfl
@[simp] theorem s_op6 (l : Nat → Sem1) (a0 a1 : D) : (M.sems l).op 6 [a0, a1] = l 9 [a0, a1] := rfl
@[simp] theorem t_op7 : M.T.ops[7]? = some ((0, "__rsub__") : Nat × Str) := rfl
@[simp] theorem s_op7 (l : Nat → Sem1) (a0 a1 : D) : (M.sems l).op 7 [a0, a1] = l 11 [a0, a1] := rfl
@[simp] theorem t_op8 : M.T.ops[8]? = some ((0, "__rmul__") : Nat × Str) := rfl
@[simp] theorem s_op8 (l : Nat → Sem1) (a0 a1 : D) : (M.sems l).op 8 [a0, a1] = l 13 [a0, a1] := rfl
@[simp] theorem t_op9 : M.T.ops[9]? = some ((0, "__rand__") : Nat × Str) := rfl
@[simp] theorem s_op9 (l : Nat → Sem1) (a0 a1 : D) : (M.sems l).op 9 [a0, a1] = l 15 [a0, a1] := rfl
@[simp] theorem t_op10 : M.T.ops[10]? = some ((0, "__ror__") : Nat × Str) := rfl
@[simp] theorem s_op10 (l : Nat → Sem1) (a0 a1 : D) : (M.sems l).op 10 [a0, a1] = l 17 [a0, a1] := rfl
@[simp] theorem t_op11 : M.T.ops[11]? = some ((0, "__rxor__") : Nat × Str) := rfl
@[simp] theorem s_op11 (l : Nat → Sem1) (a0 a1 : D) : (M.sems l).op 11 [a0, a1] = l 19 [a0, a1] := rfl
@[simp] theorem t_op12 : M.T.ops[12]? = some ((0, "__floordiv__") : Nat × Str) := rfl
@[simp] theorem s_op12 (l : Nat → Sem1) (a0 a1 : D) : (M.sems l).op 12 [a0, a1] = l 20 [a0, a1] := rfl
@[simp] theorem t_op13 : M.T.ops[13]? = some ((0, "__pow__") : Nat × Str) := rfl
@[simp] theorem s_op13 (l : Nat → Sem1) (a0 a1 : D) : (M.sems l).op 13 [a0, a1] = l 21 [a0, a1] := rfl
@[simp] theorem t_op14 : M.T.ops[14]? = some ((0, "__lshift__") : Nat × Str) := rfl
@[simp] theorem s_op14 (l : Nat → Sem1) (a0 a1 : D) : (M.sems l).op 14 [a0, a1] = l 22 [a0, a1] := rfl
@[simp] theorem t_op15 : M.T.ops[15]? = some ((0, "__rshift__") : Nat × Str) := rfl
@[simp] theorem s_op15 (l : Nat → Sem1) (a0 a1 : D) : (M.sems l).op 15 [a0, a1] = l 23 [a0, a1] := rfl
@[simp] theorem g_Expression : M.T.gls.lookup (Str.ofString "Expression") = some (.cls 0) := by kernel_rfl
@[simp] theorem g_CHANGES : M.T.gls.lookup (Str.ofString "CHANGES") = some (.tup [.str "gain", .str "loss"]) := by kernel_rfl
@[simp] theorem g_tuple : M.T.gls.lookup (Str.ofString "tuple") = some (.ty "tuple") := by kernel_rfl
@[simp] theorem g_list : M.T.gls.lookup (Str.ofString "list") = some (.ty "list") := by kernel_rfl
@[simp] theorem g_dict : M.T.gls.lookup (Str.ofString "dict") = some (.ty "dict") := by kernel_rfl
@[simp] theorem g_int : M.T.gls.lookup (Str.ofString "int") = some (.ty "int") := by kernel_rfl
@[simp] theorem g_bool : M.T.gls.lookup (Str.ofString "bool") = some (.ty "bool") := by kernel_rfl
@[simp] theorem g_str : M.T.gls.lookup (Str.ofString "str") = some (.ty "str") := by kernel_rfl
theorem l0 (k : Nat) : M.lev (k + 1) 0 = runB 1 1 (xvs M.T (M.sems (M.lev k)) q0) := lev_def (d := d0) rfl k
theorem l1 (k : Nat) : M.lev (k + 1) 1 = runB 2 3 (xvs M.T (M.sems (M.lev k)) q1) := lev_def (d := d1) rfl k
theorem l2 (k : Nat) : M.lev (k + 1) 2 = runB 1 3 (xvs M.T (M.sems (M.lev k)) q2) := lev_def (d := d2) rfl k
theorem l3 (k : Nat) : M.lev (k + 1) 3 = runB 1 1 (xvs M.T (M.sems (M.lev k)) q3) := lev_def (d := d3) rfl k
theorem l4 (k : Nat) : M.lev (k + 1) 4 = runB 3 3 (xvs M.T (M.sems (M.lev k)) q4) := lev_def (d := d4) rfl k
theorem l5 (k : Nat) : M.lev (k + 1) 5 = runB 3 4 (xvs M.T (M.sems (M.lev k)) q5) := lev_def (d := d5) rfl k
theorem l6 (k : Nat) : M.lev (k + 1) 6 = runB 2 2 (xvs M.T (M.sems (M.lev k)) q6) := lev_def (d := d6) rfl k
theorem l7 (k : Nat) : M.lev (k + 1) 7 = runB 3 11 (xvs M.T (M.sems (M.lev k)) q7) := lev_def (d := d7) rfl k
theorem l8 (k : Nat) : M.lev (k + 1) 8 = runB 2 2 (xvs M.T (M.sems (M.lev k)) q8) := lev_def (d := d8) rfl k
theorem l9 (k : Nat) : M.lev (k + 1) 9 = runB 2 2 (xvs M.T (M.sems (M.lev k)) q9) := lev_def (d := d9) rfl k
theorem l10 (k : Nat) : M.lev (k + 1) 10 = runB 2 2 (xvs M.T (M.sems (M.lev k)) q10) := lev_def (d := d10) rfl k
theorem l11 (k : Nat) : M.lev (k + 1) 11 = runB 2 2 (xvs M.T (M.sems (M.lev k)) q11) := lev_def (d := d11) rfl k
theorem l12 (k : Nat) : M.lev (k + 1) 12 = runB 2 2 (xvs M.T (M.sems (M.lev k)) q12) := lev_def (d := d12) rfl k
theorem l13 (k : Nat) : M.lev (k + 1) 13 = runB 2 2 (xvs M.T (M.sems (M.lev k)) q13) := lev_def (d := d13) rfl k
theorem l14 (k : Nat) : M.lev (k + 1) 14 = runB 2 2 (xvs M.T (M.sems (M.lev k)) q14) := lev_def (d := d14) rfl k
theorem l15 (k : Nat) : M.lev (k + 1) 15 = runB 2 2 (xvs M.T (M.sems (M.lev k)) q15) := lev_def (d := d15) rfl k
theorem l16 (k : Nat) : M.lev (k + 1) 16 = runB 2 2 (xvs M.T (M.sems (M.lev k)) q16) := lev_def (d := d16) rfl k
theorem l17 (k : Nat) : M.lev (k + 1) 17 = runB 2 2 (xvs M.T (M.sems (M.lev k)) q17) := lev_def (d := d17) rfl k
theorem l18 (k : Nat) : M.lev (k + 1) 18 = runB 2 2 (xvs M.T (M.sems (M.lev k)) q18) := lev_def (d := d18) rfl k
theorem l19 (k : Nat) : M.lev (k + 1) 19 = runB 2 2 (xvs M.T (M.sems (M.lev k)) q19) := lev_def (d := d19) rfl k
theorem l20 (k : Nat) : M.lev (k + 1) 20 = runB 2 2 (xvs M.T (M.sems (M.lev k)) q20) := lev_def (d := d20) rfl k
theorem l21 (k : Nat) : M.lev (k + 1) 21 = runB 2 2 (xvs M.T (M.sems (M.lev k)) q21) := lev_def (d := d21) rfl k
theorem l22 (k : Nat) : M.lev (k + 1) 22 = runB 2 2 (xvs M.T (M.sems (M.lev k)) q22) := lev_def (d := d22) rfl k
theorem l23 (k : Nat) : M.lev (k + 1) 23 = runB 2 2 (xvs M.T (M.sems (M.lev k)) q23) := lev_def (d := d23) rfl k
theorem l24 (k : Nat) : M.lev (k + 1) 24 = runB 1 1 (xvs M.T (M.sems (M.lev k)) q24) := lev_def (d := d24) rfl k
theorem l25 (k : Nat) : M.lev (k + 1) 25 = runB 1 1 (xvs M.T (M.sems (M.lev k)) q25) := lev_def (d := d25) rfl k
theorem l26 (k : Nat) : M.lev (k + 1) 26 = runB 1 1 (xvs M.T (M.sems (M.lev k)) q26) := lev_def (d := d26) rfl k
theorem l27 (k : Nat) : M.lev (k + 1) 27 = runB 1 1 (xvs M.T (M.sems (M.lev k)) q27) := lev_def (d := d27) rfl k
theorem l28 (k : Nat) : M.lev (k + 1) 28 = runB 2 2 (xvs M.T (M.sems (M.lev k)) q28) := lev_def (d := d28) rfl k
theorem l29 (k : Nat) : M.lev (k + 1) 29 = runB 2 2 (xvs M.T (M.sems (M.lev k)) q29) := lev_def (d := d29) rfl k
theorem l30 (k : Nat) : M.lev (k + 1) 30 = runB 2 2 (xvs M.T (M.sems (M.lev k)) q30) := lev_def (d := d30) rfl k
theorem l31 (k : Nat) : M.lev (k + 1) 31 = runB 2 2 (xvs M.T (M.sems (M.lev k)) q31) := lev_def (d := d31) rfl k
theorem l32 (k : Nat) : M.lev (k + 1) 32 = runB 2 2 (xvs M.T (M.sems (M.lev k)) q32) := lev_def (d := d32) rfl k
theorem l33 (k : Nat) : M.lev (k + 1) 33 = runB 2 2 (xvs M.T (M.sems (M.lev k)) q33) := lev_def (d := d33) rfl k
theorem l34 (k : Nat) : M.lev (k + 1) 34 = runB 2 7 (xvs M.T (M.sems (M.lev k)) q34) := lev_def (d := d34) rfl k
theorem l35 (k : Nat) : M.lev (k + 1) 35 = runB 2 4 (xvs M.T (M.sems (M.lev k)) q35) := lev_def (d := d35) rfl k
theorem l36 (k : Nat) : M.lev (k + 1) 36 = runB 1 1 (xvs M.T (M.sems (M.lev k)) q36) := lev_def (d := d36) rfl k
theorem l37 (k : Nat) : M.lev (k + 1) 37 = runB 2 2 (xvs M.T (M.sems (M.lev k)) q37) := lev_def (d := d37) rfl k
theorem l38 (k : Nat) : M.lev (k + 1) 38 = runB 2 4 (xvs M.T (M.sems (M.lev k)) q38) := lev_def (d := d38) rfl k
theorem l39 (k : Nat) : M.lev (k + 1) 39 = runB 2 5 (xvs M.T (M.sems (M.lev k)) q39) := lev_def (d := d39) rfl k
theorem l40 (k : Nat) : M.lev (k + 1) 40 = runB 1 2 (xvs M.T (M.sems (M.lev k)) q40) := lev_def (d := d40) rfl k
theorem l41 (k : Nat) : M.lev (k + 1) 41 = runB 2 7 (xvs M.T (M.sems (M.lev k)) q41) := lev_def (d := d41) rfl k
theorem l42 (k : Nat) : M.lev (k + 1) 42 = runB 2 4 (xvs M.T (M.sems (M.lev k)) q42) := lev_def (d := d42) rfl k
theorem l43 (k : Nat) : M.lev (k + 1) 43 = runB 2 2 (xvs M.T (M.sems (M.lev k)) q43) := lev_def (d := d43) rfl k
theorem l44 (k : Nat) : M.lev (k + 1) 44 = runB 3 3 (xvs M.T (M.sems (M.lev k)) q44) := lev_def (d := d44) rfl k
theorem l45 (k : Nat) : M.lev (k + 1) 45 = runB 1 3 (xvs M.T (M.sems (M.lev k)) q45) := lev_def (d := d45) rfl k
theorem l46 (k : Nat) : M.lev (k + 1) 46 = runB 1 2 (xvs M.T (M.sems (M.lev k)) q46) := lev_def (d := d46) rfl k
theorem l47 (k : Nat) : M.lev (k + 1) 47 = runB 3 3 (xvs M.T (M.sems (M.lev k)) q47) := lev_def (d := d47) rfl k
theorem l48 (k : Nat) : M.lev (k + 1) 48 = runB 3 3 (xvs M.T (M.sems (M.lev k)) q48) := lev_def (d := d48) rfl k
theorem l49 (k : Nat) : M.lev (k + 1) 49 = runB 3 5 (xvs M.T (M.sems (M.lev k)) q49) := lev_def (d := d49) rfl k
theorem l50 (k : Nat) : M.lev (k + 1) 50 = runB 1 20 (xvs M.T (M.sems (M.lev k)) q50) := lev_def (d := d50) rfl k
@[simp] theorem fl_Expression_accesses : M.T.fld 0 "accesses" = true := by kernel_rfl
@[simp] theorem fl_Expression_kind : M.T.fld 0 "kind" = true := by kernel_rfl
@[simp] theorem fl_Expression_letters : M.T.fld 0 "letters" = true := by kernel_rfl
@[simp] theorem fl_Expression_node_count : M.T.fld 0 "node_count" = true := by kernel_rfl
@[simp] theorem fl_Expression_parts : M.T.fld 0 "parts" = true := by kernel_rfl
theorem base : BaseT M.T := by
  refine ⟨fun x hx => ?_, fun t ht u hu => ?_⟩
  · simp only [tyN, List.mem_cons, List.not_mem_nil, or_false] at hx
    rcases hx with rfl | rfl | rfl | rfl | rfl <;> kernel_rfl
  · simp only [tyN, btN, List.mem_cons, List.not_mem_nil, or_false] at ht hu
    rcases ht with rfl | rfl | rfl | rfl | rfl | rfl | rfl <;> rcases hu with rfl | rfl | rfl | rfl | rfl <;> kernel_rfl
theorem sameAt : SameAt M 39 11 := ⟨base, ⟨d39, rfl, rfl, rfl, rfl⟩, rfl, ⟨_, rfl, rfl, rfl⟩⟩
def lawI : Nat := 42
abbrev R : PySem.W.OpenRow := PySem.W.OpenLaw.row Rw
def loose : List PySem.Str := [PySem.Str.ofString "_wall", PySem.Str.ofString "__name__", PySem.Str.ofString "WalkError", PySem.Str.ofString "BadNumber", PySem.Str.ofString "RepeatedLetter", PySem.Str.ofString "NotAnAccess", PySem.Str.ofString "NotAnExpression", PySem.Str.ofString "CHANGES", PySem.Str.ofString "number", PySem.Str.ofString "access", PySem.Str.ofString "repeated", PySem.Str.ofString "operand", PySem.Str.ofString "paired", PySem.Str.ofString "numbered", PySem.Str.ofString "number_fits", PySem.Str.ofString "changed_by", PySem.Str.ofString "Expression", PySem.Str.ofString "greater", PySem.Str.ofString "lesser", PySem.Str.ofString "below", PySem.Str.ofString "at_most", PySem.Str.ofString "equal", PySem.Str.ofString "unequal", PySem.Str.ofString "_law_own_accesses", PySem.Str.ofString "_law_draw", PySem.Str.ofString "_law_start", PySem.Str.ofString "_law_pick", PySem.Str.ofString "_law_mixed", PySem.Str.ofString "_law_same", PySem.Str.ofString "_law_name", PySem.Str.ofString "_law_names", PySem.Str.ofString "_law_letters", PySem.Str.ofString "_law_access", PySem.Str.ofString "_law_pair_built", PySem.Str.ofString "_law_seen", PySem.Str.ofString "_law_due", PySem.Str.ofString "_law_beside", PySem.Str.ofString "_law_behind", PySem.Str.ofString "_law_single"]
def exB (K : PySem.W.Frag) : Bool := (He.Fa.glo "law").ok K && M.okB Fx K
abbrev hk : PySem.W.Hook := hookE 5 (M.defs.map (·.d)) exB
def ob (s : PySem.W.SharedT) : He.AlD × Bool := obE 5 (M.defs.map (·.d)) exB (HandSHeadRun.getT s)
theorem run (w : World) : HandSHeadRun.RunEq R (PySem.W.view R.prog [42]) hk ob 4000 loose w := by
  intro os
  kernel_rfl
def jLaw : Nat := 50
end L13
namespace L13
open PySem PySem.Spec L2 DL
/-! ### the letters of the accesses -/
theorem sameK_str (a b : Str) : sameK (.str a) (.str b) = decide (a = b) := by
  have := sameK_k (.inr a) (.inr b)
  simpa [kD] using this
theorem keysStr_any : ∀ {es : List (D × D)} {ks : List Str}, keysStr es = some ks → ∀ l, (es.any fun p => sameK p.1 (.str l)) = decide (l ∈ ks)
  | [], _, h, l => by cases h; simp
  | (d, v) :: es, ks, h, l => by
    cases d <;> simp only [keysStr, Option.map_eq_some_iff] at h <;> try (cases h; done)
    obtain ⟨cs, e, rfl⟩ := h
    rw [List.any_cons, keysStr_any e l, sameK_str]
    simp [eq_comm]
theorem keysStr_map : ∀ {es : List (D × D)} {ks : List Str}, keysStr es = some ks → ∀ (p : D → Bool) (v : D), keysStr (es.map fun q => if p q.1 = true then (q.1, v) else q) = some ks
  | [], _, h, p, v => by cases h; rfl
  | (d, w) :: es, ks, h, p, v => by
    cases d <;> simp only [keysStr, Option.map_eq_some_iff] at h <;> try (cases h; done)
    obtain ⟨cs, e, rfl⟩ := h
    rw [List.map_cons]
    by_cases hp : p (.str ‹_›) = true <;> simp [hp, keysStr, keysStr_map e p v]
theorem keysStr_app : ∀ {es : List (D × D)} {ks : List Str}, keysStr es = some ks → ∀ (l : Str) (v : D), keysStr (es ++ [(.str l, v)]) = some (ks ++ [l])
  | [], _, h, l, v => by cases h; rfl
  | (d, w) :: es, ks, h, l, v => by
    cases d <;> simp only [keysStr, Option.map_eq_some_iff] at h <;> try (cases h; done)
    obtain ⟨cs, e, rfl⟩ := h
    simp [keysStr, keysStr_app e l v]
theorem keysStr_len : ∀ {es : List (D × D)} {ks : List Str}, keysStr es = some ks → es.length = ks.length
  | [], _, h => by cases h; rfl
  | (d, w) :: es, ks, h => by
    cases d <;> simp only [keysStr, Option.map_eq_some_iff] at h <;> try (cases h; done)
    obtain ⟨cs, e, rfl⟩ := h
    simp [keysStr_len e]
/-- a dict whose keys are letters of Ls -/
def KInv (Ls : List Str) (es : List (D × D)) : Prop := ∃ ks, keysStr es = some ks ∧ ks.Nodup ∧ ∀ k ∈ ks, k ∈ Ls
theorem nodup_len {α : Type} [DecidableEq α] : ∀ {ks Ls : List α}, ks.Nodup → (∀ k ∈ ks, k ∈ Ls) → ks.length ≤ Ls.length
  | [], _, _, _ => by simp
  | k :: ks, Ls, hn, hs => by
    rw [List.nodup_cons] at hn
    have h1 : k ∈ Ls := hs k (by simp)
    have := nodup_len (ks := ks) (Ls := Ls.erase k) hn.2 fun x hx => by
      have hne : x ≠ k := fun e => hn.1 (e ▸ hx)
      exact (List.mem_erase_of_ne hne).mpr (hs x (by simp [hx]))
    rw [List.length_erase_of_mem h1] at this
    have : 0 < Ls.length := List.length_pos_of_mem h1
    simp only [List.length_cons]; omega
theorem KInv.len {Ls : List Str} {es : List (D × D)} (h : KInv Ls es) : es.length ≤ Ls.length := by
  obtain ⟨ks, e, n, s⟩ := h
  rw [keysStr_len e]; exact nodup_len n s
theorem KInv.put {Ls : List Str} {es : List (D × D)} (h : KInv Ls es) {l : Str} (hl : l ∈ Ls) (v : D) : KInv Ls (putE es (.str l) v) := by
  obtain ⟨ks, e, n, s⟩ := h
  unfold putE
  rw [keysStr_any e l]
  by_cases hm : l ∈ ks
  · rw [if_pos (decide_eq_true hm)]
    exact ⟨ks, keysStr_map e (fun x => sameK x (.str l)) v, n, s⟩
  · rw [if_neg (by simp [hm])]
    refine ⟨ks ++ [l], keysStr_app e l v, ?_, fun k hk => ?_⟩
    · rw [List.nodup_append]
      exact ⟨n, by simp, fun a ha b hb => by simp at hb; subst hb; exact fun e => hm (e ▸ ha)⟩
    · rcases List.mem_append.mp hk with h1 | h1
      · exact s k h1
      · simp at h1; rw [h1]; exact hl
abbrev Acc := Str × List Str
def accD (a : Acc) : D := .tup [.str a.1, .tup (a.2.map D.str)]
theorem compD_ok {Ls : List Str} (hz : Ls.length < 64) (ρ : Rho) (h7 : 7 < ρ.length) (μ : Store) : ∀ (ls : List Str), (∀ l ∈ ls, l ∈ Ls) → ∀ es, KInv Ls es → ∃ es', compD (gNm 7) mYes (mVar 7) (mC (.bl true)) ρ (ls.map D.str) es μ = some (.ok es', μ) ∧ KInv Ls es'
  | [], _, es, h => ⟨es, rfl, h⟩
  | l :: ls, hs, es, h => by
    have hlen := h.len
    obtain ⟨es', e, h'⟩ := compD_ok hz ρ h7 μ ls (fun x hx => hs x (by simp [hx])) _ (h.put (hs l (by simp)) (.bl true))
    refine ⟨es', ?_, h'⟩
    rw [List.map_cons, compD]
    have : es.length < sizeLine ∧ (toKey (.str l)).isSome = true := ⟨by unfold sizeLine; omega, rfl⟩
    simp [h7, this, e]
theorem compD2_ok {Ls : List Str} (hz : Ls.length < 64) (T : Tab) (G : Sems) (x0 x1 x2 x3 x4 x5 x6 x8 : Option D) (μ : Store) : ∀ (accs : List Acc), (∀ a ∈ accs, ∀ l ∈ a.2, l ∈ Ls) → ∀ es, KInv Ls es →
    ∃ es', compD2 (gTupD 2 (gsCons (gNm 9) (gsCons (gNm 10) gsNil))) mYes (mSeq (mVar 10)) [7] (gNm 7) mYes (mVar 7) (mC (.bl true)) [x0, x1, x2, x3, x4, x5, x6, none, x8, none, none] (accs.map accD) es μ = some (.ok es', μ) ∧ KInv Ls es'
  | [], _, es, h => ⟨es, rfl, h⟩
  | a :: accs, hs, es, h => by
    obtain ⟨es1, e1, h1⟩ := compD_ok hz (wipeR [x0, x1, x2, x3, x4, x5, x6, none, x8, some (.str a.1), some (.tup (a.2.map D.str))] [7]) (by simp [wipeR]) μ a.2 (hs a (by simp)) es h
    obtain ⟨es', e, h'⟩ := compD2_ok hz T G x0 x1 x2 x3 x4 x5 x6 x8 μ accs (fun x hx => hs x (by simp [hx])) es1 h1
    refine ⟨es', ?_, h'⟩
    rw [List.map_cons, compD2]
    simp [accD, sqPure, e1, e]
theorem compL_id (i : Nat) (ρ : Rho) (hi : i < ρ.length) (μ : Store) (ds : List D) : compL (gNm i) mYes (mVar i) ρ ds μ = some (.ok ds, μ) := by
  have := compL_map (g := gNm i) (c := mYes) (f := mVar i) (ρ := ρ) (μ := μ) id (ds := ds) fun d _ => ⟨ρ.set i (some d), by simp [hi], rfl, by simp [hi]⟩
  simpa using this
/-! ### the constructor -/
def exD (kind : Str) (parts : List D) (accs : List Acc) (lets : List Str) (nc : Int) : D := .ins 0 [("kind", .str kind), ("parts", .tup parts), ("accesses", .tup (accs.map accD)), ("letters", .tup (lets.map D.str)), ("node_count", .int nc)]
theorem f1 : (("kind" : Str) = "parts") = False := by simp; decide +kernel
theorem f2 : (("kind" : Str) = "accesses") = False := by simp; decide +kernel
theorem f3 : (("kind" : Str) = "letters") = False := by simp; decide +kernel
theorem f4 : (("kind" : Str) = "node_count") = False := by simp; decide +kernel
theorem f5 : (("parts" : Str) = "accesses") = False := by simp; decide +kernel
theorem f6 : (("parts" : Str) = "letters") = False := by simp; decide +kernel
theorem f7 : (("parts" : Str) = "node_count") = False := by simp; decide +kernel
theorem f8 : (("accesses" : Str) = "letters") = False := by simp; decide +kernel
theorem f9 : (("accesses" : Str) = "node_count") = False := by simp; decide +kernel
theorem f10 : (("letters" : Str) = "node_count") = False := by simp; decide +kernel
@[simp] theorem a1 (k p a l n μ) : attrD M.T.fld "kind" (exD k p a l n) μ = some (.str k, μ) := by
  simp only [attrD, insOf, exD]
  rw [show List.lookup (Str.ofString "kind") [(Str.ofString "kind", D.str k), (Str.ofString "parts", D.tup p), (Str.ofString "accesses", D.tup (a.map accD)), (Str.ofString "letters", D.tup (l.map D.str)), (Str.ofString "node_count", D.int n)] = some (.str k) from by simp [List.lookup_cons]]
  simp
@[simp] theorem a2 (k p a l n μ) : attrD M.T.fld "parts" (exD k p a l n) μ = some (.tup p, μ) := by
  simp only [attrD, insOf, exD]
  rw [show List.lookup (Str.ofString "parts") [(Str.ofString "kind", D.str k), (Str.ofString "parts", D.tup p), (Str.ofString "accesses", D.tup (a.map accD)), (Str.ofString "letters", D.tup (l.map D.str)), (Str.ofString "node_count", D.int n)] = some (.tup p) from by kernel_rfl]
  simp
@[simp] theorem a3 (k p a l n μ) : attrD M.T.fld "accesses" (exD k p a l n) μ = some (.tup (a.map accD), μ) := by
  simp only [attrD, insOf, exD]
  rw [show List.lookup (Str.ofString "accesses") [(Str.ofString "kind", D.str k), (Str.ofString "parts", D.tup p), (Str.ofString "accesses", D.tup (a.map accD)), (Str.ofString "letters", D.tup (l.map D.str)), (Str.ofString "node_count", D.int n)] = some (.tup (a.map accD)) from by kernel_rfl]
  simp
@[simp] theorem a4 (k p a l n μ) : attrD M.T.fld "node_count" (exD k p a l n) μ = some (.int n, μ) := by
  simp only [attrD, insOf, exD]
  rw [show List.lookup (Str.ofString "node_count") [(Str.ofString "kind", D.str k), (Str.ofString "parts", D.tup p), (Str.ofString "accesses", D.tup (a.map accD)), (Str.ofString "letters", D.tup (l.map D.str)), (Str.ofString "node_count", D.int n)] = some (.int n) from by kernel_rfl]
  simp
@[simp] theorem i1 (k p a l n μ) : insOf (exD k p a l n) μ = some (0, ([("kind", D.str k), ("parts", D.tup p), ("accesses", D.tup (a.map accD)), ("letters", D.tup (l.map D.str)), ("node_count", D.int n)] : List (Str × D))) := rfl
theorem isiE : M.T.isi (.oc 0) (.oc 0) = some true := by kernel_rfl
theorem isiI : M.T.isi (.bt "int") (.oc 0) = some false := by kernel_rfl
theorem isiS : M.T.isi (.bt "str") (.oc 0) = some false := by kernel_rfl
theorem isiT : M.T.isi (.bt "tuple") (.oc 0) = some false := by kernel_rfl
theorem ownE : M.T.own 0 = true := by kernel_rfl
@[simp] theorem isE1 (k p a l n μ) : isiD M.T.isi M.T.own [exD k p a l n, .cls 0] μ = some (.bl true, μ) := by
  simp [isiD, exD, tkOf, clsD, TK.known, isiE, ownE]
@[simp] theorem isE2 (n : Int) (μ) : isiD M.T.isi M.T.own [.int n, .cls 0] μ = some (.bl false, μ) := by
  simp [isiD, tkOf, clsD, TK.known, isiI, ownE]
@[simp] theorem isE3 (n : Str) (μ) : isiD M.T.isi M.T.own [.str n, .cls 0] μ = some (.bl false, μ) := by
  simp [isiD, tkOf, clsD, TK.known, isiS, ownE]
@[simp] theorem isE4 (n : List D) (μ) : isiD M.T.isi M.T.own [.tup n, .cls 0] μ = some (.bl false, μ) := by
  simp [isiD, tkOf, clsD, TK.known, isiT, ownE]
@[simp] theorem gE : M.T.gls.lookup (Str.ofString "Expression") = some (.cls 0) := g_Expression
@[simp] theorem evB (b : Bi) (T : Tab) : evBi T .isinst = isiD T.isi T.own := rfl
theorem accs_ne : (("access" : Str) = "number") = False := by simp; decide +kernel
theorem ints_of (ns : List Int) : intsOf (ns.map D.int) = some ns := by
  induction ns with
  | nil => rfl
  | cons n ns ih => simp [intsOf, ih]
theorem strs_none {es : List (D × D)} : True := trivial
abbrev ρ7 (n : Nat) (kind : Str) (parts : List D) (x3 x4 x5 : Option D) : Rho := [some (.loc n), some (.str kind), some (.tup parts), x3, x4, x5, none, none, none, none, none]
theorem dict7 (G : Sems) {Ls : List Str} (hz : Ls.length < 64) (n : Nat) (kind : Str) (parts : List D) (x3 : Option D) (accs : List Acc) (hs : ∀ a ∈ accs, ∀ l ∈ a.2, l ∈ Ls) (μ : Store) :
    ∃ es, ev M.T G q7_lc2 (ρ7 n kind parts x3 (some (.lst (accs.map accD))) none) μ = some (.ok (.dct 0 es), μ) ∧ KInv Ls es := by
  obtain ⟨es, e, h⟩ := compD2_ok hz M.T G (some (.loc n)) (some (.str kind)) (some (.tup parts)) x3 (some (.lst (accs.map accD))) none none none μ accs hs [] ⟨[], rfl, by simp, by simp⟩
  refine ⟨es, ?_, h⟩
  rw [q7_lc2, se_dc2, s_dc2]
  simp [sqPure, wipeR, e]
theorem sort7 {Ls : List Str} (hz : Ls.length < 64) {es : List (D × D)} (h : KInv Ls es) (μ : Store) : ∃ lets : List Str, sortedD [.dct 0 es] μ = some (.lst (lets.map D.str), μ) := by
  have hl := h.len
  obtain ⟨ks, e, _, _⟩ := h
  refine ⟨srtB leS ks, ?_⟩
  have : ks.length < 64 := by rw [← keysStr_len e]; omega
  simp [sortedD, sqOf, lsOf, dctOf, e, guardD, this]
theorem init7 (k : Nat) {Ls : List Str} (hz : Ls.length < 64) (kind : Str) (parts inner : List D) (accs : List Acc) (hs : ∀ a ∈ accs, ∀ l ∈ a.2, l ∈ Ls) (ns : List Int) (μ : Store)
    (h0 : ∀ n μ, ev M.T (M.sems (M.lev k)) q7_lc0 (ρ7 n kind parts none none none) μ = some (.ok (.lst inner), μ))
    (h1 : ∀ n μ, ev M.T (M.sems (M.lev k)) (.ite (.cmp .Eq (.var 1) (.str "access")) (.lst (.cons (.var 2) .nil)) q7_lc1) (ρ7 n kind parts (some (.lst inner)) none none) μ = some (.ok (.lst (accs.map accD)), μ))
    (h3 : ∀ n x4 x5 μ, ev M.T (M.sems (M.lev k)) q7_lc3 (ρ7 n kind parts (some (.lst inner)) x4 x5) μ = some (.ok (.lst (ns.map D.int)), μ)) :
    ∃ lets : List Str, M.lev (k + 1) 7 [.loc μ.length, .str kind, .tup parts] (μ ++ [.ins 0 []]) = some (.ok .non, μ ++ [.ins 0 [("kind", D.str kind), ("parts", D.tup parts), ("accesses", D.tup (accs.map accD)), ("letters", D.tup (lets.map D.str)), ("node_count", D.int (1 + ns.sum))]]) := by
  rw [l7]
  obtain ⟨es, e2, hk⟩ := dict7 (M.sems (M.lev k)) hz μ.length kind parts (some (.lst inner)) accs hs (μ ++ [.ins 0 []])
  obtain ⟨lets, e3⟩ := sort7 hz hk (μ ++ [.ins 0 [("kind", D.str kind), ("parts", D.tup parts), ("accesses", D.tup (accs.map accD))]])
  have e0 := h0 μ.length (μ ++ [.ins 0 []])
  have e1 := h1 μ.length (μ ++ [.ins 0 []])
  have e4 := h3 μ.length (some (.lst (accs.map accD))) (some (.dct 0 es)) (μ ++ [.ins 0 [("kind", D.str kind), ("parts", D.tup parts), ("accesses", D.tup (accs.map accD)), ("letters", D.tup (lets.map D.str))]])
  refine ⟨lets, ?_⟩
  simp only [se_ite, se_cmp, se_var, se_str, se_lst, ses_cons, ses_nil] at e1
  simp [q7, e0, e1, e2, e3, e4, evBi, tupleD, sqOf, lsOf, sumD, ints_of, setF, putFD, f1, f2, f3, f4, f5, f6, f7, f8, f9, f10]
end L13
namespace L13
open PySem PySem.Spec L2 DL
/-- an expression over letters of Ls with at most m accesses -/
structure XP (Ls : List Str) (m : Nat) (kind : Str) (accs : List Acc) : Prop where
  g : kind ≠ "gain"
  l : kind ≠ "loss"
  n : accs.length ≤ m
  s : ∀ a ∈ accs, ∀ x ∈ a.2, x ∈ Ls
theorem mk7 (k : Nat) {kind : Str} {parts : List D} {accs : List Acc} {lets : List Str} {nc : Int} {μ : Store}
    (h : M.lev (k + 1) 7 [.loc μ.length, .str kind, .tup parts] (μ ++ [.ins 0 []]) = some (.ok .non, μ ++ [.ins 0 [("kind", D.str kind), ("parts", D.tup parts), ("accesses", D.tup (accs.map accD)), ("letters", D.tup (lets.map D.str)), ("node_count", D.int nc)]])) :
    semMk 0 true ((M.sems (M.lev (k + 1))).mkr 0) [.str kind, .tup parts] μ = some (.ok (exD kind parts accs lets nc), μ ++ [.dead]) := by
  rw [s_semMk, s_mkr0, h]
  simp [freezeD, exD]
section
variable {Ls : List Str} (hz : Ls.length < 64) {m : Nat}
include hz
theorem mkAcc (k : Nat) (name : Str) (ls : List Str) (hs : ∀ x ∈ ls, x ∈ Ls) (μ : Store) : ∃ lets nc, semMk 0 true ((M.sems (M.lev (k + 1))).mkr 0) [.str "access", .tup [.str name, .tup (ls.map D.str)]] μ = some (.ok (exD "access" [.str name, .tup (ls.map D.str)] [(name, ls)] lets nc), μ ++ [.dead]) := by
  obtain ⟨lets, e⟩ := init7 k hz "access" [.str name, .tup (ls.map D.str)] [] [(name, ls)] (by simpa using hs) [] μ
    (fun n μ => by simp [q7_lc0, se_lc, sqPure, compL, wipeR, sizeLine])
    (fun n μ => by simp [oLst, sizeLine, accD])
    (fun n x4 x5 μ => by simp [q7_lc3, se_lc, sqPure, compL, wipeR, sizeLine])
  exact ⟨lets, _, mk7 k e⟩
theorem mkNum (k : Nat) (i : Int) (μ : Store) : ∃ lets nc, semMk 0 true ((M.sems (M.lev (k + 1))).mkr 0) [.str "number", .tup [.int i]] μ = some (.ok (exD "number" [.int i] [] lets nc), μ ++ [.dead]) := by
  have hne : (("number" : Str) = "access") = False := by simp; decide +kernel
  obtain ⟨lets, e⟩ := init7 k hz "number" [.int i] [] [] (by simp) [] μ
    (fun n μ => by simp [q7_lc0, se_lc, sqPure, compL, wipeR, sizeLine])
    (fun n μ => by simp [q7_lc1, se_lc2, sqPure, compL2, wipeR, sizeLine, hne])
    (fun n x4 x5 μ => by simp [q7_lc3, se_lc, sqPure, compL, wipeR, sizeLine])
  exact ⟨lets, _, mk7 k e⟩
variable {k1 k2 : Str} {p1 p2 : List D} {c1 c2 : List Acc} {l1 l2 : List Str} {n1 n2 : Int} {m1 m2 : Nat}
theorem mkOne (k : Nat) (kind : Str) (hk : (kind = "access") = False) (x1 : XP Ls m1 k1 c1) (hm : m1 ≤ 1000) (μ : Store) : ∃ lets nc, semMk 0 true ((M.sems (M.lev (k + 1))).mkr 0) [.str kind, .tup [exD k1 p1 c1 l1 n1]] μ = some (.ok (exD kind [exD k1 p1 c1 l1 n1] c1 lets nc), μ ++ [.dead]) := by
  have b1 : c1.length ≤ 16777216 := by have := x1.n; omega
  obtain ⟨lets, e⟩ := init7 k hz kind [exD k1 p1 c1 l1 n1] [exD k1 p1 c1 l1 n1] c1 x1.s [n1] μ
    (fun n μ => by simp [q7_lc0, se_lc, sqPure, compL, wipeR, sizeLine])
    (fun n μ => by simp [q7_lc1, se_lc2, sqPure, compL2, wipeR, sizeLine, hk, compL_id, b1])
    (fun n x4 x5 μ => by simp [q7_lc3, se_lc, sqPure, compL, wipeR, sizeLine])
  exact ⟨lets, _, mk7 k e⟩
theorem mkInt (k : Nat) (kind : Str) (hk : (kind = "access") = False) (x1 : XP Ls m1 k1 c1) (hm : m1 ≤ 1000) (i : Int) (μ : Store) : ∃ lets nc, semMk 0 true ((M.sems (M.lev (k + 1))).mkr 0) [.str kind, .tup [exD k1 p1 c1 l1 n1, .int i]] μ = some (.ok (exD kind [exD k1 p1 c1 l1 n1, .int i] c1 lets nc), μ ++ [.dead]) := by
  have b1 : c1.length ≤ 16777216 := by have := x1.n; omega
  obtain ⟨lets, e⟩ := init7 k hz kind [exD k1 p1 c1 l1 n1, .int i] [exD k1 p1 c1 l1 n1] c1 x1.s [n1] μ
    (fun n μ => by simp [q7_lc0, se_lc, sqPure, compL, wipeR, sizeLine])
    (fun n μ => by simp [q7_lc1, se_lc2, sqPure, compL2, wipeR, sizeLine, hk, compL_id, b1])
    (fun n x4 x5 μ => by simp [q7_lc3, se_lc, sqPure, compL, wipeR, sizeLine])
  exact ⟨lets, _, mk7 k e⟩
theorem mkTwo (k : Nat) (kind : Str) (hk : (kind = "access") = False) (x1 : XP Ls m1 k1 c1) (x2 : XP Ls m2 k2 c2) (hm : m1 + m2 ≤ 1000) (μ : Store) : ∃ lets nc, semMk 0 true ((M.sems (M.lev (k + 1))).mkr 0) [.str kind, .tup [exD k1 p1 c1 l1 n1, exD k2 p2 c2 l2 n2]] μ = some (.ok (exD kind [exD k1 p1 c1 l1 n1, exD k2 p2 c2 l2 n2] (c1 ++ c2) lets nc), μ ++ [.dead]) := by
  have b1 : c1.length + c2.length ≤ 16777216 := by have := x1.n; have := x2.n; omega
  obtain ⟨lets, e⟩ := init7 k hz kind [exD k1 p1 c1 l1 n1, exD k2 p2 c2 l2 n2] [exD k1 p1 c1 l1 n1, exD k2 p2 c2 l2 n2] (c1 ++ c2) (fun a ha => (List.mem_append.mp ha).elim (x1.s a) (x2.s a)) [n1, n2] μ
    (fun n μ => by simp [q7_lc0, se_lc, sqPure, compL, wipeR, sizeLine])
    (fun n μ => by simp [q7_lc1, se_lc2, sqPure, compL2, wipeR, sizeLine, hk, compL_id, b1])
    (fun n x4 x5 μ => by simp [q7_lc3, se_lc, sqPure, compL, wipeR, sizeLine])
  exact ⟨lets, _, mk7 k e⟩
end
end L13
namespace L13
open PySem PySem.Spec L2 DL
/-! ### what the law sees of an expression -/
theorem t1 : M.T.isi (.oc 0) (.bt "int") = some false := by kernel_rfl
theorem t2 : M.T.isi (.oc 0) (.bt "str") = some false := by kernel_rfl
theorem t3 : M.T.isi (.oc 0) (.bt "tuple") = some false := by kernel_rfl
theorem t4 : M.T.isi (.bt "int") (.bt "int") = some true := by kernel_rfl
theorem t5 : M.T.isi (.bt "str") (.bt "int") = some false := by kernel_rfl
theorem t6 : M.T.isi (.bt "str") (.bt "str") = some true := by kernel_rfl
theorem t7 : M.T.isi (.bt "tuple") (.bt "int") = some false := by kernel_rfl
theorem t8 : M.T.isi (.bt "tuple") (.bt "str") = some false := by kernel_rfl
theorem t9 : M.T.isi (.bt "tuple") (.bt "tuple") = some true := by kernel_rfl
theorem t10 : M.T.isi (.bt "int") (.bt "tuple") = some false := by kernel_rfl
abbrev c3 : D := .tup [.ty "int", .ty "str", .ty "tuple"]
@[simp] theorem s3X (k p a l n μ) : isiD M.T.isi M.T.own [exD k p a l n, c3] μ = some (.bl false, μ) := by
  simp [isiD, exD, tkOf, clsD, TK.known, t1, t2, t3, ownE, isiL]
@[simp] theorem s3I (n : Int) (μ) : isiD M.T.isi M.T.own [.int n, c3] μ = some (.bl true, μ) := by
  simp [isiD, tkOf, clsD, TK.known, t4, isiL]
@[simp] theorem s3S (n : Str) (μ) : isiD M.T.isi M.T.own [.str n, c3] μ = some (.bl true, μ) := by
  simp [isiD, tkOf, clsD, TK.known, t5, t6, isiL]
@[simp] theorem s3T (n : List D) (μ) : isiD M.T.isi M.T.own [.tup n, c3] μ = some (.bl true, μ) := by
  simp [isiD, tkOf, clsD, TK.known, t7, t8, t9, isiL]
@[simp] theorem sTT (n : List D) (μ) : isiD M.T.isi M.T.own [.tup n, .ty "tuple"] μ = some (.bl true, μ) := by
  simp [isiD, tkOf, clsD, TK.known, t9]
@[simp] theorem sTI (n : Int) (μ) : isiD M.T.isi M.T.own [.int n, .ty "tuple"] μ = some (.bl false, μ) := by
  simp [isiD, tkOf, clsD, TK.known, t10]
structure XV (dp : Nat) (d e v : D) : Prop where
  tp : ∃ es, e = .tup es
  ok : pOk (2 * dp + 3) v = true
  sn : ∀ j μ, M.lev (j + dp + 1) 45 [d] μ = some (.ok v, μ)
  du : ∀ j μ, M.lev (j + dp + 1) 46 [e] μ = some (.ok v, μ)
theorem XV.mono {dp dp' : Nat} {d e v : D} (h : XV dp d e v) (hd : dp ≤ dp') : XV dp' d e v :=
  ⟨h.tp, pOk_le h.ok (by omega), fun j μ => by have := h.sn (j + (dp' - dp)) μ; rw [show j + (dp' - dp) + dp + 1 = j + dp' + 1 by omega] at this; exact this,
    fun j μ => by have := h.du (j + (dp' - dp)) μ; rw [show j + (dp' - dp) + dp + 1 = j + dp' + 1 by omega] at this; exact this⟩
theorem strs_pOk (n : Nat) (ls : List Str) : (ls.map D.str).all (pOk n) = true := by
  simp only [List.all_map, List.all_eq_true, Function.comp]
  intro x _
  cases n <;> rfl
theorem vAcc (name : Str) (ls : List Str) (hz : ls.length ≤ 1000) (lets : List Str) (nc : Int) : XV 0 (exD "access" [.str name, .tup (ls.map D.str)] [(name, ls)] lets nc) (.tup [.str "access", .str name, .tup (ls.map D.str)]) (.tup [.str "access", .bl true, .lst [.str name, .tup (ls.map D.str)]]) := by
  refine ⟨⟨_, rfl⟩, ?_, fun j μ => ?_, fun j μ => ?_⟩
  · simp [pOk, sizeLine, strs_pOk]; omega
  · rw [l45]
    simp [q45, q45_lc0, se_lc, sqPure, compL, wipeR, sizeLine, oTup]
  · rw [l46]
    simp [q46, oTup, oLst, sizeLine]
section
variable {kind : Str} {accs : List Acc} {lets : List Str} {nc : Int} {dp dp1 dp2 : Nat} {d1 d2 e1 e2 v1 v2 : D}
theorem vNum (i : Int) : XV 0 (exD "number" [.int i] accs lets nc) (.tup [.str "number", .int i]) (.tup [.str "number", .bl true, .lst [.int i]]) := by
  have hne : (("number" : Str) = "access") = False := by simp; decide +kernel
  refine ⟨⟨_, rfl⟩, by simp [pOk, sizeLine], fun j μ => ?_, fun j μ => ?_⟩
  · rw [l45]
    simp [q45, q45_lc0, se_lc, sqPure, compL, wipeR, sizeLine, oTup]
  · rw [l46]
    simp [q46, q46_lc0, se_lc, sqPure, compL, wipeR, sizeLine, oTup, hne, sliceD, mPart, cutL, HT.sIx]
variable {k1 k2 : Str} {p1 p2 : List D} {c1 c2 : List Acc} {l1 l2 : List Str} {n1 n2 : Int}
theorem vOne (hk : (kind = "access") = False) (h1 : XV dp (exD k1 p1 c1 l1 n1) e1 v1) : XV (dp + 1) (exD kind [exD k1 p1 c1 l1 n1] accs lets nc) (.tup [.str kind, e1]) (.tup [.str kind, .bl true, .lst [v1]]) := by
  obtain ⟨es1, rfl⟩ := h1.tp
  refine ⟨⟨_, rfl⟩, ?_, fun j μ => ?_, fun j μ => ?_⟩
  · have := h1.ok
    rw [show 2 * (dp + 1) + 3 = (2 * dp + 3) + 1 + 1 by omega]
    simp [pOk, sizeLine, this]
  · have a := h1.sn j μ
    rw [show j + (dp + 1) + 1 = (j + dp + 1) + 1 by omega, l45]
    simp [q45, q45_lc0, se_lc, sqPure, compL, wipeR, sizeLine, oTup, a]
  · have a := h1.du j μ
    rw [show j + (dp + 1) + 1 = (j + dp + 1) + 1 by omega, l46]
    simp [q46, q46_lc0, se_lc, sqPure, compL, wipeR, sizeLine, oTup, hk, sliceD, mPart, cutL, HT.sIx, a]
theorem vInt (i : Int) (hk : (kind = "access") = False) (h1 : XV dp (exD k1 p1 c1 l1 n1) e1 v1) : XV (dp + 1) (exD kind [exD k1 p1 c1 l1 n1, .int i] accs lets nc) (.tup [.str kind, e1, .int i]) (.tup [.str kind, .bl true, .lst [v1, .int i]]) := by
  obtain ⟨es1, rfl⟩ := h1.tp
  refine ⟨⟨_, rfl⟩, ?_, fun j μ => ?_, fun j μ => ?_⟩
  · have := h1.ok
    rw [show 2 * (dp + 1) + 3 = (2 * dp + 3) + 1 + 1 by omega]
    simp [pOk, sizeLine, this]
  · have a := h1.sn j μ
    rw [show j + (dp + 1) + 1 = (j + dp + 1) + 1 by omega, l45]
    simp [q45, q45_lc0, se_lc, sqPure, compL, wipeR, sizeLine, oTup, a]
  · have a := h1.du j μ
    rw [show j + (dp + 1) + 1 = (j + dp + 1) + 1 by omega, l46]
    simp [q46, q46_lc0, se_lc, sqPure, compL, wipeR, sizeLine, oTup, hk, sliceD, mPart, cutL, HT.sIx, a]
theorem vTwo (hk : (kind = "access") = False) (h1 : XV dp (exD k1 p1 c1 l1 n1) e1 v1) (h2 : XV dp (exD k2 p2 c2 l2 n2) e2 v2) : XV (dp + 1) (exD kind [exD k1 p1 c1 l1 n1, exD k2 p2 c2 l2 n2] accs lets nc) (.tup [.str kind, e1, e2]) (.tup [.str kind, .bl true, .lst [v1, v2]]) := by
  obtain ⟨es1, rfl⟩ := h1.tp
  obtain ⟨es2, rfl⟩ := h2.tp
  refine ⟨⟨_, rfl⟩, ?_, fun j μ => ?_, fun j μ => ?_⟩
  · have := h1.ok
    have := h2.ok
    rw [show 2 * (dp + 1) + 3 = (2 * dp + 3) + 1 + 1 by omega]
    simp [pOk, sizeLine, *]
  · have a := h1.sn j μ
    have b := h2.sn j μ
    rw [show j + (dp + 1) + 1 = (j + dp + 1) + 1 by omega, l45]
    simp [q45, q45_lc0, se_lc, sqPure, compL, wipeR, sizeLine, oTup, a, b]
  · have a := h1.du j μ
    have b := h2.du j μ
    rw [show j + (dp + 1) + 1 = (j + dp + 1) + 1 by omega, l46]
    simp [q46, q46_lc0, se_lc, sqPure, compL, wipeR, sizeLine, oTup, hk, sliceD, mPart, cutL, HT.sIx, a, b]
end
/-! ### expressions -/
/-- d is an expression over Ls with at most m accesses and depth dp, e the law's data of it -/
def X (Ls : List Str) (m dp : Nat) (d e : D) : Prop := ∃ kind parts accs lets nc v, d = exD kind parts accs lets nc ∧ XP Ls m kind accs ∧ XV dp d e v
theorem X.mono {Ls : List Str} {m m' dp dp' : Nat} {d e : D} (h : X Ls m dp d e) (hm : m ≤ m') (hd : dp ≤ dp') : X Ls m' dp' d e := by
  obtain ⟨kind, parts, accs, lets, nc, v, rfl, a, b⟩ := h
  exact ⟨kind, parts, accs, lets, nc, v, rfl, ⟨a.g, a.l, Nat.le_trans a.n hm, a.s⟩, b.mono hd⟩
/-- an operand: an expression, or an int -/
def Opd (Ls : List Str) (m dp : Nat) (d e : D) : Prop := X Ls m dp d e ∨ ∃ i, d = .int i ∧ e = .tup [.str "number", .int i]
section
variable {Ls : List Str} (hz : Ls.length < 64) {m m1 m2 dp : Nat} {d d1 d2 e e1 e2 : D}
theorem kne {a : Str} (h : a ≠ "gain") : (("gain" : Str) = a) = False := by simp; exact fun e => h e.symm
@[simp] theorem gC : M.T.gls.lookup (Str.ofString "CHANGES") = some (.tup [.str "gain", .str "loss"]) := g_CHANGES
theorem opndX (k : Nat) (h : X Ls m dp d e) (μ : Store) : M.lev (k + 1) 3 [d] μ = some (.ok d, μ) := by
  obtain ⟨kind, parts, accs, lets, nc, v, rfl, a, b⟩ := h
  have h1 := a.g
  have h2 := a.l
  have e1 : (Str.ofString "gain" == kind) = false := by rw [beq_eq_false_iff_ne]; exact fun z => h1 z.symm
  have e2 : (Str.ofString "loss" == kind) = false := by rw [beq_eq_false_iff_ne]; exact fun z => h2 z.symm
  have i : inS (.str kind) (.tup [.str "gain", .str "loss"]) μ = some false := by
    simp [inS, vwD, itOf, dOk, eqb, e1, e2]
  rw [l3]
  simp [q3, cmpD, inD, i]
end
end L13
namespace L13
open PySem PySem.Spec L2 DL
section
variable {Ls : List Str} (hz : Ls.length < 64) {m m1 m2 dp : Nat} {d d1 d2 e e1 e2 : D}
include hz
theorem number_ok (k : Nat) (i : Int) (μ : Store) : ∃ d, M.lev (k + 2) 0 [.int i] μ = some (.ok d, μ ++ [.dead]) ∧ X Ls 0 0 d (.tup [.str "number", .int i]) := by
  obtain ⟨lets, nc, e⟩ := mkNum hz k i μ
  refine ⟨_, ?_, "number", [.int i], [], lets, nc, _, rfl, ⟨by decide +kernel, by decide +kernel, by simp, by simp⟩, vNum i⟩
  rw [l0]
  simp [q0, oTup, sizeLine, e]
theorem opd (k : Nat) (h : Opd Ls m dp d e) (μ : Store) : ∃ d' w, M.lev (k + 3) 3 [d] μ = some (.ok d', μ ++ w) ∧ X Ls m dp d' e := by
  rcases h with h | ⟨i, rfl, rfl⟩
  · exact ⟨d, [], by rw [opndX (k + 2) h μ]; simp, h⟩
  · obtain ⟨d', e', hx⟩ := number_ok hz k i μ
    refine ⟨d', [.dead], ?_, hx.mono (by omega) (by omega)⟩
    rw [l3]
    simp [q3, e']
theorem paired_ok (k : Nat) {kind : Str} (hk : (kind = "access") = False) (hg : kind ≠ "gain") (hl : kind ≠ "loss") (h1 : Opd Ls m1 dp d1 e1) (h2 : Opd Ls m2 dp d2 e2) (hm : m1 + m2 ≤ 1000) (μ : Store) :
    ∃ d w, M.lev (k + 4) 4 [.str kind, d1, d2] μ = some (.ok d, μ ++ w) ∧ X Ls (m1 + m2) (dp + 1) d (.tup [.str kind, e1, e2]) := by
  obtain ⟨a, w1, ea, xa⟩ := opd hz k h1 μ
  obtain ⟨b, w2, eb, xb⟩ := opd hz k h2 (μ ++ w1)
  obtain ⟨k1, p1, c1, l1, n1, v1, rfl, a1, b1⟩ := xa
  obtain ⟨k2, p2, c2, l2, n2, v2, rfl, a2, b2⟩ := xb
  obtain ⟨lets, nc, e⟩ := mkTwo hz (k + 2) kind hk (p1 := p1) (p2 := p2) (l1 := l1) (l2 := l2) (n1 := n1) (n2 := n2) a1 a2 hm (μ ++ w1 ++ w2)
  refine ⟨_, w1 ++ w2 ++ [.dead], ?_, kind, _, c1 ++ c2, lets, nc, _, rfl, ⟨hg, hl, ?_, fun a ha => (List.mem_append.mp ha).elim (a1.s a) (a2.s a)⟩, vTwo hk b1 b2⟩
  · rw [l4]
    simp only [List.append_assoc] at e eb ⊢
    simp [q4, ea, eb, oTup, sizeLine, e]
  · have := a1.n; have := a2.n; simp only [List.length_append]; omega
theorem numbered_ok (k : Nat) {kind : Str} (hk : (kind = "access") = False) (hg : kind ≠ "gain") (hl : kind ≠ "loss") (h1 : X Ls m dp d1 e1) (i : Int) (hf : ∀ k μ, M.lev (k + 1) 6 [.str kind, .int i] μ = some (.ok (.bl true), μ)) (hm : m ≤ 1000) (μ : Store) :
    ∃ d w, M.lev (k + 4) 5 [.str kind, d1, .int i] μ = some (.ok d, μ ++ w) ∧ X Ls m (dp + 1) d (.tup [.str kind, e1, .int i]) := by
  have ea := opndX (k + 2) h1 μ
  obtain ⟨k1, p1, c1, l1, n1, v1, rfl, a1, b1⟩ := h1
  obtain ⟨lets, nc, e⟩ := mkInt hz (k + 2) kind hk (p1 := p1) (l1 := l1) (n1 := n1) a1 hm i μ
  refine ⟨_, [.dead], ?_, kind, _, c1, lets, nc, _, rfl, ⟨hg, hl, a1.n, a1.s⟩, vInt i hk b1⟩
  rw [l5]
  simp [q5, ea, hf (k + 2) μ, oTup, sizeLine, e]

end
theorem na_plus : (("plus" : Str) = "access") = False := by simp; decide +kernel
theorem ng_plus : ("plus" : Str) ≠ "gain" := by decide +kernel
theorem nl_plus : ("plus" : Str) ≠ "loss" := by decide +kernel
theorem na_minus : (("minus" : Str) = "access") = False := by simp; decide +kernel
theorem ng_minus : ("minus" : Str) ≠ "gain" := by decide +kernel
theorem nl_minus : ("minus" : Str) ≠ "loss" := by decide +kernel
theorem na_times : (("times" : Str) = "access") = False := by simp; decide +kernel
theorem ng_times : ("times" : Str) ≠ "gain" := by decide +kernel
theorem nl_times : ("times" : Str) ≠ "loss" := by decide +kernel
theorem na_both : (("both" : Str) = "access") = False := by simp; decide +kernel
theorem ng_both : ("both" : Str) ≠ "gain" := by decide +kernel
theorem nl_both : ("both" : Str) ≠ "loss" := by decide +kernel
theorem na_either : (("either" : Str) = "access") = False := by simp; decide +kernel
theorem ng_either : ("either" : Str) ≠ "gain" := by decide +kernel
theorem nl_either : ("either" : Str) ≠ "loss" := by decide +kernel
theorem na_unlike : (("unlike" : Str) = "access") = False := by simp; decide +kernel
theorem ng_unlike : ("unlike" : Str) ≠ "gain" := by decide +kernel
theorem nl_unlike : ("unlike" : Str) ≠ "loss" := by decide +kernel
theorem na_greater : (("greater" : Str) = "access") = False := by simp; decide +kernel
theorem ng_greater : ("greater" : Str) ≠ "gain" := by decide +kernel
theorem nl_greater : ("greater" : Str) ≠ "loss" := by decide +kernel
theorem na_lesser : (("lesser" : Str) = "access") = False := by simp; decide +kernel
theorem ng_lesser : ("lesser" : Str) ≠ "gain" := by decide +kernel
theorem nl_lesser : ("lesser" : Str) ≠ "loss" := by decide +kernel
theorem na_below : (("below" : Str) = "access") = False := by simp; decide +kernel
theorem ng_below : ("below" : Str) ≠ "gain" := by decide +kernel
theorem nl_below : ("below" : Str) ≠ "loss" := by decide +kernel
theorem na_at_most : (("at_most" : Str) = "access") = False := by simp; decide +kernel
theorem ng_at_most : ("at_most" : Str) ≠ "gain" := by decide +kernel
theorem nl_at_most : ("at_most" : Str) ≠ "loss" := by decide +kernel
theorem na_equal : (("equal" : Str) = "access") = False := by simp; decide +kernel
theorem ng_equal : ("equal" : Str) ≠ "gain" := by decide +kernel
theorem nl_equal : ("equal" : Str) ≠ "loss" := by decide +kernel
theorem na_unequal : (("unequal" : Str) = "access") = False := by simp; decide +kernel
theorem ng_unequal : ("unequal" : Str) ≠ "gain" := by decide +kernel
theorem nl_unequal : ("unequal" : Str) ≠ "loss" := by decide +kernel
theorem dq44_plus (G : Sems) (a b : D) (μ : Store) : xvs M.T G q44 [some (.str "plus"), some a, some b] μ = xSeq (xSeq (xRet (ev M.T G (.ownB 0 .Add (.var 1) (.var 2)))) xNil) (xvs M.T G (q44.drop 1)) [some (.str "plus"), some a, some b] μ := by kernel_rfl
theorem dq44_minus (G : Sems) (a b : D) (μ : Store) : xvs M.T G q44 [some (.str "minus"), some a, some b] μ = xSeq (xSeq (xRet (ev M.T G (.ownB 1 .Sub (.var 1) (.var 2)))) xNil) (xvs M.T G (q44.drop 1)) [some (.str "minus"), some a, some b] μ := by kernel_rfl
theorem dq44_times (G : Sems) (a b : D) (μ : Store) : xvs M.T G q44 [some (.str "times"), some a, some b] μ = xSeq (xSeq (xRet (ev M.T G (.ownB 2 .Mult (.var 1) (.var 2)))) xNil) (xvs M.T G (q44.drop 1)) [some (.str "times"), some a, some b] μ := by kernel_rfl
theorem dq44_both (G : Sems) (a b : D) (μ : Store) : xvs M.T G q44 [some (.str "both"), some a, some b] μ = xSeq (xSeq (xRet (ev M.T G (.ownB 3 .BitAnd (.var 1) (.var 2)))) xNil) (xvs M.T G (q44.drop 2)) [some (.str "both"), some a, some b] μ := by kernel_rfl
theorem dq44_either (G : Sems) (a b : D) (μ : Store) : xvs M.T G q44 [some (.str "either"), some a, some b] μ = xSeq (xSeq (xRet (ev M.T G (.ownB 4 .BitOr (.var 1) (.var 2)))) xNil) (xvs M.T G (q44.drop 2)) [some (.str "either"), some a, some b] μ := by kernel_rfl
theorem dq44_unlike (G : Sems) (a b : D) (μ : Store) : xvs M.T G q44 [some (.str "unlike"), some a, some b] μ = xSeq (xSeq (xRet (ev M.T G (.ownB 5 .BitXor (.var 1) (.var 2)))) xNil) (xvs M.T G (q44.drop 2)) [some (.str "unlike"), some a, some b] μ := by kernel_rfl
theorem dq44_greater (G : Sems) (a b : D) (μ : Store) : xvs M.T G q44 [some (.str "greater"), some a, some b] μ = xSeq (xSeq (xRet (ev M.T G (.call 17 (.cons (.var 1) (.cons (.var 2) .nil)) .nil))) xNil) (xvs M.T G (q44.drop 3)) [some (.str "greater"), some a, some b] μ := by kernel_rfl
theorem dq44_lesser (G : Sems) (a b : D) (μ : Store) : xvs M.T G q44 [some (.str "lesser"), some a, some b] μ = xSeq (xSeq (xRet (ev M.T G (.call 18 (.cons (.var 1) (.cons (.var 2) .nil)) .nil))) xNil) (xvs M.T G (q44.drop 3)) [some (.str "lesser"), some a, some b] μ := by kernel_rfl
theorem dq44_below (G : Sems) (a b : D) (μ : Store) : xvs M.T G q44 [some (.str "below"), some a, some b] μ = xSeq (xSeq (xRet (ev M.T G (.call 19 (.cons (.var 1) (.cons (.var 2) .nil)) .nil))) xNil) (xvs M.T G (q44.drop 4)) [some (.str "below"), some a, some b] μ := by kernel_rfl
theorem dq44_at_most (G : Sems) (a b : D) (μ : Store) : xvs M.T G q44 [some (.str "at_most"), some a, some b] μ = xSeq (xSeq (xRet (ev M.T G (.call 20 (.cons (.var 1) (.cons (.var 2) .nil)) .nil))) xNil) (xvs M.T G (q44.drop 4)) [some (.str "at_most"), some a, some b] μ := by kernel_rfl
theorem dq44_equal (G : Sems) (a b : D) (μ : Store) : xvs M.T G q44 [some (.str "equal"), some a, some b] μ = xSeq (xRet (ev M.T G (.call 21 (.cons (.var 1) (.cons (.var 2) .nil)) .nil))) (xvs M.T G (q44.drop 5)) [some (.str "equal"), some a, some b] μ := by kernel_rfl
theorem dq44_unequal (G : Sems) (a b : D) (μ : Store) : xvs M.T G q44 [some (.str "unequal"), some a, some b] μ = xSeq (xRet (ev M.T G (.call 22 (.cons (.var 1) (.cons (.var 2) .nil)) .nil))) (xvs M.T G (q44.drop 5)) [some (.str "unequal"), some a, some b] μ := by kernel_rfl
theorem dq47_plus (G : Sems) (a b : D) (μ : Store) : xvs M.T G q47 [some (.str "plus"), some a, some b] μ = xSeq (xSeq (xRet (ev M.T G (.ownI 0 .Add (.var 1) (.var 2)))) xNil) (xvs M.T G (q47.drop 1)) [some (.str "plus"), some a, some b] μ := by kernel_rfl
theorem dq47_minus (G : Sems) (a b : D) (μ : Store) : xvs M.T G q47 [some (.str "minus"), some a, some b] μ = xSeq (xSeq (xRet (ev M.T G (.ownI 1 .Sub (.var 1) (.var 2)))) xNil) (xvs M.T G (q47.drop 1)) [some (.str "minus"), some a, some b] μ := by kernel_rfl
theorem dq47_times (G : Sems) (a b : D) (μ : Store) : xvs M.T G q47 [some (.str "times"), some a, some b] μ = xSeq (xSeq (xRet (ev M.T G (.ownI 2 .Mult (.var 1) (.var 2)))) xNil) (xvs M.T G (q47.drop 1)) [some (.str "times"), some a, some b] μ := by kernel_rfl
theorem dq47_both (G : Sems) (a b : D) (μ : Store) : xvs M.T G q47 [some (.str "both"), some a, some b] μ = xSeq (xSeq (xRet (ev M.T G (.ownI 3 .BitAnd (.var 1) (.var 2)))) xNil) (xvs M.T G (q47.drop 2)) [some (.str "both"), some a, some b] μ := by kernel_rfl
theorem dq47_either (G : Sems) (a b : D) (μ : Store) : xvs M.T G q47 [some (.str "either"), some a, some b] μ = xSeq (xSeq (xRet (ev M.T G (.ownI 4 .BitOr (.var 1) (.var 2)))) xNil) (xvs M.T G (q47.drop 2)) [some (.str "either"), some a, some b] μ := by kernel_rfl
theorem dq47_unlike (G : Sems) (a b : D) (μ : Store) : xvs M.T G q47 [some (.str "unlike"), some a, some b] μ = xSeq (xSeq (xRet (ev M.T G (.ownI 5 .BitXor (.var 1) (.var 2)))) xNil) (xvs M.T G (q47.drop 2)) [some (.str "unlike"), some a, some b] μ := by kernel_rfl
theorem dq47_greater (G : Sems) (a b : D) (μ : Store) : xvs M.T G q47 [some (.str "greater"), some a, some b] μ = xSeq (xSeq (xRet (ev M.T G (.call 17 (.cons (.var 1) (.cons (.var 2) .nil)) .nil))) xNil) (xvs M.T G (q47.drop 3)) [some (.str "greater"), some a, some b] μ := by kernel_rfl
theorem dq47_lesser (G : Sems) (a b : D) (μ : Store) : xvs M.T G q47 [some (.str "lesser"), some a, some b] μ = xSeq (xSeq (xRet (ev M.T G (.call 18 (.cons (.var 1) (.cons (.var 2) .nil)) .nil))) xNil) (xvs M.T G (q47.drop 3)) [some (.str "lesser"), some a, some b] μ := by kernel_rfl
theorem dq47_below (G : Sems) (a b : D) (μ : Store) : xvs M.T G q47 [some (.str "below"), some a, some b] μ = xSeq (xSeq (xRet (ev M.T G (.call 19 (.cons (.var 1) (.cons (.var 2) .nil)) .nil))) xNil) (xvs M.T G (q47.drop 4)) [some (.str "below"), some a, some b] μ := by kernel_rfl
theorem dq47_at_most (G : Sems) (a b : D) (μ : Store) : xvs M.T G q47 [some (.str "at_most"), some a, some b] μ = xSeq (xSeq (xRet (ev M.T G (.call 20 (.cons (.var 1) (.cons (.var 2) .nil)) .nil))) xNil) (xvs M.T G (q47.drop 4)) [some (.str "at_most"), some a, some b] μ := by kernel_rfl
theorem dq47_equal (G : Sems) (a b : D) (μ : Store) : xvs M.T G q47 [some (.str "equal"), some a, some b] μ = xSeq (xRet (ev M.T G (.call 21 (.cons (.var 1) (.cons (.var 2) .nil)) .nil))) (xvs M.T G (q47.drop 5)) [some (.str "equal"), some a, some b] μ := by kernel_rfl
theorem dq47_unequal (G : Sems) (a b : D) (μ : Store) : xvs M.T G q47 [some (.str "unequal"), some a, some b] μ = xSeq (xRet (ev M.T G (.call 22 (.cons (.var 1) (.cons (.var 2) .nil)) .nil))) (xvs M.T G (q47.drop 5)) [some (.str "unequal"), some a, some b] μ := by kernel_rfl
theorem dq48_plus (G : Sems) (a b : D) (μ : Store) : xvs M.T G q48 [some (.str "plus"), some a, some b] μ = xSeq (xSeq (xRet (ev M.T G (.iOwn 6 .Add (.var 1) (.var 2)))) xNil) (xvs M.T G (q48.drop 1)) [some (.str "plus"), some a, some b] μ := by kernel_rfl
theorem dq48_minus (G : Sems) (a b : D) (μ : Store) : xvs M.T G q48 [some (.str "minus"), some a, some b] μ = xSeq (xSeq (xRet (ev M.T G (.iOwn 7 .Sub (.var 1) (.var 2)))) xNil) (xvs M.T G (q48.drop 1)) [some (.str "minus"), some a, some b] μ := by kernel_rfl
theorem dq48_times (G : Sems) (a b : D) (μ : Store) : xvs M.T G q48 [some (.str "times"), some a, some b] μ = xSeq (xSeq (xRet (ev M.T G (.iOwn 8 .Mult (.var 1) (.var 2)))) xNil) (xvs M.T G (q48.drop 1)) [some (.str "times"), some a, some b] μ := by kernel_rfl
theorem dq48_both (G : Sems) (a b : D) (μ : Store) : xvs M.T G q48 [some (.str "both"), some a, some b] μ = xSeq (xSeq (xRet (ev M.T G (.iOwn 9 .BitAnd (.var 1) (.var 2)))) xNil) (xvs M.T G (q48.drop 2)) [some (.str "both"), some a, some b] μ := by kernel_rfl
theorem dq48_either (G : Sems) (a b : D) (μ : Store) : xvs M.T G q48 [some (.str "either"), some a, some b] μ = xSeq (xSeq (xRet (ev M.T G (.iOwn 10 .BitOr (.var 1) (.var 2)))) xNil) (xvs M.T G (q48.drop 2)) [some (.str "either"), some a, some b] μ := by kernel_rfl
theorem dq48_unlike (G : Sems) (a b : D) (μ : Store) : xvs M.T G q48 [some (.str "unlike"), some a, some b] μ = xSeq (xSeq (xRet (ev M.T G (.iOwn 11 .BitXor (.var 1) (.var 2)))) xNil) (xvs M.T G (q48.drop 2)) [some (.str "unlike"), some a, some b] μ := by kernel_rfl
theorem dq48_greater (G : Sems) (a b : D) (μ : Store) : xvs M.T G q48 [some (.str "greater"), some a, some b] μ = xSeq (xSeq (xRet (ev M.T G (.call 17 (.cons (.var 1) (.cons (.var 2) .nil)) .nil))) xNil) (xvs M.T G (q48.drop 3)) [some (.str "greater"), some a, some b] μ := by kernel_rfl
theorem dq48_lesser (G : Sems) (a b : D) (μ : Store) : xvs M.T G q48 [some (.str "lesser"), some a, some b] μ = xSeq (xSeq (xRet (ev M.T G (.call 18 (.cons (.var 1) (.cons (.var 2) .nil)) .nil))) xNil) (xvs M.T G (q48.drop 3)) [some (.str "lesser"), some a, some b] μ := by kernel_rfl
theorem dq48_below (G : Sems) (a b : D) (μ : Store) : xvs M.T G q48 [some (.str "below"), some a, some b] μ = xSeq (xSeq (xRet (ev M.T G (.call 19 (.cons (.var 1) (.cons (.var 2) .nil)) .nil))) xNil) (xvs M.T G (q48.drop 4)) [some (.str "below"), some a, some b] μ := by kernel_rfl
theorem dq48_at_most (G : Sems) (a b : D) (μ : Store) : xvs M.T G q48 [some (.str "at_most"), some a, some b] μ = xSeq (xSeq (xRet (ev M.T G (.call 20 (.cons (.var 1) (.cons (.var 2) .nil)) .nil))) xNil) (xvs M.T G (q48.drop 4)) [some (.str "at_most"), some a, some b] μ := by kernel_rfl
theorem dq48_equal (G : Sems) (a b : D) (μ : Store) : xvs M.T G q48 [some (.str "equal"), some a, some b] μ = xSeq (xRet (ev M.T G (.call 21 (.cons (.var 1) (.cons (.var 2) .nil)) .nil))) (xvs M.T G (q48.drop 5)) [some (.str "equal"), some a, some b] μ := by kernel_rfl
theorem dq48_unequal (G : Sems) (a b : D) (μ : Store) : xvs M.T G q48 [some (.str "unequal"), some a, some b] μ = xSeq (xRet (ev M.T G (.call 22 (.cons (.var 1) (.cons (.var 2) .nil)) .nil))) (xvs M.T G (q48.drop 5)) [some (.str "unequal"), some a, some b] μ := by kernel_rfl
section
variable {Ls : List Str} (hz : Ls.length < 64) {m m1 m2 dp : Nat} {d d1 d2 e e1 e2 : D}
include hz
theorem pb_plus (k : Nat) (i : Int) (h1 : X Ls m1 dp d1 e1) (h2 : X Ls m2 dp d2 e2) (hm : m1 + m2 ≤ 1000) (μ : Store) : ∃ d w, M.lev (k + 6) 44 [.str "plus", d1, d2] μ = some (.ok d, μ ++ w) ∧ X Ls (m1 + m2) (dp + 1) d (.tup [.str "plus", e1, e2]) := by
  obtain ⟨d, w, e, hx⟩ := paired_ok hz k na_plus ng_plus nl_plus (dp := dp) (.inl h1) (.inl h2) (by omega) μ
  have o : M.lev (k + 5) 8 [d1, d2] μ = some (.ok d, μ ++ w) := by rw [l8]; simp [q8, e]
  refine ⟨d, w, ?_, hx.mono (by omega) (by omega)⟩
  obtain ⟨k1, p1, c1, l1, n1, v1, rfl, a1, b1⟩ := h1
  obtain ⟨k2, p2, c2, l2, n2, v2, rfl, a2, b2⟩ := h2
  rw [l44]
  simp [dq44_plus, o]
theorem bs_plus (k : Nat) (i : Int) (h1 : X Ls m1 dp d1 e1) (h2 : True) (hm : m1 ≤ 1000) (μ : Store) : ∃ d w, M.lev (k + 6) 47 [.str "plus", d1, .int i] μ = some (.ok d, μ ++ w) ∧ X Ls m1 (dp + 1) d (.tup [.str "plus", e1, .tup [.str "number", .int i]]) := by
  obtain ⟨d, w, e, hx⟩ := paired_ok hz k na_plus ng_plus nl_plus (dp := dp) (.inl h1) (m2 := 0) (.inr ⟨i, rfl, rfl⟩) (by omega) μ
  have o : M.lev (k + 5) 8 [d1, .int i] μ = some (.ok d, μ ++ w) := by rw [l8]; simp [q8, e]
  refine ⟨d, w, ?_, hx.mono (by omega) (by omega)⟩
  obtain ⟨k1, p1, c1, l1, n1, v1, rfl, a1, b1⟩ := h1
  rw [l47]
  simp [dq47_plus, o]
theorem bh_plus (k : Nat) (i : Int) (h1 : X Ls m1 dp d1 e1) (h2 : True) (hm : m1 ≤ 1000) (μ : Store) : ∃ d w, M.lev (k + 6) 48 [.str "plus", .int i, d1] μ = some (.ok d, μ ++ w) ∧ X Ls m1 (dp + 1) d (.tup [.str "plus", .tup [.str "number", .int i], e1]) := by
  obtain ⟨d, w, e, hx⟩ := paired_ok hz k na_plus ng_plus nl_plus (dp := dp) (m1 := 0) (.inr ⟨i, rfl, rfl⟩) (.inl h1) (by omega) μ
  have o : M.lev (k + 5) 9 [d1, .int i] μ = some (.ok d, μ ++ w) := by rw [l9]; simp [q9, e]
  refine ⟨d, w, ?_, hx.mono (by omega) (by omega)⟩
  obtain ⟨k1, p1, c1, l1, n1, v1, rfl, a1, b1⟩ := h1
  rw [l48]
  simp [dq48_plus, o]
theorem pb_minus (k : Nat) (i : Int) (h1 : X Ls m1 dp d1 e1) (h2 : X Ls m2 dp d2 e2) (hm : m1 + m2 ≤ 1000) (μ : Store) : ∃ d w, M.lev (k + 6) 44 [.str "minus", d1, d2] μ = some (.ok d, μ ++ w) ∧ X Ls (m1 + m2) (dp + 1) d (.tup [.str "minus", e1, e2]) := by
  obtain ⟨d, w, e, hx⟩ := paired_ok hz k na_minus ng_minus nl_minus (dp := dp) (.inl h1) (.inl h2) (by omega) μ
  have o : M.lev (k + 5) 10 [d1, d2] μ = some (.ok d, μ ++ w) := by rw [l10]; simp [q10, e]
  refine ⟨d, w, ?_, hx.mono (by omega) (by omega)⟩
  obtain ⟨k1, p1, c1, l1, n1, v1, rfl, a1, b1⟩ := h1
  obtain ⟨k2, p2, c2, l2, n2, v2, rfl, a2, b2⟩ := h2
  rw [l44]
  simp [dq44_minus, o]
theorem bs_minus (k : Nat) (i : Int) (h1 : X Ls m1 dp d1 e1) (h2 : True) (hm : m1 ≤ 1000) (μ : Store) : ∃ d w, M.lev (k + 6) 47 [.str "minus", d1, .int i] μ = some (.ok d, μ ++ w) ∧ X Ls m1 (dp + 1) d (.tup [.str "minus", e1, .tup [.str "number", .int i]]) := by
  obtain ⟨d, w, e, hx⟩ := paired_ok hz k na_minus ng_minus nl_minus (dp := dp) (.inl h1) (m2 := 0) (.inr ⟨i, rfl, rfl⟩) (by omega) μ
  have o : M.lev (k + 5) 10 [d1, .int i] μ = some (.ok d, μ ++ w) := by rw [l10]; simp [q10, e]
  refine ⟨d, w, ?_, hx.mono (by omega) (by omega)⟩
  obtain ⟨k1, p1, c1, l1, n1, v1, rfl, a1, b1⟩ := h1
  rw [l47]
  simp [dq47_minus, o]
theorem bh_minus (k : Nat) (i : Int) (h1 : X Ls m1 dp d1 e1) (h2 : True) (hm : m1 ≤ 1000) (μ : Store) : ∃ d w, M.lev (k + 6) 48 [.str "minus", .int i, d1] μ = some (.ok d, μ ++ w) ∧ X Ls m1 (dp + 1) d (.tup [.str "minus", .tup [.str "number", .int i], e1]) := by
  obtain ⟨d, w, e, hx⟩ := paired_ok hz k na_minus ng_minus nl_minus (dp := dp) (m1 := 0) (.inr ⟨i, rfl, rfl⟩) (.inl h1) (by omega) μ
  have o : M.lev (k + 5) 11 [d1, .int i] μ = some (.ok d, μ ++ w) := by rw [l11]; simp [q11, e]
  refine ⟨d, w, ?_, hx.mono (by omega) (by omega)⟩
  obtain ⟨k1, p1, c1, l1, n1, v1, rfl, a1, b1⟩ := h1
  rw [l48]
  simp [dq48_minus, o]
theorem pb_times (k : Nat) (i : Int) (h1 : X Ls m1 dp d1 e1) (h2 : X Ls m2 dp d2 e2) (hm : m1 + m2 ≤ 1000) (μ : Store) : ∃ d w, M.lev (k + 6) 44 [.str "times", d1, d2] μ = some (.ok d, μ ++ w) ∧ X Ls (m1 + m2) (dp + 1) d (.tup [.str "times", e1, e2]) := by
  obtain ⟨d, w, e, hx⟩ := paired_ok hz k na_times ng_times nl_times (dp := dp) (.inl h1) (.inl h2) (by omega) μ
  have o : M.lev (k + 5) 12 [d1, d2] μ = some (.ok d, μ ++ w) := by rw [l12]; simp [q12, e]
  refine ⟨d, w, ?_, hx.mono (by omega) (by omega)⟩
  obtain ⟨k1, p1, c1, l1, n1, v1, rfl, a1, b1⟩ := h1
  obtain ⟨k2, p2, c2, l2, n2, v2, rfl, a2, b2⟩ := h2
  rw [l44]
  simp [dq44_times, o]
theorem bs_times (k : Nat) (i : Int) (h1 : X Ls m1 dp d1 e1) (h2 : True) (hm : m1 ≤ 1000) (μ : Store) : ∃ d w, M.lev (k + 6) 47 [.str "times", d1, .int i] μ = some (.ok d, μ ++ w) ∧ X Ls m1 (dp + 1) d (.tup [.str "times", e1, .tup [.str "number", .int i]]) := by
  obtain ⟨d, w, e, hx⟩ := paired_ok hz k na_times ng_times nl_times (dp := dp) (.inl h1) (m2 := 0) (.inr ⟨i, rfl, rfl⟩) (by omega) μ
  have o : M.lev (k + 5) 12 [d1, .int i] μ = some (.ok d, μ ++ w) := by rw [l12]; simp [q12, e]
  refine ⟨d, w, ?_, hx.mono (by omega) (by omega)⟩
  obtain ⟨k1, p1, c1, l1, n1, v1, rfl, a1, b1⟩ := h1
  rw [l47]
  simp [dq47_times, o]
theorem bh_times (k : Nat) (i : Int) (h1 : X Ls m1 dp d1 e1) (h2 : True) (hm : m1 ≤ 1000) (μ : Store) : ∃ d w, M.lev (k + 6) 48 [.str "times", .int i, d1] μ = some (.ok d, μ ++ w) ∧ X Ls m1 (dp + 1) d (.tup [.str "times", .tup [.str "number", .int i], e1]) := by
  obtain ⟨d, w, e, hx⟩ := paired_ok hz k na_times ng_times nl_times (dp := dp) (m1 := 0) (.inr ⟨i, rfl, rfl⟩) (.inl h1) (by omega) μ
  have o : M.lev (k + 5) 13 [d1, .int i] μ = some (.ok d, μ ++ w) := by rw [l13]; simp [q13, e]
  refine ⟨d, w, ?_, hx.mono (by omega) (by omega)⟩
  obtain ⟨k1, p1, c1, l1, n1, v1, rfl, a1, b1⟩ := h1
  rw [l48]
  simp [dq48_times, o]
theorem pb_both (k : Nat) (i : Int) (h1 : X Ls m1 dp d1 e1) (h2 : X Ls m2 dp d2 e2) (hm : m1 + m2 ≤ 1000) (μ : Store) : ∃ d w, M.lev (k + 6) 44 [.str "both", d1, d2] μ = some (.ok d, μ ++ w) ∧ X Ls (m1 + m2) (dp + 1) d (.tup [.str "both", e1, e2]) := by
  obtain ⟨d, w, e, hx⟩ := paired_ok hz k na_both ng_both nl_both (dp := dp) (.inl h1) (.inl h2) (by omega) μ
  have o : M.lev (k + 5) 14 [d1, d2] μ = some (.ok d, μ ++ w) := by rw [l14]; simp [q14, e]
  refine ⟨d, w, ?_, hx.mono (by omega) (by omega)⟩
  obtain ⟨k1, p1, c1, l1, n1, v1, rfl, a1, b1⟩ := h1
  obtain ⟨k2, p2, c2, l2, n2, v2, rfl, a2, b2⟩ := h2
  rw [l44]
  simp [dq44_both, o]
theorem bs_both (k : Nat) (i : Int) (h1 : X Ls m1 dp d1 e1) (h2 : True) (hm : m1 ≤ 1000) (μ : Store) : ∃ d w, M.lev (k + 6) 47 [.str "both", d1, .int i] μ = some (.ok d, μ ++ w) ∧ X Ls m1 (dp + 1) d (.tup [.str "both", e1, .tup [.str "number", .int i]]) := by
  obtain ⟨d, w, e, hx⟩ := paired_ok hz k na_both ng_both nl_both (dp := dp) (.inl h1) (m2 := 0) (.inr ⟨i, rfl, rfl⟩) (by omega) μ
  have o : M.lev (k + 5) 14 [d1, .int i] μ = some (.ok d, μ ++ w) := by rw [l14]; simp [q14, e]
  refine ⟨d, w, ?_, hx.mono (by omega) (by omega)⟩
  obtain ⟨k1, p1, c1, l1, n1, v1, rfl, a1, b1⟩ := h1
  rw [l47]
  simp [dq47_both, o]
theorem bh_both (k : Nat) (i : Int) (h1 : X Ls m1 dp d1 e1) (h2 : True) (hm : m1 ≤ 1000) (μ : Store) : ∃ d w, M.lev (k + 6) 48 [.str "both", .int i, d1] μ = some (.ok d, μ ++ w) ∧ X Ls m1 (dp + 1) d (.tup [.str "both", .tup [.str "number", .int i], e1]) := by
  obtain ⟨d, w, e, hx⟩ := paired_ok hz k na_both ng_both nl_both (dp := dp) (m1 := 0) (.inr ⟨i, rfl, rfl⟩) (.inl h1) (by omega) μ
  have o : M.lev (k + 5) 15 [d1, .int i] μ = some (.ok d, μ ++ w) := by rw [l15]; simp [q15, e]
  refine ⟨d, w, ?_, hx.mono (by omega) (by omega)⟩
  obtain ⟨k1, p1, c1, l1, n1, v1, rfl, a1, b1⟩ := h1
  rw [l48]
  simp [dq48_both, o]
theorem pb_either (k : Nat) (i : Int) (h1 : X Ls m1 dp d1 e1) (h2 : X Ls m2 dp d2 e2) (hm : m1 + m2 ≤ 1000) (μ : Store) : ∃ d w, M.lev (k + 6) 44 [.str "either", d1, d2] μ = some (.ok d, μ ++ w) ∧ X Ls (m1 + m2) (dp + 1) d (.tup [.str "either", e1, e2]) := by
  obtain ⟨d, w, e, hx⟩ := paired_ok hz k na_either ng_either nl_either (dp := dp) (.inl h1) (.inl h2) (by omega) μ
  have o : M.lev (k + 5) 16 [d1, d2] μ = some (.ok d, μ ++ w) := by rw [l16]; simp [q16, e]
  refine ⟨d, w, ?_, hx.mono (by omega) (by omega)⟩
  obtain ⟨k1, p1, c1, l1, n1, v1, rfl, a1, b1⟩ := h1
  obtain ⟨k2, p2, c2, l2, n2, v2, rfl, a2, b2⟩ := h2
  rw [l44]
  simp [dq44_either, o]
theorem bs_either (k : Nat) (i : Int) (h1 : X Ls m1 dp d1 e1) (h2 : True) (hm : m1 ≤ 1000) (μ : Store) : ∃ d w, M.lev (k + 6) 47 [.str "either", d1, .int i] μ = some (.ok d, μ ++ w) ∧ X Ls m1 (dp + 1) d (.tup [.str "either", e1, .tup [.str "number", .int i]]) := by
  obtain ⟨d, w, e, hx⟩ := paired_ok hz k na_either ng_either nl_either (dp := dp) (.inl h1) (m2 := 0) (.inr ⟨i, rfl, rfl⟩) (by omega) μ
  have o : M.lev (k + 5) 16 [d1, .int i] μ = some (.ok d, μ ++ w) := by rw [l16]; simp [q16, e]
  refine ⟨d, w, ?_, hx.mono (by omega) (by omega)⟩
  obtain ⟨k1, p1, c1, l1, n1, v1, rfl, a1, b1⟩ := h1
  rw [l47]
  simp [dq47_either, o]
theorem bh_either (k : Nat) (i : Int) (h1 : X Ls m1 dp d1 e1) (h2 : True) (hm : m1 ≤ 1000) (μ : Store) : ∃ d w, M.lev (k + 6) 48 [.str "either", .int i, d1] μ = some (.ok d, μ ++ w) ∧ X Ls m1 (dp + 1) d (.tup [.str "either", .tup [.str "number", .int i], e1]) := by
  obtain ⟨d, w, e, hx⟩ := paired_ok hz k na_either ng_either nl_either (dp := dp) (m1 := 0) (.inr ⟨i, rfl, rfl⟩) (.inl h1) (by omega) μ
  have o : M.lev (k + 5) 17 [d1, .int i] μ = some (.ok d, μ ++ w) := by rw [l17]; simp [q17, e]
  refine ⟨d, w, ?_, hx.mono (by omega) (by omega)⟩
  obtain ⟨k1, p1, c1, l1, n1, v1, rfl, a1, b1⟩ := h1
  rw [l48]
  simp [dq48_either, o]
theorem pb_unlike (k : Nat) (i : Int) (h1 : X Ls m1 dp d1 e1) (h2 : X Ls m2 dp d2 e2) (hm : m1 + m2 ≤ 1000) (μ : Store) : ∃ d w, M.lev (k + 6) 44 [.str "unlike", d1, d2] μ = some (.ok d, μ ++ w) ∧ X Ls (m1 + m2) (dp + 1) d (.tup [.str "unlike", e1, e2]) := by
  obtain ⟨d, w, e, hx⟩ := paired_ok hz k na_unlike ng_unlike nl_unlike (dp := dp) (.inl h1) (.inl h2) (by omega) μ
  have o : M.lev (k + 5) 18 [d1, d2] μ = some (.ok d, μ ++ w) := by rw [l18]; simp [q18, e]
  refine ⟨d, w, ?_, hx.mono (by omega) (by omega)⟩
  obtain ⟨k1, p1, c1, l1, n1, v1, rfl, a1, b1⟩ := h1
  obtain ⟨k2, p2, c2, l2, n2, v2, rfl, a2, b2⟩ := h2
  rw [l44]
  simp [dq44_unlike, o]
theorem bs_unlike (k : Nat) (i : Int) (h1 : X Ls m1 dp d1 e1) (h2 : True) (hm : m1 ≤ 1000) (μ : Store) : ∃ d w, M.lev (k + 6) 47 [.str "unlike", d1, .int i] μ = some (.ok d, μ ++ w) ∧ X Ls m1 (dp + 1) d (.tup [.str "unlike", e1, .tup [.str "number", .int i]]) := by
  obtain ⟨d, w, e, hx⟩ := paired_ok hz k na_unlike ng_unlike nl_unlike (dp := dp) (.inl h1) (m2 := 0) (.inr ⟨i, rfl, rfl⟩) (by omega) μ
  have o : M.lev (k + 5) 18 [d1, .int i] μ = some (.ok d, μ ++ w) := by rw [l18]; simp [q18, e]
  refine ⟨d, w, ?_, hx.mono (by omega) (by omega)⟩
  obtain ⟨k1, p1, c1, l1, n1, v1, rfl, a1, b1⟩ := h1
  rw [l47]
  simp [dq47_unlike, o]
theorem bh_unlike (k : Nat) (i : Int) (h1 : X Ls m1 dp d1 e1) (h2 : True) (hm : m1 ≤ 1000) (μ : Store) : ∃ d w, M.lev (k + 6) 48 [.str "unlike", .int i, d1] μ = some (.ok d, μ ++ w) ∧ X Ls m1 (dp + 1) d (.tup [.str "unlike", .tup [.str "number", .int i], e1]) := by
  obtain ⟨d, w, e, hx⟩ := paired_ok hz k na_unlike ng_unlike nl_unlike (dp := dp) (m1 := 0) (.inr ⟨i, rfl, rfl⟩) (.inl h1) (by omega) μ
  have o : M.lev (k + 5) 19 [d1, .int i] μ = some (.ok d, μ ++ w) := by rw [l19]; simp [q19, e]
  refine ⟨d, w, ?_, hx.mono (by omega) (by omega)⟩
  obtain ⟨k1, p1, c1, l1, n1, v1, rfl, a1, b1⟩ := h1
  rw [l48]
  simp [dq48_unlike, o]
theorem pb_greater (k : Nat) (i : Int) (h1 : X Ls m1 dp d1 e1) (h2 : X Ls m2 dp d2 e2) (hm : m1 + m2 ≤ 1000) (μ : Store) : ∃ d w, M.lev (k + 6) 44 [.str "greater", d1, d2] μ = some (.ok d, μ ++ w) ∧ X Ls (m1 + m2) (dp + 1) d (.tup [.str "greater", e1, e2]) := by
  obtain ⟨d, w, e, hx⟩ := paired_ok hz k na_greater ng_greater nl_greater (dp := dp) (.inl h1) (.inl h2) (by omega) μ
  have o : M.lev (k + 5) 28 [d1, d2] μ = some (.ok d, μ ++ w) := by rw [l28]; simp [q28, e]
  refine ⟨d, w, ?_, hx.mono (by omega) (by omega)⟩
  obtain ⟨k1, p1, c1, l1, n1, v1, rfl, a1, b1⟩ := h1
  obtain ⟨k2, p2, c2, l2, n2, v2, rfl, a2, b2⟩ := h2
  rw [l44]
  simp [dq44_greater, o]
theorem bs_greater (k : Nat) (i : Int) (h1 : X Ls m1 dp d1 e1) (h2 : True) (hm : m1 ≤ 1000) (μ : Store) : ∃ d w, M.lev (k + 6) 47 [.str "greater", d1, .int i] μ = some (.ok d, μ ++ w) ∧ X Ls m1 (dp + 1) d (.tup [.str "greater", e1, .tup [.str "number", .int i]]) := by
  obtain ⟨d, w, e, hx⟩ := paired_ok hz k na_greater ng_greater nl_greater (dp := dp) (.inl h1) (m2 := 0) (.inr ⟨i, rfl, rfl⟩) (by omega) μ
  have o : M.lev (k + 5) 28 [d1, .int i] μ = some (.ok d, μ ++ w) := by rw [l28]; simp [q28, e]
  refine ⟨d, w, ?_, hx.mono (by omega) (by omega)⟩
  obtain ⟨k1, p1, c1, l1, n1, v1, rfl, a1, b1⟩ := h1
  rw [l47]
  simp [dq47_greater, o]
theorem bh_greater (k : Nat) (i : Int) (h1 : X Ls m1 dp d1 e1) (h2 : True) (hm : m1 ≤ 1000) (μ : Store) : ∃ d w, M.lev (k + 6) 48 [.str "greater", .int i, d1] μ = some (.ok d, μ ++ w) ∧ X Ls m1 (dp + 1) d (.tup [.str "greater", .tup [.str "number", .int i], e1]) := by
  obtain ⟨d, w, e, hx⟩ := paired_ok hz k na_greater ng_greater nl_greater (dp := dp) (m1 := 0) (.inr ⟨i, rfl, rfl⟩) (.inl h1) (by omega) μ
  have o : M.lev (k + 5) 28 [.int i, d1] μ = some (.ok d, μ ++ w) := by rw [l28]; simp [q28, e]
  refine ⟨d, w, ?_, hx.mono (by omega) (by omega)⟩
  obtain ⟨k1, p1, c1, l1, n1, v1, rfl, a1, b1⟩ := h1
  rw [l48]
  simp [dq48_greater, o]
theorem pb_lesser (k : Nat) (i : Int) (h1 : X Ls m1 dp d1 e1) (h2 : X Ls m2 dp d2 e2) (hm : m1 + m2 ≤ 1000) (μ : Store) : ∃ d w, M.lev (k + 6) 44 [.str "lesser", d1, d2] μ = some (.ok d, μ ++ w) ∧ X Ls (m1 + m2) (dp + 1) d (.tup [.str "lesser", e1, e2]) := by
  obtain ⟨d, w, e, hx⟩ := paired_ok hz k na_lesser ng_lesser nl_lesser (dp := dp) (.inl h1) (.inl h2) (by omega) μ
  have o : M.lev (k + 5) 29 [d1, d2] μ = some (.ok d, μ ++ w) := by rw [l29]; simp [q29, e]
  refine ⟨d, w, ?_, hx.mono (by omega) (by omega)⟩
  obtain ⟨k1, p1, c1, l1, n1, v1, rfl, a1, b1⟩ := h1
  obtain ⟨k2, p2, c2, l2, n2, v2, rfl, a2, b2⟩ := h2
  rw [l44]
  simp [dq44_lesser, o]
theorem bs_lesser (k : Nat) (i : Int) (h1 : X Ls m1 dp d1 e1) (h2 : True) (hm : m1 ≤ 1000) (μ : Store) : ∃ d w, M.lev (k + 6) 47 [.str "lesser", d1, .int i] μ = some (.ok d, μ ++ w) ∧ X Ls m1 (dp + 1) d (.tup [.str "lesser", e1, .tup [.str "number", .int i]]) := by
  obtain ⟨d, w, e, hx⟩ := paired_ok hz k na_lesser ng_lesser nl_lesser (dp := dp) (.inl h1) (m2 := 0) (.inr ⟨i, rfl, rfl⟩) (by omega) μ
  have o : M.lev (k + 5) 29 [d1, .int i] μ = some (.ok d, μ ++ w) := by rw [l29]; simp [q29, e]
  refine ⟨d, w, ?_, hx.mono (by omega) (by omega)⟩
  obtain ⟨k1, p1, c1, l1, n1, v1, rfl, a1, b1⟩ := h1
  rw [l47]
  simp [dq47_lesser, o]
theorem bh_lesser (k : Nat) (i : Int) (h1 : X Ls m1 dp d1 e1) (h2 : True) (hm : m1 ≤ 1000) (μ : Store) : ∃ d w, M.lev (k + 6) 48 [.str "lesser", .int i, d1] μ = some (.ok d, μ ++ w) ∧ X Ls m1 (dp + 1) d (.tup [.str "lesser", .tup [.str "number", .int i], e1]) := by
  obtain ⟨d, w, e, hx⟩ := paired_ok hz k na_lesser ng_lesser nl_lesser (dp := dp) (m1 := 0) (.inr ⟨i, rfl, rfl⟩) (.inl h1) (by omega) μ
  have o : M.lev (k + 5) 29 [.int i, d1] μ = some (.ok d, μ ++ w) := by rw [l29]; simp [q29, e]
  refine ⟨d, w, ?_, hx.mono (by omega) (by omega)⟩
  obtain ⟨k1, p1, c1, l1, n1, v1, rfl, a1, b1⟩ := h1
  rw [l48]
  simp [dq48_lesser, o]
theorem pb_below (k : Nat) (i : Int) (h1 : X Ls m1 dp d1 e1) (h2 : X Ls m2 dp d2 e2) (hm : m1 + m2 ≤ 1000) (μ : Store) : ∃ d w, M.lev (k + 6) 44 [.str "below", d1, d2] μ = some (.ok d, μ ++ w) ∧ X Ls (m1 + m2) (dp + 1) d (.tup [.str "below", e1, e2]) := by
  obtain ⟨d, w, e, hx⟩ := paired_ok hz k na_below ng_below nl_below (dp := dp) (.inl h1) (.inl h2) (by omega) μ
  have o : M.lev (k + 5) 30 [d1, d2] μ = some (.ok d, μ ++ w) := by rw [l30]; simp [q30, e]
  refine ⟨d, w, ?_, hx.mono (by omega) (by omega)⟩
  obtain ⟨k1, p1, c1, l1, n1, v1, rfl, a1, b1⟩ := h1
  obtain ⟨k2, p2, c2, l2, n2, v2, rfl, a2, b2⟩ := h2
  rw [l44]
  simp [dq44_below, o]
theorem bs_below (k : Nat) (i : Int) (h1 : X Ls m1 dp d1 e1) (h2 : True) (hm : m1 ≤ 1000) (μ : Store) : ∃ d w, M.lev (k + 6) 47 [.str "below", d1, .int i] μ = some (.ok d, μ ++ w) ∧ X Ls m1 (dp + 1) d (.tup [.str "below", e1, .tup [.str "number", .int i]]) := by
  obtain ⟨d, w, e, hx⟩ := paired_ok hz k na_below ng_below nl_below (dp := dp) (.inl h1) (m2 := 0) (.inr ⟨i, rfl, rfl⟩) (by omega) μ
  have o : M.lev (k + 5) 30 [d1, .int i] μ = some (.ok d, μ ++ w) := by rw [l30]; simp [q30, e]
  refine ⟨d, w, ?_, hx.mono (by omega) (by omega)⟩
  obtain ⟨k1, p1, c1, l1, n1, v1, rfl, a1, b1⟩ := h1
  rw [l47]
  simp [dq47_below, o]
theorem bh_below (k : Nat) (i : Int) (h1 : X Ls m1 dp d1 e1) (h2 : True) (hm : m1 ≤ 1000) (μ : Store) : ∃ d w, M.lev (k + 6) 48 [.str "below", .int i, d1] μ = some (.ok d, μ ++ w) ∧ X Ls m1 (dp + 1) d (.tup [.str "below", .tup [.str "number", .int i], e1]) := by
  obtain ⟨d, w, e, hx⟩ := paired_ok hz k na_below ng_below nl_below (dp := dp) (m1 := 0) (.inr ⟨i, rfl, rfl⟩) (.inl h1) (by omega) μ
  have o : M.lev (k + 5) 30 [.int i, d1] μ = some (.ok d, μ ++ w) := by rw [l30]; simp [q30, e]
  refine ⟨d, w, ?_, hx.mono (by omega) (by omega)⟩
  obtain ⟨k1, p1, c1, l1, n1, v1, rfl, a1, b1⟩ := h1
  rw [l48]
  simp [dq48_below, o]
theorem pb_at_most (k : Nat) (i : Int) (h1 : X Ls m1 dp d1 e1) (h2 : X Ls m2 dp d2 e2) (hm : m1 + m2 ≤ 1000) (μ : Store) : ∃ d w, M.lev (k + 6) 44 [.str "at_most", d1, d2] μ = some (.ok d, μ ++ w) ∧ X Ls (m1 + m2) (dp + 1) d (.tup [.str "at_most", e1, e2]) := by
  obtain ⟨d, w, e, hx⟩ := paired_ok hz k na_at_most ng_at_most nl_at_most (dp := dp) (.inl h1) (.inl h2) (by omega) μ
  have o : M.lev (k + 5) 31 [d1, d2] μ = some (.ok d, μ ++ w) := by rw [l31]; simp [q31, e]
  refine ⟨d, w, ?_, hx.mono (by omega) (by omega)⟩
  obtain ⟨k1, p1, c1, l1, n1, v1, rfl, a1, b1⟩ := h1
  obtain ⟨k2, p2, c2, l2, n2, v2, rfl, a2, b2⟩ := h2
  rw [l44]
  simp [dq44_at_most, o]
theorem bs_at_most (k : Nat) (i : Int) (h1 : X Ls m1 dp d1 e1) (h2 : True) (hm : m1 ≤ 1000) (μ : Store) : ∃ d w, M.lev (k + 6) 47 [.str "at_most", d1, .int i] μ = some (.ok d, μ ++ w) ∧ X Ls m1 (dp + 1) d (.tup [.str "at_most", e1, .tup [.str "number", .int i]]) := by
  obtain ⟨d, w, e, hx⟩ := paired_ok hz k na_at_most ng_at_most nl_at_most (dp := dp) (.inl h1) (m2 := 0) (.inr ⟨i, rfl, rfl⟩) (by omega) μ
  have o : M.lev (k + 5) 31 [d1, .int i] μ = some (.ok d, μ ++ w) := by rw [l31]; simp [q31, e]
  refine ⟨d, w, ?_, hx.mono (by omega) (by omega)⟩
  obtain ⟨k1, p1, c1, l1, n1, v1, rfl, a1, b1⟩ := h1
  rw [l47]
  simp [dq47_at_most, o]
theorem bh_at_most (k : Nat) (i : Int) (h1 : X Ls m1 dp d1 e1) (h2 : True) (hm : m1 ≤ 1000) (μ : Store) : ∃ d w, M.lev (k + 6) 48 [.str "at_most", .int i, d1] μ = some (.ok d, μ ++ w) ∧ X Ls m1 (dp + 1) d (.tup [.str "at_most", .tup [.str "number", .int i], e1]) := by
  obtain ⟨d, w, e, hx⟩ := paired_ok hz k na_at_most ng_at_most nl_at_most (dp := dp) (m1 := 0) (.inr ⟨i, rfl, rfl⟩) (.inl h1) (by omega) μ
  have o : M.lev (k + 5) 31 [.int i, d1] μ = some (.ok d, μ ++ w) := by rw [l31]; simp [q31, e]
  refine ⟨d, w, ?_, hx.mono (by omega) (by omega)⟩
  obtain ⟨k1, p1, c1, l1, n1, v1, rfl, a1, b1⟩ := h1
  rw [l48]
  simp [dq48_at_most, o]
theorem pb_equal (k : Nat) (i : Int) (h1 : X Ls m1 dp d1 e1) (h2 : X Ls m2 dp d2 e2) (hm : m1 + m2 ≤ 1000) (μ : Store) : ∃ d w, M.lev (k + 6) 44 [.str "equal", d1, d2] μ = some (.ok d, μ ++ w) ∧ X Ls (m1 + m2) (dp + 1) d (.tup [.str "equal", e1, e2]) := by
  obtain ⟨d, w, e, hx⟩ := paired_ok hz k na_equal ng_equal nl_equal (dp := dp) (.inl h1) (.inl h2) (by omega) μ
  have o : M.lev (k + 5) 32 [d1, d2] μ = some (.ok d, μ ++ w) := by rw [l32]; simp [q32, e]
  refine ⟨d, w, ?_, hx.mono (by omega) (by omega)⟩
  obtain ⟨k1, p1, c1, l1, n1, v1, rfl, a1, b1⟩ := h1
  obtain ⟨k2, p2, c2, l2, n2, v2, rfl, a2, b2⟩ := h2
  rw [l44]
  simp [dq44_equal, o]
theorem bs_equal (k : Nat) (i : Int) (h1 : X Ls m1 dp d1 e1) (h2 : True) (hm : m1 ≤ 1000) (μ : Store) : ∃ d w, M.lev (k + 6) 47 [.str "equal", d1, .int i] μ = some (.ok d, μ ++ w) ∧ X Ls m1 (dp + 1) d (.tup [.str "equal", e1, .tup [.str "number", .int i]]) := by
  obtain ⟨d, w, e, hx⟩ := paired_ok hz k na_equal ng_equal nl_equal (dp := dp) (.inl h1) (m2 := 0) (.inr ⟨i, rfl, rfl⟩) (by omega) μ
  have o : M.lev (k + 5) 32 [d1, .int i] μ = some (.ok d, μ ++ w) := by rw [l32]; simp [q32, e]
  refine ⟨d, w, ?_, hx.mono (by omega) (by omega)⟩
  obtain ⟨k1, p1, c1, l1, n1, v1, rfl, a1, b1⟩ := h1
  rw [l47]
  simp [dq47_equal, o]
theorem bh_equal (k : Nat) (i : Int) (h1 : X Ls m1 dp d1 e1) (h2 : True) (hm : m1 ≤ 1000) (μ : Store) : ∃ d w, M.lev (k + 6) 48 [.str "equal", .int i, d1] μ = some (.ok d, μ ++ w) ∧ X Ls m1 (dp + 1) d (.tup [.str "equal", .tup [.str "number", .int i], e1]) := by
  obtain ⟨d, w, e, hx⟩ := paired_ok hz k na_equal ng_equal nl_equal (dp := dp) (m1 := 0) (.inr ⟨i, rfl, rfl⟩) (.inl h1) (by omega) μ
  have o : M.lev (k + 5) 32 [.int i, d1] μ = some (.ok d, μ ++ w) := by rw [l32]; simp [q32, e]
  refine ⟨d, w, ?_, hx.mono (by omega) (by omega)⟩
  obtain ⟨k1, p1, c1, l1, n1, v1, rfl, a1, b1⟩ := h1
  rw [l48]
  simp [dq48_equal, o]
theorem pb_unequal (k : Nat) (i : Int) (h1 : X Ls m1 dp d1 e1) (h2 : X Ls m2 dp d2 e2) (hm : m1 + m2 ≤ 1000) (μ : Store) : ∃ d w, M.lev (k + 6) 44 [.str "unequal", d1, d2] μ = some (.ok d, μ ++ w) ∧ X Ls (m1 + m2) (dp + 1) d (.tup [.str "unequal", e1, e2]) := by
  obtain ⟨d, w, e, hx⟩ := paired_ok hz k na_unequal ng_unequal nl_unequal (dp := dp) (.inl h1) (.inl h2) (by omega) μ
  have o : M.lev (k + 5) 33 [d1, d2] μ = some (.ok d, μ ++ w) := by rw [l33]; simp [q33, e]
  refine ⟨d, w, ?_, hx.mono (by omega) (by omega)⟩
  obtain ⟨k1, p1, c1, l1, n1, v1, rfl, a1, b1⟩ := h1
  obtain ⟨k2, p2, c2, l2, n2, v2, rfl, a2, b2⟩ := h2
  rw [l44]
  simp [dq44_unequal, o]
theorem bs_unequal (k : Nat) (i : Int) (h1 : X Ls m1 dp d1 e1) (h2 : True) (hm : m1 ≤ 1000) (μ : Store) : ∃ d w, M.lev (k + 6) 47 [.str "unequal", d1, .int i] μ = some (.ok d, μ ++ w) ∧ X Ls m1 (dp + 1) d (.tup [.str "unequal", e1, .tup [.str "number", .int i]]) := by
  obtain ⟨d, w, e, hx⟩ := paired_ok hz k na_unequal ng_unequal nl_unequal (dp := dp) (.inl h1) (m2 := 0) (.inr ⟨i, rfl, rfl⟩) (by omega) μ
  have o : M.lev (k + 5) 33 [d1, .int i] μ = some (.ok d, μ ++ w) := by rw [l33]; simp [q33, e]
  refine ⟨d, w, ?_, hx.mono (by omega) (by omega)⟩
  obtain ⟨k1, p1, c1, l1, n1, v1, rfl, a1, b1⟩ := h1
  rw [l47]
  simp [dq47_unequal, o]
theorem bh_unequal (k : Nat) (i : Int) (h1 : X Ls m1 dp d1 e1) (h2 : True) (hm : m1 ≤ 1000) (μ : Store) : ∃ d w, M.lev (k + 6) 48 [.str "unequal", .int i, d1] μ = some (.ok d, μ ++ w) ∧ X Ls m1 (dp + 1) d (.tup [.str "unequal", .tup [.str "number", .int i], e1]) := by
  obtain ⟨d, w, e, hx⟩ := paired_ok hz k na_unequal ng_unequal nl_unequal (dp := dp) (m1 := 0) (.inr ⟨i, rfl, rfl⟩) (.inl h1) (by omega) μ
  have o : M.lev (k + 5) 33 [.int i, d1] μ = some (.ok d, μ ++ w) := by rw [l33]; simp [q33, e]
  refine ⟨d, w, ?_, hx.mono (by omega) (by omega)⟩
  obtain ⟨k1, p1, c1, l1, n1, v1, rfl, a1, b1⟩ := h1
  rw [l48]
  simp [dq48_unequal, o]
end
end L13
namespace L13
open PySem PySem.Spec L2 DL
theorem draw (l : Nat) (k : Sk) (m : Int) (rest : Store) {b : Int} (ok : k.ok b) (hb : b < 10000000) (hm : 0 < m) (hm2 : m < 1073741824) :
    ∃ (d : Int) (k' : Sk), M.lev (l + 1) 35 [.loc 1, .int m] (k.st rest) = some (.ok (.int d), k'.st rest) ∧ 0 ≤ d ∧ d < m ∧ k'.ok (b + 1) := by
  rw [l35]; exact draw_run k m rest ok hb hm hm2
theorem pick (l : Nat) (k : Sk) (rest : Store) {b : Int} (ok : k.ok b) (hb : b < 9000000) (xs : List D) (h0 : 0 < xs.length) (h1 : xs.length < 1000) :
    ∃ (i : Nat) (x : D) (k' : Sk), xs[i]? = some x ∧ M.lev (l + 2) 37 [.loc 1, .lst xs] (k.st rest) = some (.ok x, k'.st rest) ∧ k'.ok (b + 1) := by
  obtain ⟨d, k', e, a, c, o⟩ := draw l k xs.length rest ok (by omega) (by omega) (by omega)
  obtain ⟨i, rfl⟩ : ∃ i : Nat, d = i := ⟨d.toNat, by omega⟩
  have hi : i < xs.length := by omega
  refine ⟨i, xs[i], k', List.getElem?_eq_getElem hi, ?_, o⟩
  rw [l37]
  have hz : xs.length ≤ 16777216 := by omega
  simp [q37, evBi, lenD, itOf, sqOf, lsOf, e, DL.atI_nat, hi, hz, sizeLine]
theorem chPick (l : Nat) (k : Sk) (rest : Store) {b : Int} (ok : k.ok b) (hb : b < 9000000) (z : Str) (h0 : 0 < z.length) (h1 : z.length < 1000) :
    ∃ (x : Str) (k' : Sk), M.lev (l + 2) 37 [.loc 1, .str z] (k.st rest) = some (.ok (.str x), k'.st rest) ∧ x.length = 1 ∧ k'.ok (b + 1) := by
  obtain ⟨d, k', e, a, c, o⟩ := draw l k z.length rest ok (by omega) (by omega) (by omega)
  obtain ⟨i, rfl⟩ : ∃ i : Nat, d = i := ⟨d.toNat, by omega⟩
  have hi : i < z.length := by omega
  have : ∃ x : Str, ixD (.str z) (.int i) (k'.st rest) = some (.str x, k'.st rest) ∧ x.length = 1 := by
    have hc : i < z.cps.toList.length := by simpa [Str.length] using hi
    refine ⟨⟨#[z.cps.toList[i]]⟩, ?_, rfl⟩
    have hz : z.length ≤ 16777216 := by omega
    simp only [ixD, sizeLine, hz, if_true, DL.atI_nat, List.getElem?_eq_getElem hc, Option.map_some]
  obtain ⟨x, ex, hx⟩ := this
  refine ⟨x, k', ?_, hx, o⟩
  rw [l37]
  have hz : z.length ≤ 16777216 := by omega
  simp [q37, evBi, lenD, e, hz, sizeLine, ex]
/-! ### the kinds with one operand -/
theorem b1 (μ : Store) : cmpD .In (.str "quotient") (.tup [.str "quotient", .str "remainder"]) μ = some (.bl true, μ) := by kernel_rfl
theorem b2 (μ : Store) : cmpD .In (.str "power") (.tup [.str "quotient", .str "remainder"]) μ = some (.bl false, μ) := by kernel_rfl
theorem b3 (μ : Store) : cmpD .In (.str "left") (.tup [.str "quotient", .str "remainder"]) μ = some (.bl false, μ) := by kernel_rfl
theorem b4 (μ : Store) : cmpD .In (.str "right") (.tup [.str "quotient", .str "remainder"]) μ = some (.bl false, μ) := by kernel_rfl
theorem z1 : (("left" : Str) = "power") = False := by simp; decide +kernel
theorem z2 : (("right" : Str) = "power") = False := by simp; decide +kernel
theorem z3 : (("right" : Str) = "left") = False := by simp; decide +kernel
theorem z4 : (("power" : Str) = "quotient") = False := by simp; decide +kernel
theorem z5 : (("left" : Str) = "quotient") = False := by simp; decide +kernel
theorem z6 : (("right" : Str) = "quotient") = False := by simp; decide +kernel
theorem z7 : (("inverse" : Str) = "negative") = False := by simp; decide +kernel
theorem z8 : (("absolute" : Str) = "negative") = False := by simp; decide +kernel
theorem z9 : (("absolute" : Str) = "inverse") = False := by simp; decide +kernel
theorem fit1 (i : Int) (h : i ≠ 0) (k : Nat) (μ : Store) : M.lev (k + 1) 6 [.str "quotient", .int i] μ = some (.ok (.bl true), μ) := by
  rw [l6]; simp [q6, oTup, sizeLine, b1, h]
theorem fit2 (i : Int) (h : 1 ≤ i) (h2 : i ≤ 4) (k : Nat) (μ : Store) : M.lev (k + 1) 6 [.str "power", .int i] μ = some (.ok (.bl true), μ) := by
  rw [l6]; simp [q6, oTup, sizeLine, b2, h, h2]
theorem fit3 (i : Int) (h : 0 ≤ i) (h2 : i ≤ 60) (k : Nat) (μ : Store) : M.lev (k + 1) 6 [.str "left", .int i] μ = some (.ok (.bl true), μ) := by
  rw [l6]; simp [q6, oTup, sizeLine, b3, h, h2, z1]
theorem fit4 (i : Int) (h : 0 ≤ i) (h2 : i ≤ 60) (k : Nat) (μ : Store) : M.lev (k + 1) 6 [.str "right", .int i] μ = some (.ok (.bl true), μ) := by
  rw [l6]; simp [q6, oTup, sizeLine, b4, h, h2, z2]
section
variable {Ls : List Str} (hz : Ls.length < 64) {m dp : Nat} {d e : D}
include hz
theorem unary_ok (k : Nat) {kind : Str} (hk : (kind = "access") = False) (hg : kind ≠ "gain") (hl : kind ≠ "loss") (h : X Ls m dp d e) (hm : m ≤ 1000) (μ : Store) :
    ∃ d', X Ls m (dp + 1) d' (.tup [.str kind, e]) ∧ semMk 0 true ((M.sems (M.lev (k + 1))).mkr 0) [.str kind, .tup [d]] μ = some (.ok d', μ ++ [.dead]) := by
  obtain ⟨k1, p1, c1, l1, n1, v1, rfl, a1, b1⟩ := h
  obtain ⟨lets, nc, e⟩ := mkOne hz k kind hk (p1 := p1) (l1 := l1) (n1 := n1) a1 hm μ
  exact ⟨_, ⟨kind, _, c1, lets, nc, _, rfl, ⟨hg, hl, a1.n, a1.s⟩, vOne hk b1⟩, e⟩
theorem neg_ok (k : Nat) (h : X Ls m dp d e) (hm : m ≤ 1000) (μ : Store) : ∃ d', M.lev (k + 2) 24 [d] μ = some (.ok d', μ ++ [.dead]) ∧ X Ls m (dp + 1) d' (.tup [.str "negative", e]) := by
  obtain ⟨d', hx, e'⟩ := unary_ok hz k (kind := "negative") (by simp; decide +kernel) (by decide +kernel) (by decide +kernel) h hm μ
  refine ⟨d', ?_, hx⟩
  rw [l24]; simp [q24, opndX k h μ, oTup, sizeLine, e']
theorem inv_ok (k : Nat) (h : X Ls m dp d e) (hm : m ≤ 1000) (μ : Store) : ∃ d', M.lev (k + 2) 26 [d] μ = some (.ok d', μ ++ [.dead]) ∧ X Ls m (dp + 1) d' (.tup [.str "inverse", e]) := by
  obtain ⟨d', hx, e'⟩ := unary_ok hz k (kind := "inverse") (by simp; decide +kernel) (by decide +kernel) (by decide +kernel) h hm μ
  refine ⟨d', ?_, hx⟩
  rw [l26]; simp [q26, opndX k h μ, oTup, sizeLine, e']
theorem abs_ok (k : Nat) (h : X Ls m dp d e) (hm : m ≤ 1000) (μ : Store) : ∃ d', M.lev (k + 2) 27 [d] μ = some (.ok d', μ ++ [.dead]) ∧ X Ls m (dp + 1) d' (.tup [.str "absolute", e]) := by
  obtain ⟨d', hx, e'⟩ := unary_ok hz k (kind := "absolute") (by simp; decide +kernel) (by decide +kernel) (by decide +kernel) h hm μ
  refine ⟨d', ?_, hx⟩
  rw [l27]; simp [q27, opndX k h μ, oTup, sizeLine, e']
theorem quo_ok (k : Nat) (i : Int) (hi : i ≠ 0) (h : X Ls m dp d e) (hm : m ≤ 1000) (μ : Store) : ∃ d' w, M.lev (k + 5) 20 [d, .int i] μ = some (.ok d', μ ++ w) ∧ X Ls m (dp + 1) d' (.tup [.str "quotient", e, .int i]) := by
  obtain ⟨d', w, e', hx⟩ := numbered_ok hz k (kind := "quotient") (by simp; decide +kernel) (by decide +kernel) (by decide +kernel) h i (fit1 i hi) hm μ
  exact ⟨d', w, by rw [l20]; simp [q20, e'], hx⟩
theorem pow_ok (k : Nat) (i : Int) (h1 : 1 ≤ i) (h2 : i ≤ 4) (h : X Ls m dp d e) (hm : m ≤ 1000) (μ : Store) : ∃ d' w, M.lev (k + 5) 21 [d, .int i] μ = some (.ok d', μ ++ w) ∧ X Ls m (dp + 1) d' (.tup [.str "power", e, .int i]) := by
  obtain ⟨d', w, e', hx⟩ := numbered_ok hz k (kind := "power") (by simp; decide +kernel) (by decide +kernel) (by decide +kernel) h i (fit2 i h1 h2) hm μ
  exact ⟨d', w, by rw [l21]; simp [q21, e'], hx⟩
theorem left_ok (k : Nat) (i : Int) (h1 : 0 ≤ i) (h2 : i ≤ 60) (h : X Ls m dp d e) (hm : m ≤ 1000) (μ : Store) : ∃ d' w, M.lev (k + 5) 22 [d, .int i] μ = some (.ok d', μ ++ w) ∧ X Ls m (dp + 1) d' (.tup [.str "left", e, .int i]) := by
  obtain ⟨d', w, e', hx⟩ := numbered_ok hz k (kind := "left") (by simp; decide +kernel) (by decide +kernel) (by decide +kernel) h i (fit3 i h1 h2) hm μ
  exact ⟨d', w, by rw [l22]; simp [q22, e'], hx⟩
theorem right_ok (k : Nat) (i : Int) (h1 : 0 ≤ i) (h2 : i ≤ 60) (h : X Ls m dp d e) (hm : m ≤ 1000) (μ : Store) : ∃ d' w, M.lev (k + 5) 23 [d, .int i] μ = some (.ok d', μ ++ w) ∧ X Ls m (dp + 1) d' (.tup [.str "right", e, .int i]) := by
  obtain ⟨d', w, e', hx⟩ := numbered_ok hz k (kind := "right") (by simp; decide +kernel) (by decide +kernel) (by decide +kernel) h i (fit4 i h1 h2) hm μ
  exact ⟨d', w, by rw [l23]; simp [q23, e'], hx⟩
end
end L13
namespace L13
open PySem PySem.Spec L2 DL
theorem in1_negative (μ : Store) : cmpD .In (.str "negative") (.tup [.str "negative", .str "inverse", .str "absolute"]) μ = some (.bl true, μ) := by kernel_rfl
theorem in1_inverse (μ : Store) : cmpD .In (.str "inverse") (.tup [.str "negative", .str "inverse", .str "absolute"]) μ = some (.bl true, μ) := by kernel_rfl
theorem in1_absolute (μ : Store) : cmpD .In (.str "absolute") (.tup [.str "negative", .str "inverse", .str "absolute"]) μ = some (.bl true, μ) := by kernel_rfl
theorem in1_quotient (μ : Store) : cmpD .In (.str "quotient") (.tup [.str "negative", .str "inverse", .str "absolute"]) μ = some (.bl false, μ) := by kernel_rfl
theorem in1_power (μ : Store) : cmpD .In (.str "power") (.tup [.str "negative", .str "inverse", .str "absolute"]) μ = some (.bl false, μ) := by kernel_rfl
theorem in1_left (μ : Store) : cmpD .In (.str "left") (.tup [.str "negative", .str "inverse", .str "absolute"]) μ = some (.bl false, μ) := by kernel_rfl
theorem in1_right (μ : Store) : cmpD .In (.str "right") (.tup [.str "negative", .str "inverse", .str "absolute"]) μ = some (.bl false, μ) := by kernel_rfl
abbrev kinds7 : List D := [.str "negative", .str "inverse", .str "absolute", .str "quotient", .str "power", .str "left", .str "right"]
section
variable {Ls : List Str} (hz : Ls.length < 64) {m dp : Nat} {d e : D}
include hz
theorem single (l : Nat) (k : Sk) (rest : Store) {b : Int} (ok : k.ok b) (hb : b < 8000000) (h : X Ls m dp d e) (hm : m ≤ 1000) : ∃ (d' e' : D) (k' : Sk) (w : Store), M.lev (l + 6) 49 [.loc 1, e, d] (k.st rest) = some (.ok (.tup [e', d']), k'.st (rest ++ w)) ∧ X Ls m (dp + 1) d' e' ∧ k'.ok (b + 3) := by
  obtain ⟨i, x, k1, hx, ep, o1⟩ := pick (l + 3) k rest ok (by omega) kinds7 (by decide) (by decide)
  have o1' : k1.ok (b + 3) := o1.mono (by omega)
  have hp : powC 10 19 = true := by decide
  rw [l49]
  have hi : i < 7 := by
    have := (List.getElem?_eq_some_iff.mp hx).1
    simpa using this
  have hcase : i = 0 ∨ i = 1 ∨ i = 2 ∨ i = 3 ∨ i = 4 ∨ i = 5 ∨ i = 6 := by omega
  rcases hcase with rfl | rfl | rfl | rfl | rfl | rfl | rfl
  · cases hx
    obtain ⟨d', e', hx⟩ := neg_ok hz (l + 3) h hm (k1.st rest)
    obtain ⟨kk, p1, c1, l1, n1, v1, rfl, a1, b1⟩ := h
    exact ⟨d', _, k1, [.dead], by simp [q49, ep, in1_negative, oTup, oLst, sizeLine, e'], hx, o1'⟩
  · cases hx
    obtain ⟨d', e', hx⟩ := inv_ok hz (l + 3) h hm (k1.st rest)
    obtain ⟨kk, p1, c1, l1, n1, v1, rfl, a1, b1⟩ := h
    exact ⟨d', _, k1, [.dead], by simp [q49, ep, in1_inverse, oTup, oLst, sizeLine, e', z7], hx, o1'⟩
  · cases hx
    obtain ⟨d', e', hx⟩ := abs_ok hz (l + 3) h hm (k1.st rest)
    obtain ⟨kk, p1, c1, l1, n1, v1, rfl, a1, b1⟩ := h
    exact ⟨d', _, k1, [.dead], by simp [q49, ep, in1_absolute, oTup, oLst, sizeLine, e', z8, z9], hx, o1'⟩
  · cases hx
    obtain ⟨j, k2, ej, j0, j1, o2⟩ := draw (l + 4) k1 3 rest o1 (by omega) (by omega) (by omega)
    have hj : j = 0 ∨ j = 1 ∨ j = 2 := by omega
    obtain ⟨n, hn, en⟩ : ∃ n : Int, n ≠ 0 ∧ atI [D.int 7, D.int (-3), D.int 10000000000000000000] j = some (.int n) := by
      rcases hj with rfl | rfl | rfl
      · exact ⟨7, by decide, rfl⟩
      · exact ⟨-3, by decide, rfl⟩
      · exact ⟨10000000000000000000, by decide, rfl⟩
    obtain ⟨d', w, e', hx⟩ := quo_ok hz l n hn h hm (k2.st rest)
    obtain ⟨kk, p1, c1, l1, n1, v1, rfl, a1, b1⟩ := h
    exact ⟨d', _, k2, w, by simp [q49, ep, in1_quotient, oTup, oLst, sizeLine, e', hp, ej, en], hx, o2.mono (by omega)⟩
  · cases hx
    obtain ⟨j, k2, ej, j0, j1, o2⟩ := draw (l + 4) k1 2 rest o1 (by omega) (by omega) (by omega)
    have hj : j = 0 ∨ j = 1 := by omega
    obtain ⟨d1, w1, e1, hx1⟩ := pow_ok hz l 1 (by omega) (by omega) h hm (k2.st rest)
    obtain ⟨d2, w2, e2, hx2⟩ := pow_ok hz l 2 (by omega) (by omega) h hm (k2.st (rest ++ w1))
    obtain ⟨kk, p1, c1, l1, n1, v1, rfl, a1, b1⟩ := h
    rcases hj with rfl | rfl
    · exact ⟨d1, _, k2, w1 ++ w2, by simp [q49, ep, in1_power, oTup, oLst, sizeLine, e1, e2, ej, z4], hx1, o2.mono (by omega)⟩
    · exact ⟨d2, _, k2, w1 ++ w2, by simp [q49, ep, in1_power, oTup, oLst, sizeLine, e1, e2, ej, z4], hx2, o2.mono (by omega)⟩
  · cases hx
    obtain ⟨j, k2, ej, j0, j1, o2⟩ := draw (l + 4) k1 59 rest o1 (by omega) (by omega) (by omega)
    obtain ⟨i2, x2, k3, hx2, ep2, o3⟩ := pick (l + 3) k2 rest o2 (by omega) [.int 0, .int 60, .int (1 + j)] (by simp) (by simp)
    obtain ⟨n, rfl, n0, n1⟩ : ∃ n : Int, x2 = .int n ∧ 0 ≤ n ∧ n ≤ 60 := by
      have hi2 : i2 < 3 := by have := (List.getElem?_eq_some_iff.mp hx2).1; simpa using this
      have : i2 = 0 ∨ i2 = 1 ∨ i2 = 2 := by omega
      rcases this with rfl | rfl | rfl <;> cases hx2
      · exact ⟨0, rfl, by omega, by omega⟩
      · exact ⟨60, rfl, by omega, by omega⟩
      · exact ⟨1 + j, rfl, by omega, by omega⟩
    obtain ⟨d', w, e', hx⟩ := left_ok hz l n n0 n1 h hm (k3.st rest)
    obtain ⟨kk, p1, c1, l1, nn, v1, rfl, a1, b1⟩ := h
    exact ⟨d', _, k3, w, by simp [q49, ep, in1_left, oTup, oLst, sizeLine, e', ej, ep2, z1, z5], hx, o3.mono (by omega)⟩
  · cases hx
    obtain ⟨j, k2, ej, j0, j1, o2⟩ := draw (l + 4) k1 59 rest o1 (by omega) (by omega) (by omega)
    obtain ⟨i2, x2, k3, hx2, ep2, o3⟩ := pick (l + 3) k2 rest o2 (by omega) [.int 0, .int 60, .int (1 + j)] (by simp) (by simp)
    obtain ⟨n, rfl, n0, n1⟩ : ∃ n : Int, x2 = .int n ∧ 0 ≤ n ∧ n ≤ 60 := by
      have hi2 : i2 < 3 := by have := (List.getElem?_eq_some_iff.mp hx2).1; simpa using this
      have : i2 = 0 ∨ i2 = 1 ∨ i2 = 2 := by omega
      rcases this with rfl | rfl | rfl <;> cases hx2
      · exact ⟨0, rfl, by omega, by omega⟩
      · exact ⟨60, rfl, by omega, by omega⟩
      · exact ⟨1 + j, rfl, by omega, by omega⟩
    obtain ⟨d', w, e', hx⟩ := right_ok hz l n n0 n1 h hm (k3.st rest)
    obtain ⟨kk, p1, c1, l1, nn, v1, rfl, a1, b1⟩ := h
    exact ⟨d', _, k3, w, by simp [q49, ep, in1_right, oTup, oLst, sizeLine, e', ej, ep2, z2, z3, z6], hx, o3.mono (by omega)⟩
end
end L13
namespace L13
open PySem PySem.Spec L2 DL
theorem rep0 (k : Nat) (μ : Store) : M.lev (k + 1) 2 [.tup []] μ = some (.ok .non, μ) := by
  rw [l2]; simp [q2, q2_for0, sx_for_, mEnum, sqPure, enumDs, forL]
theorem rep1 (k : Nat) (a : Str) (μ : Store) : M.lev (k + 1) 2 [.tup [.str a]] μ = some (.ok .non, μ) := by
  rw [l2]; simp [q2, q2_for0, sx_for_, q2_fb0, mEnum, sqPure, enumDs, forL, sliceD, mPart, cutL, HT.sIx, cmpD, inD, inS, vwD, itOf, dOk, eqb]
theorem rep2 (k : Nat) (a b : Str) (h : a ≠ b) (μ : Store) : M.lev (k + 1) 2 [.tup [.str a, .str b]] μ = some (.ok .non, μ) := by
  rw [l2]; simp [q2, q2_for0, sx_for_, q2_fb0, mEnum, sqPure, enumDs, forL, sliceD, mPart, cutL, HT.sIx, cmpD, inD, inS, vwD, itOf, dOk, eqb, h]
theorem rep3 (k : Nat) (a b c : Str) (h : a ≠ b) (h2 : a ≠ c) (h3 : b ≠ c) (μ : Store) : M.lev (k + 1) 2 [.tup [.str a, .str b, .str c]] μ = some (.ok .non, μ) := by
  rw [l2]; simp [q2, q2_for0, sx_for_, q2_fb0, mEnum, sqPure, enumDs, forL, sliceD, mPart, cutL, HT.sIx, cmpD, inD, inS, vwD, itOf, dOk, eqb, h, h2, h3]
section
variable {Ls : List Str} (hz : Ls.length < 64)
include hz
theorem access_ok (k : Nat) (name : Str) (ls : List Str) (hs : ∀ x ∈ ls, x ∈ Ls) (hl : ls.length ≤ 1000) (hr : ∀ k μ, M.lev (k + 1) 2 [.tup (ls.map D.str)] μ = some (.ok .non, μ)) (μ : Store) :
    ∃ d, M.lev (k + 2) 1 [.str name, .tup (ls.map D.str)] μ = some (.ok d, μ ++ [.dead]) ∧ X Ls 1 0 d (.tup [.str "access", .str name, .tup (ls.map D.str)]) := by
  obtain ⟨lets, nc, e⟩ := mkAcc hz k name ls hs μ
  refine ⟨_, ?_, "access", _, [(name, ls)], lets, nc, _, rfl, ⟨by decide +kernel, by decide +kernel, by simp, by simpa using hs⟩, vAcc name ls hl lets nc⟩
  rw [l1]
  simp [q1, hr, cmpD, isNotD, isD, evBi, tupleD, oTup, sizeLine, e]
theorem law_access (k : Nat) (name : Str) (ls : List Str) (hs : ∀ x ∈ ls, x ∈ Ls) (hn : ls.Nodup) (hl : ls.length ≤ 3) (μ : Store) :
    ∃ d, M.lev (k + 3) 43 [.str name, .tup (ls.map D.str)] μ = some (.ok d, μ ++ [.dead]) ∧ X Ls 1 0 d (.tup [.str "access", .str name, .tup (ls.map D.str)]) := by
  rw [l43]
  match ls, hl with
  | [], _ =>
    obtain ⟨d, e, hx⟩ := access_ok hz k name [] hs (by simp) rep0 μ
    refine ⟨d, ?_, hx⟩
    simp at e
    simp [q43, evBi, lenD, itOf, sizeLine, e]
  | [a], _ =>
    obtain ⟨d, e, hx⟩ := access_ok hz k name [a] hs (by simp) (fun k => rep1 k a) μ
    refine ⟨d, ?_, hx⟩
    simp at e
    simp [q43, evBi, lenD, itOf, sizeLine, e]
  | [a, b], _ =>
    simp at hn
    obtain ⟨d, e, hx⟩ := access_ok hz k name [a, b] hs (by simp) (fun k => rep2 k a b hn) μ
    refine ⟨d, ?_, hx⟩
    simp at e
    simp [q43, evBi, lenD, itOf, sizeLine, e]
  | [a, b, c], _ =>
    simp at hn
    obtain ⟨d, e, hx⟩ := access_ok hz k name [a, b, c] hs (by simp) (fun k => rep3 k a b c hn.1.1 hn.1.2 hn.2) μ
    refine ⟨d, ?_, hx⟩
    simp at e
    simp [q43, evBi, lenD, itOf, sizeLine, e]
end
/-! ### lists of which one pops -/
theorem compL_inv {g : Tgt} {c : Rho → Ev Bool} {f : Rho → Ev D} {ρ : Rho} (I : Nat → List D → Store → Prop) : ∀ (ds : List D) (i0 : Nat), (∀ i d acc μ, ds[i]? = some d → I (i0 + i) acc μ → ∃ ρ1 y μ1, g d ρ = some ρ1 ∧ c ρ1 μ = some (.ok true, μ) ∧ f ρ1 μ = some (.ok y, μ1) ∧ I (i0 + i + 1) (acc ++ [y]) μ1) →
    ∀ acc μ, I i0 acc μ → ∃ ys μ', compL g c f ρ ds μ = some (.ok ys, μ') ∧ I (i0 + ds.length) (acc ++ ys) μ'
  | [], i0, _, acc, μ, h => ⟨[], μ, rfl, by simpa using h⟩
  | d :: ds, i0, step, acc, μ, h => by
    obtain ⟨ρ1, y, μ1, e1, e2, e3, h2⟩ := step 0 d acc μ rfl h
    obtain ⟨ys, μ', e4, h3⟩ := compL_inv I ds (i0 + 1) (fun i d acc μ e hI => by
      have := step (i + 1) d acc μ (by simpa using e) (by rw [show i0 + (i + 1) = i0 + 1 + i by omega]; exact hI)
      rw [show i0 + (i + 1) + 1 = i0 + 1 + i + 1 by omega] at this
      exact this) (acc ++ [y]) μ1 h2
    refine ⟨y :: ys, μ', ?_, by rw [List.length_cons, show i0 + (ds.length + 1) = i0 + 1 + ds.length by omega]; simpa using h3⟩
    unfold compL
    simp [e1, e2, e3, e4]
theorem st_at (k : Sk) (rest : Store) (c : Cell) : (k.st (rest ++ [c]))[rest.length + 2]? = some c := by
  show (_ :: _ :: (rest ++ [c]))[rest.length + 2]? = some c
  simp
theorem st_at' (k : Sk) (rest : Store) (c : Cell) (h : rest.length + 2 < (k.st (rest ++ [c])).length) : (k.st (rest ++ [c]))[rest.length + 2]'h = c := by
  have := st_at k rest c
  rw [List.getElem?_eq_getElem h] at this
  exact Option.some.inj this
theorem st_set (k : Sk) (rest : Store) (c c' : Cell) : (k.st (rest ++ [c])).set (rest.length + 2) c' = k.st (rest ++ [c']) := by
  show (_ :: _ :: (rest ++ [c])).set (rest.length + 2) c' = _
  simp [Sk.st]
/-- left.pop(draw(len(left))) -/
abbrev popE : E := .bm .pop (.var 2) (.cons (.call 9 (.cons (.var 0) (.cons (.bi .len (.cons (.var 2) .nil)) .nil)) .nil) .nil)
theorem pop1 (l : Nat) (k : Sk) (rest : Store) (xs : List D) (h0 : 0 < xs.length) (h1 : xs.length < 1000) {b : Int} (ok : k.ok b) (hb : b < 9000000) (x1 x3 : Option D) :
    ∃ (i : Nat) (y : D) (k' : Sk), xs[i]? = some y ∧ ev M.T (M.sems (M.lev (l + 1))) popE [some (.loc 1), x1, some (.loc (rest.length + 2)), x3] (k.st (rest ++ [.lst xs])) = some (.ok y, k'.st (rest ++ [.lst (xs.eraseIdx i)])) ∧ k'.ok (b + 1) := by
  obtain ⟨d, k', e, a, c, o⟩ := draw l k xs.length (rest ++ [.lst xs]) ok (by omega) (by omega) (by omega)
  obtain ⟨i, rfl⟩ : ∃ i : Nat, d = i := ⟨d.toNat, by omega⟩
  have hi : i < xs.length := by omega
  refine ⟨i, xs[i], k', List.getElem?_eq_getElem hi, ?_, o⟩
  have hz : xs.length ≤ 16777216 := by omega
  have sq : seqIndex? (i : Int) xs.length = some i := by
    unfold seqIndex?
    have : ¬ ((i : Int) < 0) := by omega
    simp [this]
    omega
  have hx : xs[i]? = some xs[i] := List.getElem?_eq_getElem hi
  have g1 : (-(2 ^ 63 : Int) ≤ (i : Int)) := by omega
  have g2 : ((i : Int) < 9223372036854775808) := by omega
  simp [evBi, lenD, itOf, sqOf, lsOf, st_at, st_at', hz, sizeLine, e, isT, evBm, popD, cellL, sq, hx, st_set, guardD, g1, g2]
theorem perm_erase {α : Type} : ∀ {xs : List α} {i : Nat} {y : α}, xs[i]? = some y → (y :: xs.eraseIdx i).Perm xs
  | [], i, y, h => by simp at h
  | x :: xs, 0, y, h => by simp at h; subst h; simp
  | x :: xs, i + 1, y, h => by
    simp at h
    rw [List.eraseIdx_cons_succ]
    exact (List.Perm.swap x y _).trans ((perm_erase (xs := xs) (by simpa using h)).cons x)
/-- the comprehension of pops -/
theorem pops (l : Nat) (k : Sk) (rest : Store) (xs : List D) (n : Nat) (hn : n ≤ xs.length) (h1 : xs.length < 1000) {b : Int} (ok : k.ok b) (hb : b < 8000000) (x1 : Option D) :
    ∃ (ys left : List D) (k' : Sk), compL (gNm 3) mYes (ev M.T (M.sems (M.lev (l + 1))) popE) [some (.loc 1), x1, some (.loc (rest.length + 2)), none] (rngD 0 n) (k.st (rest ++ [.lst xs])) = some (.ok ys, k'.st (rest ++ [.lst left])) ∧ ys.length = n ∧ (ys ++ left).Perm xs ∧ k'.ok (b + n) := by
  obtain ⟨ys, μ', e, h⟩ := compL_inv (g := gNm 3) (c := mYes) (f := ev M.T (M.sems (M.lev (l + 1))) popE) (ρ := [some (.loc 1), x1, some (.loc (rest.length + 2)), none])
    (fun i acc μ => ∃ (k : Sk) (left : List D), μ = k.st (rest ++ [.lst left]) ∧ acc.length = i ∧ (acc ++ left).Perm xs ∧ k.ok (b + i)) (rngD 0 n) 0 (fun i d acc μ hd ⟨k, left, hμ, hl, hp, ok⟩ => by
      have hi : i < n := by
        have := (List.getElem?_eq_some_iff.mp hd).1
        simpa [rngD] using this
      subst hμ
      have hlen : acc.length + left.length = xs.length := by rw [← List.length_append]; exact hp.length_eq
      obtain ⟨j, y, k', hy, ev, o⟩ := pop1 l k rest left (by omega) (by omega) ok (by omega) x1 (some d)
      refine ⟨[some (.loc 1), x1, some (.loc (rest.length + 2)), some d], y, _, by simp, rfl, ev, k', left.eraseIdx j, rfl, by simp; omega, ?_, o.mono (by omega)⟩
      have := perm_erase hy
      rw [List.append_assoc]
      exact (List.Perm.append_left acc this).trans hp) [] (k.st (rest ++ [.lst xs])) ⟨k, xs, rfl, rfl, by simp, by simpa using ok⟩
  obtain ⟨k', left, rfl, h1, h2, h3⟩ := h
  have hr : (rngD 0 n).length = n := by simp [rngD]
  rw [List.nil_append] at h1 h2
  refine ⟨ys, left, k', e, by omega, h2, h3.mono (by rw [hr]; omega)⟩
/-- _law_mixed -/
theorem mixed (l : Nat) (k : Sk) (rest : Store) (xs : List D) (h1 : xs.length < 1000) {b : Int} (ok : k.ok b) (hb : b < 8000000) :
    ∃ (ys : List D) (k' : Sk), M.lev (l + 2) 38 [.loc 1, .lst xs] (k.st rest) = some (.ok (.lst ys), k'.st (rest ++ [.lst []])) ∧ ys.Perm xs ∧ k'.ok (b + xs.length) := by
  obtain ⟨ys, left, k', e, hl, hp, o⟩ := pops l k rest xs xs.length (Nat.le_refl _) h1 ok hb (some (.lst xs))
  have hleft : left = [] := by
    have := hp.length_eq
    rw [List.length_append] at this
    exact List.length_eq_zero_iff.mp (by omega)
  subst hleft
  rw [List.append_nil] at hp
  refine ⟨ys, k', ?_, hp, o⟩
  rw [l38]
  have hz : xs.length ≤ 16777216 := by omega
  have hn : bndI (xs.length : Int) = true := by unfold bndI; simp; omega
  have hr : (rngD 0 xs.length).length ≤ sizeLine := by simp [rngD, sizeLine]; omega
  have lc : ev M.T (M.sems (M.lev (l + 1))) q38_lc0 [some (.loc 1), some (.lst xs), some (.loc (rest.length + 2)), none] (k.st (rest ++ [.lst xs])) = some (.ok (.lst ys), k'.st (rest ++ [.lst []])) := by
    rw [q38_lc0, se_lc, s_lc]
    have ei : evI M.T (M.sems (M.lev (l + 1))) (.range (.cons (.bi .len (.cons (.var 2) .nil)) .nil)) [some (.loc 1), some (.lst xs), some (.loc (rest.length + 2)), none] (k.st (rest ++ [.lst xs])) = some (.ok (rngD 0 xs.length), k.st (rest ++ [.lst xs])) := by
      simp [evBi, lenD, itOf, sqOf, lsOf, st_at, st_at', hz, sizeLine, hn]
    rw [ei]
    simp only
    rw [if_pos hr]
    have : compL (tgOf (.nm 3)) (evC M.T (M.sems (M.lev (l + 1))) .nil) (ev M.T (M.sems (M.lev (l + 1))) popE) (wipeR [some (.loc 1), some (.lst xs), some (.loc (rest.length + 2)), none] ([(("_law_k" : Str), 3)].map (·.2))) (rngD 0 xs.length) (k.st (rest ++ [.lst xs])) = some (.ok ys, k'.st (rest ++ [.lst []])) := e
    rw [this]
  simp [q38, evBi, newListD, itOf, sqOf, lsOf, lc]
theorem chD_len (x : Str) : (chD x).length = x.cps.size := by simp [chD]
/-- _law_letters -/
theorem letters (l : Nat) (k : Sk) (rest : Store) {b : Int} (ok : k.ok b) (hb : b < 8000000) :
    ∃ (ls : List Str) (k' : Sk) (rest' : Store), M.lev (l + 2) 42 [.loc 1, .int 4] (k.st rest) = some (.ok (.lst (ls.map D.str)), k'.st rest') ∧ ls.length = 4 ∧ ls.Nodup ∧ k'.ok (b + 4) := by
  have hx : (chD "abcdefghijklmnopqrstuvwxyz").length = 26 := by decide +kernel
  obtain ⟨ys, left, k', e, hl, hp, o⟩ := pops l k rest (chD "abcdefghijklmnopqrstuvwxyz") 4 (by omega) (by omega) ok hb (some (.int 4))
  have hnd : (chD "abcdefghijklmnopqrstuvwxyz").Nodup := by
    have h0 : (("abcdefghijklmnopqrstuvwxyz" : Str).cps.toList).Nodup := by decide +kernel
    unfold chD
    rw [List.nodup_iff_pairwise_ne] at *
    rw [List.pairwise_map]
    exact h0.imp fun h e => h (by cases e; rfl)
  have hpn : (ys ++ left).Nodup := hp.nodup_iff.mpr hnd
  have hyn : ys.Nodup := (List.nodup_append.mp hpn).1
  obtain ⟨ls, rfl⟩ : ∃ ls : List Str, ys = ls.map D.str := by
    have : ∀ y ∈ ys, ∃ x : Str, y = .str x := fun y hy => by
      have : y ∈ chD "abcdefghijklmnopqrstuvwxyz" := hp.mem_iff.mp (List.mem_append_left _ hy)
      simp only [chD, List.mem_map] at this
      obtain ⟨c, _, rfl⟩ := this
      exact ⟨_, rfl⟩
    clear e hl hp hpn hyn
    induction ys with
    | nil => exact ⟨[], rfl⟩
    | cons y ys ih =>
      obtain ⟨x, rfl⟩ := this y (by simp)
      obtain ⟨ls, rfl⟩ := ih fun z hz => this z (by simp [hz])
      exact ⟨x :: ls, rfl⟩
  refine ⟨ls, k', rest ++ [.lst left], ?_, by simpa using hl, ?_, o.mono (by omega)⟩
  · rw [l42]
    have lc : ev M.T (M.sems (M.lev (l + 1))) q42_lc0 [some (.loc 1), some (.int 4), some (.loc (rest.length + 2)), none] (k.st (rest ++ [.lst (chD "abcdefghijklmnopqrstuvwxyz")])) = some (.ok (.lst (ls.map D.str)), k'.st (rest ++ [.lst left])) := by
      rw [q42_lc0, se_lc, s_lc]
      have ei : evI M.T (M.sems (M.lev (l + 1))) (.range (.cons (.var 1) .nil)) [some (.loc 1), some (.int 4), some (.loc (rest.length + 2)), none] (k.st (rest ++ [.lst (chD "abcdefghijklmnopqrstuvwxyz")])) = some (.ok (rngD 0 4), k.st (rest ++ [.lst (chD "abcdefghijklmnopqrstuvwxyz")])) := by
        simp [bndI]
      rw [ei]
      simp only
      rw [if_pos (by simp [rngD, sizeLine])]
      have : compL (tgOf (.nm 3)) (evC M.T (M.sems (M.lev (l + 1))) .nil) (ev M.T (M.sems (M.lev (l + 1))) popE) (wipeR [some (.loc 1), some (.int 4), some (.loc (rest.length + 2)), none] ([(("_law_k" : Str), 3)].map (·.2))) (rngD 0 4) (k.st (rest ++ [.lst (chD "abcdefghijklmnopqrstuvwxyz")])) = some (.ok (ls.map D.str), k'.st (rest ++ [.lst left])) := e
      rw [this]
    have hs : ("abcdefghijklmnopqrstuvwxyz" : Str).cps.size ≤ 16777216 := by decide +kernel
    simp [q42, evBi, newListSD, guardD, sizeLine, hs, lc]
  · rw [List.nodup_iff_pairwise_ne, List.pairwise_map] at hyn
    exact hyn.imp fun h e => h (by rw [e])
end L13
namespace L13
open PySem PySem.Spec L2 DL
theorem strs_of (xs : List Str) : strsOf (xs.map D.str) = some xs := by
  induction xs with
  | nil => rfl
  | cons x xs ih => simp [strsOf, ih]
theorem ones_sum : ∀ (xs : List Str), (∀ x ∈ xs, x.length = 1) → (xs.map (·.length)).sum = xs.length
  | [], _ => rfl
  | x :: xs, h => by
    simp only [List.map_cons, List.sum_cons, List.length_cons, ones_sum xs fun y hy => h y (by simp [hy]), h x (by simp)]
    omega
/-- _law_name -/
theorem name (l : Nat) (k : Sk) (rest : Store) {b : Int} (ok : k.ok b) (hb : b < 8000000) :
    ∃ (x : Str) (k' : Sk), M.lev (l + 3) 40 [.loc 1] (k.st rest) = some (.ok (.str x), k'.st rest) ∧ x.length ≤ 8 ∧ k'.ok (b + 9) := by
  obtain ⟨n, k1, e1, n0, n1, o1⟩ := draw (l + 1) k 8 rest ok (by omega) (by omega) (by omega)
  obtain ⟨n, rfl⟩ : ∃ i : Nat, n = i := ⟨n.toNat, by omega⟩
  have hs : 0 < ("abcdefghijklmnopqrstuvwxyz" : Str).length ∧ ("abcdefghijklmnopqrstuvwxyz" : Str).length < 1000 := by decide +kernel
  obtain ⟨ys, μ', e, h⟩ := compL_inv (g := gNm 1) (c := mYes) (f := ev M.T (M.sems (M.lev (l + 2))) (.call 8 (.cons (.var 0) (.cons (.str "abcdefghijklmnopqrstuvwxyz") .nil)) .nil)) (ρ := [some (.loc 1), none])
    (fun i acc μ => ∃ (k : Sk) (xs : List Str), μ = k.st rest ∧ acc = xs.map D.str ∧ (∀ x ∈ xs, x.length = 1) ∧ xs.length = i ∧ k.ok (b + 1 + i)) (rngD 0 (1 + n)) 0 (fun i d acc μ hd ⟨k, xs, hμ, ha, hx, hl, ok⟩ => by
      have hi : i < 1 + n := by
        have := (List.getElem?_eq_some_iff.mp hd).1
        simpa [rngD] using this
      subst hμ ha
      obtain ⟨y, k', ey, hy, o⟩ := chPick l k rest ok (by omega) "abcdefghijklmnopqrstuvwxyz" hs.1 hs.2
      refine ⟨[some (.loc 1), some d], .str y, k'.st rest, by simp, rfl, by simp [ey], k', xs ++ [y], rfl, by simp, ?_, by simp; omega, o.mono (by omega)⟩
      intro z hz
      rcases List.mem_append.mp hz with h | h
      · exact hx z h
      · simp at h; rw [h]; exact hy) [] (k1.st rest) ⟨k1, [], rfl, rfl, by simp, rfl, o1.mono (by omega)⟩
  obtain ⟨k', xs, rfl, rfl, hx, hl, o⟩ := h
  have hr : (rngD 0 (1 + n)).length = 1 + n := by simp [rngD]
  rw [hr] at hl o
  have hl : xs.length = 1 + n := by omega
  have hsum := ones_sum xs hx
  refine ⟨Txt.join "" xs, k', ?_, ?_, o.mono (by omega)⟩
  · rw [l40]
    have lc : ev M.T (M.sems (M.lev (l + 2))) q40_lc0 [some (.loc 1), none] (k.st rest) = some (.ok (.lst (xs.map D.str)), k'.st rest) := by
      rw [q40_lc0, se_lc, s_lc]
      have hn : bndI (1 + (n : Int)) = true := by unfold bndI; simp; omega
      have hn2 : (1 + (n : Int)).toNat = 1 + n := by omega
      have ei : evI M.T (M.sems (M.lev (l + 2))) (.range (.cons (.bin .Add (.int 1) (.call 9 (.cons (.var 0) (.cons (.int 8) .nil)) .nil)) .nil)) [some (.loc 1), none] (k.st rest) = some (.ok (rngD 0 (1 + n)), k1.st rest) := by
        simp [e1, hn, hn2]
      rw [ei]
      simp only
      rw [if_pos (by rw [hr]; unfold sizeLine; omega)]
      have : compL (tgOf (.nm 1)) (evC M.T (M.sems (M.lev (l + 2))) .nil) (ev M.T (M.sems (M.lev (l + 2))) (.call 8 (.cons (.var 0) (.cons (.str "abcdefghijklmnopqrstuvwxyz") .nil)) .nil)) (wipeR [some (.loc 1), none] ([(("_law_k" : Str), 1)].map (·.2))) (rngD 0 (1 + n)) (k1.st rest) = some (.ok (xs.map D.str), k'.st rest) := e
      rw [this]
    have hg : (xs.map (·.length)).sum + xs.length * ("" : Str).length ≤ 16777216 := by
      rw [hsum, show ("" : Str).length = 0 from rfl]; omega
    simp [q40, lc, isT, evSm, joinD, itOf, sqOf, lsOf, strs_of, guardD, hg]
  · have := PySem.StrLaws.join_length_le "" xs
    rw [hsum, show ("" : Str).length = 0 from rfl] at this
    have e : Txt.join "" xs = Str.join "" xs := eq_of_beq (PyProof.Rows.join_plain_closes _ _)
    rw [e]
    omega
/-! ### _law_names -/
def signs : List Str := ["a", "b", "c", "d", "e", "f", "g", "h"]
theorem ch_signs : chD "abcdefgh" = signs.map D.str := by kernel_rfl
theorem st_mid (k : Sk) (r w : Store) (c : Cell) : (k.st (r ++ c :: w))[r.length + 2]? = some c := by
  show (_ :: _ :: (r ++ c :: w))[r.length + 2]? = some c
  simp
theorem st_mid' (k : Sk) (r w : Store) (c : Cell) (h : r.length + 2 < (k.st (r ++ c :: w)).length) : (k.st (r ++ c :: w))[r.length + 2]'h = c := by
  have := st_mid k r w c
  rw [List.getElem?_eq_getElem h] at this
  exact Option.some.inj this
theorem st_mset (k : Sk) (r w : Store) (c c' : Cell) : (k.st (r ++ c :: w)).set (r.length + 2) c' = k.st (r ++ c' :: w) := by
  show (_ :: _ :: (r ++ c :: w)).set (r.length + 2) c' = _
  simp [Sk.st]
theorem any_strs (x : Str) : ∀ ns : List Str, ((ns.map D.str).any fun z => eqb z (.str x)) = decide (x ∈ ns)
  | [] => by simp
  | n :: ns => by
    rw [List.map_cons, List.any_cons, any_strs x ns]
    have : eqb (.str n) (.str x) = decide (x = n) := by
      by_cases h : n = x
      · subst h; simp [eqb]
      · have h' : ¬ x = n := fun z => h z.symm
        simp [eqb, h, h']
    rw [this]
    simp
theorem dOk_strs (ns : List Str) : ((ns.map D.str).all (dOk 60)) = true := by
  simp only [List.all_map, List.all_eq_true, Function.comp]
  intro x _; rfl
theorem notIn_cell (k : Sk) (r w : Store) (ns : List Str) (x : Str) : cmpD .NotIn (.str x) (.loc (r.length + 2)) (k.st (r ++ .lst (ns.map D.str) :: w)) = some (.bl (!decide (x ∈ ns)), k.st (r ++ .lst (ns.map D.str) :: w)) := by
  have : inS (.str x) (.loc (r.length + 2)) (k.st (r ++ .lst (ns.map D.str) :: w)) = some (decide (x ∈ ns)) := by
    unfold inS
    simp only [vwD, itOf, sqOf, lsOf, st_mid, dOk_strs, any_strs]
    rfl
  have e : cmpD .NotIn = notInD := rfl
  rw [e]
  simp only [notInD, this, Option.map_some]
/-- the names that may be taken -/
def cands (x : Str) : List Str := x :: signs.map fun s => ("zz" ++ s) ++ cutS x none (some 5)
theorem cand_inj {s t c : Str} (h : (("zz" : Str) ++ s) ++ c = ("zz" ++ t) ++ c) : s = t := by
  have h1 : (("zz" : Str).cps ++ s.cps) ++ c.cps = (("zz" : Str).cps ++ t.cps) ++ c.cps := congrArg Str.cps h
  have h2 := congrArg Array.toList h1
  simp only [Array.toList_append, List.append_assoc] at h2
  have h3 := List.append_cancel_right (List.append_cancel_left h2)
  obtain ⟨a⟩ := s
  obtain ⟨b⟩ := t
  congr 1
  exact Array.toList_inj.mp h3
theorem cands_nd (x : Str) : (signs.map fun s => (("zz" : Str) ++ s) ++ cutS x none (some 5)).Nodup := by
  have h0 : signs.Nodup := by decide +kernel
  rw [List.nodup_iff_pairwise_ne] at *
  rw [List.pairwise_map]
  exact h0.imp fun h e => h (cand_inj e)
/-- one is left -/
theorem cand_left (x : Str) (ns : List Str) (h : ns.length ≤ 7) : ∃ y r, (cands x).filter (fun y => !decide (y ∈ ns)) = y :: r := by
  cases e : (cands x).filter (fun y => !decide (y ∈ ns)) with
  | cons y r => exact ⟨y, r, rfl⟩
  | nil =>
    have hall : ∀ y ∈ signs.map (fun s => (("zz" : Str) ++ s) ++ cutS x none (some 5)), y ∈ ns := fun y hy => by
      have : y ∉ (cands x).filter (fun y => !decide (y ∈ ns)) := by rw [e]; simp
      rw [List.mem_filter] at this
      by_cases hm : y ∈ ns
      · exact hm
      · exact absurd ⟨by unfold cands; exact List.mem_cons_of_mem _ hy, by simp [hm]⟩ this
    have := nodup_len (cands_nd x) hall
    rw [List.length_map] at this
    have h8 : signs.length = 8 := rfl
    omega
/-- the comprehensions -/
theorem lc41a (G : Sems) (x : Str) (hx : x.length ≤ 8) (x0 x1 x2 x3 : Option D) (μ : Store) : ev M.T G q41_lc0 [x0, x1, x2, x3, some (.str x), none, none] μ = some (.ok (.lst ((signs.map fun s => (("zz" : Str) ++ s) ++ cutS x none (some 5)).map D.str)), μ) := by
  have hz : x.length ≤ 16777216 := by omega
  have hc := cutS_length x none (some 5)
  rw [q41_lc0, se_lc, s_lc]
  have ei : evI M.T G (.txt (.str "abcdefgh")) [x0, x1, x2, x3, some (.str x), none, none] μ = some (.ok (signs.map D.str), μ) := by
    simp [ch_signs]
  rw [ei]
  simp only
  rw [if_pos (by simp [signs, sizeLine])]
  have key : compL (tgOf (.nm 6)) (evC M.T G .nil) (ev M.T G (.bin .Add (.bin .Add (.str "zz") (.var 6)) (.slice (.var 4) .nil (.cons (.int 5) .nil)))) (wipeR [x0, x1, x2, x3, some (.str x), none, none] ([(("_law_sign" : Str), 6)].map (·.2))) (signs.map D.str) μ = some (.ok ((signs.map D.str).map fun d => match d with
      | .str s => .str ((("zz" : Str) ++ s) ++ cutS x none (some 5))
      | d => d), μ) := by
    refine compL_map _ fun d hd => ?_
    obtain ⟨s, hs, rfl⟩ := List.mem_map.mp hd
    have hl : s.length = 1 := by
      have : ∀ s ∈ signs, s.length = 1 := by decide +kernel
      exact this s hs
    have hzz : ("zz" : Str).length = 2 := by decide +kernel
    refine ⟨[x0, x1, x2, x3, some (.str x), none, some (.str s)], by simp [wipeR], by simp, ?_⟩
    have g1 : ("zz" : Str).length + s.length ≤ 16777216 := by omega
    have e2 : (("zz" : Str) ++ s).length = 3 := by
      show ((("zz" : Str).cps ++ s.cps).size) = 3
      rw [Array.size_append]
      have a1 : ("zz" : Str).cps.size = 2 := hzz
      have a2 : s.cps.size = 1 := hl
      omega
    have g2 : (("zz" : Str) ++ s).length + (cutS x none (some 5)).length ≤ 16777216 := by omega
    simp [sizeLine, guardD, g1, g2, sliceD, mPart, hz]
  rw [key]
  simp [List.map_map, Function.comp_def]
end L13
namespace L13
open PySem PySem.Spec L2 DL
theorem filter_strs (p : Str → Bool) : ∀ xs : List Str, (xs.map D.str).filter (fun d => match d with | .str y => p y | _ => false) = (xs.filter p).map D.str
  | [] => rfl
  | x :: xs => by
    rw [List.map_cons, List.filter_cons, List.filter_cons, filter_strs p xs]
    by_cases h : p x = true <;> simp [h]
theorem lc41b (G : Sems) (x : Str) (hx : x.length ≤ 8) (k : Sk) (r w : Store) (ns : List Str) (x0 x1 x3 : Option D) : ev M.T G q41_lc1 [x0, x1, some (.loc (r.length + 2)), x3, some (.str x), none, none] (k.st (r ++ .lst (ns.map D.str) :: w)) = some (.ok (.lst (((cands x).filter fun y => !decide (y ∈ ns)).map D.str)), k.st (r ++ .lst (ns.map D.str) :: w)) := by
  rw [q41_lc1, se_lc, s_lc]
  have ei : evI M.T G (.seq (.bin .Add (.lst (.cons (.var 4) .nil)) q41_lc0)) [x0, x1, some (.loc (r.length + 2)), x3, some (.str x), none, none] (k.st (r ++ .lst (ns.map D.str) :: w)) = some (.ok ((cands x).map D.str), k.st (r ++ .lst (ns.map D.str) :: w)) := by
    have a := lc41a G x hx x0 x1 (some (.loc (r.length + 2))) x3 (k.st (r ++ .lst (ns.map D.str) :: w))
    have hl : signs.length = 8 := rfl
    simp [a, oLst, sizeLine, guardD, sqPure, cands, hl]
  rw [ei]
  simp only
  rw [if_pos (by simp [cands, signs, sizeLine])]
  have key := compL_filter (g := tgOf (.nm 5)) (c := evC M.T G (.cons (.cmp .NotIn (.var 5) (.var 2)) .nil)) (f := ev M.T G (.var 5)) (ρ := wipeR [x0, x1, some (.loc (r.length + 2)), x3, some (.str x), none, none] ([(("_law_one" : Str), 5)].map (·.2))) (μ := k.st (r ++ .lst (ns.map D.str) :: w)) id (fun d => match d with | .str y => !decide (y ∈ ns) | _ => false) (ds := (cands x).map D.str) fun d hd => by
    obtain ⟨y, hy, rfl⟩ := List.mem_map.mp hd
    refine ⟨[x0, x1, some (.loc (r.length + 2)), x3, some (.str x), some (.str y), none], by simp [wipeR], by simp [notIn_cell], fun _ => by simp⟩
  rw [key, filter_strs (fun y => !decide (y ∈ ns))]
  simp
theorem names (l : Nat) (k : Sk) (r : Store) {b : Int} (ok : k.ok b) (hb : b < 7000000) :
    ∃ (ns : List Str) (k' : Sk), M.lev (l + 4) 41 [.loc 1, .int 4] (k.st r) = some (.ok (.loc (r.length + 2)), k'.st (r ++ [.lst (ns.map D.str)])) ∧ ns.length = 4 ∧ k'.ok (b + 40) := by
  obtain ⟨ρ', μ', e, h⟩ := forL_inv (g := gNm 3) (b := xvs M.T (M.sems (M.lev (l + 3))) q41_fb0) (fun i ρ μ => ∃ (k : Sk) (ns : List Str) (x3 x4 : Option D), μ = k.st (r ++ [.lst (ns.map D.str)]) ∧ ρ = [some (.loc 1), some (.int 4), some (.loc (r.length + 2)), x3, x4, none, none] ∧ ns.length = i ∧ k.ok (b + 10 * i))
    (rngD 0 4) 0 (fun i d ρ μ hd ⟨k, ns, x3, x4, hμ, hρ, hl, ok⟩ => by
      have hi : i < 4 := by
        have := (List.getElem?_eq_some_iff.mp hd).1
        simpa [rngD] using this
      subst hμ hρ
      obtain ⟨x, k1, e1, hx, o1⟩ := name l k (r ++ [.lst (ns.map D.str)]) ok (by omega)
      obtain ⟨y, rr, ey⟩ := cand_left x ns (by omega)
      have lc := lc41b (M.sems (M.lev (l + 3))) x hx k1 r [] ns (some (.loc 1)) (some (.int 4)) (some d)
      rw [ey] at lc
      have hz : ns.length < 16777216 := by omega
      refine ⟨[some (.loc 1), some (.int 4), some (.loc (r.length + 2)), some d, x4, none, none], [some (.loc 1), some (.int 4), some (.loc (r.length + 2)), some d, some (.str x), none, none], k1.st (r ++ [.lst ((ns ++ [y]).map D.str)]), by simp, ?_, k1, ns ++ [y], some d, some (.str x), rfl, rfl, by simp; omega, o1.mono (by omega)⟩
      simp [q41_fb0, e1, lc, isT, sqOf, lsOf, st_at, st_at', evBm, appendD, cellL, sizeLine, hz, st_set, guardD])
    [some (.loc 1), some (.int 4), some (.loc (r.length + 2)), none, none, none, none] (k.st (r ++ [.lst []])) ⟨k, [], none, none, rfl, rfl, rfl, by simpa using ok⟩
  obtain ⟨k', ns, x3, x4, rfl, rfl, hl, o⟩ := h
  have hr : (rngD 0 4).length = 4 := by simp [rngD]
  rw [hr] at hl o
  refine ⟨ns, k', ?_, by omega, o.mono (by omega)⟩
  rw [l41]
  have ef : xv M.T (M.sems (M.lev (l + 3))) q41_for0 [some (.loc 1), some (.int 4), some (.loc (r.length + 2)), none, none, none, none] (k.st (r ++ [.lst []])) = some (.nx [some (.loc 1), some (.int 4), some (.loc (r.length + 2)), x3, x4, none, none], k'.st (r ++ [.lst (ns.map D.str)])) := by
    rw [q41_for0, sx_for_, s_xFor]
    have ei : evI M.T (M.sems (M.lev (l + 3))) (.range (.cons (.var 1) .nil)) [some (.loc 1), some (.int 4), some (.loc (r.length + 2)), none, none, none, none] (k.st (r ++ [.lst []])) = some (.ok (rngD 0 4), k.st (r ++ [.lst []])) := by
      simp [bndI]
    rw [ei]
    exact e
  simp [q41, oNewL, sizeLine, ef]
end L13
namespace L13
open PySem PySem.Spec L2 DL
theorem strs_of_mem {ys : List D} {Ls : List Str} (h : ys.Perm (Ls.map D.str)) (hn : Ls.Nodup) : ∃ Ys : List Str, ys = Ys.map D.str ∧ Ys.Nodup ∧ (∀ y ∈ Ys, y ∈ Ls) ∧ Ys.length = Ls.length := by
  obtain ⟨Ys, rfl⟩ : ∃ Ys : List Str, ys = Ys.map D.str := by
    have : ∀ y ∈ ys, ∃ x : Str, y = .str x := fun y hy => by
      obtain ⟨c, _, rfl⟩ := List.mem_map.mp (h.mem_iff.mp hy)
      exact ⟨_, rfl⟩
    clear h
    induction ys with
    | nil => exact ⟨[], rfl⟩
    | cons y ys ih =>
      obtain ⟨x, rfl⟩ := this y (by simp)
      obtain ⟨ls, rfl⟩ := ih fun z hz => this z (by simp [hz])
      exact ⟨x :: ls, rfl⟩
  have hLn : (Ls.map D.str).Nodup := by
    rw [List.nodup_iff_pairwise_ne] at *
    rw [List.pairwise_map]
    exact hn.imp fun h e => h (by cases e; rfl)
  refine ⟨Ys, rfl, ?_, fun y hy => ?_, by have := h.length_eq; simpa using this⟩
  · have := h.nodup_iff.mpr hLn
    rw [List.nodup_iff_pairwise_ne, List.pairwise_map] at this
    exact this.imp fun h e => h (by rw [e])
  · have : D.str y ∈ Ls.map D.str := h.mem_iff.mp (List.mem_map_of_mem hy)
    obtain ⟨z, hz, e⟩ := List.mem_map.mp this
    cases e
    exact hz
theorem turn34 (l : Nat) (k : Sk) (r w : Store) (own : List D) (ho : own.length < 100) (Ls : List Str) (hn : Ls.Nodup) (hL : Ls.length = 4) (nm : Str) (x2 x5 : Option D) {b : Int} (ok : k.ok b) (hb : b < 7000000) :
    ∃ (ls : List Str) (k' : Sk), xvs M.T (M.sems (M.lev (l + 2))) q34_fb0 [some (.loc 1), some (.int 2), x2, some (.str nm), some (.lst (Ls.map D.str)), x5, some (.loc (r.length + 2))] (k.st (r ++ .lst own :: w)) =
      some (.nx [some (.loc 1), some (.int 2), x2, some (.str nm), some (.lst (Ls.map D.str)), x5, some (.loc (r.length + 2))], k'.st (r ++ .lst (own ++ [.tup [.str nm, .tup (ls.map D.str)]]) :: (w ++ [.lst []]))) ∧ ls.Nodup ∧ (∀ y ∈ ls, y ∈ Ls) ∧ ls.length ≤ 3 ∧ k'.ok (b + 6) := by
  obtain ⟨ys, k1, e1, hp, o1⟩ := mixed l k (r ++ .lst own :: w) (Ls.map D.str) (by simp [hL]) ok (by omega)
  obtain ⟨Ys, rfl, hY, hm, hl⟩ := strs_of_mem hp hn
  rw [List.length_map, hL] at o1
  have es : (r ++ .lst own :: w) ++ [Cell.lst []] = r ++ .lst own :: (w ++ [.lst []]) := by simp
  rw [es] at e1
  obtain ⟨d, k2, e2, d0, d1, o2⟩ := draw (l + 1) k1 4 (r ++ .lst own :: (w ++ [.lst []])) (b := b + 4) (o1.mono (by omega)) (by omega) (by omega) (by omega)
  obtain ⟨d, rfl⟩ : ∃ i : Nat, d = i := ⟨d.toNat, by omega⟩
  have hd : d ≤ 3 := by omega
  refine ⟨Ys.take d, k2, ?_, hY.sublist (List.take_sublist _ _), fun y hy => hm y (List.mem_of_mem_take hy), by rw [List.length_take]; omega, o2.mono (by omega)⟩
  have cut : cutL (Ys.map D.str) none (some (d : Int)) = (Ys.take d).map D.str := by
    unfold cutL
    have h4 : Ys.length = 4 := by omega
    have : HT.sIx (Ys.map D.str).length (Ys.map D.str).length (some (d : Int)) = d := by
      rw [List.length_map, h4]
      have : d = 0 ∨ d = 1 ∨ d = 2 ∨ d = 3 := by omega
      rcases this with rfl | rfl | rfl | rfl <;> rfl
    rw [this]
    have e0 : HT.sIx (Ys.map D.str).length 0 none = 0 := rfl
    rw [e0, List.drop_zero, Nat.sub_zero, List.map_take]
  have hz : own.length < 16777216 := by omega
  have ht : (Ys.take d).length ≤ 16777216 := by rw [List.length_take]; omega
  simp [q34_fb0, e1, e2, sliceD, sqOf, lsOf, mPart, cut, evBi, tupleD, oTup, sizeLine, isT, evBm, appendD, cellL, st_mid, st_mid', st_mset, guardD, hz]
end L13
namespace L13
open PySem PySem.Spec L2 DL
abbrev words9 : List D := [.str "below", .str "equal", .str "greater", .str "lesser", .str "unequal", .str "absolute", .str "all", .str "none", .str "add"]
def if34 : S := .if_ (.and_ (.cmp .NotIn (.var 2) (.var 5)) (.cmp .Eq (.call 9 (.cons (.var 0) (.cons (.int 3) .nil)) .nil) (.int 0))) [(.sub (.var 5) (.int 0) (.var 2))] []
theorem sxs_if34 {T : Tab} {G : Sems} (r : List S) : xvs T G (if34 :: r) = xSeq (xv T G if34) (xvs T G r) := rfl
theorem q34_eq : q34 = [(.par3 4 5 6 (.cons (.call 7 (.cons (.var 0) (.cons (.int 4) .nil)) .nil) (.cons (.call 6 (.cons (.var 0) (.cons (.int 4) .nil)) .nil) (.cons (.newL .nil) .nil)))), (.asg (.nm 2) (.call 8 (.cons (.var 0) (.cons (.lst (.cons (.str "below") (.cons (.str "equal") (.cons (.str "greater") (.cons (.str "lesser") (.cons (.str "unequal") (.cons (.str "absolute") (.cons (.str "all") (.cons (.str "none") (.cons (.str "add") .nil)))))))))) .nil)) .nil)), if34, q34_for0, (.frz 6), (.ret (.var 6))] := rfl
theorem words9_str {i : Nat} {x : D} (h : words9[i]? = some x) : ∃ s : Str, x = .str s := by
  have hm := List.mem_of_getElem? h
  simp only [words9, List.mem_cons, List.not_mem_nil, or_false] at hm
  rcases hm with rfl | rfl | rfl | rfl | rfl | rfl | rfl | rfl | rfl <;> exact ⟨_, rfl⟩
theorem if34_ok (l : Nat) (k : Sk) (r w : Store) (ns : List Str) (hn : ns.length = 4) (wd : Str) (x1 x3 x4 x6 : Option D) {b : Int} (ok : k.ok b) (hb : b < 7000000) :
    ∃ (ns' : List Str) (k' : Sk), xv M.T (M.sems (M.lev (l + 1))) if34 [some (.loc 1), x1, some (.str wd), x3, x4, some (.loc (r.length + 2)), x6] (k.st (r ++ .lst (ns.map D.str) :: w)) = some (.nx [some (.loc 1), x1, some (.str wd), x3, x4, some (.loc (r.length + 2)), x6], k'.st (r ++ .lst (ns'.map D.str) :: w)) ∧ ns'.length = 4 ∧ k'.ok (b + 1) := by
  by_cases hm : wd ∈ ns
  · refine ⟨ns, k, ?_, hn, ok.mono (by omega)⟩
    simp [if34, notIn_cell, hm]
  · obtain ⟨d, k', e, d0, d1, o⟩ := draw l k 3 (r ++ .lst (ns.map D.str) :: w) ok (by omega) (by omega) (by omega)
    by_cases hd : d = 0
    · subst hd
      refine ⟨ns.set 0 wd, k', ?_, by simp [hn], o⟩
      have h0 : 0 < ns.length := by omega
      have hs : (ns.map D.str).set 0 (.str wd) = (ns.set 0 wd).map D.str := by simp [List.map_set]
      simp [if34, notIn_cell, hm, e, st_mid, st_mid', st_mset, ixN, h0]
    · refine ⟨ns, k', ?_, hn, o⟩
      simp [if34, notIn_cell, hm, e, hd]
theorem own (l : Nat) (k : Sk) (r : Store) {b : Int} (ok : k.ok b) (hb : b < 6000000) :
    ∃ (Ls : List Str) (n1 n2 : Str) (ls1 ls2 : List Str) (k' : Sk) (r' : Store), M.lev (l + 5) 34 [.loc 1, .int 2] (k.st r) = some (.ok (.lst [.tup [.str n1, .tup (ls1.map D.str)], .tup [.str n2, .tup (ls2.map D.str)]]), k'.st r') ∧
      Ls.length = 4 ∧ (ls1.Nodup ∧ (∀ y ∈ ls1, y ∈ Ls) ∧ ls1.length ≤ 3) ∧ (ls2.Nodup ∧ (∀ y ∈ ls2, y ∈ Ls) ∧ ls2.length ≤ 3) ∧ k'.ok (b + 60) := by
  obtain ⟨Ls, k1, r1, e1, hL, hN, o1⟩ := letters (l + 2) k r ok (by omega)
  obtain ⟨ns, k2, e2, hns, o2⟩ := names l k1 r1 o1 (by omega)
  obtain ⟨i, x, k3, hx, e3, o3⟩ := pick (l + 2) k2 (r1 ++ [.lst (ns.map D.str), .lst []]) (b := b + 4 + 40) o2 (by omega) words9 (by decide) (by decide)
  obtain ⟨wd, rfl⟩ := words9_str hx
  obtain ⟨ns', k4, e4, hns', o4⟩ := if34_ok (l + 3) k3 r1 [.lst []] ns hns wd (some (.int 2)) none (some (.lst (Ls.map D.str))) (some (.loc (r1.length + 3))) o3 (by omega)
  obtain ⟨n1, n2, n3, n4, rfl⟩ : ∃ a b c d : Str, ns' = [a, b, c, d] := by
    match ns', hns' with
    | [a, b, c, d], _ => exact ⟨a, b, c, d, rfl⟩
  have es : ∀ (c : List D) (w : Store), r1 ++ Cell.lst ([n1, n2, n3, n4].map D.str) :: (Cell.lst c :: w) = (r1 ++ [Cell.lst ([n1, n2, n3, n4].map D.str)]) ++ Cell.lst c :: w := fun c w => by simp
  have el : (r1 ++ [Cell.lst ([n1, n2, n3, n4].map D.str)]).length + 2 = r1.length + 3 := by simp
  obtain ⟨ls1, k5, e5, p1, p2, p3, o5⟩ := turn34 (l + 2) k4 (r1 ++ [.lst ([n1, n2, n3, n4].map D.str)]) [] [] (by simp) Ls hN hL n1 (some (.str wd)) (some (.loc (r1.length + 2))) o4 (by omega)
  obtain ⟨ls2, k6, e6, q1, q2, q3, o6⟩ := turn34 (l + 2) k5 (r1 ++ [.lst ([n1, n2, n3, n4].map D.str)]) [.lst []] [.tup [.str n1, .tup (ls1.map D.str)]] (by simp) Ls hN hL n2 (some (.str wd)) (some (.loc (r1.length + 2))) o5 (by omega)
  rw [el] at e5 e6
  refine ⟨Ls, n1, n2, ls1, ls2, k6, (r1 ++ [.lst ([n1, n2, n3, n4].map D.str)]) ++ .dead :: [.lst [], .lst []], ?_, hL, ⟨p1, p2, p3⟩, ⟨q1, q2, q3⟩, o6.mono (by omega)⟩
  rw [l34]
  have e4' : xv M.T (M.sems (M.lev (l + 4))) if34 [some (.loc 1), some (.int 2), some (.str wd), none, some (.lst (Ls.map D.str)), some (.loc (r1.length + 2)), some (.loc (r1.length + 3))] (k3.st (r1 ++ [.lst (ns.map D.str), .lst []])) = _ := e4
  have ef : xv M.T (M.sems (M.lev (l + 4))) q34_for0 [some (.loc 1), some (.int 2), some (.str wd), none, some (.lst (Ls.map D.str)), some (.loc (r1.length + 2)), some (.loc (r1.length + 3))] (k4.st (r1 ++ .lst ([n1, n2, n3, n4].map D.str) :: [.lst []])) =
      some (.nx [some (.loc 1), some (.int 2), some (.str wd), some (.str n2), some (.lst (Ls.map D.str)), some (.loc (r1.length + 2)), some (.loc (r1.length + 3))], k6.st ((r1 ++ [.lst ([n1, n2, n3, n4].map D.str)]) ++ .lst ([.tup [.str n1, .tup (ls1.map D.str)]] ++ [.tup [.str n2, .tup (ls2.map D.str)]]) :: ([.lst []] ++ [.lst []]))) := by
    rw [q34_for0, sx_for_, s_xFor]
    have ei : evI M.T (M.sems (M.lev (l + 4))) (.seq (.slice (.var 5) .nil (.cons (.var 1) .nil))) [some (.loc 1), some (.int 2), some (.str wd), none, some (.lst (Ls.map D.str)), some (.loc (r1.length + 2)), some (.loc (r1.length + 3))] (k4.st (r1 ++ .lst ([n1, n2, n3, n4].map D.str) :: [.lst []])) = some (.ok [.str n1, .str n2], k4.st (r1 ++ .lst ([n1, n2, n3, n4].map D.str) :: [.lst []])) := by
      simp [sliceD, sqOf, lsOf, st_mid, st_mid', mPart, cutL, HT.sIx, sqPure]
    rw [ei]
    rw [es [] []]
    simp only [forL, s_tgNm, s_gNm, List.length_cons, List.length_nil, List.set_cons_succ, List.set_cons_zero]
    simp only [show 3 < 0 + 1 + 1 + 1 + 1 + 1 + 1 + 1 from by omega, if_true]
    rw [e5]
    simp only
    rw [show ([] : List D) ++ [D.tup [.str n1, .tup (ls1.map D.str)]] = [D.tup [.str n1, .tup (ls1.map D.str)]] from rfl, show ([] : Store) ++ [Cell.lst []] = [Cell.lst []] from rfl]
    simp only [List.length_cons, List.length_nil, List.set_cons_succ, List.set_cons_zero, show 3 < 0 + 1 + 1 + 1 + 1 + 1 + 1 + 1 from by omega, if_true]
    rw [e6]
  have fz : freezeD (r1.length + 3) (k6.st ((r1 ++ [.lst ([n1, n2, n3, n4].map D.str)]) ++ .lst ([.tup [.str n1, .tup (ls1.map D.str)]] ++ [.tup [.str n2, .tup (ls2.map D.str)]]) :: ([.lst []] ++ [.lst []]))) = some (.lst [.tup [.str n1, .tup (ls1.map D.str)], .tup [.str n2, .tup (ls2.map D.str)]], k6.st ((r1 ++ [.lst ([n1, n2, n3, n4].map D.str)]) ++ .dead :: [.lst [], .lst []])) := by
    unfold freezeD
    rw [← el, st_mid]
    simp only
    rw [st_mset]
    rfl
  rw [q34_eq]
  simp [sxs_if34, e1, e2, oNewL, oLst, sizeLine, e3]
  simp at e4' ef fz
  simp [e4', ef, fz]
end L13
namespace L13
open PySem PySem.Spec L2 DL
abbrev pairs12 : List D := [.str "plus", .str "minus", .str "times", .str "both", .str "either", .str "unlike", .str "greater", .str "lesser", .str "below", .str "at_most", .str "equal", .str "unequal"]
theorem pb_all {Ls : List Str} (hz : Ls.length < 64) {m1 m2 dp : Nat} {d1 d2 e1 e2 x : D} {j : Nat} (hx : pairs12[j]? = some x) (k : Nat) (i : Int) (h1 : X Ls m1 dp d1 e1) (h2 : X Ls m2 dp d2 e2) (hm : m1 + m2 ≤ 1000) (μ : Store) :
    ∃ d w, M.lev (k + 6) 44 [x, d1, d2] μ = some (.ok d, μ ++ w) ∧ X Ls (m1 + m2) (dp + 1) d (.tup [x, e1, e2]) := by
  have hj : j < 12 := by
    have := (List.getElem?_eq_some_iff.mp hx).1
    simpa using this
  have hc : j = 0 ∨ j = 1 ∨ j = 2 ∨ j = 3 ∨ j = 4 ∨ j = 5 ∨ j = 6 ∨ j = 7 ∨ j = 8 ∨ j = 9 ∨ j = 10 ∨ j = 11 := by omega
  rcases hc with rfl | rfl | rfl | rfl | rfl | rfl | rfl | rfl | rfl | rfl | rfl | rfl <;> cases hx
  · exact pb_plus hz k i h1 h2 hm μ
  · exact pb_minus hz k i h1 h2 hm μ
  · exact pb_times hz k i h1 h2 hm μ
  · exact pb_both hz k i h1 h2 hm μ
  · exact pb_either hz k i h1 h2 hm μ
  · exact pb_unlike hz k i h1 h2 hm μ
  · exact pb_greater hz k i h1 h2 hm μ
  · exact pb_lesser hz k i h1 h2 hm μ
  · exact pb_below hz k i h1 h2 hm μ
  · exact pb_at_most hz k i h1 h2 hm μ
  · exact pb_equal hz k i h1 h2 hm μ
  · exact pb_unequal hz k i h1 h2 hm μ
theorem bs_all {Ls : List Str} (hz : Ls.length < 64) {m1 m2 dp : Nat} {d1 d2 e1 e2 x : D} {j : Nat} (hx : pairs12[j]? = some x) (k : Nat) (i : Int) (h1 : X Ls m1 dp d1 e1) (hm : m1 ≤ 1000) (μ : Store) :
    ∃ d w, M.lev (k + 6) 47 [x, d1, .int i] μ = some (.ok d, μ ++ w) ∧ X Ls m1 (dp + 1) d (.tup [x, e1, .tup [.str "number", .int i]]) := by
  have hj : j < 12 := by
    have := (List.getElem?_eq_some_iff.mp hx).1
    simpa using this
  have hc : j = 0 ∨ j = 1 ∨ j = 2 ∨ j = 3 ∨ j = 4 ∨ j = 5 ∨ j = 6 ∨ j = 7 ∨ j = 8 ∨ j = 9 ∨ j = 10 ∨ j = 11 := by omega
  rcases hc with rfl | rfl | rfl | rfl | rfl | rfl | rfl | rfl | rfl | rfl | rfl | rfl <;> cases hx
  · exact bs_plus hz k i h1 trivial hm μ
  · exact bs_minus hz k i h1 trivial hm μ
  · exact bs_times hz k i h1 trivial hm μ
  · exact bs_both hz k i h1 trivial hm μ
  · exact bs_either hz k i h1 trivial hm μ
  · exact bs_unlike hz k i h1 trivial hm μ
  · exact bs_greater hz k i h1 trivial hm μ
  · exact bs_lesser hz k i h1 trivial hm μ
  · exact bs_below hz k i h1 trivial hm μ
  · exact bs_at_most hz k i h1 trivial hm μ
  · exact bs_equal hz k i h1 trivial hm μ
  · exact bs_unequal hz k i h1 trivial hm μ
theorem bh_all {Ls : List Str} (hz : Ls.length < 64) {m1 m2 dp : Nat} {d1 d2 e1 e2 x : D} {j : Nat} (hx : pairs12[j]? = some x) (k : Nat) (i : Int) (h1 : X Ls m1 dp d1 e1) (hm : m1 ≤ 1000) (μ : Store) :
    ∃ d w, M.lev (k + 6) 48 [x, .int i, d1] μ = some (.ok d, μ ++ w) ∧ X Ls m1 (dp + 1) d (.tup [x, .tup [.str "number", .int i], e1]) := by
  have hj : j < 12 := by
    have := (List.getElem?_eq_some_iff.mp hx).1
    simpa using this
  have hc : j = 0 ∨ j = 1 ∨ j = 2 ∨ j = 3 ∨ j = 4 ∨ j = 5 ∨ j = 6 ∨ j = 7 ∨ j = 8 ∨ j = 9 ∨ j = 10 ∨ j = 11 := by omega
  rcases hc with rfl | rfl | rfl | rfl | rfl | rfl | rfl | rfl | rfl | rfl | rfl | rfl <;> cases hx
  · exact bh_plus hz k i h1 trivial hm μ
  · exact bh_minus hz k i h1 trivial hm μ
  · exact bh_times hz k i h1 trivial hm μ
  · exact bh_both hz k i h1 trivial hm μ
  · exact bh_either hz k i h1 trivial hm μ
  · exact bh_unlike hz k i h1 trivial hm μ
  · exact bh_greater hz k i h1 trivial hm μ
  · exact bh_lesser hz k i h1 trivial hm μ
  · exact bh_below hz k i h1 trivial hm μ
  · exact bh_at_most hz k i h1 trivial hm μ
  · exact bh_equal hz k i h1 trivial hm μ
  · exact bh_unequal hz k i h1 trivial hm μ
theorem pos_ok {Ls : List Str} {m dp : Nat} {d e : D} (k : Nat) (h : X Ls m dp d e) (μ : Store) : M.lev (k + 2) 25 [d] μ = some (.ok d, μ) := by
  rw [l25]; simp [q25, opndX k h μ]
theorem sm (k : Nat) (d : D) (h : pOk 14 d = true) (μ : Store) : M.lev (k + 15) 39 [d, d] μ = some (.ok (.bl true), μ) := same_refl sameAt 14 d h (by decide) (k + 15) (by omega) μ
section
variable {G : Sems} {x0 x1 x2 x3 x4 x5 x6 x7 x8 x9 x10 x12 x13 x14 x15 x16 x17 : Option D} {d1 d2 d3 d4 d5 d6 d7 e1 e2 e3 e4 e5 e6 e7 v1 v2 v3 v4 v5 v6 v7 : D}
abbrev made7 (d1 e1 d2 e2 d3 e3 d4 e4 d5 e5 d6 e6 d7 e7 : D) : List D := [.tup [d1, e1], .tup [d2, e2], .tup [d3, e3], .tup [d4, e4], .tup [d5, e5], .tup [d6, e6], .tup [d7, e7]]
theorem seen7 (l dp : Nat) (hd : dp ≤ 8) (h1 : XV dp d1 e1 v1) (h2 : XV dp d2 e2 v2) (h3 : XV dp d3 e3 v3) (h4 : XV dp d4 e4 v4) (h5 : XV dp d5 e5 v5) (h6 : XV dp d6 e6 v6) (h7 : XV dp d7 e7 v7) (μ : Store) :
    ev M.T (M.sems (M.lev (l + 16))) q50_lc1 [x0, x1, x2, x3, x4, x5, x6, x7, x8, x9, x10, some (.lst (made7 d1 e1 d2 e2 d3 e3 d4 e4 d5 e5 d6 e6 d7 e7)), x12, x13, x14, x15, x16, x17, none, none] μ = some (.ok (.lst [v1, v2, v3, v4, v5, v6, v7]), μ) ∧
    ev M.T (M.sems (M.lev (l + 16))) q50_lc0 [x0, x1, x2, x3, x4, x5, x6, x7, x8, x9, x10, some (.lst (made7 d1 e1 d2 e2 d3 e3 d4 e4 d5 e5 d6 e6 d7 e7)), x12, x13, x14, x15, x16, x17, none, none] μ = some (.ok (.lst [v1, v2, v3, v4, v5, v6, v7]), μ) := by
  have lv : l + 16 = (l + 15 - dp) + dp + 1 := by omega
  have s : ∀ {d e v : D}, XV dp d e v → M.lev (l + 16) 45 [d] μ = some (.ok v, μ) := fun h => by rw [lv]; exact h.sn _ μ
  have u : ∀ {d e v : D}, XV dp d e v → M.lev (l + 16) 46 [e] μ = some (.ok v, μ) := fun h => by rw [lv]; exact h.du _ μ
  constructor
  · simp [q50_lc1, se_lc, sqPure, sizeLine, compL, wipeR, s h1, s h2, s h3, s h4, s h5, s h6, s h7]
  · simp [q50_lc0, se_lc, sqPure, sizeLine, compL, wipeR, u h1, u h2, u h3, u h4, u h5, u h6, u h7]
end
end L13
namespace L13
open PySem PySem.Spec L2 DL
theorem X.xv {Ls : List Str} {m dp : Nat} {d e : D} (h : X Ls m dp d e) : ∃ v, XV dp d e v := by
  obtain ⟨_, _, _, _, _, v, rfl, _, b⟩ := h
  exact ⟨v, b⟩
theorem X.ins {Ls : List Str} {m dp : Nat} {d e : D} (h : X Ls m dp d e) (μ : Store) : ∃ fs, insOf d μ = some (0, fs) := by
  obtain ⟨_, _, _, _, _, v, rfl, _, b⟩ := h
  exact ⟨_, rfl⟩
theorem turnB (l : Nat) {Ls : List Str} (hz : Ls.length < 64) (i : Int) {m dp j : Nat} (hm : m ≤ 100) (hdp : dp ≤ 4) {x e y f kd d1 g1 : D} (hk : pairs12[j]? = some kd) (hx : X Ls m dp x e) (hy : X Ls 1 0 y f) (h1 : X Ls (m + 1) (dp + 1) d1 g1)
    (k : Sk) (r : Store) {b : Int} (ok : k.ok b) (hb : b < 6000000) (x0 x2 x3 x5 x12 x13 x14 x15 x16 x17 : Option D) :
    ∃ (x' e' : D) (k' : Sk) (r' : Store) (y11 y16 y17 : Option D), xvs M.T (M.sems (M.lev (l + 16))) (q50_fb1.drop 2) [x0, some (.loc 1), x2, x3, some (.int i), x5, some e, some x, some f, some y, some kd, some (.loc (r.length + 2)), x12, x13, x14, x15, x16, x17, none, none] (k.st (r ++ [.lst [.tup [x, e], .tup [d1, g1]]])) =
      some (.nx [x0, some (.loc 1), x2, x3, some (.int i), x5, some e', some x', some f, some y, some kd, y11, x12, x13, x14, x15, y16, y17, none, none], k'.st r') ∧ X Ls (m + 1) (dp + 1) x' e' ∧ k'.ok (b + 4) := by
  obtain ⟨d2, w2, e2, h2⟩ := bs_all hz (m2 := 0) (d2 := x) (e2 := e) hk (l + 10) i hx (by omega) (k.st (r ++ [.lst [.tup [x, e], .tup [d1, g1]]]))
  obtain ⟨d3, w3, e3, h3⟩ := bh_all hz (m2 := 0) (d2 := x) (e2 := e) hk (l + 10) i hx (by omega) (k.st (r ++ .lst [.tup [x, e], .tup [d1, g1], .tup [d2, .tup [kd, e, .tup [.str "number", .int i]]]] :: w2))
  obtain ⟨d4, g4, k2, w4, e4, h4, o2⟩ := single hz (l + 10) k (r ++ .lst [.tup [x, e], .tup [d1, g1], .tup [d2, .tup [kd, e, .tup [.str "number", .int i]]], .tup [d3, .tup [kd, .tup [.str "number", .int i], e]]] :: (w2 ++ w3)) ok (by omega) hx (by omega)
  have e5 := fun μ => pos_ok (l + 14) hx μ
  have ei := hx.ins
  obtain ⟨v0, V0⟩ := (hx.mono (Nat.le_refl m) (Nat.le_succ dp)).xv
  obtain ⟨v1, V1⟩ := h1.xv
  obtain ⟨v2, V2⟩ := h2.xv
  obtain ⟨v3, V3⟩ := h3.xv
  obtain ⟨v4, V4⟩ := h4.xv
  obtain ⟨v5, V5⟩ := (hy.mono (Nat.le_refl 1) (Nat.zero_le (dp + 1))).xv
  have hp : ∀ {d e v : D}, XV (dp + 1) d e v → pOk 13 v = true := fun h => pOk_le h.ok (by omega)
  have hpo : pOk 14 (.lst [v0, v1, v2, v3, v4, v0, v5]) = true := by
    simp [pOk, hp V0, hp V1, hp V2, hp V3, hp V4, hp V5, sizeLine]
  have sme := sm (l + 1) _ hpo
  obtain ⟨dj, k3, e6, dj0, dj1, o3⟩ := draw (l + 15) k2 4 (r ++ .dead :: (w2 ++ (w3 ++ w4))) o2 (by omega) (by omega) (by omega)
  have sn := fun μ => seen7 (l := l) (dp := dp + 1) (x0 := x0) (x1 := some (.loc 1)) (x2 := x2) (x3 := x3) (x4 := some (.int i)) (x5 := x5) (x6 := some e) (x7 := some x) (x8 := some f) (x9 := some y) (x10 := some kd) (x12 := x12) (x13 := x13) (x14 := x14) (x15 := x15) (x16 := some g4) (x17 := some d4) (by omega) V0 V1 V2 V3 V4 V0 V5 μ
  simp only [List.append_assoc, List.cons_append, List.nil_append, Sk.st_app] at e2 e3 e4
  have hj : dj = 0 ∨ dj = 1 ∨ dj = 2 ∨ dj = 3 := by omega
  have main : ∀ (q : D), atI (made7 x e d1 g1 d2 (.tup [kd, e, .tup [.str "number", .int i]]) d3 (.tup [kd, .tup [.str "number", .int i], e]) d4 g4 x e y f) (1 + dj) = some q → True := fun _ _ => trivial
  obtain ⟨fs, ei⟩ := ei (k2.st (r ++ .lst [.tup [x, e], .tup [d1, g1], .tup [d2, .tup [kd, e, .tup [.str "number", .int i]]], .tup [d3, .tup [kd, .tup [.str "number", .int i], e]]] :: (w2 ++ (w3 ++ w4))))
  rcases hj with rfl | rfl | rfl | rfl
  · refine ⟨d1, g1, k3, r ++ .dead :: (w2 ++ (w3 ++ w4)), some (.lst (made7 x e d1 g1 d2 (.tup [kd, e, .tup [.str "number", .int i]]) d3 (.tup [kd, .tup [.str "number", .int i], e]) d4 g4 x e y f)), some g4, some d4, ?_, h1, o3.mono (by omega)⟩
    simp [q50_fb1, e2, oTup, oLst, sizeLine, isT, sqOf, lsOf, itOf, st_mid, st_mid', st_mset, evBm, appendD, extendD, cellL, guardD, e3, e4, ei, e5, freezeD, sn, sme, e6, atI, ixN]
  · refine ⟨d2, _, k3, r ++ .dead :: (w2 ++ (w3 ++ w4)), some (.lst (made7 x e d1 g1 d2 (.tup [kd, e, .tup [.str "number", .int i]]) d3 (.tup [kd, .tup [.str "number", .int i], e]) d4 g4 x e y f)), some g4, some d4, ?_, h2.mono (by omega) (by omega), o3.mono (by omega)⟩
    simp [q50_fb1, e2, oTup, oLst, sizeLine, isT, sqOf, lsOf, itOf, st_mid, st_mid', st_mset, evBm, appendD, extendD, cellL, guardD, e3, e4, ei, e5, freezeD, sn, sme, e6, atI, ixN]
  · refine ⟨d3, _, k3, r ++ .dead :: (w2 ++ (w3 ++ w4)), some (.lst (made7 x e d1 g1 d2 (.tup [kd, e, .tup [.str "number", .int i]]) d3 (.tup [kd, .tup [.str "number", .int i], e]) d4 g4 x e y f)), some g4, some d4, ?_, h3.mono (by omega) (by omega), o3.mono (by omega)⟩
    simp [q50_fb1, e2, oTup, oLst, sizeLine, isT, sqOf, lsOf, itOf, st_mid, st_mid', st_mset, evBm, appendD, extendD, cellL, guardD, e3, e4, ei, e5, freezeD, sn, sme, e6, atI, ixN]
  · refine ⟨d4, _, k3, r ++ .dead :: (w2 ++ (w3 ++ w4)), some (.lst (made7 x e d1 g1 d2 (.tup [kd, e, .tup [.str "number", .int i]]) d3 (.tup [kd, .tup [.str "number", .int i], e]) d4 g4 x e y f)), some g4, some d4, ?_, h4.mono (by omega) (by omega), o3.mono (by omega)⟩
    simp [q50_fb1, e2, oTup, oLst, sizeLine, isT, sqOf, lsOf, itOf, st_mid, st_mid', st_mset, evBm, appendD, extendD, cellL, guardD, e3, e4, ei, e5, freezeD, sn, sme, e6, atI, ixN]
end L13
namespace L13
open PySem PySem.Spec L2 DL
theorem turn1 (l : Nat) {Ls : List Str} (hz : Ls.length < 64) (i : Int) {m dp : Nat} (hm : m ≤ 100) (hdp : dp ≤ 4) {x e y f : D} (hx : X Ls m dp x e) (hy : X Ls 1 0 y f)
    (k : Sk) (rest : Store) {b : Int} (ok : k.ok b) (hb : b < 5000000) (x0 x3 x5 x10 x11 x12 x13 x14 x15 x16 x17 : Option D) :
    ∃ (x' e' : D) (k' : Sk) (r' : Store) (y10 y11 y16 y17 : Option D), xvs M.T (M.sems (M.lev (l + 16))) q50_fb1 [x0, some (.loc 1), some (.lst pairs12), x3, some (.int i), x5, some e, some x, some f, some y, x10, x11, x12, x13, x14, x15, x16, x17, none, none] (k.st rest) =
      some (.nx [x0, some (.loc 1), some (.lst pairs12), x3, some (.int i), x5, some e', some x', some f, some y, y10, y11, x12, x13, x14, x15, y16, y17, none, none], k'.st r') ∧ X Ls (m + 1) (dp + 1) x' e' ∧ k'.ok (b + 5) := by
  obtain ⟨j, kd, k1, hk, e1, o1⟩ := pick (l + 14) k rest ok (by omega) pairs12 (by decide) (by decide)
  obtain ⟨d1, w1, e2, h1⟩ := pb_all hz hk (l + 10) i hx (hy.mono (Nat.le_refl 1) (Nat.zero_le dp)) (by omega) (k1.st rest)
  obtain ⟨x', e', k', r', y11, y16, y17, e3, hx', o'⟩ := turnB l hz i hm hdp hk hx hy h1 k1 (rest ++ w1) o1 (by omega) x0 (some (.lst pairs12)) x3 x5 x12 x13 x14 x15 x16 x17
  refine ⟨x', e', k', r', some kd, y11, y16, y17, ?_, hx', o'.mono (by omega)⟩
  rw [← e3]
  have hq : q50_fb1 = [(.asg (.nm 10) (.call 8 (.cons (.var 1) (.cons (.var 2) .nil)) .nil)), (.asg (.nm 11) (.newL (.cons (.tup (.cons (.var 7) (.cons (.var 6) .nil))) (.cons (.tup (.cons (.call 28 (.cons (.var 10) (.cons (.var 7) (.cons (.var 9) .nil))) .nil) (.cons (.tup (.cons (.var 10) (.cons (.var 6) (.cons (.var 8) .nil)))) .nil))) .nil))))] ++ q50_fb1.drop 2 := rfl
  generalize q50_fb1.drop 2 = tl at hq ⊢
  rw [hq]
  simp only [List.cons_append, List.nil_append]
  simp [e1, e2, oTup, oNewL, sizeLine, Nat.add_assoc]
theorem for1 (l : Nat) {Ls : List Str} (hz : Ls.length < 64) (i : Int) {x e y f : D} (hx : X Ls 1 0 x e) (hy : X Ls 1 0 y f)
    (k : Sk) (rest : Store) {b : Int} (ok : k.ok b) (hb : b < 4000000) (x0 x3 x5 x10 x11 x12 x13 x14 x15 x16 x17 : Option D) :
    ∃ (x' e' : D) (k' : Sk) (r' : Store) (y5 y10 y11 y16 y17 : Option D), xv M.T (M.sems (M.lev (l + 16))) q50_for1 [x0, some (.loc 1), some (.lst pairs12), x3, some (.int i), x5, some e, some x, some f, some y, x10, x11, x12, x13, x14, x15, x16, x17, none, none] (k.st rest) =
      some (.nx [x0, some (.loc 1), some (.lst pairs12), x3, some (.int i), y5, some e', some x', some f, some y, y10, y11, x12, x13, x14, x15, y16, y17, none, none], k'.st r') ∧ k'.ok (b + 15) := by
  obtain ⟨ρ', μ', e1, h⟩ := forL_inv (g := gNm 5) (b := xvs M.T (M.sems (M.lev (l + 16))) q50_fb1) (fun n ρ μ => ∃ (x e : D) (k : Sk) (r : Store) (x5 x10 x11 x16 x17 : Option D), ρ = [x0, some (.loc 1), some (.lst pairs12), x3, some (.int i), x5, some e, some x, some f, some y, x10, x11, x12, x13, x14, x15, x16, x17, none, none] ∧ μ = k.st r ∧ X Ls (1 + n) n x e ∧ k.ok (b + 5 * n))
    (rngD 0 3) 0 (fun n d ρ μ hd ⟨x, e, k, r, x5, x10, x11, x16, x17, hρ, hμ, hx, ok⟩ => by
      have hi : n < 3 := by
        have := (List.getElem?_eq_some_iff.mp hd).1
        simpa [rngD] using this
      subst hρ hμ
      obtain ⟨x', e', k', r', y10, y11, y16, y17, e1, hx', o'⟩ := turn1 l hz i (by omega) (by omega) hx hy k r ok (by omega) x0 x3 (some d) x10 x11 x12 x13 x14 x15 x16 x17
      exact ⟨_, _, _, rfl, e1, x', e', k', r', some d, y10, y11, y16, y17, rfl, rfl, hx'.mono (by omega) (by omega), o'.mono (by omega)⟩)
    [x0, some (.loc 1), some (.lst pairs12), x3, some (.int i), x5, some e, some x, some f, some y, x10, x11, x12, x13, x14, x15, x16, x17, none, none] (k.st rest) ⟨x, e, k, rest, x5, x10, x11, x16, x17, rfl, rfl, hx, by simpa using ok⟩
  obtain ⟨x', e', k', r', y5, y10, y11, y16, y17, rfl, rfl, hx', o'⟩ := h
  have hr : (rngD 0 3).length = 3 := by simp [rngD]
  rw [hr] at o'
  refine ⟨x', e', k', r', y5, y10, y11, y16, y17, ?_, o'.mono (by omega)⟩
  rw [q50_for1, sx_for_, s_xFor]
  have ei : ∀ ρ μ, evI M.T (M.sems (M.lev (l + 16))) (.range (.cons (.int 3) .nil)) ρ μ = some (.ok (rngD 0 3), μ) := fun ρ μ => by
    simp [bndI]
  rw [ei]
  exact e1
end L13
namespace L13
open PySem PySem.Spec L2 DL
theorem turn0 (l : Nat) (k : Sk) (rest : Store) {b : Int} (ok : k.ok b) (hb : b < 3000000) (x0 x3 x4 x5 x6 x7 x8 x9 x10 x11 x12 x13 x14 x15 x16 x17 : Option D) :
    ∃ (k' : Sk) (r' : Store) (y4 y5 y6 y7 y8 y9 y10 y11 y12 y13 y14 y15 y16 y17 : Option D), xvs M.T (M.sems (M.lev (l + 16))) q50_fb0 [x0, some (.loc 1), some (.lst pairs12), x3, x4, x5, x6, x7, x8, x9, x10, x11, x12, x13, x14, x15, x16, x17, none, none] (k.st rest) =
      some (.nx [x0, some (.loc 1), some (.lst pairs12), x3, y4, y5, y6, y7, y8, y9, y10, y11, y12, y13, y14, y15, y16, y17, none, none], k'.st r') ∧ k'.ok (b + 100) := by
  obtain ⟨Ls, n1, n2, ls1, ls2, k1, r1, e1, hL, ⟨a1, a2, a3⟩, ⟨c1, c2, c3⟩, o1⟩ := own (l + 11) k rest ok (by omega)
  have hz : Ls.length < 64 := by omega
  obtain ⟨d, k2, e2, d0, d1, o2⟩ := draw (l + 15) k1 30 r1 o1 (by omega) (by omega) (by omega)
  obtain ⟨g, k3, e3, g0, g1, o3⟩ := draw (l + 15) k2 5 r1 o2 (by omega) (by omega) (by omega)
  have hp : powC 10 19 = true := by decide
  obtain ⟨x, e4, hx⟩ := law_access hz (l + 13) n1 ls1 a2 a1 a3 (k3.st r1)
  obtain ⟨y, e5, hy⟩ := law_access hz (l + 13) n2 ls2 c2 c1 c3 (k3.st (r1 ++ [.dead]))
  simp only [Sk.st_app, List.append_assoc, List.cons_append, List.nil_append] at e4 e5
  have go : ∀ n : Int, ∃ (k' : Sk) (r' : Store) (y4 y5 y6 y7 y8 y9 y10 y11 y12 y13 y14 y15 y16 y17 : Option D), xvs M.T (M.sems (M.lev (l + 16))) (q50_fb0.drop 2) [x0, some (.loc 1), some (.lst pairs12), x3, some (.int n), x5, x6, x7, x8, x9, x10, x11, some (.str n1), some (.tup (ls1.map D.str)), some (.str n2), some (.tup (ls2.map D.str)), x16, x17, none, none] (k3.st r1) =
      some (.nx [x0, some (.loc 1), some (.lst pairs12), x3, y4, y5, y6, y7, y8, y9, y10, y11, y12, y13, y14, y15, y16, y17, none, none], k'.st r') ∧ k'.ok (b + 100) := fun n => by
    obtain ⟨z, e6, hz'⟩ := number_ok hz (l + 14) n (k3.st (r1 ++ [.dead, .dead]))
    simp only [Sk.st_app, List.append_assoc, List.cons_append, List.nil_append] at e6
    obtain ⟨t, k4, e7, t0, t1, o4⟩ := draw (l + 15) k3 2 (r1 ++ [.dead, .dead, .dead]) o3 (by omega) (by omega) (by omega)
    have ht : t = 0 ∨ t = 1 := by omega
    rcases ht with rfl | rfl
    · obtain ⟨x', e', k', r', y5, y10, y11, y16, y17, e8, o'⟩ := for1 l hz n hx hy k4 (r1 ++ [.dead, .dead, .dead]) o4 (by omega) x0 x3 x5 x10 x11 (some (.str n1)) (some (.tup (ls1.map D.str))) (some (.str n2)) (some (.tup (ls2.map D.str))) x16 x17
      exact ⟨k', r', _, y5, _, _, _, _, y10, y11, _, _, _, _, y16, y17, by simp [q50_fb0, e4, e5, e6, e7, e8, oTup, oLst, sizeLine]; exact ⟨rfl, rfl, rfl, rfl, rfl, rfl, rfl, rfl, rfl⟩, o'.mono (by omega)⟩
    · obtain ⟨x', e', k', r', y5, y10, y11, y16, y17, e8, o'⟩ := for1 l hz n hx (hz'.mono (by omega) (by omega)) k4 (r1 ++ [.dead, .dead, .dead]) o4 (by omega) x0 x3 x5 x10 x11 (some (.str n1)) (some (.tup (ls1.map D.str))) (some (.str n2)) (some (.tup (ls2.map D.str))) x16 x17
      exact ⟨k', r', _, y5, _, _, _, _, y10, y11, _, _, _, _, y16, y17, by simp [q50_fb0, e4, e5, e6, e7, e8, oTup, oLst, sizeLine]; exact ⟨rfl, rfl, rfl, rfl, rfl, rfl, rfl, rfl, rfl⟩, o'.mono (by omega)⟩
  have hq : q50_fb0 = [(.asg (.seq (.cons (.tup [12, 13]) (.cons (.tup [14, 15]) .nil))) (.call 26 (.cons (.var 1) (.cons (.int 2) .nil)) .nil)), (.asg (.nm 4) (.idx (.lst (.cons (.bin .Sub (.call 9 (.cons (.var 1) (.cons (.int 30) .nil)) .nil) (.int 9)) (.cons (.bin .Add (.bin .Pow (.int 10) (.int 19)) (.int 1)) .nil))) (.bi .int (.cons (.cmp .Eq (.call 9 (.cons (.var 1) (.cons (.int 5) .nil)) .nil) (.int 0)) .nil))))] ++ q50_fb0.drop 2 := rfl
  generalize q50_fb0.drop 2 = tl at hq go
  by_cases hg : g = 0
  · subst hg
    obtain ⟨k', r', y4, y5, y6, y7, y8, y9, y10, y11, y12, y13, y14, y15, y16, y17, e9, o'⟩ := go 10000000000000000001
    refine ⟨k', r', y4, y5, y6, y7, y8, y9, y10, y11, y12, y13, y14, y15, y16, y17, ?_, o'⟩
    rw [hq]
    simp only [List.cons_append, List.nil_append]
    simp [e1, e2, e3, oLst, sizeLine, hp, evBi, intD, e9]
  · obtain ⟨k', r', y4, y5, y6, y7, y8, y9, y10, y11, y12, y13, y14, y15, y16, y17, e9, o'⟩ := go (d - 9)
    refine ⟨k', r', y4, y5, y6, y7, y8, y9, y10, y11, y12, y13, y14, y15, y16, y17, ?_, o'⟩
    rw [hq]
    simp only [List.cons_append, List.nil_append]
    simp [e1, e2, e3, oLst, sizeLine, hp, evBi, intD, hg, e9]
theorem for0 (l : Nat) (k : Sk) (rest : Store) (ok : k.ok 0) (x0 : Option D) : ∃ ρ' μ', xv M.T (M.sems (M.lev (l + 16))) q50_for0 [x0, some (.loc 1), some (.lst pairs12), none, none, none, none, none, none, none, none, none, none, none, none, none, none, none, none, none] (k.st rest) = some (.nx ρ', μ') := by
  obtain ⟨ρ', μ', e1, _⟩ := forL_inv (g := gNm 3) (b := xvs M.T (M.sems (M.lev (l + 16))) q50_fb0) (fun n ρ μ => ∃ (k : Sk) (r : Store) (x3 x4 x5 x6 x7 x8 x9 x10 x11 x12 x13 x14 x15 x16 x17 : Option D), ρ = [x0, some (.loc 1), some (.lst pairs12), x3, x4, x5, x6, x7, x8, x9, x10, x11, x12, x13, x14, x15, x16, x17, none, none] ∧ μ = k.st r ∧ k.ok (100 * n))
    (rngD 0 6) 0 (fun n d ρ μ hd ⟨k, r, x3, x4, x5, x6, x7, x8, x9, x10, x11, x12, x13, x14, x15, x16, x17, hρ, hμ, ok⟩ => by
      have hi : n < 6 := by
        have := (List.getElem?_eq_some_iff.mp hd).1
        simpa [rngD] using this
      subst hρ hμ
      obtain ⟨k', r', y4, y5, y6, y7, y8, y9, y10, y11, y12, y13, y14, y15, y16, y17, e1, o'⟩ := turn0 l k r ok (by omega) x0 (some d) x4 x5 x6 x7 x8 x9 x10 x11 x12 x13 x14 x15 x16 x17
      exact ⟨_, _, _, rfl, e1, k', r', some d, y4, y5, y6, y7, y8, y9, y10, y11, y12, y13, y14, y15, y16, y17, rfl, rfl, o'.mono (by omega)⟩)
    [x0, some (.loc 1), some (.lst pairs12), none, none, none, none, none, none, none, none, none, none, none, none, none, none, none, none, none] (k.st rest) ⟨k, rest, none, none, none, none, none, none, none, none, none, none, none, none, none, none, none, rfl, rfl, by simpa using ok⟩
  refine ⟨ρ', μ', ?_⟩
  rw [q50_for0, sx_for_, s_xFor]
  have ei : ∀ ρ μ, evI M.T (M.sems (M.lev (l + 16))) (.range (.cons (.int 6) .nil)) ρ μ = some (.ok (rngD 0 6), μ) := fun ρ μ => by
    simp [bndI]
  rw [ei]
  exact e1
def kLaw : Nat := 16
theorem holds : ∀ ns : List Int, ns.length ≤ 63 → ∃ μ', M.lev (kLaw + 1) jLaw [.klst (ns.map D.int)] [] = some (.ok (.bl true), μ') := fun ns _ => by
  obtain ⟨ρ', μ', e⟩ := for0 0 ⟨ns, 0, 0, 0⟩ [] (start_ok ns) (some (.klst (ns.map D.int)))
  have s : M.lev 16 36 [.klst (ns.map D.int)] [] = some (.ok (.loc 1), Sk.st ⟨ns, 0, 0, 0⟩ []) := by rw [l36]; exact start_run ns
  refine ⟨μ', ?_⟩
  show M.lev (16 + 1) 50 _ _ = _
  rw [l50]
  simp only [Nat.zero_add] at e
  simp [q50, s, oLst, sizeLine, guardD, e]
end L13
open PySem PySem.W PySem.Calls PyProof.Rows
set_option maxRecDepth 100000 in
set_option maxHeartbeats 0 in
theorem PySem.Challenge.cw_levelwalks_k13_operators_build_holds : PySem.Challenge.rw_levelwalks_k13_operators_build.Holds := by
  w_on; o_law
  refine HandSHeadRun.head_any (r := OpenLaw.row PySem.Challenge.rw_levelwalks_k13_operators_build) (q := view (OpenLaw.row PySem.Challenge.rw_levelwalks_k13_operators_build).prog [42]) (H := L13.hk) (ob := L13.ob) (M := 4000) (loose := L13.loose) (d := HandSHeadRun.topDef (OpenLaw.row PySem.Challenge.rw_levelwalks_k13_operators_build).prog 42) (kwd := []) DL.obE_eq
    (by kernel_rfl) (fun s => by kernel_rfl) L13.run (by kernel_rfl) (by kernel_rfl) (by kernel_rfl) (by rfl) (by first | assumption | decide +kernel) (by decide +kernel) ⟨rfl, rfl, rfl, rfl, rfl, by decide +kernel⟩ ?hw ?hc
  case hw => w_witness2
  case hc =>
    refine DL.walk_ofW (l := PySem.Challenge.rw_levelwalks_k13_operators_build) (n := 63) (k := 2 * L13.kLaw + 3) (x := "_law_script") rfl (by decide) (by kernel_rfl) ⟨rfl, by decide, by decide⟩ ?F
    case F =>
      intro w mg fa h Y G hmg0
      obtain ⟨K, KX, c, b⟩ := Y
      have hmg : mg ("law" : PySem.Str) = some (.ref fa) := by
        have e : (HandSHeadRun.topDef (OpenLaw.row PySem.Challenge.rw_levelwalks_k13_operators_build).prog 42).name = ("law" : PySem.Str) := by kernel_rfl
        rw [← e]
        exact hmg0
      obtain ⟨b1, b2⟩ := He.ba b
      obtain ⟨fd, sp, hb, hs, hF⟩ := DL.facts_law (P := (PySem.Challenge.rw_levelwalks_k13_operators_build).prog) (w := w) (Fx := L13.Fx) ⟨rfl, rfl, rfl⟩ L13.stB L13.binds (k := L13.kLaw) (j := L13.jLaw) (d := L13.d50) (x := "_law_script") rfl rfl rfl rfl (fun _ _ _ _ _ _ _ => rfl) L13.holds KX G hmg c b2 b1
      exact ⟨K, fd, sp, KX, hb, hs, hF⟩
