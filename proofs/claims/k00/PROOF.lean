import PyProof.Rows.All
import Wide.All
import OpenK.AllK
import Wide.FinOn
import HandS.ForMost
import HandS.Exc
import HandS.ExcInit
import HandS.TryOnly
import HandS.CallSlots
import HandS.Defaults
import HandS.HeadHook2
import HandS.TupAny
import HandS.Flow
import HandS.Deep
import HandS.TupLe
import HandS.IsInst
import HandS.Small
import HandS.TryMany
import HandS.ExcField
import HandS.Style
import HandS.WordsExc
import HandS.Walk
import HandS.Zip
import HandS.ExcOwn
import HandS.ClsMeth
import HandS.FStr
import HandS.Comp
import HandS.Text
import HandS.StrMore
import HandS.Head0
import HandS.Head1
import HandS.Head2
import HandS.HeadEnd
import HandS.HeadHook1
import HandS.HeadHook3
import HandS.SetKeys
import HandS.RevTup
import HandS.Rev
import PyProof.ListNew
import HandS.NoneIn
import HandS.SetTxt0
import HandS.Strs
import HandS.Set
import HandS.SetFor
import KE.KDictPairs
import HandS.SortInts
import HandS.SortOrd
import PyProof.StrOps2
import KE.KStateDown
import HandS.Words
import PySem.Challenge.RW_openrows_k00_words_and_names
import KE.IntTextLaws
set_option Elab.async false
set_option linter.all false
set_option autoImplicit false
set_option maxRecDepth 100000
set_option maxHeartbeats 2000000
/-! Mini, the core: values without addresses, a heap by numbers, runs, what they stand for over HandS. -/
namespace Mi
open PySem PySem.Spec L2

/-! ### values, objects, the heap -/
inductive Ty where
  | int | str | bool | list | tuple | dict | non | other
def Ty.name : Ty → String
  | .int => "int" | .str => "str" | .bool => "bool" | .list => "list" | .tuple => "tuple" | .dict => "dict" | .non => "NoneType" | .other => "object"
inductive Val where
  | non | bl (b : Bool) | int (i : Int) | str (x : Str) | tup (xs : List Val) | loc (n : Nat) | ty (t : Ty) | klst (xs : List Val) | dtp (xs : List Val)
inductive Ob where
  | lst (xs : List Val) | rol (xs : List Val) | dic (kvs : List (Key × Val)) | ins (c : Nat) (fs : List (Str × Val))
inductive Tr where
  | nil | node (v : Option Ob) (l r : Tr)
def Tr.get : Tr → Nat → Option Ob
  | .nil, _ => none
  | .node v l r, i => match Nat.beq i 0 with
    | true => v
    | false => match Nat.beq (i % 2) 1 with
      | true => l.get (i / 2)
      | false => r.get (i / 2 - 1)
def Tr.put : Nat → Tr → Nat → Ob → Tr
  | 0, t, _, _ => t
  | f + 1, .nil, i, o => match Nat.beq i 0 with
    | true => .node (some o) .nil .nil
    | false => match Nat.beq (i % 2) 1 with
      | true => .node none (Tr.put f .nil (i / 2) o) .nil
      | false => .node none .nil (Tr.put f .nil (i / 2 - 1) o)
  | f + 1, .node v l r, i, o => match Nat.beq i 0 with
    | true => .node (some o) l r
    | false => match Nat.beq (i % 2) 1 with
      | true => .node v (Tr.put f l (i / 2) o) r
      | false => .node v l (Tr.put f r (i / 2 - 1) o)
theorem beq_if {α : Type} (a b : Nat) (x y : α) : (match Nat.beq a b with | true => x | false => y) = if a = b then x else y := by
  cases h : Nat.beq a b with
  | true => rw [if_pos (Nat.eq_of_beq_eq_true h)]
  | false => rw [if_neg (Nat.ne_of_beq_eq_false h)]
theorem get_node (v : Option Ob) (l r : Tr) (i : Nat) : (Tr.node v l r).get i = if i = 0 then v else if i % 2 = 1 then l.get (i / 2) else r.get (i / 2 - 1) := by
  rw [← beq_if (i % 2) 1, ← beq_if i 0]; rfl
theorem get_put : ∀ (f : Nat) (t : Tr) (i j : Nat) (o : Ob), i + 1 < 2 ^ f → (Tr.put f t i o).get j = if j = i then some o else t.get j
  | 0, _, i, _, _, h => by simp at h
  | f + 1, t, i, j, o, h => by
    have hp : 2 ^ (f + 1) = 2 * 2 ^ f := by rw [Nat.pow_succ]; omega
    have key : ∀ (v : Option Ob) (l r : Tr), (if i = 0 then Tr.node (some o) l r else if i % 2 = 1 then Tr.node v (Tr.put f l (i / 2) o) r else Tr.node v l (Tr.put f r (i / 2 - 1) o)).get j = if j = i then some o else (Tr.node v l r).get j := by
      intro v l r
      by_cases hi : i = 0
      · subst hi
        rw [if_pos rfl, get_node, get_node]
        by_cases hj : j = 0
        · simp [hj]
        · simp [hj]
      · rw [if_neg hi]
        by_cases ho : i % 2 = 1
        · rw [if_pos ho, get_node, get_node]
          by_cases hj : j = 0
          · subst hj; rw [if_pos rfl, if_pos rfl, if_neg (Ne.symm hi)]
          · rw [if_neg hj, if_neg hj]
            by_cases hq : j % 2 = 1
            · rw [if_pos hq, if_pos hq, get_put f l (i / 2) (j / 2) o (by omega)]
              by_cases e : j = i
              · subst e; simp
              · rw [if_neg e, if_neg (by omega)]
            · rw [if_neg hq, if_neg hq, if_neg (fun e : j = i => hq (by rw [e]; exact ho))]
        · rw [if_neg ho, get_node, get_node]
          by_cases hj : j = 0
          · subst hj; rw [if_pos rfl, if_pos rfl, if_neg (Ne.symm hi)]
          · rw [if_neg hj, if_neg hj]
            by_cases hq : j % 2 = 1
            · rw [if_pos hq, if_pos hq, if_neg (fun e : j = i => ho (by rw [← e]; exact hq))]
            · rw [if_neg hq, if_neg hq, get_put f r (i / 2 - 1) (j / 2 - 1) o (by omega)]
              by_cases e : j = i
              · subst e; simp
              · rw [if_neg e, if_neg (by omega)]
    cases t with
    | nil =>
      have e1 : Tr.put (f + 1) .nil i o = if i = 0 then Tr.node (some o) .nil .nil else if i % 2 = 1 then Tr.node none (Tr.put f .nil (i / 2) o) .nil else Tr.node none .nil (Tr.put f .nil (i / 2 - 1) o) := by
        rw [← beq_if (i % 2) 1, ← beq_if i 0]; rfl
      rw [e1, key none .nil .nil]
      have : (Tr.node none .nil .nil).get j = Tr.nil.get j := by
        rw [get_node]; simp [Tr.get]
      rw [this]
    | node v l r =>
      have e1 : Tr.put (f + 1) (.node v l r) i o = if i = 0 then Tr.node (some o) l r else if i % 2 = 1 then Tr.node v (Tr.put f l (i / 2) o) r else Tr.node v l (Tr.put f r (i / 2 - 1) o) := by
        rw [← beq_if (i % 2) 1, ← beq_if i 0]; rfl
      rw [e1, key v l r]

structure MH where
  n : Nat
  t : Tr
def MH.get (m : MH) (i : Nat) : Option Ob := m.t.get i
def MH.put (m : MH) (i : Nat) (o : Ob) : MH := ⟨m.n, m.t.put 40 i o⟩
def MH.add (m : MH) (o : Ob) : MH := ⟨m.n + 1, m.t.put 40 m.n o⟩
def lim : Nat := 1000000000
theorem MH.get_put {m : MH} {i j : Nat} {o : Ob} (h : i ≤ lim) : (m.put i o).get j = if j = i then some o else m.get j := Mi.get_put 40 m.t i j o (by unfold lim at h; omega)
theorem MH.get_add {m : MH} {j : Nat} {o : Ob} (h : m.n ≤ lim) : (m.add o).get j = if j = m.n then some o else m.get j := Mi.get_put 40 m.t m.n j o (by unfold lim at h; omega)

/-! ### results -/
structure Exc where
  cls : Nat
  fs : List (Str × Val)
inductive RE (α : Type) where
  | ok (a : α) (m : MH) | err (e : Exc) (m : MH) | fail
def RE.bind {α β : Type} (r : RE α) (k : α → MH → RE β) : RE β := match r with
  | .ok a m => k a m
  | .err e m => .err e m
  | .fail => .fail
/-- a new object's number -/
def mk (o : Ob) (m : MH) : RE Val := match Nat.ble m.n lim with
  | true => .ok (.loc m.n) (m.add o)
  | false => .fail

/-! ### what a value stands for -/
/-- a list that never changes -/
def SqF (K : PySem.W.Frag) (H : Hp) (p : Addr) (xs : List V) : Prop := (∃ o, H p = some (.frz o (.lst xs))) ∨
  ∃ (o : Obj) (its : Array Value) (n : Nat), K.lookup p = some o ∧ o.cls = .type "list" ∧ o.dict = none ∧ o.data = .seq its n ∧ its.size ≤ sizeLine ∧ Vals xs its.toList
theorem SqF.l {K : PySem.W.Frag} {H : Hp} {p : Addr} {xs : List V} (h : SqF K H p xs) : SqL K H p xs := by
  rcases h with ⟨o, h⟩ | h
  · exact .inl (.inr ⟨o, h⟩)
  · exact .inr h
/-- a tuple without an own dict -/
def SqD (K : PySem.W.Frag) (H : Hp) (p : Addr) (xs : List V) : Prop := (∃ o : Obj, H p = some (.frz o (.tup xs)) ∧ o.dict = none) ∨
  ∃ (o : Obj) (its : Array Value) (n : Nat), K.lookup p = some o ∧ o.cls = .type "tuple" ∧ o.dict = none ∧ o.data = .seq its n ∧ its.size ≤ sizeLine ∧ Vals xs its.toList
theorem SqD.t {K : PySem.W.Frag} {H : Hp} {p : Addr} {xs : List V} (h : SqD K H p xs) : SqT K H p xs := by
  rcases h with ⟨o, h, _⟩ | ⟨o, its, n, h1, h2, _, h3⟩
  · exact .inl (.inr ⟨o, h⟩)
  · exact .inr ⟨o, its, n, h1, h2, h3⟩
/-- what never changes goes on standing -/
structure Tp (K : PySem.W.Frag) (H H' : Hp) : Prop where
  t : ∀ p xs, SqT K H p xs → SqT K H' p xs
  f : ∀ p xs, SqF K H p xs → SqF K H' p xs
  d : ∀ p xs, SqD K H p xs → SqD K H' p xs
theorem Tp.refl {K : PySem.W.Frag} {H : Hp} : Tp K H H := ⟨fun _ _ z => z, fun _ _ z => z, fun _ _ z => z⟩
theorem Tp.trans {K : PySem.W.Frag} {H H1 H2 : Hp} (a : Tp K H H1) (b : Tp K H1 H2) : Tp K H H2 := ⟨fun p xs z => b.t p xs (a.t p xs z), fun p xs z => b.f p xs (a.f p xs z), fun p xs z => b.d p xs (a.d p xs z)⟩
mutual
inductive RV (K : PySem.W.Frag) (H : Hp) (ρ : Nat → Addr) (n : Nat) : Val → V → Prop
  | non : RV K H ρ n .non .non
  | bl (b : Bool) : RV K H ρ n (.bl b) (.bl b)
  | int (i : Int) : RV K H ρ n (.int i) (.int i)
  | str (x : Str) : RV K H ρ n (.str x) (.str x)
  | ty (x : Ty) : RV K H ρ n (.ty x) (.ty x.name)
  | loc {i : Nat} : i < n → RV K H ρ n (.loc i) (.ref (ρ i))
  | tup {p : Addr} {xs : List Val} {vs : List V} : SqT K H p vs → RVs K H ρ n xs vs → RV K H ρ n (.tup xs) (.ref p)
  | klst {p : Addr} {xs : List Val} {vs : List V} : SqF K H p vs → RVs K H ρ n xs vs → RV K H ρ n (.klst xs) (.ref p)
  | dtp {p : Addr} {xs : List Val} {vs : List V} : SqD K H p vs → RVs K H ρ n xs vs → RV K H ρ n (.dtp xs) (.ref p)
inductive RVs (K : PySem.W.Frag) (H : Hp) (ρ : Nat → Addr) (n : Nat) : List Val → List V → Prop
  | nil : RVs K H ρ n [] []
  | cons {x : Val} {v : V} {xs : List Val} {vs : List V} : RV K H ρ n x v → RVs K H ρ n xs vs → RVs K H ρ n (x :: xs) (v :: vs)
end
/-- what goes on standing -/
structure Ext (K : PySem.W.Frag) (ρ : Nat → Addr) (H : Hp) (n : Nat) (ρ' : Nat → Addr) (H' : Hp) (n' : Nat) : Prop where
  le : n ≤ n'
  rho : ∀ i, i < n → ρ' i = ρ i
  tup : Tp K H H'
  fr : ∀ a u, H a = some u → (∀ i, i < n → ρ i ≠ a) → H' a = some u ∧ ∀ i, i < n' → ρ' i ≠ a
theorem Ext.refl {K : PySem.W.Frag} {ρ : Nat → Addr} {H : Hp} {n : Nat} : Ext K ρ H n ρ H n := ⟨Nat.le_refl _, fun _ _ => rfl, .refl, fun _ _ h k => ⟨h, k⟩⟩
theorem Ext.trans {K : PySem.W.Frag} {ρ ρ1 ρ2 : Nat → Addr} {H H1 H2 : Hp} {n n1 n2 : Nat} (a : Ext K ρ H n ρ1 H1 n1) (b : Ext K ρ1 H1 n1 ρ2 H2 n2) : Ext K ρ H n ρ2 H2 n2 :=
  ⟨Nat.le_trans a.le b.le, fun i h => (b.rho i (Nat.lt_of_lt_of_le h a.le)).trans (a.rho i h), a.tup.trans b.tup, fun c u h k => let ⟨h', k'⟩ := a.fr c u h k; b.fr c u h' k'⟩
section
variable {K : PySem.W.Frag} {H H' : Hp} {ρ ρ' : Nat → Addr} {n n' : Nat}
mutual
theorem RV.ext0 (le : n ≤ n') (rho : ∀ i, i < n → ρ' i = ρ i) (tup : Tp K H H') : ∀ {x : Val} {v : V}, RV K H ρ n x v → RV K H' ρ' n' x v
  | _, _, .non => .non
  | _, _, .bl b => .bl b
  | _, _, .int i => .int i
  | _, _, .str x => .str x
  | _, _, .ty x => .ty x
  | _, _, .loc (i := i) h => by rw [← rho i h]; exact .loc (Nat.lt_of_lt_of_le h le)
  | _, _, .tup h r => .tup (tup.t _ _ h) (RVs.ext0 le rho tup r)
  | _, _, .klst h r => .klst (tup.f _ _ h) (RVs.ext0 le rho tup r)
  | _, _, .dtp h r => .dtp (tup.d _ _ h) (RVs.ext0 le rho tup r)
theorem RVs.ext0 (le : n ≤ n') (rho : ∀ i, i < n → ρ' i = ρ i) (tup : Tp K H H') : ∀ {xs : List Val} {vs : List V}, RVs K H ρ n xs vs → RVs K H' ρ' n' xs vs
  | _, _, .nil => .nil
  | _, _, .cons r t => .cons (RV.ext0 le rho tup r) (RVs.ext0 le rho tup t)
end
/-- a tuple as any tuple -/
def wk (v : Val) : Val := match v with
  | .dtp xs => .tup xs
  | .tup xs => .tup xs
  | .non => .non
  | .bl b => .bl b
  | .int i => .int i
  | .str x => .str x
  | .loc l => .loc l
  | .ty t => .ty t
  | .klst xs => .klst xs
theorem RV.wk {x : Val} {v : V} (r : RV K H ρ n x v) : RV K H ρ n (wk x) v := by
  cases r with
  | dtp h r => exact .tup h.t r
  | non => exact .non
  | bl b => exact .bl b
  | int i => exact .int i
  | str x => exact .str x
  | ty x => exact .ty x
  | loc h => exact .loc h
  | tup h r => exact .tup h r
  | klst h r => exact .klst h r
theorem RVs.wk : ∀ {xs : List Val} {vs : List V}, RVs K H ρ n xs vs → RVs K H ρ n (xs.map Mi.wk) vs
  | _, _, .nil => .nil
  | _, _, .cons r t => .cons r.wk (RVs.wk t)
theorem RV.ext (e : Ext K ρ H n ρ' H' n') {x : Val} {v : V} (r : RV K H ρ n x v) : RV K H' ρ' n' x v := r.ext0 e.le e.rho e.tup
theorem RVs.ext (e : Ext K ρ H n ρ' H' n') {x : List Val} {v : List V} (r : RVs K H ρ n x v) : RVs K H' ρ' n' x v := r.ext0 e.le e.rho e.tup
theorem RVs.length {xs : List Val} {vs : List V} (r : RVs K H ρ n xs vs) : xs.length = vs.length := by
  induction xs generalizing vs with
  | nil => cases r; rfl
  | cons x xs ih => cases r with | cons a b => simp [ih b]
theorem RVs.get {xs : List Val} {vs : List V} (r : RVs K H ρ n xs vs) {i : Nat} {x : Val} (h : xs[i]? = some x) : ∃ v, vs[i]? = some v ∧ RV K H ρ n x v := by
  induction xs generalizing vs i with
  | nil => simp at h
  | cons y xs ih =>
    cases r with
    | cons a b =>
      cases i with
      | zero => simp at h; subst h; exact ⟨_, rfl, a⟩
      | succ i => simpa using ih b (by simpa using h)
theorem RVs.append {xs ys : List Val} {vs ws : List V} (r : RVs K H ρ n xs vs) (q : RVs K H ρ n ys ws) : RVs K H ρ n (xs ++ ys) (vs ++ ws) := by
  induction xs generalizing vs with
  | nil => cases r; exact q
  | cons x xs ih => cases r with | cons a b => exact .cons a (ih b)
theorem RVs.take {xs : List Val} {vs : List V} (r : RVs K H ρ n xs vs) (k : Nat) : RVs K H ρ n (xs.take k) (vs.take k) := by
  induction xs generalizing vs k with
  | nil => cases r; simp; exact .nil
  | cons x xs ih =>
    cases r with
    | cons a b =>
      cases k with
      | zero => exact .nil
      | succ k => exact .cons a (ih b k)
theorem RVs.drop {xs : List Val} {vs : List V} (r : RVs K H ρ n xs vs) (k : Nat) : RVs K H ρ n (xs.drop k) (vs.drop k) := by
  induction xs generalizing vs k with
  | nil => cases r; simp; exact .nil
  | cons x xs ih =>
    cases r with
    | cons a b =>
      cases k with
      | zero => exact .cons a b
      | succ k => exact ih b k
theorem RVs.set {xs : List Val} {vs : List V} (r : RVs K H ρ n xs vs) {x : Val} {v : V} (q : RV K H ρ n x v) (k : Nat) : RVs K H ρ n (xs.set k x) (vs.set k v) := by
  induction xs generalizing vs k with
  | nil => cases r; exact .nil
  | cons y xs ih =>
    cases r with
    | cons a b =>
      cases k with
      | zero => exact .cons q b
      | succ k => exact .cons a (ih b k)
theorem RVs.reverse {xs : List Val} {vs : List V} (r : RVs K H ρ n xs vs) : RVs K H ρ n xs.reverse vs.reverse := by
  induction xs generalizing vs with
  | nil => cases r; exact .nil
  | cons x xs ih =>
    cases r with
    | cons a b =>
      rw [List.reverse_cons, List.reverse_cons]
      exact (ih b).append (.cons a .nil)
end
/-- fields, keys -/
def RFs (K : PySem.W.Frag) (H : Hp) (ρ : Nat → Addr) (n : Nat) (fs : List (Str × Val)) (gs : List (Str × V)) : Prop := fs.map (·.1) = gs.map (·.1) ∧ RVs K H ρ n (fs.map (·.2)) (gs.map (·.2))
def RKs (K : PySem.W.Frag) (H : Hp) (ρ : Nat → Addr) (n : Nat) (fs : List (Key × Val)) (gs : List (Key × V)) : Prop := fs.map (·.1) = gs.map (·.1) ∧ RVs K H ρ n (fs.map (·.2)) (gs.map (·.2))
/-- the names of the classes by number; the exception that a suite looks at -/
structure CN where
  nm : Nat → Str
  xc : Option (Addr × Value × Option Addr)
instance : CoeFun CN (fun _ => Nat → Str) := ⟨CN.nm⟩
/-- what an object stands for -/
def RO (cn : CN) (K : PySem.W.Frag) (H : Hp) (ρ : Nat → Addr) (n : Nat) (a : Addr) : Ob → Prop
  | .lst xs => ∃ vs, H a = some (.lst vs) ∧ RVs K H ρ n xs vs
  | .rol xs => ∃ vs, Rd H a (.lst vs) ∧ RVs K H ρ n xs vs
  | .dic kvs => ∃ gs, H a = some (.dK gs) ∧ RKs K H ρ n kvs gs
  | .ins c fs => ∃ dx gs, H a = some (.ins (He.ga K (cn c)) dx gs) ∧ RFs K H ρ n fs gs
structure RH (cn : CN) (K : PySem.W.Frag) (m : MH) (H : Hp) (ρ : Nat → Addr) : Prop where
  bd : m.n ≤ lim + 1
  obj : ∀ i o, m.get i = some o → i < m.n ∧ RO cn K H ρ m.n (ρ i) o
  all : ∀ i, i < m.n → ∃ o, m.get i = some o
  inj : ∀ i j, i < m.n → j < m.n → ρ i = ρ j → i = j

/-! ### slots -/
inductive Sl where
  | no | v (x : Val) | ex (e : Exc)
abbrev Slots := List Sl
/-- an exception as thrown -/
def RX (cn : CN) (K : PySem.W.Frag) (H : Hp) (ρ : Nat → Addr) (n : Nat) (e : Exc) (cls : Value) (d : Option Addr) : Prop :=
  cls = .ref (He.ga K (cn e.cls)) ∧ (e.fs ≠ [] → ∃ da gs, d = some da ∧ H da = some (.xd gs) ∧ RFs K H ρ n e.fs gs)
theorem RX.ext {cn : CN} {K : PySem.W.Frag} {m : MH} {H H' : Hp} {ρ ρ' : Nat → Addr} {n' : Nat} {e : Exc} {cls : Value} {d : Option Addr} (h : RH cn K m H ρ) (ex : Ext K ρ H m.n ρ' H' n') (r : RX cn K H ρ m.n e cls d) : RX cn K H' ρ' n' e cls d := by
  refine ⟨r.1, fun ne => ?_⟩
  obtain ⟨da, gs, h1, h2, h3⟩ := r.2 ne
  refine ⟨da, gs, h1, (ex.fr da _ h2 fun i hi q => ?_).1, h3.1, h3.2.ext ex⟩
  obtain ⟨o, ho⟩ := h.all i hi
  have ro := (h.obj i o ho).2
  rw [q] at ro
  cases o with
  | lst xs => obtain ⟨vs, k1, _⟩ := ro; rw [h2] at k1; cases k1
  | rol xs =>
    obtain ⟨vs, k1, _⟩ := ro
    rcases k1 with k1 | ⟨_, k1⟩
    · rw [h2] at k1; cases k1
    · rw [h2] at k1; cases k1
  | dic xs => obtain ⟨vs, k1, _⟩ := ro; rw [h2] at k1; cases k1
  | ins c xs => obtain ⟨dx, vs, k1, _⟩ := ro; rw [h2] at k1; cases k1
/-- .. without what stands apart -/
structure Ex0 (K : PySem.W.Frag) (ρ : Nat → Addr) (H : Hp) (n : Nat) (ρ' : Nat → Addr) (H' : Hp) (n' : Nat) : Prop where
  le : n ≤ n'
  rho : ∀ i, i < n → ρ' i = ρ i
  tup : Tp K H H'
  xd : ∀ a gs, H a = some (.xd gs) → H' a = some (.xd gs)
theorem Ex0.refl {K : PySem.W.Frag} {ρ : Nat → Addr} {H : Hp} {n : Nat} : Ex0 K ρ H n ρ H n := ⟨Nat.le_refl _, fun _ _ => rfl, .refl, fun _ _ h => h⟩
theorem Ex0.trans {K : PySem.W.Frag} {ρ ρ1 ρ2 : Nat → Addr} {H H1 H2 : Hp} {n n1 n2 : Nat} (a : Ex0 K ρ H n ρ1 H1 n1) (b : Ex0 K ρ1 H1 n1 ρ2 H2 n2) : Ex0 K ρ H n ρ2 H2 n2 :=
  ⟨Nat.le_trans a.le b.le, fun i h => (b.rho i (Nat.lt_of_lt_of_le h a.le)).trans (a.rho i h), a.tup.trans b.tup, fun c u h => b.xd c u (a.xd c u h)⟩
theorem RH.noxd {cn : CN} {K : PySem.W.Frag} {m : MH} {H : Hp} {ρ : Nat → Addr} (h : RH cn K m H ρ) {i : Nat} (hi : i < m.n) {da : Addr} {gs : List (Str × V)} (h2 : H da = some (.xd gs)) : ρ i ≠ da := fun q => by
  obtain ⟨o, ho⟩ := h.all i hi
  have ro := (h.obj i o ho).2
  rw [q] at ro
  cases o with
  | lst xs => obtain ⟨vs, k1, _⟩ := ro; rw [h2] at k1; cases k1
  | rol xs =>
    obtain ⟨vs, k1, _⟩ := ro
    rcases k1 with k1 | ⟨_, k1⟩
    · rw [h2] at k1; cases k1
    · rw [h2] at k1; cases k1
  | dic xs => obtain ⟨vs, k1, _⟩ := ro; rw [h2] at k1; cases k1
  | ins c xs => obtain ⟨dx, vs, k1, _⟩ := ro; rw [h2] at k1; cases k1
theorem Ext.ex0 {cn : CN} {K : PySem.W.Frag} {m : MH} {H H' : Hp} {ρ ρ' : Nat → Addr} {n' : Nat} (e : Ext K ρ H m.n ρ' H' n') (h : RH cn K m H ρ) : Ex0 K ρ H m.n ρ' H' n' := ⟨e.le, e.rho, e.tup, fun a gs q => (e.fr a _ q fun i hi => h.noxd hi q).1⟩
structure WR (cn : CN) (K : PySem.W.Frag) (sl : Slots) (m : MH) (σ : St) (H : Hp) (ρ : Nat → Addr) : Prop where
  slo : ∀ (i : Nat) (x : Val), sl[i]? = some (Sl.v x) → ∃ v, σ[i]? = some (some v) ∧ RV K H ρ m.n x v
  exs : ∀ (i : Nat) (e : Exc), sl[i]? = some (Sl.ex e) → ∃ a cls d, cn.xc = some (a, cls, d) ∧ σ[i]? = some (some (.ref a)) ∧ RX cn K H ρ m.n e cls d
  len : sl.length = σ.length
  h : RH cn K m H ρ
theorem WR.ext {cn : CN} {K : PySem.W.Frag} {sl : Slots} {m m' : MH} {σ : St} {H H' : Hp} {ρ ρ' : Nat → Addr} (w : WR cn K sl m σ H ρ) (e : Ext K ρ H m.n ρ' H' m'.n) (h : RH cn K m' H' ρ') : WR cn K sl m' σ H' ρ' :=
  ⟨fun i x q => let ⟨v, a, b⟩ := w.slo i x q; ⟨v, a, b.ext e⟩, fun i x q => let ⟨a, c, d, b1, b2, b3⟩ := w.exs i x q; ⟨a, c, d, b1, b2, b3.ext w.h e⟩, w.len, h⟩

theorem WR.ex0 {cn : CN} {K : PySem.W.Frag} {sl : Slots} {m m' : MH} {σ : St} {H H' : Hp} {ρ ρ' : Nat → Addr} (w : WR cn K sl m σ H ρ) (e : Ex0 K ρ H m.n ρ' H' m'.n) (h : RH cn K m' H' ρ') : WR cn K sl m' σ H' ρ' :=
  ⟨fun i x q => let ⟨v, a, b⟩ := w.slo i x q; ⟨v, a, b.ext0 e.le e.rho e.tup⟩, fun i x q => let ⟨a, c, d, b1, b2, b3⟩ := w.exs i x q; ⟨a, c, d, b1, b2, b3.1, fun ne => let ⟨da, gs, h1, h2, h3⟩ := b3.2 ne; ⟨da, gs, h1, e.xd _ _ h2, h3.1, h3.2.ext0 e.le e.rho e.tup⟩⟩, w.len, h⟩
/-! ### what a run stands for -/
abbrev Rl (α β : Type) := PySem.W.Frag → Hp → (Nat → Addr) → Nat → α → β → Prop
def RBo : Rl Bool Bool := fun _ _ _ _ a b => a = b
def RUn : Rl Unit Unit := fun _ _ _ _ _ _ => True
/-- behind a run that touches no slots -/
def Run {α β : Type} (cn : CN) (K : PySem.W.Frag) (R : Rl α β) (r : RE α) (ρ : Nat → Addr) (H : Hp) (n : Nat) (Q : β → Hp → Prop) (W : XK) : Prop := match r with
  | .ok v m' => ∀ H' ρ' x, RH cn K m' H' ρ' → Ext K ρ H n ρ' H' m'.n → R K H' ρ' m'.n v x → Q x H'
  | .err e m' => ∀ cls d H' ρ', RH cn K m' H' ρ' → Ext K ρ H n ρ' H' m'.n → RX cn K H' ρ' m'.n e cls d → W cls d H'
  | .fail => False
section
variable {α β γ δ : Type} {cn : CN} {K : PySem.W.Frag} {R : Rl α β} {R1 : Rl γ δ} {r : RE α} {ρ ρ0 : Nat → Addr} {H H0 : Hp} {n n0 : Nat} {Q Q' : β → Hp → Prop} {W W' : XK}
theorem Run.mono (h : Run cn K R r ρ H n Q W) (hQ : ∀ x H', Q x H' → Q' x H') (hW : ∀ c d H', W c d H' → W' c d H') : Run cn K R r ρ H n Q' W' := by
  cases r with
  | ok v m => exact fun H' ρ' x a b c => hQ _ _ (h H' ρ' x a b c)
  | err e m => exact fun c d H' ρ' a b x => hW _ _ _ (h c d H' ρ' a b x)
  | fail => exact h
theorem Run.post (h : Run cn K R r ρ H n Q W) (hQ : ∀ x H', Q x H' → Q' x H') : Run cn K R r ρ H n Q' W := h.mono hQ fun _ _ _ z => z
/-- from further back -/
theorem Run.back (e : Ext K ρ0 H0 n0 ρ H n) (h : Run cn K R r ρ0 H0 n0 Q W) : Run cn K R r ρ H n Q W := by
  cases r with
  | ok v m => exact fun H' ρ' x a b c => h H' ρ' x a (e.trans b) c
  | err x m => exact fun c d H' ρ' a b x => h c d H' ρ' a (e.trans b) x
  | fail => exact h
theorem Run.bind {g : RE γ} {k : γ → MH → RE α} (h : Run cn K R (g.bind k) ρ H n Q W) :
    Run cn K R1 g ρ H n (fun y H1 => ∃ ρ1 m1 a, RH cn K m1 H1 ρ1 ∧ Ext K ρ H n ρ1 H1 m1.n ∧ R1 K H1 ρ1 m1.n a y ∧ Run cn K R (k a m1) ρ1 H1 m1.n Q W) W := by
  cases g with
  | ok a m1 => exact fun H1 ρ1 y w e r1 => ⟨ρ1, m1, a, w, e, r1, Run.back e h⟩
  | err x m1 => exact h
  | fail => exact h
theorem Run.ok {v : α} {x : β} {m : MH} (h : Run cn K R (.ok v m) ρ H m.n Q W) (w : RH cn K m H ρ) (r : R K H ρ m.n v x) : Q x H := h H ρ x w .refl r
end

/-! ### readings -/
abbrev E := Slots → MH → RE Val
abbrev EA := Slots → MH → RE (List Val)
abbrev ET := Slots → MH → RE Bool
/-- the reading of a run of an expression, a test, arguments -/
def TM {α β : Type} (cn : CN) (K : PySem.W.Frag) (R : Rl α β) (W : WX) (f : Slots → MH → RE α) : St → Hp → (β → Hp → Prop) → Prop := fun σ H Q =>
  ∃ sl m ρ, WR cn K sl m σ H ρ ∧ Run cn K R (f sl m) ρ H m.n Q fun c d H' => W c d σ H'
abbrev TE' (cn : CN) (K : PySem.W.Frag) (W : WX) (f : E) : TE := TM cn K RV W f
abbrev TT' (cn : CN) (K : PySem.W.Frag) (W : WX) (f : ET) : TT := TM cn K RBo W f
abbrev TA' (cn : CN) (K : PySem.W.Frag) (W : WX) (f : EA) : TA := TM cn K RVs W f
section
variable {α β γ δ : Type} {cn : CN} {K : PySem.W.Frag} {R : Rl α β} {R1 : Rl γ δ} {W : WX} {σ : St} {H : Hp} {Q : β → Hp → Prop}
/-- the step: g runs, then k -/
theorem TM.bind {sl : Slots} {m : MH} {ρ : Nat → Addr} {g : Slots → MH → RE γ} {k : γ → MH → RE α} (w : WR cn K sl m σ H ρ) (h : Run cn K R ((g sl m).bind k) ρ H m.n Q fun c d H' => W c d σ H') {Q1 : δ → Hp → Prop}
    (hQ : ∀ y H1 ρ1 m1 a, WR cn K sl m1 σ H1 ρ1 → Ext K ρ H m.n ρ1 H1 m1.n → R1 K H1 ρ1 m1.n a y → Run cn K R (k a m1) ρ1 H1 m1.n Q (fun c d H' => W c d σ H') → Q1 y H1) : TM cn K R1 W g σ H Q1 :=
  ⟨sl, m, ρ, w, (h.bind (R1 := R1)).post fun y H1 ⟨ρ1, m1, a, rh, e, r, q⟩ => hQ y H1 ρ1 m1 a (w.ext e rh) e r q⟩
end
end Mi

set_option Elab.async false
set_option linter.all false
set_option autoImplicit false
set_option maxRecDepth 100000
set_option maxHeartbeats 2000000
namespace Mi
open PySem PySem.Spec L2
/-! ### the heap's steps -/
section
variable {cn : CN} {K : PySem.W.Frag} {H : Hp} {ρ : Nat → Addr} {m : MH} {n : Nat} {p a : Addr} {o o' : Ob} {ho : HO}
theorem SqT.new {q : Addr} {xs : List V} (h : H p = none) (s : SqT K H q xs) : SqT K (upd H p ho) q xs := by
  rcases s with (s | ⟨o, s⟩) | s
  · exact .inl (.inl (by rw [upd_ne (ne_of_none s h)]; exact s))
  · exact .inl (.inr ⟨o, by rw [upd_ne (ne_of_none s h)]; exact s⟩)
  · exact .inr s
theorem SqT.mut {q : Addr} {xs : List V} (h : Mut (H a)) (s : SqT K H q xs) : SqT K (upd H a ho) q xs := by
  rcases s with (s | ⟨o, s⟩) | s
  · refine .inl (.inl ?_)
    rw [upd_ne (fun e => by rw [← e, s] at h; exact h)]; exact s
  · refine .inl (.inr ⟨o, ?_⟩)
    rw [upd_ne (fun e => by rw [← e, s] at h; exact h)]; exact s
  · exact .inr s
theorem Tp.new (h : H p = none) : Tp K H (upd H p ho) := ⟨fun _ _ s => SqT.new h s, fun q xs s => by
  rcases s with ⟨o, s⟩ | s
  · exact .inl ⟨o, by rw [upd_ne (ne_of_none s h)]; exact s⟩
  · exact .inr s, fun q xs s => by
  rcases s with ⟨o, s, d⟩ | s
  · exact .inl ⟨o, by rw [upd_ne (ne_of_none s h)]; exact s, d⟩
  · exact .inr s⟩
theorem Tp.mut (h : Mut (H a)) : Tp K H (upd H a ho) := ⟨fun _ _ s => SqT.mut h s, fun q xs s => by
  rcases s with ⟨o, s⟩ | s
  · exact .inl ⟨o, by rw [upd_ne (fun e => by rw [← e, s] at h; exact h)]; exact s⟩
  · exact .inr s, fun q xs s => by
  rcases s with ⟨o, s, d⟩ | s
  · exact .inl ⟨o, by rw [upd_ne (fun e => by rw [← e, s] at h; exact h)]; exact s, d⟩
  · exact .inr s⟩
def upR (ρ : Nat → Addr) (n : Nat) (p : Addr) : Nat → Addr := fun i => if i = n then p else ρ i
theorem upR_lt {i : Nat} (h : i < n) : upR ρ n p i = ρ i := if_neg (Nat.ne_of_lt h)
theorem upR_eq : upR ρ n p n = p := if_pos rfl
theorem Ext.new (h : H p = none) : Ext K ρ H n (upR ρ n p) (upd H p ho) (n + 1) := ⟨Nat.le_succ _, fun _ hi => upR_lt hi, .new h, fun b u q k => by
  have hb := ne_of_none q h
  refine ⟨by rw [upd_ne hb]; exact q, fun i hi => ?_⟩
  by_cases e : i = n
  · rw [e, upR_eq]; exact fun z => hb z.symm
  · rw [upR_lt (by omega)]; exact k i (by omega)⟩
theorem Ext.tupl (h : H p = none) : Ext K ρ H n ρ (upd H p ho) n := ⟨Nat.le_refl _, fun _ _ => rfl, .new h, fun b u q k => ⟨by rw [upd_ne (ne_of_none q h)]; exact q, k⟩⟩
theorem Ext.mut {i : Nat} (hi : i < n) (h : Mut (H (ρ i))) : Ext K ρ H n ρ (upd H (ρ i) ho) n := ⟨Nat.le_refl _, fun _ _ => rfl, .mut h, fun b u q k => ⟨by rw [upd_ne (fun z => k i hi z.symm)]; exact q, k⟩⟩
theorem RFs.ext {H' : Hp} {ρ' : Nat → Addr} {n' : Nat} {fs gs} (e : Ext K ρ H n ρ' H' n') (h : RFs K H ρ n fs gs) : RFs K H' ρ' n' fs gs := ⟨h.1, h.2.ext e⟩
theorem RKs.ext {H' : Hp} {ρ' : Nat → Addr} {n' : Nat} {fs gs} (e : Ext K ρ H n ρ' H' n') (h : RKs K H ρ n fs gs) : RKs K H' ρ' n' fs gs := ⟨h.1, h.2.ext e⟩
theorem RO.ext {H' : Hp} {ρ' : Nat → Addr} {n' : Nat} (e : Ext K ρ H n ρ' H' n') (k : H' a = H a) (h : RO cn K H ρ n a o) : RO cn K H' ρ' n' a o := by
  cases o with
  | lst xs => obtain ⟨vs, h1, h2⟩ := h; exact ⟨vs, by rw [k]; exact h1, h2.ext e⟩
  | rol xs => obtain ⟨vs, h1, h2⟩ := h; exact ⟨vs, by unfold Rd; rw [k]; exact h1, h2.ext e⟩
  | dic kvs => obtain ⟨gs, h1, h2⟩ := h; exact ⟨gs, by rw [k]; exact h1, h2.ext e⟩
  | ins c fs => obtain ⟨dx, gs, h1, h2⟩ := h; exact ⟨dx, gs, by rw [k]; exact h1, h2.ext e⟩
theorem RO.some (h : RO cn K H ρ n a o) : ∃ u, H a = some u := by
  cases o with
  | lst xs => obtain ⟨vs, h1, _⟩ := h; exact ⟨_, h1⟩
  | rol xs => obtain ⟨vs, h1 | ⟨_, h1⟩, _⟩ := h <;> exact ⟨_, h1⟩
  | dic kvs => obtain ⟨gs, h1, _⟩ := h; exact ⟨_, h1⟩
  | ins c fs => obtain ⟨dx, gs, h1, _⟩ := h; exact ⟨_, h1⟩
theorem RH.some (r : RH cn K m H ρ) {i : Nat} (h : i < m.n) : ∃ u, H (ρ i) = some u := by
  obtain ⟨o, e⟩ := r.all i h
  exact (r.obj i o e).2.some
/-- a new object -/
theorem RH.add (r : RH cn K m H ρ) (hn : m.n ≤ lim) (hp : H p = none) (ro : RO cn K (upd H p ho) (upR ρ m.n p) (m.n + 1) p o) : RH cn K (m.add o) (upd H p ho) (upR ρ m.n p) := by
  have ex : Ext K ρ H m.n (upR ρ m.n p) (upd H p ho) (m.n + 1) := .new hp
  have np : ∀ i, i < m.n → ρ i ≠ p := fun i hi e => by
    obtain ⟨u, q⟩ := r.some hi
    rw [e, hp] at q; cases q
  refine ⟨Nat.succ_le_succ hn, fun i q e => ?_, fun i hi => ?_, fun i j hi hj e => ?_⟩
  · rw [MH.get_add hn] at e
    show i < m.n + 1 ∧ _
    by_cases h : i = m.n
    · subst h
      rw [if_pos rfl] at e; cases e
      exact ⟨Nat.lt_succ_self _, by rw [upR_eq]; exact ro⟩
    · rw [if_neg h] at e
      obtain ⟨h1, h2⟩ := r.obj i q e
      exact ⟨Nat.lt_succ_of_lt h1, by rw [upR_lt h1]; exact h2.ext ex (upd_ne (np i h1))⟩
  · rw [MH.get_add hn]
    by_cases h : i = m.n
    · exact ⟨o, if_pos h⟩
    · rw [if_neg h]
      exact r.all i (by have : i < m.n + 1 := hi; omega)
  · have hi' : i < m.n + 1 := hi
    have hj' : j < m.n + 1 := hj
    by_cases h1 : i = m.n
    · by_cases h2 : j = m.n
      · rw [h1, h2]
      · rw [h1, upR_eq, upR_lt (by omega)] at e
        exact absurd e.symm (np j (by omega))
    · by_cases h2 : j = m.n
      · rw [h2, upR_eq, upR_lt (by omega)] at e
        exact absurd e (np i (by omega))
      · rw [upR_lt (by omega), upR_lt (by omega)] at e
        exact r.inj i j (by omega) (by omega) e
/-- an object that stood apart is taken in -/
theorem RH.adopt (r : RH cn K m H ρ) (hn : m.n ≤ lim) (hp : ∀ i, i < m.n → ρ i ≠ p) (ro : RO cn K H (upR ρ m.n p) (m.n + 1) p o) : RH cn K (m.add o) H (upR ρ m.n p) := by
  have e0 : ∀ xs vs, RVs K H ρ m.n xs vs → RVs K H (upR ρ m.n p) (m.n + 1) xs vs := fun xs vs q => q.ext0 (Nat.le_succ _) (fun i hi => upR_lt hi) .refl
  refine ⟨Nat.succ_le_succ hn, fun i q e => ?_, fun i hi => ?_, fun i j hi hj e => ?_⟩
  · rw [MH.get_add hn] at e
    show i < m.n + 1 ∧ _
    by_cases h : i = m.n
    · subst h
      rw [if_pos rfl] at e; cases e
      exact ⟨Nat.lt_succ_self _, by rw [upR_eq]; exact ro⟩
    · rw [if_neg h] at e
      obtain ⟨h1, h2⟩ := r.obj i q e
      refine ⟨Nat.lt_succ_of_lt h1, ?_⟩
      rw [upR_lt h1]
      cases q with
      | lst xs => obtain ⟨vs, k1, k2⟩ := h2; exact ⟨vs, k1, e0 _ _ k2⟩
      | rol xs => obtain ⟨vs, k1, k2⟩ := h2; exact ⟨vs, k1, e0 _ _ k2⟩
      | dic xs => obtain ⟨vs, k1, k2, k3⟩ := h2; exact ⟨vs, k1, k2, e0 _ _ k3⟩
      | ins c xs => obtain ⟨dx, vs, k1, k2, k3⟩ := h2; exact ⟨dx, vs, k1, k2, e0 _ _ k3⟩
  · rw [MH.get_add hn]
    by_cases h : i = m.n
    · exact ⟨o, if_pos h⟩
    · rw [if_neg h]
      exact r.all i (by have : i < m.n + 1 := hi; omega)
  · have hi' : i < m.n + 1 := hi
    have hj' : j < m.n + 1 := hj
    by_cases h1 : i = m.n
    · by_cases h2 : j = m.n
      · rw [h1, h2]
      · rw [h1, upR_eq, upR_lt (by omega)] at e
        exact absurd e.symm (hp j (by omega))
    · by_cases h2 : j = m.n
      · rw [h2, upR_eq, upR_lt (by omega)] at e
        exact absurd e (hp i (by omega))
      · rw [upR_lt (by omega), upR_lt (by omega)] at e
        exact r.inj i j (by omega) (by omega) e
/-- a new tuple -/
theorem RH.tupl (r : RH cn K m H ρ) (hp : H p = none) : RH cn K m (upd H p ho) ρ := by
  refine ⟨r.bd, fun i q e => ?_, r.all, r.inj⟩
  obtain ⟨h1, h2⟩ := r.obj i q e
  obtain ⟨u, k⟩ := r.some h1
  exact ⟨h1, h2.ext (.tupl hp) (upd_ne (ne_of_none k hp))⟩
/-- an object is changed -/
theorem RH.put (r : RH cn K m H ρ) {i : Nat} (hi : i < m.n) (mu : Mut (H (ρ i))) (ro : RO cn K (upd H (ρ i) ho) ρ m.n (ρ i) o) : RH cn K (m.put i o) (upd H (ρ i) ho) ρ := by
  have hb : i ≤ lim := by have := r.bd; omega
  refine ⟨r.bd, fun j q e => ?_, fun j hj => ?_, r.inj⟩
  · rw [MH.get_put hb] at e
    by_cases h : j = i
    · subst h
      rw [if_pos rfl] at e; cases e
      exact ⟨hi, ro⟩
    · rw [if_neg h] at e
      obtain ⟨h1, h2⟩ := r.obj j q e
      exact ⟨h1, h2.ext (.mut hi mu) (upd_ne fun z => h (r.inj j i h1 hi z))⟩
  · rw [MH.get_put hb]
    by_cases h : j = i
    · exact ⟨o, if_pos h⟩
    · rw [if_neg h]; exact r.all j hj
end
/-! ### values by runs: the ways out of a rule -/
section
variable {cn : CN} {K : PySem.W.Frag} {H : Hp} {ρ : Nat → Addr} {m : MH} {Q : VK} {W : XK}
theorem Run.val {v : Val} {x : V} (h : Run cn K RV (.ok v m) ρ H m.n Q W) (w : RH cn K m H ρ) (r : RV K H ρ m.n v x) : Q x H := h H ρ x w .refl r
theorem Run.newTup {xs : List Val} {vs : List V} {p : Addr} (h : Run cn K RV (.ok (.tup xs) m) ρ H m.n Q W) (w : RH cn K m H ρ) (r : RVs K H ρ m.n xs vs) (hp : H p = none) : Q (.ref p) (upd H p (.tup vs)) :=
  h _ ρ _ (w.tupl hp) (.tupl hp) (.tup (.inl (.inl upd_same)) (r.ext (.tupl hp)))
theorem Run.newDtp {xs : List Val} {vs : List V} {p : Addr} {ob : Obj} (h : Run cn K RV (.ok (.dtp xs) m) ρ H m.n Q W) (w : RH cn K m H ρ) (r : RVs K H ρ m.n xs vs) (hp : H p = none) (hd : ob.dict = none) : Q (.ref p) (upd H p (.frz ob (.tup vs))) :=
  h _ ρ _ (w.tupl hp) (.tupl hp) (.dtp (.inl ⟨ob, upd_same, hd⟩) (r.ext (.tupl hp)))
theorem Run.mk {o : Ob} {ho : HO} {p : Addr} (h : Run cn K RV (mk o m) ρ H m.n Q W) (w : RH cn K m H ρ) (hp : H p = none) (ro : RO cn K (upd H p ho) (upR ρ m.n p) (m.n + 1) p o) : Q (.ref p) (upd H p ho) := by
  unfold Mi.mk at h
  cases e : Nat.ble m.n lim with
  | false => rw [e] at h; exact h.elim
  | true =>
    rw [e] at h
    have hn := Nat.le_of_ble_eq_true e
    have q := h (upd H p ho) (upR ρ m.n p) (.ref p) (w.add hn hp ro) (.new hp)
    refine q ?_
    have : V.ref p = V.ref (upR ρ m.n p m.n) := by rw [upR_eq]
    rw [this]
    exact .loc (Nat.lt_succ_self _)
theorem Run.mkLst {xs : List Val} {vs : List V} {p : Addr} (h : Run cn K RV (Mi.mk (.lst xs) m) ρ H m.n Q W) (w : RH cn K m H ρ) (r : RVs K H ρ m.n xs vs) (hp : H p = none) : Q (.ref p) (upd H p (.lst vs)) :=
  h.mk w hp ⟨vs, upd_same, r.ext (.new hp)⟩
end
/-- an object is changed, a value goes on -/
def st (m : MH) (i : Nat) (o : Ob) (v : Val) : RE Val := .ok v (m.put i o)
end Mi

set_option Elab.async false
set_option linter.all false
set_option autoImplicit false
set_option maxRecDepth 100000
set_option maxHeartbeats 2000000
namespace Mi
open PySem PySem.Spec L2
section
variable {X : Cx} {e : Expr} {t t' : TE}
theorem pe_imp (h : PE X e t) (k : ∀ σ H Q, t' σ H Q → t σ H Q) : PE X e t' := ⟨fun pins s σ H Q I hw => h.run pins s σ H Q I (k σ H Q hw)⟩
theorem pt_imp {u u' : TT} (h : PT X e u) (k : ∀ σ H Q, u' σ H Q → u σ H Q) : PT X e u' := ⟨fun pins s σ H Q I hw => h.run pins s σ H Q I (k σ H Q hw)⟩
theorem pw_imp {u u' : TT} (h : PW X e u) (k : ∀ σ H Q, u' σ H Q → u σ H Q) : PW X e u' := ⟨fun w pins s σ H Q I hw => h.run w pins s σ H Q I (k σ H Q hw)⟩
theorem pa_imp {es : List Expr} {u u' : TA} (h : PA X es u) (k : ∀ σ H Q, u' σ H Q → u σ H Q) : PA X es u' := ⟨fun pos pins s σ H Q I hw => h.run pos pins s σ H Q I (k σ H Q hw)⟩
end
theorem RE.bind_assoc {α β γ : Type} (r : RE α) (f : α → MH → RE β) (g : β → MH → RE γ) : (r.bind f).bind g = r.bind fun a m => (f a m).bind g := by
  cases r <;> rfl
/-! ### strings -/
def leq : List Nat → List Nat → Bool
  | [], [] => true
  | a :: as, b :: bs => match Nat.beq a b with | true => leq as bs | false => false
  | _, _ => false
theorem leq_iff : ∀ as bs : List Nat, leq as bs = true ↔ as = bs
  | [], [] => by simp [leq]
  | [], b :: bs => by simp [leq]
  | a :: as, [] => by simp [leq]
  | a :: as, b :: bs => by
    unfold leq
    cases h : Nat.beq a b with
    | true =>
      have := Nat.eq_of_beq_eq_true h
      subst this
      simp [leq_iff as bs]
    | false =>
      have := Nat.ne_of_beq_eq_false h
      simp [this]
def beqS (x y : Str) : Bool := leq x.cps.toList y.cps.toList
theorem beqS_eq (x y : Str) : beqS x y = decide (x = y) := by
  have h : beqS x y = true ↔ x = y := by
    unfold beqS
    rw [leq_iff]
    constructor
    · intro h
      cases x; cases y
      simp only [Str.mk.injEq]
      exact Array.toList_inj.mp h
    · intro h; rw [h]
  by_cases e : x = y
  · rw [decide_eq_true e]; exact h.mpr e
  · rw [decide_eq_false e]
    cases q : beqS x y with
    | true => exact absurd (h.mp q) e
    | false => rfl
def flook : List (Str × Val) → Str → Option Val
  | [], _ => none
  | (g, v) :: r, f => match beqS f g with | true => some v | false => flook r f
theorem flook_eq : ∀ (fs : List (Str × Val)) (f : Str), flook fs f = fs.lookup f
  | [], _ => rfl
  | (g, v) :: r, f => by
    unfold flook
    rw [beqS_eq, List.lookup_cons, flook_eq r f]
    by_cases h : f = g
    · rw [decide_eq_true h, beq_iff_eq.mpr h]
    · rw [decide_eq_false h, beq_eq_false_iff_ne.mpr h]
theorem RFs.look {K : PySem.W.Frag} {H : Hp} {ρ : Nat → Addr} {n : Nat} : ∀ {fs : List (Str × Val)} {gs : List (Str × V)} {f : Str} {v : Val}, RFs K H ρ n fs gs → flook fs f = some v → ∃ x, gs.lookup f = some x ∧ RV K H ρ n v x := by
  intro fs
  induction fs with
  | nil => intro gs f v _ e; cases e
  | cons a r ih =>
    intro gs f v h e
    obtain ⟨h1, h2⟩ := h
    cases gs with
    | nil => cases h1
    | cons b gs =>
      obtain ⟨k, v0⟩ := a
      obtain ⟨k', x0⟩ := b
      simp only [List.map_cons, List.cons.injEq] at h1
      obtain ⟨rfl, h1⟩ := h1
      cases h2 with
      | cons r1 r2 =>
        rw [flook_eq, List.lookup_cons] at e
        rw [List.lookup_cons]
        by_cases q : f = k
        · rw [beq_iff_eq.mpr q] at e ⊢
          cases e
          exact ⟨_, rfl, r1⟩
        · rw [beq_eq_false_iff_ne.mpr q] at e ⊢
          exact ih (gs := gs) ⟨h1, r2⟩ (by rw [flook_eq]; exact e)
theorem RFs.none {K : PySem.W.Frag} {H : Hp} {ρ : Nat → Addr} {n : Nat} {fs : List (Str × Val)} {gs : List (Str × V)} {f : Str} (h : RFs K H ρ n fs gs) (e : flook fs f = none) : gs.lookup f = none := by
  induction fs generalizing gs with
  | nil =>
    cases gs with
    | nil => rfl
    | cons b gs => cases h.1
  | cons a r ih =>
    obtain ⟨h1, h2⟩ := h
    cases gs with
    | nil => cases h1
    | cons b gs =>
      obtain ⟨k, v0⟩ := a
      obtain ⟨k', x0⟩ := b
      simp only [List.map_cons, List.cons.injEq] at h1
      obtain ⟨rfl, h1⟩ := h1
      cases h2 with
      | cons r1 r2 =>
        rw [flook_eq, List.lookup_cons] at e
        rw [List.lookup_cons]
        by_cases q : f = k
        · rw [beq_iff_eq.mpr q] at e; cases e
        · rw [beq_eq_false_iff_ne.mpr q] at e ⊢
          exact ih (gs := gs) ⟨h1, r2⟩ (by rw [flook_eq]; exact e)
def fput : Str → Val → List (Str × Val) → List (Str × Val)
  | f, v, [] => [(f, v)]
  | f, v, (g, x) :: r => match beqS g f with | true => (g, v) :: r | false => (g, x) :: fput f v r
theorem RFs.put {K : PySem.W.Frag} {H : Hp} {ρ : Nat → Addr} {n : Nat} {fs : List (Str × Val)} {gs : List (Str × V)} {f : Str} {v : Val} {x : V} (h : RFs K H ρ n fs gs) (q : RV K H ρ n v x) : RFs K H ρ n (fput f v fs) (putF f x gs) := by
  induction fs generalizing gs with
  | nil =>
    cases gs with
    | nil => exact ⟨rfl, .cons q .nil⟩
    | cons b gs => cases h.1
  | cons a r ih =>
    obtain ⟨h1, h2⟩ := h
    cases gs with
    | nil => cases h1
    | cons b gs =>
      obtain ⟨k, v0⟩ := a
      obtain ⟨k', x0⟩ := b
      simp only [List.map_cons, List.cons.injEq] at h1
      obtain ⟨rfl, h1⟩ := h1
      cases h2 with
      | cons r1 r2 =>
        unfold fput putF
        rw [beqS_eq]
        by_cases z : k = f
        · rw [decide_eq_true z, if_pos z]
          exact ⟨by simp [h1], .cons q r2⟩
        · rw [decide_eq_false z, if_neg z]
          obtain ⟨i1, i2⟩ := ih (gs := gs) ⟨h1, r2⟩
          exact ⟨by simp [i1], .cons r1 i2⟩

/-! ### expressions -/
def small {α : Type} (xs : List α) : Bool := Nat.ble xs.length 1000000
theorem small_le {α : Type} {xs : List α} (h : small xs = true) : xs.length ≤ sizeLine := by
  have := Nat.le_of_ble_eq_true h
  rw [sizeLine_eq]; omega
def eVar (i : Nat) : E := fun sl m => match sl[i]? with
  | some (.v x) => .ok x m
  | _ => .fail
def eC (v : Val) : E := fun _ m => .ok v m
/-- nothing is raised -/
def nE {α : Type} (r : RE α) : RE α := match r with
  | .err _ _ => .fail
  | r => r
def eBin (op : Val → Val → MH → RE Val) (f g : E) : E := fun sl m => (f sl m).bind fun a m1 => (g sl m1).bind fun b m2 => nE (op (wk a) (wk b) m2)
def eUn (op : Val → MH → RE Val) (f : E) : E := fun sl m => (f sl m).bind fun a m1 => nE (op a m1)
def aNil : EA := fun _ m => .ok [] m
def aCons (f : E) (g : EA) : EA := fun sl m => (f sl m).bind fun x m1 => (g sl m1).bind fun xs m2 => .ok (x :: xs) m2
def eTup (f : EA) : E := fun sl m => (f sl m).bind fun xs m1 => match small xs with | true => .ok (.dtp xs) m1 | false => .fail
def eLst (f : EA) : E := fun sl m => (f sl m).bind fun xs m1 => match small xs with | true => mk (.lst xs) m1 | false => .fail
def getF (cs : List Nat) (f : Str) : Val → MH → RE Val := fun v m => match v with
  | .loc i => (match m.get i with
    | some (.ins c fs) => (match cs.any (Nat.beq c) with
      | true => (match flook fs f with
        | some v => .ok v m
        | none => .fail)
      | false => .fail)
    | _ => .fail)
  | _ => .fail
/-- truth of a value -/
def truV (v : Val) (m : MH) : Option Bool := match v with
  | .non => some false
  | .bl b => some b
  | .int i => some (i != 0)
  | .str x => (match Nat.ble x.length 1000000 with | true => some (!Nat.beq x.length 0) | false => none)
  | .tup xs => some (!xs.isEmpty)
  | .dtp xs => some (!xs.isEmpty)
  | .loc i => (match m.get i with
    | some (.lst xs) => some (!xs.isEmpty)
    | some (.dic xs) => some (!xs.isEmpty)
    | _ => none)
  | .ty _ => none
  | .klst _ => none
def tTru (f : E) : ET := fun sl m => (f sl m).bind fun v m1 => match truV v m1 with | some b => .ok b m1 | none => .fail
def tBl (f : E) : ET := fun sl m => (f sl m).bind fun v m1 => match v with | .bl b => .ok b m1 | _ => .fail
def tAnd' (f g : ET) : ET := fun sl m => (f sl m).bind fun b m1 => match b with | true => g sl m1 | false => .ok false m1
def tOr' (f g : ET) : ET := fun sl m => (f sl m).bind fun b m1 => match b with | true => .ok true m1 | false => g sl m1
def tNot' (f : ET) : ET := fun sl m => (f sl m).bind fun b m1 => .ok (!b) m1
def eAnd (f g : E) : E := fun sl m => (f sl m).bind fun v m1 => match v with | .bl true => g sl m1 | .bl false => .ok (.bl false) m1 | _ => .fail
def eOr (f g : E) : E := fun sl m => (f sl m).bind fun v m1 => match v with | .bl false => g sl m1 | .bl true => .ok (.bl true) m1 | _ => .fail
def eNot (f : E) : E := fun sl m => (f sl m).bind fun v m1 => match v with | .bl b => .ok (.bl (!b)) m1 | _ => .fail
def eIf (c : ET) (f g : E) : E := fun sl m => (c sl m).bind fun b m1 => match b with | true => f sl m1 | false => g sl m1
/-- a tuple's display, the object told: it has no own dict -/
def tTupD (t : TA) : TE := fun σ H Q => t σ H fun xs H1 => xs.length ≤ sizeLine ∧ ∀ p (ob : Obj), ob.dict = none → H1 p = none → Q (.ref p) (upd H1 p (.frz ob (.tup xs)))
theorem pe_tupD {X : Cx} {es : List Expr} {t : TA} {pos : Pos} {x1} (h : PA X es t) : PE X (.Tuple es x1 pos) (tTupD t) := by
  refine ⟨fun pins s σ H Q I hq => wpAny_Tuple_spliced (thn (h.run pos pins s σ H _ I hq) fun us s1 ⟨xs, H1, I1, r, z, q⟩ => ⟨by rw [← r.length]; exact z, ?_⟩)⟩
  have g := Heap.get?_push_size s1.heap (o := { cls := .type "tuple", data := .seq us.toArray }) rfl
  exact ⟨.ref s1.heap.objs.size, _, I1.laid (t' := s1.toks) (fun b u e => Heap.get?_push_of_some _ e) (Nat.le_refl _) (show ObjOk X.prog X.w _ _ _ (.frz _ (.tup xs)) from ⟨g, z, us, r, ⟨_, g, rfl, _, rfl⟩⟩), rfl, q _ _ rfl (I1.hok.fresh (Nat.le_refl _))⟩
section
variable {cn : CN} {X : Cx} {W : WX} {a b c e : Expr} {es : List Expr} {f g : E} {h : EA} {pos : Pos}
theorem me_var {i : Nat} {x : Str} (hN : X.N[i]? = some x) (hv : Vis X.env.scope x) (hd : (x == ("__debug__" : Str)) = false := by decide) (hcd : (x == ("__classdict__" : Str)) = false := by decide) : PE X (.Name x pos) (TE' cn X.K W (eVar i)) := by
  refine pe_imp (pe_var hN hv hd hcd) fun σ H Q ⟨sl, m, ρ, w, r⟩ => ?_
  unfold eVar at r
  cases q : sl[i]? with
  | none => rw [q] at r; exact r.elim
  | some z =>
    rw [q] at r
    cases z with
    | v x =>
      obtain ⟨v, h1, h2⟩ := w.slo i x q
      exact ⟨v, h1, r.val w.h h2⟩
    | no => exact r.elim
    | ex e => exact r.elim
theorem me_c {v : Val} {x : V} (h : PE X e (tC x)) (r0 : ∀ K H ρ n, RV K H ρ n v x) : PE X e (TE' cn X.K W (eC v)) :=
  pe_imp h fun σ H Q ⟨sl, m, ρ, w, r⟩ => Run.val r w.h (r0 _ _ _ _)
theorem me_int {i : Int} {j} : PE X (.Constant (.int i) j pos) (TE' cn X.K W (eC (.int i))) := me_c pe_int fun _ _ _ _ => .int i
theorem me_bl {i : Bool} {j} : PE X (.Constant (.bool i) j pos) (TE' cn X.K W (eC (.bl i))) := me_c pe_bl fun _ _ _ _ => .bl i
theorem me_non {j} : PE X (.Constant .none j pos) (TE' cn X.K W (eC .non)) := me_c pe_non fun _ _ _ _ => .non
theorem me_str {x y : Str} {j} (q : x = y) : PE X (.Constant (.str x) j pos) (TE' cn X.K W (eC (.str y))) := by subst q; exact me_c pe_str fun _ _ _ _ => .str x
/-- a constant of the module -/
theorem me_glob {x : Str} {v : Val} {z : V} {u : Value} (hg : Gl X x) (hm : X.mg x = some u) (r : RelV z u) (r0 : ∀ H ρ n, RV X.K H ρ n v z) (hd : (x == ("__debug__" : Str)) = false := by decide) : PE X (.Name x pos) (TE' cn X.K W (eC v)) :=
  pe_imp (pe_glob hg hm r hd) fun σ H Q ⟨sl, m, ρ, w, r⟩ => Run.val r w.h (r0 _ _ _)
theorem ma_nil : PA X [] (TA' cn X.K W aNil) := pa_imp pa_nil fun σ H Q ⟨sl, m, ρ, w, r⟩ => r H ρ [] w.h .refl .nil
theorem ma_cons (ha : PE X e (TE' cn X.K W f)) (hr : PA X es (TA' cn X.K W h)) (hs : starEach (e :: es) X.env = (false, eval e X.env) :: starEach es X.env := by rfl) : PA X (e :: es) (TA' cn X.K W (aCons f h)) := by
  refine pa_imp (pa_cons ha hr hs) fun σ H Q ⟨sl, m, ρ, w, r⟩ => ?_
  refine TM.bind w r fun y H1 ρ1 m1 a w1 e1 r1 q => ?_
  refine TM.bind w1 q fun ys H2 ρ2 m2 b w2 e2 r2 q => ?_
  exact q H2 ρ2 _ w2.h .refl (.cons (r1.ext e2) r2)
theorem me_tup {x1} (ha : PA X es (TA' cn X.K W h)) : PE X (.Tuple es x1 pos) (TE' cn X.K W (eTup h)) := by
  refine pe_imp (pe_tupD ha) fun σ H Q ⟨sl, m, ρ, w, r⟩ => ?_
  refine TM.bind w r fun ys H1 ρ1 m1 xs w1 e1 r1 q => ?_
  cases z : small xs with
  | false => rw [z] at q; exact q.elim
  | true =>
    rw [z] at q
    exact ⟨by rw [← r1.length]; exact small_le z, fun p ob hd hp => q.newDtp w1.h r1 hp hd⟩
theorem me_lst (ha : PA X es (TA' cn X.K W h)) : PE X (.List es pos) (TE' cn X.K W (eLst h)) := by
  refine pe_imp (pe_lst ha) fun σ H Q ⟨sl, m, ρ, w, r⟩ => ?_
  refine TM.bind w r fun ys H1 ρ1 m1 xs w1 e1 r1 q => ?_
  cases z : small xs with
  | false => rw [z] at q; exact q.elim
  | true =>
    rw [z] at q
    exact ⟨by rw [← r1.length]; exact small_le z, fun p hp => q.mkLst w1.h r1 hp⟩

/-! ### operators -/
/-- a two-place operation's reading by values -/
def rM (cn : CN) (K : PySem.W.Frag) (op : Val → Val → MH → RE Val) : R2 := fun x y H Q => ∃ a b m ρ, RH cn K m H ρ ∧ RV K H ρ m.n a x ∧ RV K H ρ m.n b y ∧ Run cn K RV (op a b m) ρ H m.n Q (fun _ _ _ => False)
def rM1 (cn : CN) (K : PySem.W.Frag) (op : Val → MH → RE Val) : V → Hp → VK → Prop := fun x H Q => ∃ a m ρ, RH cn K m H ρ ∧ RV K H ρ m.n a x ∧ Run cn K RV (op a m) ρ H m.n Q (fun _ _ _ => False)
theorem Run.nE {α β : Type} {K : PySem.W.Frag} {R : Rl α β} {r : RE α} {ρ : Nat → Addr} {H : Hp} {n : Nat} {Q : β → Hp → Prop} {W W' : XK} (h : Run cn K R (nE r) ρ H n Q W) : Run cn K R r ρ H n Q W' := by
  cases r with
  | ok v m => exact h
  | err e m => exact h.elim
  | fail => exact h
theorem me_op {op : Operator} {o : Val → Val → MH → RE Val} (ho : OpR X (binaryOp op) (rM cn X.K o)) (ha : PE X a (TE' cn X.K W f)) (hb : PE X b (TE' cn X.K W g)) : PE X (.BinOp a op b pos) (TE' cn X.K W (eBin o f g)) := by
  refine pe_imp (pe_op ho ha hb) fun σ H Q ⟨sl, m, ρ, w, r⟩ => ?_
  refine TM.bind w r fun x H1 ρ1 m1 u w1 e1 r1 q => ?_
  refine TM.bind w1 q fun y H2 ρ2 m2 v w2 e2 r2 q => ?_
  exact ⟨wk u, wk v, m2, ρ2, w2.h, (r1.ext e2).wk, r2.wk, q.nE⟩
theorem me_cmp {op : CmpOp} {o : Val → Val → MH → RE Val} (ho : OpR X (compareOp op) (rM cn X.K o)) (ha : PE X a (TE' cn X.K W f)) (hb : PE X b (TE' cn X.K W g)) (hm : behindInMarks op b = false := by rfl) : PE X (.Compare a [op] [b] pos) (TE' cn X.K W (eBin o f g)) := by
  refine pe_imp (pe_cmpR ho ha hb hm) fun σ H Q ⟨sl, m, ρ, w, r⟩ => ?_
  refine TM.bind w r fun x H1 ρ1 m1 u w1 e1 r1 q => ?_
  refine TM.bind w1 q fun y H2 ρ2 m2 v w2 e2 r2 q => ?_
  exact ⟨wk u, wk v, m2, ρ2, w2.h, (r1.ext e2).wk, r2.wk, q.nE⟩
theorem me_un {op : UnaryOp} {o : Val → MH → RE Val} (ho : UnR X (unaryOp op) (rM1 cn X.K o)) (ha : PE X a (TE' cn X.K W f)) : PE X (.UnaryOp op a pos) (TE' cn X.K W (eUn o f)) := by
  refine pe_imp (pe_un ho ha) fun σ H Q ⟨sl, m, ρ, w, r⟩ => ?_
  refine TM.bind w r fun x H1 ρ1 m1 u w1 e1 r1 q => ?_
  exact ⟨u, m1, ρ1, w1.h, r1, q.nE⟩
theorem me_ix {o : Val → Val → MH → RE Val} (ho : IxR X (rM cn X.K o)) (ha : PE X a (TE' cn X.K W f)) (hb : PE X b (TE' cn X.K W g)) (hs : PlainIx b) : PE X (.Subscript a b pos) (TE' cn X.K W (eBin o f g)) := by
  refine pe_imp (pe_ix ho ha hb hs) fun σ H Q ⟨sl, m, ρ, w, r⟩ => ?_
  refine TM.bind w r fun x H1 ρ1 m1 u w1 e1 r1 q => ?_
  refine TM.bind w1 q fun y H2 ρ2 m2 v w2 e2 r2 q => ?_
  exact ⟨wk u, wk v, m2, ρ2, w2.h, (r1.ext e2).wk, r2.wk, q.nE⟩

/-! ### fields -/
/-- the classes cs have the field f -/
def Fld (cn : CN) (K : PySem.W.Frag) (cs : List Nat) (f : Str) : Prop := ∀ c, cs.any (Nat.beq c) = true → Cls K (He.ga K (cn c)) ∧ NoAttr K (He.ga K (cn c)) f
theorem me_fld {x : Str} {cs : List Nat} {y : Str} (q : x = y) (hf : Fld cn X.K cs x) (he : PE X e (TE' cn X.K W f)) (hb : attributeBase e x X.env (eval e X.env) = eval e X.env := by rfl) : PE X (.Attribute e x pos) (TE' cn X.K W (eUn (getF cs y) f)) := by
  subst q
  refine pe_imp (pe_fld he hb) fun σ H Q ⟨sl, m, ρ, w, r⟩ => ?_
  refine TM.bind w r fun v H1 ρ1 m1 u w1 e1 r1 q => ?_
  cases r1 with
  | loc hi =>
    rename_i i
    have q := Run.nE (W' := fun c d H' => W c d σ H') q
    unfold getF at q
    cases z : m1.get i with
    | none => simp only [z] at q; exact q.elim
    | some o =>
      cases o with
      | ins c fs =>
        simp only [z] at q
        cases hcs : cs.any (Nat.beq c) with
        | false => rw [hcs] at q; exact q.elim
        | true =>
          rw [hcs] at q
          cases hl : flook fs x with
          | none => simp only [hl] at q; exact q.elim
          | some u =>
            simp only [hl] at q
            obtain ⟨_, dx, gs, h1, h2⟩ := w1.h.obj i _ z
            obtain ⟨x', h3, h4⟩ := h2.look hl
            obtain ⟨k1, k2⟩ := hf c hcs
            exact ⟨_, _, dx, gs, x', rfl, h1, k1, k2, h3, q.val w1.h h4⟩
      | lst xs => simp only [z] at q; exact q.elim
      | rol xs => simp only [z] at q; exact q.elim
      | dic xs => simp only [z] at q; exact q.elim
  | _ => exact (Run.nE (W' := fun _ _ _ => True) q).elim

/-! ### tests -/
theorem RV.tru {K : PySem.W.Frag} {H : Hp} {ρ : Nat → Addr} {m : MH} {v : Val} {x : V} {k : Bool} (w : RH cn K m H ρ) (r : RV K H ρ m.n v x) (h : truV v m = some k) : TruV K x H k := by
  cases r with
  | non => cases h; rfl
  | bl b => cases h; rfl
  | int i => cases h; rfl
  | str x =>
    unfold truV at h
    cases z : Nat.ble x.length 1000000 with
    | false => simp only [z] at h; cases h
    | true =>
      simp only [z] at h
      cases h
      refine ⟨by have := Nat.le_of_ble_eq_true z; rw [sizeLine_eq]; omega, ?_⟩
      cases q : Nat.beq x.length 0 with
      | true => have := Nat.eq_of_beq_eq_true q; simp [this]
      | false =>
        have := Nat.ne_of_beq_eq_false q
        have h : ((x.length : Int) != 0) = true := by simp; omega
        rw [h]; rfl
  | ty x => cases h
  | klst _ _ => cases h
  | tup hs rs =>
    rename_i xs vs
    cases h
    refine .inr (.inl ⟨vs, hs, ?_⟩)
    cases rs <;> rfl
  | dtp hs rs =>
    rename_i xs vs
    cases h
    refine .inr (.inl ⟨vs, hs.t, ?_⟩)
    cases rs <;> rfl
  | loc hi =>
    rename_i i
    unfold truV at h
    cases z : m.get i with
    | none => simp only [z] at h; cases h
    | some o =>
      obtain ⟨_, ro⟩ := w.obj i o z
      cases o with
      | lst xs =>
        simp only [z] at h; cases h
        obtain ⟨vs, h1, h2⟩ := ro
        refine .inl ⟨vs, SqL.of h1, ?_⟩
        cases h2 <;> rfl
      | dic xs =>
        simp only [z] at h; cases h
        obtain ⟨gs, h1, h2, h3⟩ := ro
        refine .inr (.inr ⟨gs, h1, ?_⟩)
        cases gs with
        | nil => cases xs with | nil => rfl | cons _ _ => cases h2
        | cons _ _ => cases xs with | nil => cases h2 | cons _ _ => rfl
      | rol xs => simp only [z] at h; cases h
      | ins c fs => simp only [z] at h; cases h
theorem mt_tru (ha : PE X a (TE' cn X.K W f)) (he : ∀ whole, isTrue a X.env whole = (do let v ← whole; standAt a.pos; holding [v] (truthy v)) := by intro _; rfl) : PT X a (TT' cn X.K W (tTru f)) := by
  refine pt_imp (pt_truth ha he) fun σ H Q ⟨sl, m, ρ, w, r⟩ => ?_
  refine TM.bind w r fun v H1 ρ1 m1 u w1 e1 r1 q => ?_
  cases z : truV u m1 with
  | none => simp only [z] at q; exact q.elim
  | some k =>
    simp only [z] at q
    exact ⟨k, r1.tru w1.h z, q H1 ρ1 k w1.h .refl rfl⟩
theorem mt_bl (ha : PE X a (TE' cn X.K W f)) (he : ∀ whole, isTrue a X.env whole = (do let v ← whole; standAt a.pos; holding [v] (truthy v)) := by intro _; rfl) : PT X a (TT' cn X.K W (tBl f)) := by
  refine pt_imp (pt_val ha he) fun σ H Q ⟨sl, m, ρ, w, r⟩ => ?_
  refine TM.bind w r fun v H1 ρ1 m1 u w1 e1 r1 q => ?_
  cases r1 with
  | bl k => exact ⟨k, rfl, q H1 ρ1 k w1.h .refl rfl⟩
  | _ => exact q.elim
/-- a comparison as a test -/
theorem mt_cmp {op : CmpOp} {o : Val → Val → MH → RE Val} (ho : OpR X (compareOp op) (rM cn X.K o)) (ha : PE X a (TE' cn X.K W f)) (hb : PE X b (TE' cn X.K W g)) (hm : behindInMarks op b = false := by rfl) : PT X (.Compare a [op] [b] pos) (TT' cn X.K W (tBl (eBin o f g))) := by
  refine pt_imp (pt_cmpR ho ha hb hm) fun σ H Q ⟨sl, m, ρ, w, r⟩ => ?_
  have r' : Run cn X.K RBo ((f sl m).bind fun a m1 => (g sl m1).bind fun b m2 => (nE (o (wk a) (wk b) m2)).bind fun v m3 => match v with | .bl b => .ok b m3 | _ => .fail) ρ H m.n Q (fun c d H' => W c d σ H') := by
    have e : tBl (eBin o f g) sl m = ((f sl m).bind fun a m1 => (g sl m1).bind fun b m2 => (nE (o (wk a) (wk b) m2)).bind fun v m3 => match v with | .bl b => .ok b m3 | _ => .fail) := by
      unfold tBl eBin
      rw [RE.bind_assoc]
      refine congrArg (RE.bind _) (funext fun u => funext fun m1 => ?_)
      rw [RE.bind_assoc]
    rw [← e]; exact r
  refine TM.bind w r' fun x H1 ρ1 m1 u w1 e1 r1 q => ?_
  refine TM.bind w1 q fun y H2 ρ2 m2 v w2 e2 r2 q => ?_
  refine ⟨wk u, wk v, m2, ρ2, w2.h, (r1.ext e2).wk, r2.wk, (q.bind (R1 := RV)).nE |>.post fun z H3 ⟨ρ3, m3, z', w3, e3, r3, q3⟩ => ?_⟩
  cases r3 with
  | bl k => exact ⟨k, rfl, q3 H3 ρ3 k w3 .refl rfl⟩
  | _ => exact q3.elim
variable {tf tg : ET} {rest : List Expr}
theorem mw_and1 (ha : PT X a (TT' cn X.K W tf)) : PW X (.BoolOp .And [a] pos) (TT' cn X.K W tf) := pw_and1 ha
theorem mw_or1 (ha : PT X a (TT' cn X.K W tf)) : PW X (.BoolOp .Or [a] pos) (TT' cn X.K W tf) := pw_or1 ha
theorem mw_and (ha : PT X a (TT' cn X.K W tf)) (hb : PW X (.BoolOp .And (b :: rest) pos) (TT' cn X.K W tg)) : PW X (.BoolOp .And (a :: b :: rest) pos) (TT' cn X.K W (tAnd' tf tg)) := by
  refine pw_imp (pw_and ha hb) fun σ H Q ⟨sl, m, ρ, w, r⟩ => ?_
  refine TM.bind w r fun c H1 ρ1 m1 u w1 e1 r1 q => ?_
  cases (show u = c from r1)
  cases c with
  | true => rw [if_pos rfl]; exact ⟨sl, m1, ρ1, w1, q⟩
  | false => rw [if_neg Bool.false_ne_true]; exact q H1 ρ1 false w1.h .refl rfl
theorem mw_or (ha : PT X a (TT' cn X.K W tf)) (hb : PW X (.BoolOp .Or (b :: rest) pos) (TT' cn X.K W tg)) : PW X (.BoolOp .Or (a :: b :: rest) pos) (TT' cn X.K W (tOr' tf tg)) := by
  refine pw_imp (pw_or ha hb) fun σ H Q ⟨sl, m, ρ, w, r⟩ => ?_
  refine TM.bind w r fun c H1 ρ1 m1 u w1 e1 r1 q => ?_
  cases (show u = c from r1)
  cases c with
  | true => rw [if_pos rfl]; exact q H1 ρ1 true w1.h .refl rfl
  | false => rw [if_neg Bool.false_ne_true]; exact ⟨sl, m1, ρ1, w1, q⟩
theorem mt_not (ha : PT X a (TT' cn X.K W tf)) : PT X (.UnaryOp .Not a pos) (TT' cn X.K W (tNot' tf)) := by
  refine pt_imp (pt_not ha) fun σ H Q ⟨sl, m, ρ, w, r⟩ => ?_
  refine TM.bind w r fun c H1 ρ1 m1 u w1 e1 r1 q => ?_
  cases (show u = c from r1)
  exact q H1 ρ1 _ w1.h .refl rfl
theorem me_one {op} (h : PE X a (TE' cn X.K W f)) : PE X (.BoolOp op [a] pos) (TE' cn X.K W f) := pe_one h
theorem me_and (ha : PE X a (TE' cn X.K W f)) (hb : PE X (.BoolOp .And (b :: rest) pos) (TE' cn X.K W g)) : PE X (.BoolOp .And (a :: b :: rest) pos) (TE' cn X.K W (eAnd f g)) := by
  refine pe_imp (pe_and ha hb) fun σ H Q ⟨sl, m, ρ, w, r⟩ => ?_
  refine TM.bind w r fun c H1 ρ1 m1 u w1 e1 r1 q => ?_
  cases r1 with
  | bl k =>
    refine ⟨k, rfl, ?_⟩
    cases k with
    | true => rw [if_pos rfl]; exact ⟨sl, m1, ρ1, w1, q⟩
    | false => rw [if_neg Bool.false_ne_true]; exact q.val w1.h (.bl _)
  | _ => exact q.elim
theorem me_or (ha : PE X a (TE' cn X.K W f)) (hb : PE X (.BoolOp .Or (b :: rest) pos) (TE' cn X.K W g)) : PE X (.BoolOp .Or (a :: b :: rest) pos) (TE' cn X.K W (eOr f g)) := by
  refine pe_imp (pe_or ha hb) fun σ H Q ⟨sl, m, ρ, w, r⟩ => ?_
  refine TM.bind w r fun c H1 ρ1 m1 u w1 e1 r1 q => ?_
  cases r1 with
  | bl k =>
    refine ⟨k, rfl, ?_⟩
    cases k with
    | true => rw [if_pos rfl]; exact q.val w1.h (.bl _)
    | false => rw [if_neg Bool.false_ne_true]; exact ⟨sl, m1, ρ1, w1, q⟩
  | _ => exact q.elim
theorem me_not (ha : PE X a (TE' cn X.K W f)) : PE X (.UnaryOp .Not a pos) (TE' cn X.K W (eNot f)) := by
  refine pe_imp (pe_not ha) fun σ H Q ⟨sl, m, ρ, w, r⟩ => ?_
  refine TM.bind w r fun c H1 ρ1 m1 u w1 e1 r1 q => ?_
  cases r1 with
  | bl k => exact ⟨k, rfl, q.val w1.h (.bl _)⟩
  | _ => exact q.elim
theorem me_if (hc : PT X c (TT' cn X.K W tf)) (ha : PE X a (TE' cn X.K W f)) (hb : PE X b (TE' cn X.K W g)) : PE X (.IfExp c a b pos) (TE' cn X.K W (eIf tf f g)) := by
  refine pe_imp (pe_ifExp hc ha hb) fun σ H Q ⟨sl, m, ρ, w, r⟩ => ?_
  refine TM.bind w r fun c H1 ρ1 m1 u w1 e1 r1 q => ?_
  cases (show u = c from r1)
  cases c with
  | true => rw [if_pos rfl]; exact ⟨sl, m1, ρ1, w1, q⟩
  | false => rw [if_neg Bool.false_ne_true]; exact ⟨sl, m1, ρ1, w1, q⟩
end
end Mi

set_option Elab.async false
set_option linter.all false
set_option autoImplicit false
set_option maxRecDepth 100000
set_option maxHeartbeats 2000000
namespace Mi
open PySem PySem.Spec L2
/-! ### operators by values -/
def within64 (i : Int) : Bool := Nat.ble i.natAbs 18446744073709551615
theorem within64_ok {i : Int} (h : within64 i = true) : -(2 ^ 64) < i ∧ i < 2 ^ 64 := by
  have := Nat.le_of_ble_eq_true h
  omega
def oAdd : Val → Val → MH → RE Val := fun a b m => match a, b with
  | .int i, .int j => .ok (.int (i + j)) m
  | .str x, .str y => (match Nat.ble (x.length + y.length) 1000000 with | true => .ok (.str (x ++ y)) m | false => .fail)
  | .tup xs, .tup ys => (match Nat.ble (xs.length + ys.length) 1000000 with | true => .ok (.tup (xs ++ ys)) m | false => .fail)
  | .loc i, .loc j => (match m.get i, m.get j with
    | some (.lst xs), some (.lst ys) => (match Nat.ble (xs.length + ys.length) 1000000 with | true => mk (.lst (xs ++ ys)) m | false => .fail)
    | _, _ => .fail)
  | _, _ => .fail
def oSub : Val → Val → MH → RE Val := fun a b m => match a, b with
  | .int i, .int j => .ok (.int (i - j)) m
  | _, _ => .fail
def oMul : Val → Val → MH → RE Val := fun a b m => match a, b with
  | .int i, .int j => (match within64 i || within64 j with | true => .ok (.int (i * j)) m | false => .fail)
  | _, _ => .fail
def oMod : Val → Val → MH → RE Val := fun a b m => match a, b with
  | .int i, .int j => (match decide (0 < j) with | true => .ok (.int (i % j)) m | false => .fail)
  | _, _ => .fail
def oDiv : Val → Val → MH → RE Val := fun a b m => match a, b with
  | .int i, .int j => (match decide (0 < j) && decide (j < 1073741824) with | true => .ok (.int (i / j)) m | false => .fail)
  | _, _ => .fail
def oPow : Val → Val → MH → RE Val := fun a b m => match a, b with
  | .int i, .int j => (match decide (0 ≤ j) && decide (j ≤ 1000) && Nat.ble i.natAbs 1000000 with | true => .ok (.int (i ^ j.toNat)) m | false => .fail)
  | _, _ => .fail
def oNeg : Val → MH → RE Val := fun a m => match a with
  | .int i => .ok (.int (-i)) m
  | _ => .fail
section
variable {cn : CN} {X : Cx}
theorem RV.tupL {K : PySem.W.Frag} {H : Hp} {ρ : Nat → Addr} {n : Nat} {xs : List Val} {y : V} (r : RV K H ρ n (.tup xs) y) : ∃ p vs, y = .ref p ∧ SqT K H p vs ∧ RVs K H ρ n xs vs := by
  cases r with
  | tup h1 h2 => exact ⟨_, _, rfl, h1, h2⟩
theorem RV.locL {K : PySem.W.Frag} {H : Hp} {ρ : Nat → Addr} {n i : Nat} {y : V} (r : RV K H ρ n (.loc i) y) : y = .ref (ρ i) ∧ i < n := by
  cases r with
  | loc h => exact ⟨rfl, h⟩
theorem m_add : OpR X (binaryOp .Add) (rM cn X.K oAdd) := by
  intro pins s σ H x y v u Q I rx ry ⟨a, b, m, ρ, w, ra, rb, q⟩
  cases a with
  | int i =>
    cases b with
    | int j => cases ra; cases rb; exact op_add pins s σ H _ _ v u Q I rx ry ⟨i, j, rfl, rfl, q.val w (.int _)⟩
    | _ => exact q.elim
  | str i =>
    cases b with
    | str j =>
      cases ra; cases rb
      unfold oAdd at q
      cases z : Nat.ble (i.length + j.length) 1000000 with
      | false => simp only [z] at q; exact q.elim
      | true =>
        simp only [z] at q
        exact op_add_str pins s σ H _ _ v u Q I rx ry ⟨i, j, rfl, rfl, by have := Nat.le_of_ble_eq_true z; rw [sizeLine_eq]; omega, q.val w (.str _)⟩
    | _ => exact q.elim
  | tup xs =>
    cases b with
    | tup ys =>
      obtain ⟨p1, vs, rfl, s1, r1⟩ := ra.tupL
      obtain ⟨p2, ws, rfl, s2, r2⟩ := rb.tupL
      unfold oAdd at q
      cases z : Nat.ble (xs.length + ys.length) 1000000 with
      | false => simp only [z] at q; exact q.elim
      | true =>
        simp only [z] at q
        have l1 := r1.length
        have l2 := r2.length
        refine op_catA pins s σ H _ _ v u Q I rx ry ⟨p1, p2, vs, ws, rfl, rfl, s1, s2, by have := Nat.le_of_ble_eq_true z; rw [sizeLine_eq]; omega, ?_, ?_, ?_⟩
        · intro e
          subst e
          cases r1
          exact q.val w rb
        · intro _ e
          subst e
          cases r2
          rw [List.append_nil] at q
          exact q.val w ra
        · intro _ _ p hp
          exact q.newTup w (r1.append r2) hp
    | _ => exact q.elim
  | loc i =>
    cases b with
    | loc j =>
      obtain ⟨rfl, hi⟩ := ra.locL
      obtain ⟨rfl, hj⟩ := rb.locL
      unfold oAdd at q
      cases e1 : m.get i with
      | none => simp only [e1] at q; exact q.elim
      | some o1 =>
        cases e2 : m.get j with
        | none => simp only [e1, e2] at q; cases o1 <;> exact q.elim
        | some o2 =>
          simp only [e1, e2] at q
          cases o1 with
          | lst xs =>
            cases o2 with
            | lst ys =>
              obtain ⟨_, vs, h1, r1⟩ := w.obj i _ e1
              obtain ⟨_, ws, h2, r2⟩ := w.obj j _ e2
              have l1 := r1.length
              have l2 := r2.length
              dsimp only at q
              cases z : Nat.ble (xs.length + ys.length) 1000000 with
              | false => simp only [z] at q; exact q.elim
              | true =>
                simp only [z] at q
                exact op_cat pins s σ H _ _ v u Q I rx ry ⟨ρ i, ρ j, vs, ws, rfl, rfl, h1, h2, by have := Nat.le_of_ble_eq_true z; rw [sizeLine_eq]; omega, fun p hp => q.mkLst w (r1.append r2) hp⟩
            | _ => exact q.elim
          | _ => cases o2 <;> exact q.elim
    | _ => exact q.elim
  | _ => cases b <;> exact q.elim
theorem m_sub : OpR X (binaryOp .Sub) (rM cn X.K oSub) := by
  intro pins s σ H x y v u Q I rx ry ⟨a, b, m, ρ, w, ra, rb, q⟩
  cases a with
  | int i =>
    cases b with
    | int j => cases ra; cases rb; exact op_sub pins s σ H _ _ v u Q I rx ry ⟨i, j, rfl, rfl, q.val w (.int _)⟩
    | _ => exact q.elim
  | _ => cases b <;> exact q.elim
theorem m_mul : OpR X (binaryOp .Mult) (rM cn X.K oMul) := by
  intro pins s σ H x y v u Q I rx ry ⟨a, b, m, ρ, w, ra, rb, q⟩
  cases a with
  | int i =>
    cases b with
    | int j =>
      cases ra; cases rb
      unfold oMul at q
      cases z : within64 i || within64 j with
      | false => simp only [z] at q; exact q.elim
      | true =>
        simp only [z] at q
        refine op_mul pins s σ H _ _ v u Q I rx ry ⟨i, j, rfl, rfl, ?_, q.val w (.int _)⟩
        rcases Bool.or_eq_true_iff.mp z with z | z
        · exact .inl (within64_ok z)
        · exact .inr (within64_ok z)
    | _ => exact q.elim
  | _ => cases b <;> exact q.elim
theorem m_mod : OpR X (binaryOp .Mod) (rM cn X.K oMod) := by
  intro pins s σ H x y v u Q I rx ry ⟨a, b, m, ρ, w, ra, rb, q⟩
  cases a with
  | int i =>
    cases b with
    | int j =>
      cases ra; cases rb
      unfold oMod at q
      cases z : decide (0 < j) with
      | false => simp only [z] at q; exact q.elim
      | true =>
        simp only [z] at q
        exact op_mod pins s σ H _ _ v u Q I rx ry ⟨i, j, rfl, rfl, of_decide_eq_true z, q.val w (.int _)⟩
    | _ => exact q.elim
  | _ => cases b <;> exact q.elim
theorem m_div : OpR X (binaryOp .FloorDiv) (rM cn X.K oDiv) := by
  intro pins s σ H x y v u Q I rx ry ⟨a, b, m, ρ, w, ra, rb, q⟩
  cases a with
  | int i =>
    cases b with
    | int j =>
      cases ra; cases rb
      unfold oDiv at q
      cases z : decide (0 < j) && decide (j < 1073741824) with
      | false => simp only [z] at q; exact q.elim
      | true =>
        simp only [z] at q
        obtain ⟨z1, z2⟩ := Bool.and_eq_true_iff.mp z
        exact op_fdiv pins s σ H _ _ v u Q I rx ry ⟨i, j, rfl, rfl, ⟨of_decide_eq_true z1, of_decide_eq_true z2⟩, q.val w (.int _)⟩
    | _ => exact q.elim
  | _ => cases b <;> exact q.elim
theorem m_pow : OpR X (binaryOp .Pow) (rM cn X.K oPow) := by
  intro pins s σ H x y v u Q I rx ry ⟨a, b, m, ρ, w, ra, rb, q⟩
  cases a with
  | int i =>
    cases b with
    | int j =>
      cases ra; cases rb
      unfold oPow at q
      cases z : decide (0 ≤ j) && decide (j ≤ 1000) && Nat.ble i.natAbs 1000000 with
      | false => simp only [z] at q; exact q.elim
      | true =>
        simp only [z] at q
        obtain ⟨z1, z3⟩ := Bool.and_eq_true_iff.mp z
        obtain ⟨z1, z2⟩ := Bool.and_eq_true_iff.mp z1
        have h1 := of_decide_eq_true z1
        have h2 := of_decide_eq_true z2
        have h3 := Nat.le_of_ble_eq_true z3
        exact op_pow pins s σ H _ _ v u Q I rx ry ⟨i, j, rfl, rfl, ⟨h1, by omega, by omega⟩, q.val w (.int _)⟩
    | _ => exact q.elim
  | _ => cases b <;> exact q.elim
theorem m_neg : UnR X (unaryOp .USub) (rM1 cn X.K oNeg) := by
  intro pins s σ H x v Q I rx ⟨a, m, ρ, w, ra, q⟩
  cases a with
  | int i => cases ra; exact un_neg pins s σ H _ v Q I rx ⟨i, rfl, q.val w (.int _)⟩
  | _ => exact q.elim
end
end Mi

set_option Elab.async false
set_option linter.all false
set_option autoImplicit false
set_option maxRecDepth 100000
set_option maxHeartbeats 2000000
namespace Mi
open PySem PySem.Spec L2
/-! ### data at any depth -/
mutual
def toD (m : MH) : Nat → Val → Option PyData
  | 0, _ => none
  | n + 1, v => match v with
    | .non => some .none
    | .bl b => some (.bool b)
    | .int i => some (.int i)
    | .str x => some (.str x)
    | .tup xs => (match toDs m n xs with
      | some ds => some (.tuple ds)
      | none => none)
    | .dtp xs => (match toDs m n xs with
      | some ds => some (.tuple ds)
      | none => none)
    | .loc i => (match m.get i with
      | some (.lst xs) => (match toDs m n xs with
        | some ds => some (.list ds)
        | none => none)
      | some (.rol xs) => (match toDs m n xs with
        | some ds => some (.list ds)
        | none => none)
      | _ => none)
    | .ty _ => none
    | .klst _ => none
def toDs (m : MH) : Nat → List Val → Option (List PyData)
  | 0, _ => none
  | n + 1, vs => match vs with
    | [] => some []
    | v :: vs => (match toD m n v with
      | some d => (match toDs m n vs with
        | some ds => some (d :: ds)
        | none => none)
      | none => none)
end
section
variable {cn : CN} {K : PySem.W.Frag} {H : Hp} {ρ : Nat → Addr} {m : MH}
theorem toD_dp (w : RH cn K m H ρ) : ∀ (n : Nat), (∀ (v : Val) (x : V) (d : PyData), toD m n v = some d → RV K H ρ m.n v x → Dp K H x d) ∧ (∀ (vs : List Val) (xs : List V) (ds : List PyData), toDs m n vs = some ds → RVs K H ρ m.n vs xs → DpAll K H xs ds)
  | 0 => ⟨fun _ _ _ h _ => (by cases h), fun _ _ _ h _ => (by cases h)⟩
  | n + 1 => by
    obtain ⟨ih1, ih2⟩ := toD_dp w n
    refine ⟨fun v x d h r => ?_, fun vs xs ds h r => ?_⟩
    · cases r with
      | non => cases h; exact .non
      | bl b => cases h; exact .bl b
      | int i => cases h; exact .int i
      | str x => cases h; exact .str x
      | ty x => cases h
      | klst _ _ => cases h
      | tup hs rs =>
        rename_i p ys vs
        have h : (match toDs m n ys with | some ds => some (PyData.tuple ds) | none => none) = some d := h
        cases e : toDs m n ys with
        | none => rw [e] at h; cases h
        | some ds => rw [e] at h; cases h; exact .tup hs (ih2 _ _ _ e rs)
      | dtp hs rs =>
        rename_i p ys vs
        have h : (match toDs m n ys with | some ds => some (PyData.tuple ds) | none => none) = some d := h
        cases e : toDs m n ys with
        | none => rw [e] at h; cases h
        | some ds => rw [e] at h; cases h; exact .tup hs.t (ih2 _ _ _ e rs)
      | loc hi =>
        rename_i i
        have h : (match m.get i with
          | some (.lst xs) => (match toDs m n xs with | some ds => some (PyData.list ds) | none => none)
          | some (.rol xs) => (match toDs m n xs with | some ds => some (PyData.list ds) | none => none)
          | _ => none) = some d := h
        cases e1 : m.get i with
        | none => rw [e1] at h; cases h
        | some o =>
          obtain ⟨_, ro⟩ := w.obj i o e1
          rw [e1] at h
          cases o with
          | lst ys =>
            obtain ⟨vs, h1, rs⟩ := ro
            dsimp only at h
            cases e : toDs m n ys with
            | none => rw [e] at h; cases h
            | some ds => rw [e] at h; cases h; exact .lst (SqL.of h1) (ih2 _ _ _ e rs)
          | rol ys =>
            obtain ⟨vs, h1, rs⟩ := ro
            dsimp only at h
            cases e : toDs m n ys with
            | none => rw [e] at h; cases h
            | some ds => rw [e] at h; cases h; exact .lst (.inl h1) (ih2 _ _ _ e rs)
          | _ => cases h
    · cases r with
      | nil => cases h; exact .nil
      | cons r1 r2 =>
        rename_i v x vs xs
        have h : (match toD m n v with | some d => (match toDs m n vs with | some ds => some (d :: ds) | none => none) | none => none) = some ds := h
        cases e1 : toD m n v with
        | none => rw [e1] at h; cases h
        | some d =>
          rw [e1] at h
          dsimp only at h
          cases e2 : toDs m n vs with
          | none => rw [e2] at h; cases h
          | some ds' => rw [e2] at h; cases h; exact .cons (ih1 _ _ _ e1 r1) (ih2 _ _ _ e2 r2)
end
def deepFuel : Nat := 600
/-- data that may be compared -/
def dataOf (m : MH) (v : Val) : Option PyData := match toD m deepFuel v with
  | some d => (match d.canLay0 with
    | true => some d
    | false => none)
  | none => none
theorem dataOf_ok {m : MH} {v : Val} {d : PyData} (h : dataOf m v = some d) : toD m deepFuel v = some d ∧ d.canLay0 = true := by
  unfold dataOf at h
  cases e : toD m deepFuel v with
  | none => rw [e] at h; cases h
  | some d' =>
    rw [e] at h
    dsimp only at h
    cases z : d'.canLay0 with
    | false => rw [z] at h; cases h
    | true => rw [z] at h; cases h; exact ⟨rfl, z⟩
/-- == -/
def pyEq (m : MH) (a b : Val) : Option Bool := match a, b with
  | .str x, .str y => some (beqS x y)
  | .int i, .int j => some (decide (i = j))
  | .bl a, .bl b => some (a == b)
  | .non, .non => some true
  | .non, .int _ => some false
  | .int _, .non => some false
  | .non, .bl _ => some false
  | .bl _, .non => some false
  | .non, .str _ => some false
  | .str _, .non => some false
  | .int _, .str _ => some false
  | .str _, .int _ => some false
  | .bl _, .str _ => some false
  | .str _, .bl _ => some false
  | a, b => (match dataOf m a with
    | some d => (match dataOf m b with
      | some e => (match Nat.ble d.depth 150 with
        | true => some (PyData.eqv d e)
        | false => none)
      | none => none)
    | none => none)
def oEq : Val → Val → MH → RE Val := fun a b m => match pyEq m a b with
  | some k => .ok (.bl k) m
  | none => .fail
def oNe : Val → Val → MH → RE Val := fun a b m => match pyEq m a b with
  | some k => .ok (.bl (!k)) m
  | none => .fail
section
variable {cn : CN} {X : Cx}
theorem eq_cases {m : MH} {a b : Val} {k : Bool} (h : pyEq m a b = some k) {H : Hp} {ρ : Nat → Addr} {K : PySem.W.Frag} {x y : V} (w : RH cn K m H ρ) (ra : RV K H ρ m.n a x) (rb : RV K H ρ m.n b y) :
    (scal x y = true ∧ k = decide (x = y)) ∨ ∃ d e, Dp K H x d ∧ Dp K H y e ∧ d.canLay0 = true ∧ e.canLay0 = true ∧ d.depth ≤ 150 ∧ k = PyData.eqv d e := by
  have deep : (match dataOf m a with
    | some d => (match dataOf m b with
      | some e => (match Nat.ble d.depth 150 with
        | true => some (PyData.eqv d e)
        | false => none)
      | none => none)
    | none => none) = some k → ∃ d e, Dp K H x d ∧ Dp K H y e ∧ d.canLay0 = true ∧ e.canLay0 = true ∧ d.depth ≤ 150 ∧ k = PyData.eqv d e := by
    intro h
    cases e1 : dataOf m a with
    | none => rw [e1] at h; cases h
    | some d =>
      rw [e1] at h
      dsimp only at h
      cases e2 : dataOf m b with
      | none => rw [e2] at h; cases h
      | some e =>
        rw [e2] at h
        dsimp only at h
        cases z : Nat.ble d.depth 150 with
        | false => rw [z] at h; cases h
        | true =>
          rw [z] at h
          cases h
          obtain ⟨t1, c1⟩ := dataOf_ok e1
          obtain ⟨t2, c2⟩ := dataOf_ok e2
          exact ⟨d, e, (toD_dp w _).1 _ _ _ t1 ra, (toD_dp w _).1 _ _ _ t2 rb, c1, c2, Nat.le_of_ble_eq_true z, rfl⟩
  cases a <;> cases b <;> first
    | exact .inr (deep h)
    | (cases ra; cases rb; cases h; exact .inl ⟨rfl, by first | rfl | simp [dec_str, dec_int, dec_bl, beqS_eq] | (symm; simp)⟩)
theorem m_eq (hu : X.A.units + 200 < cLine) : OpR X (compareOp .Eq) (rM cn X.K oEq) := by
  intro pins s σ H x y v u Q I rx ry ⟨a, b, m, ρ, w, ra, rb, q⟩
  unfold oEq at q
  cases z : pyEq m a b with
  | none => rw [z] at q; exact q.elim
  | some k =>
    rw [z] at q
    have q := Run.val q w (.bl k)
    rcases eq_cases z w ra rb with ⟨h1, rfl⟩ | ⟨d, e, h1, h2, c1, c2, hd, rfl⟩
    · exact op_eq pins s σ H x y v u Q I rx ry ⟨h1, q⟩
    · obtain ⟨as, r1⟩ := Dp.reads I d x v h1 rx
      obtain ⟨bs, r2⟩ := Dp.reads I e y u h2 ry
      exact SeqAt.compareEq_reads r1 r2 c1 c2 (by have := Nat.min_le_left d.depth e.depth; omega) ⟨.bl _, H, I, rfl, q⟩
theorem m_ne (hu : X.A.units + 200 < cLine) : OpR X (compareOp .NotEq) (rM cn X.K oNe) := by
  intro pins s σ H x y v u Q I rx ry ⟨a, b, m, ρ, w, ra, rb, q⟩
  unfold oNe at q
  cases z : pyEq m a b with
  | none => rw [z] at q; exact q.elim
  | some k =>
    rw [z] at q
    have q := Run.val q w (.bl _)
    rcases eq_cases z w ra rb with ⟨h1, rfl⟩ | ⟨d, e, h1, h2, c1, c2, hd, rfl⟩
    · exact op_ne pins s σ H x y v u Q I rx ry ⟨h1, q⟩
    · obtain ⟨as, r1⟩ := Dp.reads I d x v h1 rx
      obtain ⟨bs, r2⟩ := Dp.reads I e y u h2 ry
      exact SeqAt.compareNe_reads r1 r2 c1 c2 (by have := Nat.min_le_left d.depth e.depth; omega) ⟨.bl _, H, I, rfl, q⟩
/-! ### order -/
def llt : List Nat → List Nat → Bool
  | [], [] => false
  | [], _ :: _ => true
  | _ :: _, [] => false
  | a :: as, b :: bs => match Nat.blt a b with
    | true => true
    | false => match Nat.beq a b with
      | true => llt as bs
      | false => false
theorem llt_eq : ∀ as bs : List Nat, llt as bs = decide (as < bs)
  | [], [] => by simp [llt]
  | [], b :: bs => by simp [llt]
  | a :: as, [] => by simp [llt]
  | a :: as, b :: bs => by
    unfold llt
    rw [Bool.eq_iff_iff, decide_eq_true_iff, List.cons_lt_cons_iff]
    cases h : Nat.blt a b with
    | true =>
      have : a < b := Nat.le_of_ble_eq_true h
      simp [this]
    | false =>
      have h' : ¬ a < b := fun q => by
        have : Nat.blt a b = true := Nat.ble_eq_true_of_le q
        rw [h] at this; cases this
      cases q : Nat.beq a b with
      | true =>
        have := Nat.eq_of_beq_eq_true q
        subst this
        simp [llt_eq as bs]
      | false =>
        have := Nat.ne_of_beq_eq_false q
        simp [h', this]
def oLt : Val → Val → MH → RE Val := fun a b m => match a, b with
  | .int i, .int j => .ok (.bl (decide (i < j))) m
  | .str x, .str y => .ok (.bl (llt x.cps.toList y.cps.toList)) m
  | _, _ => .fail
def oLe : Val → Val → MH → RE Val := fun a b m => match a, b with
  | .int i, .int j => .ok (.bl (decide (i ≤ j))) m
  | .str x, .str y => .ok (.bl (!llt y.cps.toList x.cps.toList)) m
  | _, _ => .fail
def oGt : Val → Val → MH → RE Val := fun a b m => match a, b with
  | .int i, .int j => .ok (.bl (decide (j < i))) m
  | .str x, .str y => .ok (.bl (llt y.cps.toList x.cps.toList)) m
  | _, _ => .fail
def oGe : Val → Val → MH → RE Val := fun a b m => match a, b with
  | .int i, .int j => .ok (.bl (decide (j ≤ i))) m
  | .str x, .str y => .ok (.bl (!llt x.cps.toList y.cps.toList)) m
  | _, _ => .fail
theorem m_lt : OpR X (compareOp .Lt) (rM cn X.K oLt) := by
  intro pins s σ H x y v u Q I rx ry ⟨a, b, m, ρ, w, ra, rb, q⟩
  cases a <;> cases b <;> first
    | exact q.elim
    | (cases ra; cases rb; exact op_lt pins s σ H _ _ v u Q I rx ry ⟨_, _, rfl, rfl, q.val w (.bl _)⟩)
    | (cases ra; cases rb; exact op_lt_str pins s σ H _ _ v u Q I rx ry ⟨_, _, rfl, rfl, by rw [← llt_eq]; exact q.val w (.bl _)⟩)
theorem m_le : OpR X (compareOp .LtE) (rM cn X.K oLe) := by
  intro pins s σ H x y v u Q I rx ry ⟨a, b, m, ρ, w, ra, rb, q⟩
  cases a <;> cases b <;> first
    | exact q.elim
    | (cases ra; cases rb; exact op_le pins s σ H _ _ v u Q I rx ry ⟨_, _, rfl, rfl, q.val w (.bl _)⟩)
    | (cases ra; cases rb; exact op_le_str pins s σ H _ _ v u Q I rx ry ⟨_, _, rfl, rfl, by rw [← llt_eq]; exact q.val w (.bl _)⟩)
theorem m_gt : OpR X (compareOp .Gt) (rM cn X.K oGt) := by
  intro pins s σ H x y v u Q I rx ry ⟨a, b, m, ρ, w, ra, rb, q⟩
  cases a <;> cases b <;> first
    | exact q.elim
    | (cases ra; cases rb; exact op_gt pins s σ H _ _ v u Q I rx ry ⟨_, _, rfl, rfl, q.val w (.bl _)⟩)
    | (cases ra; cases rb; exact op_gt_str pins s σ H _ _ v u Q I rx ry ⟨_, _, rfl, rfl, by rw [← llt_eq]; exact q.val w (.bl _)⟩)
theorem m_ge : OpR X (compareOp .GtE) (rM cn X.K oGe) := by
  intro pins s σ H x y v u Q I rx ry ⟨a, b, m, ρ, w, ra, rb, q⟩
  cases a <;> cases b <;> first
    | exact q.elim
    | (cases ra; cases rb; exact op_ge pins s σ H _ _ v u Q I rx ry ⟨_, _, rfl, rfl, q.val w (.bl _)⟩)
    | (cases ra; cases rb; exact op_ge_str pins s σ H _ _ v u Q I rx ry ⟨_, _, rfl, rfl, by rw [← llt_eq]; exact q.val w (.bl _)⟩)
/-! ### is None, True, False -/
def isNon : Val → Bool
  | .non => true
  | _ => false
theorem RV.isNon {K : PySem.W.Frag} {H : Hp} {ρ : Nat → Addr} {n : Nat} {a : Val} {x : V} (r : RV K H ρ n a x) : decide (x = .non) = Mi.isNon a := by
  cases r <;> simp [Mi.isNon]
def oIs : Val → Val → MH → RE Val := fun a b m => match b with
  | .non => .ok (.bl (isNon a)) m
  | _ => .fail
def oIsNot : Val → Val → MH → RE Val := fun a b m => match b with
  | .non => .ok (.bl (!isNon a)) m
  | _ => .fail
theorem m_is : OpR X (compareOp .Is) (rM cn X.K oIs) := by
  intro pins s σ H x y v u Q I rx ry ⟨a, b, m, ρ, w, ra, rb, q⟩
  cases b with
  | non =>
    cases rb
    refine op_isN pins s σ H _ _ v u Q I rx ry ⟨rfl, ?_⟩
    rw [ra.isNon]
    exact Run.val q w (.bl _)
  | _ => exact q.elim
theorem m_isnot : OpR X (compareOp .IsNot) (rM cn X.K oIsNot) := by
  intro pins s σ H x y v u Q I rx ry ⟨a, b, m, ρ, w, ra, rb, q⟩
  cases b with
  | non =>
    cases rb
    refine op_notN pins s σ H _ _ v u Q I rx ry ⟨rfl, ?_⟩
    rw [ra.isNon]
    exact Run.val q w (.bl _)
  | _ => exact q.elim
/-! ### in -/
def flat : Val → Bool
  | .non => true | .bl _ => true | .int _ => true | .str _ => true | _ => false
/-- == of flat values -/
def eqF : Val → Val → Bool
  | .non, .non => true
  | .bl a, .bl b => a == b
  | .bl a, .int b => decide ((if a then 1 else 0) = b)
  | .int a, .bl b => decide (a = (if b then 1 else 0))
  | .int a, .int b => decide (a = b)
  | .str a, .str b => beqS a b
  | _, _ => false
theorem RV.flat {K : PySem.W.Frag} {H : Hp} {ρ : Nat → Addr} {n : Nat} {a : Val} {x : V} (r : RV K H ρ n a x) (h : flat a = true) : flatV x = true := by
  cases r <;> first | rfl | cases h
theorem RV.eqF {K : PySem.W.Frag} {H : Hp} {ρ : Nat → Addr} {n : Nat} {a b : Val} {x y : V} (r : RV K H ρ n a x) (q : RV K H ρ n b y) (ha : Mi.flat a = true) (hb : Mi.flat b = true) : eqV x y = eqF a b := by
  cases r <;> cases q <;> first | rfl | (cases ha; done) | (cases hb; done) | (rename_i s1 s2; show (s1 == s2) = beqS s1 s2; rw [beqS_eq, Bool.eq_iff_iff]; simp; done) | (simp [eqV, Mi.eqF, Bool.beq_eq_decide_eq]; done)
theorem RVs.flat {K : PySem.W.Frag} {H : Hp} {ρ : Nat → Addr} {n : Nat} : ∀ {as : List Val} {xs : List V}, RVs K H ρ n as xs → as.all flat = true → xs.all flatV = true := by
  intro as
  induction as with
  | nil => intro xs r _; cases r; rfl
  | cons a as ih =>
    intro xs r h
    cases r with
    | cons r1 r2 =>
      rw [List.all_cons, Bool.and_eq_true_iff] at h ⊢
      exact ⟨r1.flat h.1, ih r2 h.2⟩
theorem RVs.inV {K : PySem.W.Frag} {H : Hp} {ρ : Nat → Addr} {n : Nat} {b : Val} {y : V} (q : RV K H ρ n b y) (hb : Mi.flat b = true) : ∀ {as : List Val} {xs : List V}, RVs K H ρ n as xs → as.all Mi.flat = true → L2.inV y xs = as.any fun a => eqF a b := by
  intro as
  induction as with
  | nil => intro xs r _; cases r; rfl
  | cons a as ih =>
    intro xs r h
    cases r with
    | cons r1 r2 =>
      rw [List.all_cons, Bool.and_eq_true_iff] at h
      have := ih r2 h.2
      unfold L2.inV at this ⊢
      rw [List.any_cons, List.any_cons, this, r1.eqF q h.1 hb]
def keyOf : Val → Option Key
  | .int i => some (.inl i)
  | .str x => some (.inr x)
  | _ => none
def keq : Key → Key → Bool
  | .inl a, .inl b => decide (a = b)
  | .inr a, .inr b => beqS a b
  | _, _ => false
theorem keq_eq (a b : Key) : keq a b = decide (a = b) := by
  cases a <;> cases b <;> simp [keq, beqS_eq]
def klook : List (Key × Val) → Key → Option Val
  | [], _ => none
  | (g, v) :: r, f => match keq g f with | true => some v | false => klook r f
theorem RKs.look {K : PySem.W.Frag} {H : Hp} {ρ : Nat → Addr} {n : Nat} {k : Key} : ∀ {fs : List (Key × Val)} {gs : List (Key × V)}, RKs K H ρ n fs gs → (∀ v, klook fs k = some v → ∃ x, valV gs k = some x ∧ RV K H ρ n v x) ∧ (klook fs k = none → valV gs k = none) := by
  intro fs
  induction fs with
  | nil =>
    intro gs h
    cases gs with
    | nil => exact ⟨fun _ e => (by cases e), fun _ => rfl⟩
    | cons b gs => cases h.1
  | cons a r ih =>
    intro gs h
    obtain ⟨h1, h2⟩ := h
    cases gs with
    | nil => cases h1
    | cons b gs =>
      obtain ⟨k0, v0⟩ := a
      obtain ⟨k1, x0⟩ := b
      simp only [List.map_cons, List.cons.injEq] at h1
      obtain ⟨rfl, h1⟩ := h1
      cases h2 with
      | cons r1 r2 =>
        unfold klook
        rw [keq_eq]
        have e : valV ((k0, x0) :: gs) k = if k0 = k then some x0 else valV gs k := by
          unfold valV
          rw [List.find?_cons]
          by_cases q : k0 = k
          · simp [q]
          · simp [q]
        rw [e]
        by_cases q : k0 = k
        · rw [decide_eq_true q, if_pos q]
          exact ⟨fun v z => (by cases z; exact ⟨_, rfl, r1⟩), fun z => (by cases z)⟩
        · rw [decide_eq_false q, if_neg q]
          exact ih (gs := gs) ⟨h1, r2⟩
theorem keyOf_kV {K : PySem.W.Frag} {H : Hp} {ρ : Nat → Addr} {n : Nat} {a : Val} {x : V} {k : Key} (r : RV K H ρ n a x) (h : keyOf a = some k) : x = kV k := by
  cases r <;> cases h <;> rfl
/-- x in y -/
def pyIn (m : MH) (a b : Val) : Option Bool := match b with
  | .str z => (match a with
    | .str c => (match c.cps.toList with
      | [k] => some (z.cps.toList.any (Nat.beq k))
      | _ => none)
    | _ => none)
  | .tup ys => (match flat a && ys.all flat with
    | true => some (ys.any fun y => eqF y a)
    | false => none)
  | .loc i => (match m.get i with
    | some (.lst ys) => (match flat a && ys.all flat with
      | true => some (ys.any fun y => eqF y a)
      | false => (match dataOf m a with
        | some d => (match dataOf m (.loc i) with
          | some (.list ds) => (match Nat.ble d.depth 60 && Nat.ble (PyData.list ds).depth 60 with
            | true => some (ds.any fun z => PyData.eqv z d)
            | false => none)
          | _ => none)
        | none => none))
    | some (.dic kvs) => (match keyOf a with
      | some k => some (klook kvs k).isSome
      | none => none)
    | _ => none)
  | _ => none
def oIn : Val → Val → MH → RE Val := fun a b m => match pyIn m a b with
  | some k => .ok (.bl k) m
  | none => .fail
def oNotIn : Val → Val → MH → RE Val := fun a b m => match pyIn m a b with
  | some k => .ok (.bl (!k)) m
  | none => .fail
theorem any_beq (k : Nat) (l : List Nat) : l.any (Nat.beq k) = decide (k ∈ l) := by
  induction l with
  | nil => simp
  | cons a l ih =>
    rw [List.any_cons, ih]
    cases h : Nat.beq k a with
    | true => have := Nat.eq_of_beq_eq_true h; simp [this]
    | false => have := Nat.ne_of_beq_eq_false h; simp [this]
/-- what an in amounts to -/
theorem in_cases {m : MH} {a b : Val} {k : Bool} (h : pyIn m a b = some k) {H : Hp} {ρ : Nat → Addr} {K : PySem.W.Frag} {x y : V} (w : RH cn K m H ρ) (ra : RV K H ρ m.n a x) (rb : RV K H ρ m.n b y) :
    (∃ (c : Nat) (z : Str), x = .str ⟨#[c]⟩ ∧ y = .str z ∧ k = decide (c ∈ z.cps.toList)) ∨ (∃ p xs, y = .ref p ∧ (SqL K H p xs ∨ SqT K H p xs) ∧ flatV x = true ∧ xs.all flatV = true ∧ k = L2.inV x xs) ∨
    (∃ d ds, Dp K H x d ∧ Dp K H y (.list ds) ∧ SeqAt.shaped d = true ∧ SeqAt.shaped (.list ds) = true ∧ k = (ds.any fun z => PyData.eqv z d)) ∨ (∃ p o, y = .ref p ∧ DGet H p x o ∧ k = o.isSome) := by
  have seq : ∀ {p : Addr} {ys : List Val} {xs : List V}, y = .ref p → (SqL K H p xs ∨ SqT K H p xs) → RVs K H ρ m.n ys xs → (flat a && ys.all flat) = true → k = (ys.any fun y => eqF y a) →
      ∃ p xs, y = .ref p ∧ (SqL K H p xs ∨ SqT K H p xs) ∧ flatV x = true ∧ xs.all flatV = true ∧ k = L2.inV x xs := fun {p ys xs} e1 e2 e3 e4 e5 => by
    obtain ⟨f1, f2⟩ := Bool.and_eq_true_iff.mp e4
    exact ⟨p, xs, e1, e2, ra.flat f1, e3.flat f2, by rw [e5, e3.inV ra f1 f2]⟩
  cases b with
  | str z =>
    cases a with
    | str c =>
      cases ra; cases rb
      unfold pyIn at h
      dsimp only at h
      split at h
      · rename_i k0 e
        cases h
        refine .inl ⟨k0, z, ?_, rfl, any_beq _ _⟩
        have : c = ⟨#[k0]⟩ := by
          cases c
          simp only [Str.mk.injEq]
          exact Array.toList_inj.mp e
        rw [this]
      · cases h
    | _ => cases h
  | tup ys =>
    obtain ⟨p, vs, e1, h1, r1⟩ := rb.tupL
    unfold pyIn at h
    cases z : flat a && ys.all flat with
    | false => simp only [z] at h; cases h
    | true =>
      simp only [z] at h
      cases h
      exact .inr (.inl (seq e1 (.inr h1) r1 z rfl))
  | loc i =>
    obtain ⟨e1, hi⟩ := rb.locL
    unfold pyIn at h
    dsimp only at h
    cases eo : m.get i with
    | none => rw [eo] at h; cases h
    | some o =>
      obtain ⟨_, ro⟩ := w.obj i o eo
      rw [eo] at h
      cases o with
      | lst ys =>
        obtain ⟨vs, h1, r1⟩ := ro
        dsimp only at h
        cases z : flat a && ys.all flat with
        | true =>
          rw [z] at h
          cases h
          exact .inr (.inl (seq e1 (.inl (SqL.of h1)) r1 z rfl))
        | false =>
          rw [z] at h
          dsimp only at h
          cases e2 : dataOf m a with
          | none => rw [e2] at h; cases h
          | some d =>
            rw [e2] at h
            dsimp only at h
            cases e3 : dataOf m (.loc i) with
            | none => rw [e3] at h; cases h
            | some d' =>
              rw [e3] at h
              cases d' with
              | list ds =>
                dsimp only at h
                cases z2 : Nat.ble d.depth 60 && Nat.ble (PyData.list ds).depth 60 with
                | false => rw [z2] at h; cases h
                | true =>
                  rw [z2] at h
                  cases h
                  obtain ⟨b1, b2⟩ := Bool.and_eq_true_iff.mp z2
                  have b1 := Nat.le_of_ble_eq_true b1
                  have b2 := Nat.le_of_ble_eq_true b2
                  obtain ⟨t1, c1⟩ := dataOf_ok e2
                  obtain ⟨t2, c2⟩ := dataOf_ok e3
                  refine .inr (.inr (.inl ⟨d, ds, (toD_dp w _).1 _ _ _ t1 ra, (toD_dp w _).1 _ _ _ t2 rb, ?_, ?_, rfl⟩))
                  · exact Bool.and_eq_true_iff.mpr ⟨c1, decide_eq_true (by omega)⟩
                  · exact Bool.and_eq_true_iff.mpr ⟨c2, decide_eq_true (by omega)⟩
              | _ => cases h
      | dic kvs =>
        obtain ⟨gs, h1, r1⟩ := ro
        dsimp only at h
        cases ek : keyOf a with
        | none => rw [ek] at h; cases h
        | some q =>
          rw [ek] at h
          cases h
          refine .inr (.inr (.inr ⟨ρ i, valV gs q, e1, ?_, ?_⟩))
          · rw [keyOf_kV ra ek]; exact DGet.k h1
          · obtain ⟨l1, l2⟩ := r1.look (k := q)
            cases el : klook kvs q with
            | none => rw [l2 el]; rfl
            | some v => obtain ⟨x', l3, _⟩ := l1 v el; rw [l3]; rfl
      | _ => cases h
  | _ => cases h
theorem m_in (hu : X.A.units + 200 < cLine) : OpR X (compareOp .In) (rM cn X.K oIn) := by
  intro pins s σ H x y v u Q I rx ry ⟨a, b, m, ρ, w, ra, rb, q⟩
  unfold oIn at q
  cases z : pyIn m a b with
  | none => rw [z] at q; exact q.elim
  | some k =>
    rw [z] at q
    have q := Run.val q w (.bl k)
    rcases in_cases z w ra rb with ⟨c, zz, h1, h2, rfl⟩ | ⟨p, xs, h1, h2, h3, h4, rfl⟩ | ⟨d, ds, h1, h2, h3, h4, rfl⟩ | ⟨p, o, rfl, h2, rfl⟩
    · exact op_in_sign pins s σ H x y v u Q I rx ry ⟨c, zz, h1, h2, q⟩
    · exact op_in_seq pins s σ H x y v u Q I rx ry ⟨p, xs, h1, h2, h3, h4, q⟩
    · exact op_inD (by omega) pins s σ H x y v u Q I rx ry ⟨d, ds, h1, h2, h3, h4, q⟩
    · cases ry
      exact d_in (by omega) I h2 rx fun s3 I3 => ⟨.bl _, H, I3, rfl, q⟩
theorem m_notin (hu : X.A.units + 200 < cLine) : OpR X (compareOp .NotIn) (rM cn X.K oNotIn) := by
  intro pins s σ H x y v u Q I rx ry ⟨a, b, m, ρ, w, ra, rb, q⟩
  unfold oNotIn at q
  cases z : pyIn m a b with
  | none => rw [z] at q; exact q.elim
  | some k =>
    rw [z] at q
    have q := Run.val q w (.bl _)
    rcases in_cases z w ra rb with ⟨c, zz, h1, h2, rfl⟩ | ⟨p, xs, h1, h2, h3, h4, rfl⟩ | ⟨d, ds, h1, h2, h3, h4, rfl⟩ | ⟨p, o, rfl, h2, rfl⟩
    · exact op_notIn_sign pins s σ H x y v u Q I rx ry ⟨c, zz, h1, h2, q⟩
    · exact op_notIn_seq pins s σ H x y v u Q I rx ry ⟨p, xs, h1, h2, h3, h4, q⟩
    · exact op_notInD (by omega) pins s σ H x y v u Q I rx ry ⟨d, ds, h1, h2, h3, h4, q⟩
    · cases ry
      exact d_notIn (by omega) I h2 rx fun s3 I3 => ⟨.bl _, H, I3, rfl, q⟩
end
end Mi

set_option Elab.async false
set_option linter.all false
set_option autoImplicit false
set_option maxRecDepth 100000
set_option maxHeartbeats 2000000
namespace Mi
open PySem PySem.Spec L2
/-! ### subscripts -/
def ixL (xs : List Val) (b : Val) (m : MH) : RE Val := match b with
  | .int i => (match atI xs i with | some v => .ok v m | none => .fail)
  | _ => .fail
def oIx : Val → Val → MH → RE Val := fun a b m => match a with
  | .tup xs => ixL xs b m
  | .loc l => (match m.get l with
    | some (.lst xs) => ixL xs b m
    | some (.rol xs) => ixL xs b m
    | some (.dic kvs) => (match keyOf b with
      | some k => (match klook kvs k with | some v => .ok v m | none => .fail)
      | none => .fail)
    | _ => .fail)
  | .str z => (match b with
    | .int i => (match Nat.ble z.length 1000000 with
      | true => (match atI z.cps.toList i with | some c => .ok (.str ⟨#[c]⟩) m | none => .fail)
      | false => .fail)
    | _ => .fail)
  | _ => .fail
section
variable {cn : CN} {X : Cx}
theorem RVs.atI {K : PySem.W.Frag} {H : Hp} {ρ : Nat → Addr} {n : Nat} {xs : List Val} {vs : List V} {i : Int} {v : Val} (r : RVs K H ρ n xs vs) (h : L2.atI xs i = some v) : ∃ x, L2.atI vs i = some x ∧ RV K H ρ n v x := by
  unfold L2.atI at h ⊢
  rw [r.length] at h
  cases e : ixN vs.length i with
  | none => rw [e] at h; cases h
  | some j =>
    rw [e] at h
    exact r.get h
theorem m_ix (hu : X.A.units + 200 < cLine) : IxR X (rM cn X.K oIx) := by
  intro value slice pins s σ H x y v u Q I rx ry ⟨a, b, m, ρ, w, ra, rb, q⟩ hs
  cases a with
  | tup xs =>
    obtain ⟨p, vs, rfl, h1, r1⟩ := ra.tupL
    cases b with
    | int i =>
      cases rb
      unfold oIx ixL at q
      dsimp only at q
      cases e : L2.atI xs i with
      | none => rw [e] at q; exact q.elim
      | some z =>
        rw [e] at q
        obtain ⟨x', h2, r2⟩ := r1.atI e
        exact ix_tup value slice pins s σ H _ _ v u Q I rx ry ⟨p, vs, i, x', rfl, rfl, h1, h2, Run.val q w r2⟩ hs
    | _ => exact q.elim
  | str z =>
    cases ra
    cases b with
    | int i =>
      cases rb
      unfold oIx at q
      dsimp only at q
      cases e0 : Nat.ble z.length 1000000 with
      | false => rw [e0] at q; exact q.elim
      | true =>
        rw [e0] at q
        dsimp only at q
        cases e : L2.atI z.cps.toList i with
        | none => rw [e] at q; exact q.elim
        | some c =>
          rw [e] at q
          exact ix_str value slice pins s σ H _ _ v u Q I rx ry ⟨z, i, c, rfl, rfl, by have := Nat.le_of_ble_eq_true e0; rw [sizeLine_eq]; omega, e, Run.val q w (.str _)⟩ hs
    | _ => exact q.elim
  | loc l =>
    obtain ⟨rfl, hl⟩ := ra.locL
    unfold oIx at q
    dsimp only at q
    cases eo : m.get l with
    | none => rw [eo] at q; exact q.elim
    | some o =>
      obtain ⟨_, ro⟩ := w.obj l o eo
      rw [eo] at q
      have lst : ∀ {xs : List Val} {vs : List V}, SqL X.K H (ρ l) vs → RVs X.K H ρ m.n xs vs → Run cn X.K RV (ixL xs b m) ρ H m.n Q (fun _ _ _ => False) →
          wpAny (model X.prog X.w) X.A (PyProof.Rows.subscriptTail value slice v u) (EP X pins σ Q) X.xe s := fun {xs vs} h1 r1 q => by
        cases b with
        | int i =>
          cases rb
          unfold ixL at q
          dsimp only at q
          cases e : L2.atI xs i with
          | none => rw [e] at q; exact q.elim
          | some z =>
            rw [e] at q
            obtain ⟨x', h2, r2⟩ := r1.atI e
            exact ix_list value slice pins s σ H _ _ v u Q I rx ry ⟨ρ l, vs, i, x', rfl, rfl, h1, h2, Run.val q w r2⟩ hs
        | _ => exact q.elim
      cases o with
      | lst xs => obtain ⟨vs, h1, r1⟩ := ro; exact lst (SqL.of h1) r1 q
      | rol xs => obtain ⟨vs, h1, r1⟩ := ro; exact lst (.inl h1) r1 q
      | dic kvs =>
        obtain ⟨gs, h1, r1⟩ := ro
        dsimp only at q
        cases ek : keyOf b with
        | none => rw [ek] at q; exact q.elim
        | some k =>
          rw [ek] at q
          dsimp only at q
          cases el : klook kvs k with
          | none => rw [el] at q; exact q.elim
          | some z =>
            rw [el] at q
            obtain ⟨x', h2, r2⟩ := (r1.look (k := k)).1 z el
            have e := keyOf_kV rb ek
            subst e
            have g : DGet H (ρ l) (kV k) (some x') := by rw [← h2]; exact DGet.k h1
            cases rx
            exact PyProof.Rows.tail_any (dict_typeIs I g) PySem.F.slot_dict_getitem.lookup (d_getItem (by omega) I g ry fun w' s3 I3 rw' => ⟨x', H, I3, rw', Run.val q w r2⟩) hs
      | ins c fs => exact q.elim
  | _ => exact q.elim
end
/-! ### slices -/
def cutL {α : Type} (xs : List α) (lo hi : Option Int) : List α := (xs.drop (HT.sIx xs.length 0 lo)).take (HT.sIx xs.length xs.length hi - HT.sIx xs.length 0 lo)
def oSl : Val → Option Int → Option Int → MH → RE Val := fun a lo hi m => match a with
  | .tup xs => .ok (.tup (cutL xs lo hi)) m
  | .str z => (match Nat.ble z.length 1000000 with
    | true => .ok (.str ⟨(cutL z.cps.toList lo hi).toArray⟩) m
    | false => .fail)
  | .loc l => (match m.get l with
    | some (.lst xs) => mk (.lst (cutL xs lo hi)) m
    | some (.rol xs) => mk (.lst (cutL xs lo hi)) m
    | _ => .fail)
  | _ => .fail
abbrev EO := Slots → MH → RE (Option Int)
def RId {α : Type} : Rl α α := fun _ _ _ _ a b => a = b
def pNone : EO := fun _ m => .ok none m
def pSome (f : E) : EO := fun sl m => (f sl m).bind fun v m1 => match v with | .int i => .ok (some i) m1 | _ => .fail
def eSl (f : E) (lo hi : EO) : E := fun sl m => (f sl m).bind fun v m1 => (lo sl m1).bind fun a m2 => (hi sl m2).bind fun b m3 => nE (oSl (wk v) a b m3)
abbrev TO' (cn : CN) (K : PySem.W.Frag) (W : WX) (f : EO) : TO := TM cn K RId W f
section
variable {cn : CN} {X : Cx} {W : WX} {e : Expr} {f : E} {lo hi : Option Expr} {fl fh : EO} {pos p2 : Pos}
theorem RVs.cut {K : PySem.W.Frag} {H : Hp} {ρ : Nat → Addr} {n : Nat} {xs : List Val} {vs : List V} (r : RVs K H ρ n xs vs) (lo hi : Option Int) : RVs K H ρ n (cutL xs lo hi) (cutV vs lo hi) := by
  unfold cutL cutV
  rw [r.length]
  exact (r.drop _).take _
theorem mo_none : PO X none (TO' cn X.K W pNone) := ⟨fun pins s σ H Q I ⟨sl, m, ρ, w, r⟩ => po_none.run pins s σ H Q I (r H ρ none w.h .refl rfl)⟩
theorem mo_some (h : PE X e (TE' cn X.K W f)) : PO X (some e) (TO' cn X.K W (pSome f)) := by
  refine ⟨fun pins s σ H Q I ⟨sl, m, ρ, w, r⟩ => (po_some h).run pins s σ H Q I ?_⟩
  refine TM.bind w r fun y H1 ρ1 m1 a w1 e1 r1 q => ?_
  cases r1 with
  | int i => exact ⟨i, rfl, q H1 ρ1 _ w1.h .refl rfl⟩
  | _ => exact q.elim
theorem me_sl (he : PE X e (TE' cn X.K W f)) (hl : PO X lo (TO' cn X.K W fl)) (hh : PO X hi (TO' cn X.K W fh)) : PE X (.Subscript e (.Slice lo hi none p2) pos) (TE' cn X.K W (eSl f fl fh)) := by
  refine pe_imp (pe_slice (SlR.or (SlR.or sl_tupA sl_list) sl_str) he hl hh) fun σ H Q ⟨sl, m, ρ, w, r⟩ => ?_
  refine TM.bind w r fun x H1 ρ1 m1 v w1 e1 r1 q => ?_
  refine TM.bind w1 q fun a H2 ρ2 m2 a' w2 e2 r2 q => ?_
  refine TM.bind w2 q fun b H3 ρ3 m3 b' w3 e3 r3 q => ?_
  cases (show a' = a from r2)
  cases (show b' = b from r3)
  have q := Run.nE (W' := fun c d H' => W c d σ H') q
  have r1 := ((r1.ext e2).ext e3).wk
  generalize wk v = v at q r1
  cases v with
  | tup xs =>
    obtain ⟨p, vs, rfl, h1, rs⟩ := r1.tupL
    refine .inl (.inl ⟨p, vs, rfl, h1, fun hw => ?_, fun hw p' hp => ?_⟩)
    · have e : cutL xs a b = xs := by
        unfold cutL
        rw [rs.length, hw.1, hw.2, ← rs.length]
        simp
      have q : Run cn X.K RV (.ok (.tup (cutL xs a b)) m3) ρ3 H3 m3.n Q _ := q
      rw [e] at q
      exact q.val w3.h r1
    · exact Run.newTup q w3.h (rs.cut a b) hp
  | str z =>
    cases r1
    unfold oSl at q
    dsimp only at q
    cases e0 : Nat.ble z.length 1000000 with
    | false => rw [e0] at q; exact q.elim
    | true =>
      rw [e0] at q
      exact .inr ⟨z, rfl, by have := Nat.le_of_ble_eq_true e0; rw [sizeLine_eq]; omega, Run.val q w3.h (.str _)⟩
  | loc l =>
    obtain ⟨rfl, hl⟩ := r1.locL
    unfold oSl at q
    dsimp only at q
    cases eo : m3.get l with
    | none => rw [eo] at q; exact q.elim
    | some o =>
      obtain ⟨_, ro⟩ := w3.h.obj l o eo
      rw [eo] at q
      cases o with
      | lst xs => obtain ⟨vs, h1, rs⟩ := ro; exact .inl (.inr ⟨_, vs, rfl, SqL.of h1, fun p hp => Run.mkLst q w3.h (rs.cut a b) hp⟩)
      | rol xs => obtain ⟨vs, h1, rs⟩ := ro; exact .inl (.inr ⟨_, vs, rfl, .inl h1, fun p hp => Run.mkLst q w3.h (rs.cut a b) hp⟩)
      | _ => exact q.elim
  | _ => exact q.elim
end

/-! ### built-in functions -/
def rC (cn : CN) (K : PySem.W.Frag) (op : List Val → MH → RE Val) : List V → Hp → VK → Prop := fun xs H Q => ∃ vs m ρ, RH cn K m H ρ ∧ RVs K H ρ m.n vs xs ∧ Run cn K RV (op vs m) ρ H m.n Q (fun _ _ _ => False)
def eBi (op : List Val → MH → RE Val) (f : EA) : E := fun sl m => (f sl m).bind fun vs m1 => nE (op (vs.map wk) m1)
section
variable {cn : CN} {X : Cx} {W : WX} {x : Str} {p pos : Pos} {e : Expr} {es : List Expr} {f : EA} {id T : String} {op : List Val → MH → RE Val}
theorem me_bi (hc : CallR X (.builtin id) (rC cn X.K op)) (hg : Gl X x) (hm : X.mg x = none) (hv : bootBuiltins x = some (.builtin id)) (ha : PA X (e :: es) (TA' cn X.K W f)) (hn : x ≠ "__name__" := by decide) (hdb : (x == ("__debug__" : Str)) = false := by decide)
    (he : starEach (e :: es) X.env = (false, eval e X.env) :: starEach es X.env := by rfl) (hpl : (backTo pos (starEach es X.env)).any (·.1) = false := by rfl) : PE X (.Call (.Name x p) (e :: es) [] pos) (TE' cn X.K W (eBi op f)) := by
  refine pe_imp (pe_callB hc hg hm hv ha hn hdb he hpl) fun σ H Q ⟨sl, m, ρ, w, r⟩ => ?_
  refine TM.bind w r fun x H1 ρ1 m1 u w1 e1 r1 q => ?_
  exact ⟨u.map wk, m1, ρ1, w1.h, r1.wk, q.nE⟩
theorem me_ty (hc : CallR X (.type T) (rC cn X.K op)) (hg : Gl X x) (hm : X.mg x = none) (hv : bootBuiltins x = some (.type T)) (ha : PA X (e :: es) (TA' cn X.K W f)) (hn : x ≠ "__name__" := by decide) (hdb : (x == ("__debug__" : Str)) = false := by decide)
    (he : starEach (e :: es) X.env = (false, eval e X.env) :: starEach es X.env := by rfl) (hpl : (backTo pos (starEach es X.env)).any (·.1) = false := by rfl) : PE X (.Call (.Name x p) (e :: es) [] pos) (TE' cn X.K W (eBi op f)) := by
  refine pe_imp (pe_callTy hc hg hm hv ha hn hdb he hpl) fun σ H Q ⟨sl, m, ρ, w, r⟩ => ?_
  refine TM.bind w r fun x H1 ρ1 m1 u w1 e1 r1 q => ?_
  exact ⟨u.map wk, m1, ρ1, w1.h, r1.wk, q.nE⟩
/-- a built-in type as a value -/
theorem me_tyv {t : Ty} (hg : Gl X x) (hm : X.mg x = none) (hv : bootBuiltins x = some (.type t.name)) (hn : x ≠ "__name__" := by decide) (hdb : (x == ("__debug__" : Str)) = false := by decide) : PE X (.Name x p) (TE' cn X.K W (eC (.ty t))) :=
  me_c (pe_bltn (v := .ty t.name) hg hm hv rfl hn hdb) fun _ _ _ _ => .ty t
end
theorem RVs.one {K : PySem.W.Frag} {H : Hp} {ρ : Nat → Addr} {n : Nat} {a : Val} {xs : List V} (r : RVs K H ρ n [a] xs) : ∃ x, xs = [x] ∧ RV K H ρ n a x := by
  cases r with
  | cons r1 r2 => cases r2; exact ⟨_, rfl, r1⟩
theorem RVs.two {K : PySem.W.Frag} {H : Hp} {ρ : Nat → Addr} {n : Nat} {a b : Val} {xs : List V} (r : RVs K H ρ n [a, b] xs) : ∃ x y, xs = [x, y] ∧ RV K H ρ n a x ∧ RV K H ρ n b y := by
  cases r with
  | cons r1 r2 =>
    cases r2 with
    | cons r2 r3 => cases r3; exact ⟨_, _, rfl, r1, r2⟩
/-- the items of a list or tuple -/
def itemsOf (m : MH) (v : Val) : Option (List Val) := match v with
  | .tup xs => some xs
  | .klst xs => some xs
  | .loc l => (match m.get l with
    | some (.lst xs) => some xs
    | some (.rol xs) => some xs
    | _ => none)
  | _ => none
theorem itemsOf_ok {cn : CN} {K : PySem.W.Frag} {m : MH} {H : Hp} {ρ : Nat → Addr} {v : Val} {x : V} {xs : List Val} (w : RH cn K m H ρ) (r : RV K H ρ m.n v x) (h : itemsOf m v = some xs) :
    ∃ p vs, x = .ref p ∧ RVs K H ρ m.n xs vs ∧ ((SqL K H p vs ∧ True) ∨ (SqT K H p vs ∧ v = .tup xs)) := by
  cases v with
  | tup ys =>
    obtain ⟨p, vs, rfl, h1, r1⟩ := r.tupL
    cases h
    exact ⟨p, vs, rfl, r1, .inr ⟨h1, rfl⟩⟩
  | klst ys =>
    cases h
    cases r with
    | @klst p _ vs h1 r1 => exact ⟨p, vs, rfl, r1, .inl ⟨h1.l, trivial⟩⟩
  | loc l =>
    obtain ⟨rfl, _⟩ := r.locL
    unfold itemsOf at h
    dsimp only at h
    cases eo : m.get l with
    | none => rw [eo] at h; cases h
    | some o =>
      obtain ⟨_, ro⟩ := w.obj l o eo
      rw [eo] at h
      cases o with
      | lst ys => cases h; obtain ⟨vs, h1, r1⟩ := ro; exact ⟨_, vs, rfl, r1, .inl ⟨SqL.of h1, trivial⟩⟩
      | rol ys => cases h; obtain ⟨vs, h1, r1⟩ := ro; exact ⟨_, vs, rfl, r1, .inl ⟨.inl h1, trivial⟩⟩
      | _ => cases h
  | _ => cases h
def bLen : List Val → MH → RE Val := fun vs m => match vs with
  | [v] => (match v with
    | .str z => (match Nat.ble z.length 1000000 with | true => .ok (.int z.length) m | false => .fail)
    | .loc l => (match m.get l with
      | some (.lst xs) => .ok (.int xs.length) m
      | some (.rol xs) => .ok (.int xs.length) m
      | some (.dic xs) => .ok (.int xs.length) m
      | _ => .fail)
    | .tup xs => .ok (.int xs.length) m
    | .klst xs => .ok (.int xs.length) m
    | _ => .fail)
  | _ => .fail
/-- the bools of a list -/
def bools : List Val → Option (List Bool)
  | [] => some []
  | .bl b :: r => (match bools r with | some bs => some (b :: bs) | none => none)
  | _ => none
def bAll : List Val → MH → RE Val := fun vs m => match vs with
  | [.loc l] => (match m.get l with
    | some (.lst xs) => (match bools xs with | some bs => .ok (.bl (bs.all id)) m | none => .fail)
    | _ => .fail)
  | _ => .fail
def bAny : List Val → MH → RE Val := fun vs m => match vs with
  | [.loc l] => (match m.get l with
    | some (.lst xs) => (match bools xs with | some bs => .ok (.bl (bs.any id)) m | none => .fail)
    | _ => .fail)
  | _ => .fail
/-- the intsOf of a list -/
def intsOf : List Val → Option (List Int)
  | [] => some []
  | .int b :: r => (match intsOf r with | some bs => some (b :: bs) | none => none)
  | _ => none
def bSum : List Val → MH → RE Val := fun vs m => match vs with
  | [.loc l] => (match m.get l with
    | some (.lst xs) => (match intsOf xs with | some bs => .ok (.int bs.sum) m | none => .fail)
    | _ => .fail)
  | _ => .fail
def bList : List Val → MH → RE Val := fun vs m => match vs with
  | [v] => (match itemsOf m v with
    | some xs => mk (.lst xs) m
    | none => .fail)
  | _ => .fail
def bTuple : List Val → MH → RE Val := fun vs m => match vs with
  | [v] => (match itemsOf m v with
    | some xs => (match v with | .tup _ => .ok (.tup xs) m | _ => .ok (.dtp xs) m)
    | none => .fail)
  | _ => .fail
def bMax : List Val → MH → RE Val := fun vs m => match vs with
  | [.int i, .int j] => .ok (.int (if j > i then j else i)) m
  | _ => .fail
def bMin : List Val → MH → RE Val := fun vs m => match vs with
  | [.int i, .int j] => .ok (.int (if j < i then j else i)) m
  | _ => .fail
def bAbs : List Val → MH → RE Val := fun vs m => match vs with
  | [.int i] => .ok (.int (if i < 0 then -i else i)) m
  | _ => .fail
def bInt : List Val → MH → RE Val := fun vs m => match vs with
  | [.int i] => .ok (.int i) m
  | [.bl b] => .ok (.int (if b then 1 else 0)) m
  | [.str a] => (match Nat.ble a.length 600 with
    | true => (match PySem.intText? a with | some n => .ok (.int n) m | none => .fail)
    | false => .fail)
  | _ => .fail
/-- the type of a value -/
def tyOf (m : MH) : Val → Option Ty
  | .non => some .non
  | .bl _ => some .bool
  | .int _ => some .int
  | .str _ => some .str
  | .tup _ => some .tuple
  | .dtp _ => some .tuple
  | .loc l => (match m.get l with
    | some (.lst _) => some .list
    | some (.rol _) => some .list
    | some (.dic _) => some .dict
    | _ => none)
  | .ty _ => none
  | .klst _ => none
def isT : Ty → Ty → Option Bool
  | .other, _ => none
  | _, .other => none
  | _, .non => none
  | .int, .int => some true | .str, .str => some true | .bool, .bool => some true | .list, .list => some true | .tuple, .tuple => some true | .dict, .dict => some true
  | .bool, .int => some true
  | _, _ => some false
def bIsi : List Val → MH → RE Val := fun vs m => match vs with
  | [v, .ty t] => (match tyOf m v with
    | some u => (match isT u t with | some b => .ok (.bl b) m | none => .fail)
    | none => .fail)
  | _ => .fail
theorem isT_ok {u t : Ty} {b : Bool} (h : isT u t = some b) : kitB u.name t.name = some b := by
  cases u <;> cases t <;> first
    | (cases h; done)
    | (cases h; decide +kernel)
section
variable {cn : CN} {X : Cx}
theorem mc_len : CallR X (.builtin "len") (rC cn X.K bLen) := by
  intro pins s σ H xs us Q I r ⟨vs, m, ρ, w, rs, q⟩
  cases vs with
  | nil => exact q.elim
  | cons v vs =>
    cases vs with
    | cons a b => exact q.elim
    | nil =>
      obtain ⟨x, rfl, r1⟩ := rs.one
      cases v with
      | str z =>
        cases r1
        unfold bLen at q
        dsimp only at q
        cases e0 : Nat.ble z.length 1000000 with
        | false => rw [e0] at q; exact q.elim
        | true =>
          rw [e0] at q
          exact call_len_str pins s σ H _ us Q I r ⟨z, rfl, by have := Nat.le_of_ble_eq_true e0; rw [sizeLine_eq]; omega, Run.val q w (.int _)⟩
      | tup ys =>
        obtain ⟨p, vs, rfl, h1, r2⟩ := r1.tupL
        refine call_len_seq pins s σ H _ us Q I r ⟨p, vs, rfl, .inr h1, ?_⟩
        rw [← r2.length]
        exact Run.val q w (.int _)
      | klst ys =>
        cases r1 with
        | @klst p _ vs h1 r2 =>
          refine call_len_seq pins s σ H _ us Q I r ⟨p, vs, rfl, .inl h1.l, ?_⟩
          rw [← r2.length]
          exact Run.val q w (.int _)
      | loc l =>
        obtain ⟨rfl, _⟩ := r1.locL
        unfold bLen at q
        dsimp only at q
        cases eo : m.get l with
        | none => rw [eo] at q; exact q.elim
        | some o =>
          obtain ⟨_, ro⟩ := w.obj l o eo
          rw [eo] at q
          cases o with
          | lst ys =>
            obtain ⟨vs, h1, r2⟩ := ro
            refine call_len_seq pins s σ H _ us Q I r ⟨_, vs, rfl, .inl (SqL.of h1), ?_⟩
            rw [← r2.length]
            exact Run.val q w (.int _)
          | rol ys =>
            obtain ⟨vs, h1, r2⟩ := ro
            refine call_len_seq pins s σ H _ us Q I r ⟨_, vs, rfl, .inl (.inl h1), ?_⟩
            rw [← r2.length]
            exact Run.val q w (.int _)
          | dic kvs =>
            obtain ⟨gs, h1, h2, _⟩ := ro
            refine call_lenD pins s σ H _ us Q I r ⟨_, gs, rfl, h1, ?_⟩
            have e : gs.length = kvs.length := by have := congrArg List.length h2; simpa using this.symm
            rw [e]
            exact Run.val q w (.int _)
          | ins c fs => exact q.elim
      | _ => exact q.elim
theorem bools_ok {K : PySem.W.Frag} {H : Hp} {ρ : Nat → Addr} {n : Nat} : ∀ {xs : List Val} {vs : List V} {bs : List Bool}, RVs K H ρ n xs vs → bools xs = some bs → vs = bs.map V.bl := by
  intro xs
  induction xs with
  | nil => intro vs bs r h; cases r; cases h; rfl
  | cons x xs ih =>
    intro vs bs r h
    cases r with
    | cons r1 r2 =>
      cases x with
      | bl b =>
        unfold bools at h
        cases e : bools xs with
        | none => rw [e] at h; cases h
        | some cs => rw [e] at h; cases h; cases r1; rw [ih r2 e]; rfl
      | _ => cases h
theorem intsOf_ok {K : PySem.W.Frag} {H : Hp} {ρ : Nat → Addr} {n : Nat} : ∀ {xs : List Val} {vs : List V} {bs : List Int}, RVs K H ρ n xs vs → intsOf xs = some bs → vs = bs.map V.int := by
  intro xs
  induction xs with
  | nil => intro vs bs r h; cases r; cases h; rfl
  | cons x xs ih =>
    intro vs bs r h
    cases r with
    | cons r1 r2 =>
      cases x with
      | int b =>
        unfold intsOf at h
        cases e : intsOf xs with
        | none => rw [e] at h; cases h
        | some cs => rw [e] at h; cases h; cases r1; rw [ih r2 e]; rfl
      | _ => cases h
theorem mc_all (hc : X.calm = true) : CallR X (.builtin "all") (rC cn X.K bAll) := by
  intro pins s σ H xs us Q I r ⟨vs, m, ρ, w, rs, q⟩
  unfold bAll at q
  split at q
  · rename_i l
    obtain ⟨x, rfl, r1⟩ := rs.one
    obtain ⟨rfl, _⟩ := r1.locL
    cases eo : m.get l with
    | none => rw [eo] at q; exact q.elim
    | some o =>
      obtain ⟨_, ro⟩ := w.obj l o eo
      rw [eo] at q
      cases o with
      | lst ys =>
        obtain ⟨zs, h1, r2⟩ := ro
        dsimp only at q
        cases eb : bools ys with
        | none => rw [eb] at q; exact q.elim
        | some bs =>
          rw [eb] at q
          have := bools_ok r2 eb
          subst this
          exact cr_all hc pins s σ H _ us Q I r ⟨_, bs, rfl, SqL.of h1, Run.val q w (.bl _)⟩
      | _ => exact q.elim
  · exact q.elim
theorem mc_any (hc : X.calm = true) : CallR X (.builtin "any") (rC cn X.K bAny) := by
  intro pins s σ H xs us Q I r ⟨vs, m, ρ, w, rs, q⟩
  unfold bAny at q
  split at q
  · rename_i l
    obtain ⟨x, rfl, r1⟩ := rs.one
    obtain ⟨rfl, _⟩ := r1.locL
    cases eo : m.get l with
    | none => rw [eo] at q; exact q.elim
    | some o =>
      obtain ⟨_, ro⟩ := w.obj l o eo
      rw [eo] at q
      cases o with
      | lst ys =>
        obtain ⟨zs, h1, r2⟩ := ro
        dsimp only at q
        cases eb : bools ys with
        | none => rw [eb] at q; exact q.elim
        | some bs =>
          rw [eb] at q
          have := bools_ok r2 eb
          subst this
          exact cr_any hc pins s σ H _ us Q I r ⟨_, bs, rfl, SqL.of h1, Run.val q w (.bl _)⟩
      | _ => exact q.elim
  · exact q.elim
theorem mc_sum (hc : X.calm = true) : CallR X (.builtin "sum") (rC cn X.K bSum) := by
  intro pins s σ H xs us Q I r ⟨vs, m, ρ, w, rs, q⟩
  unfold bSum at q
  split at q
  · rename_i l
    obtain ⟨x, rfl, r1⟩ := rs.one
    obtain ⟨rfl, _⟩ := r1.locL
    cases eo : m.get l with
    | none => rw [eo] at q; exact q.elim
    | some o =>
      obtain ⟨_, ro⟩ := w.obj l o eo
      rw [eo] at q
      cases o with
      | lst ys =>
        obtain ⟨zs, h1, r2⟩ := ro
        dsimp only at q
        cases eb : intsOf ys with
        | none => rw [eb] at q; exact q.elim
        | some bs =>
          rw [eb] at q
          have := intsOf_ok r2 eb
          subst this
          exact cr_sum hc pins s σ H _ us Q I r ⟨_, bs, rfl, SqL.of h1, Run.val q w (.int _)⟩
      | _ => exact q.elim
  · exact q.elim
theorem mc_list : CallR X (.type "list") (rC cn X.K bList) := by
  intro pins s σ H xs us Q I r ⟨vs, m, ρ, w, rs, q⟩
  unfold bList at q
  split at q
  · rename_i v
    obtain ⟨x, rfl, r1⟩ := rs.one
    cases eo : itemsOf m v with
    | none => rw [eo] at q; exact q.elim
    | some ys =>
      rw [eo] at q
      obtain ⟨p, zs, rfl, r2, h⟩ := itemsOf_ok w r1 eo
      exact call_list_of pins s σ H _ us Q I r ⟨p, zs, rfl, h.imp (·.1) (·.1), fun l hl => Run.mkLst q w r2 hl⟩
  · exact q.elim
/-- tuple(a list), the object told -/
theorem call_tupleD : CallR X (.type "tuple") (fun xs H Q => ∃ p ys, xs = [.ref p] ∧ SqL X.K H p ys ∧ ∀ l (ob : Obj), ob.dict = none → H l = none → Q (.ref l) (upd H l (.frz ob (.tup ys)))) := by
  intro pins s σ H xs us Q I r h
  obtain ⟨p, ys, rfl, hq, q⟩ := h
  obtain ⟨u, rfl, rx⟩ := vals1 r
  cases rx
  obtain ⟨its, r', pl, hz⟩ := I.list hq
  have hl := r'.length
  refine call_tuple_list pl.isList (fun h' kp => ?_) (by simp only [List.size_toArray] <;> omega)
  have I1 : Inv X pins σ H { s with heap := h' } := I.kept (t' := s.toks) kp
  have g := Heap.get?_push_size h' (o := { cls := .type "tuple", data := .seq its.toArray }) rfl
  exact ⟨.ref h'.objs.size, _, I1.laid (t' := s.toks) (fun b o e => Heap.get?_push_of_some _ e) (Nat.le_refl _) (show ObjOk X.prog X.w _ _ _ (.frz _ (.tup ys)) from ⟨g, hz, its, r', ⟨_, g, rfl, _, rfl⟩⟩), rfl, q _ _ rfl (I1.hok.fresh (Nat.le_refl _))⟩
theorem mc_tuple : CallR X (.type "tuple") (rC cn X.K bTuple) := by
  intro pins s σ H xs us Q I r ⟨vs, m, ρ, w, rs, q⟩
  unfold bTuple at q
  split at q
  · rename_i v
    obtain ⟨x, rfl, r1⟩ := rs.one
    cases eo : itemsOf m v with
    | none => rw [eo] at q; exact q.elim
    | some ys =>
      rw [eo] at q
      obtain ⟨p, zs, rfl, r2, h⟩ := itemsOf_ok w r1 eo
      by_cases ht : ∃ ws, v = .tup ws
      · obtain ⟨ws, rfl⟩ := ht
        rcases h with ⟨h, _⟩ | ⟨h, e⟩
        · obtain ⟨_, _, e1, h2, r3⟩ := r1.tupL
          cases e1
          cases eo
          exact call_tuple_of pins s σ H _ us Q I r ⟨p, _, rfl, .inr ⟨h2, Run.val q w r1⟩⟩
        · cases eo
          exact call_tuple_of pins s σ H _ us Q I r ⟨p, zs, rfl, .inr ⟨h, Run.val q w r1⟩⟩
      · have q : Run cn X.K RV (.ok (.dtp ys) m) ρ H m.n Q (fun _ _ _ => False) := by
          cases v with
          | tup ws => exact absurd ⟨ws, rfl⟩ ht
          | _ => exact q
        rcases h with ⟨h, _⟩ | ⟨h, e⟩
        · exact call_tupleD pins s σ H _ us Q I r ⟨p, zs, rfl, h, fun l ob hd hl => Run.newDtp q w r2 hl hd⟩
        · exact absurd ⟨_, e⟩ ht
  · exact q.elim
theorem mc_max (hc : X.calm = true) : CallR X (.builtin "max") (rC cn X.K bMax) := by
  intro pins s σ H xs us Q I r ⟨vs, m, ρ, w, rs, q⟩
  unfold bMax at q
  split at q
  · rename_i i j
    obtain ⟨x, y, rfl, r1, r2⟩ := rs.two
    cases r1; cases r2
    exact call_max2 hc pins s σ H _ us Q I r ⟨i, j, rfl, Run.val q w (.int _)⟩
  · exact q.elim
theorem mc_min (hc : X.calm = true) : CallR X (.builtin "min") (rC cn X.K bMin) := by
  intro pins s σ H xs us Q I r ⟨vs, m, ρ, w, rs, q⟩
  unfold bMin at q
  split at q
  · rename_i i j
    obtain ⟨x, y, rfl, r1, r2⟩ := rs.two
    cases r1; cases r2
    exact call_min2 hc pins s σ H _ us Q I r ⟨i, j, rfl, Run.val q w (.int _)⟩
  · exact q.elim
theorem mc_abs : CallR X (.builtin "abs") (rC cn X.K bAbs) := by
  intro pins s σ H xs us Q I r ⟨vs, m, ρ, w, rs, q⟩
  unfold bAbs at q
  split at q
  · rename_i i
    obtain ⟨x, rfl, r1⟩ := rs.one
    cases r1
    exact call_abs pins s σ H _ us Q I r ⟨i, rfl, Run.val q w (.int _)⟩
  · exact q.elim
theorem mc_int : CallR X (.type "int") (rC cn X.K bInt) := by
  intro pins s σ H xs us Q I r ⟨vs, m, ρ, w, rs, q⟩
  unfold bInt at q
  split at q
  · rename_i i
    obtain ⟨x, rfl, r1⟩ := rs.one
    cases r1
    exact call_int1 pins s σ H _ us Q I r (.inl ⟨i, rfl, Run.val q w (.int _)⟩)
  · rename_i i
    obtain ⟨x, rfl, r1⟩ := rs.one
    cases r1
    exact call_int1 pins s σ H _ us Q I r (.inr ⟨i, rfl, Run.val q w (.int _)⟩)
  · rename_i a
    obtain ⟨x, rfl, r1⟩ := rs.one
    cases r1
    cases e0 : Nat.ble a.length 600 with
    | false => rw [e0] at q; exact q.elim
    | true =>
      rw [e0] at q
      dsimp only at q
      cases e1 : PySem.intText? a with
      | none => rw [e1] at q; exact q.elim
      | some n =>
        rw [e1] at q
        exact call_int_str pins s σ H _ us Q I r ⟨a, n, rfl, e1, by have := Nat.le_of_ble_eq_true e0; omega, Run.val q w (.int _)⟩
  · exact q.elim
theorem tyOf_ok {K : PySem.W.Frag} {m : MH} {H : Hp} {ρ : Nat → Addr} {v : Val} {x : V} {t : Ty} (w : RH cn K m H ρ) (r : RV K H ρ m.n v x) (h : tyOf m v = some t) : TyX K H x (.type t.name) := by
  cases v with
  | non => cases r; cases h; exact .base .non
  | bl b => cases r; cases h; exact .base (.bl b)
  | int b => cases r; cases h; exact .base (.int b)
  | str b => cases r; cases h; exact .base (.str b)
  | tup xs =>
    obtain ⟨p, vs, rfl, h1, r1⟩ := r.tupL
    cases h
    rcases h1 with (h1 | ⟨o, h1⟩) | ⟨o, its, n, h1, h2, _⟩
    · exact .base (.tup h1)
    · exact .fTuple h1
    · exact .kTuple h1 h2
  | dtp xs =>
    cases h
    cases r with
    | dtp h1 r1 =>
      rcases h1 with ⟨o, h1, _⟩ | ⟨o, its, n, h1, h2, _⟩
      · exact .fTuple h1
      · exact .kTuple h1 h2
  | loc l =>
    obtain ⟨rfl, _⟩ := r.locL
    unfold tyOf at h
    dsimp only at h
    cases eo : m.get l with
    | none => rw [eo] at h; cases h
    | some o =>
      obtain ⟨_, ro⟩ := w.obj l o eo
      rw [eo] at h
      cases o with
      | lst ys => cases h; obtain ⟨vs, h1, _⟩ := ro; exact .base (.lst h1)
      | rol ys =>
        cases h
        obtain ⟨vs, h1 | ⟨o, h1⟩, _⟩ := ro
        · exact .base (.lst h1)
        · exact .base (.frz h1)
      | dic kvs => cases h; obtain ⟨gs, h1, _⟩ := ro; exact .base (.dK h1)
      | ins c fs => cases h
  | ty t => cases h
  | klst xs => cases h
theorem mc_isi : CallR X (.builtin "isinstance") (rC cn X.K bIsi) := by
  intro pins s σ H xs us Q I r ⟨vs, m, ρ, w, rs, q⟩
  unfold bIsi at q
  split at q
  · rename_i v t
    obtain ⟨x, y, rfl, r1, r2⟩ := rs.two
    cases r2
    cases e0 : tyOf m v with
    | none => rw [e0] at q; exact q.elim
    | some u =>
      rw [e0] at q
      dsimp only at q
      cases e1 : isT u t with
      | none => rw [e1] at q; exact q.elim
      | some b =>
        rw [e1] at q
        exact call_isi pins s σ H _ us Q I r ⟨x, .ty t.name, .type u.name, .type t.name, b, rfl, .ty _, tyOf_ok w r1 e0, kit_ty (isT_ok e1), Run.val q w (.bl _)⟩
  · exact q.elim
end
end Mi

set_option Elab.async false
set_option linter.all false
set_option autoImplicit false
set_option maxRecDepth 100000
set_option maxHeartbeats 2000000
namespace Mi
open PySem PySem.Spec L2
/-! ### statements -/
inductive RS where
  | nx (sl : Slots) (m : MH) | rt (v : Val) (m : MH) | bk (sl : Slots) (m : MH) | ct (sl : Slots) (m : MH) | err (e : Exc) (sl : Slots) (m : MH) | fail
abbrev S := Slots → MH → RS
def RE.to {α : Type} (r : RE α) (sl : Slots) (k : α → MH → RS) : RS := match r with
  | .ok a m => k a m
  | .err e m => .err e sl m
  | .fail => .fail
def RunS (cn : CN) (K : PySem.W.Frag) (r : RS) (ρ : Nat → Addr) (H : Hp) (n : Nat) (D : Ends) (W : WX) : Prop := match r with
  | .nx sl m' => ∀ σ' H' ρ', WR cn K sl m' σ' H' ρ' → Ext K ρ H n ρ' H' m'.n → D.nx σ' H'
  | .rt v m' => ∀ H' ρ' x, RH cn K m' H' ρ' → Ext K ρ H n ρ' H' m'.n → RV K H' ρ' m'.n v x → D.rt x H'
  | .bk sl m' => ∀ σ' H' ρ', WR cn K sl m' σ' H' ρ' → Ext K ρ H n ρ' H' m'.n → D.bk σ' H'
  | .ct sl m' => ∀ σ' H' ρ', WR cn K sl m' σ' H' ρ' → Ext K ρ H n ρ' H' m'.n → D.ct σ' H'
  | .err e sl m' => ∀ c d σ' H' ρ', WR cn K sl m' σ' H' ρ' → Ext K ρ H n ρ' H' m'.n → RX cn K H' ρ' m'.n e c d → W c d σ' H'
  | .fail => False
def TS' (cn : CN) (K : PySem.W.Frag) (W : WX) (f : S) : TS := fun D σ H => ∃ sl m ρ, WR cn K sl m σ H ρ ∧ RunS cn K (f sl m) ρ H m.n D W
section
variable {cn : CN} {K : PySem.W.Frag} {ρ ρ0 : Nat → Addr} {H H0 : Hp} {n n0 : Nat} {D D' : Ends} {W W' : WX} {r : RS}
theorem RunS.back (e : Ext K ρ0 H0 n0 ρ H n) (h : RunS cn K r ρ0 H0 n0 D W) : RunS cn K r ρ H n D W := by
  cases r with
  | nx sl m => exact fun σ' H' ρ' a b => h σ' H' ρ' a (e.trans b)
  | rt v m => exact fun H' ρ' x a b c => h H' ρ' x a (e.trans b) c
  | bk sl m => exact fun σ' H' ρ' a b => h σ' H' ρ' a (e.trans b)
  | ct sl m => exact fun σ' H' ρ' a b => h σ' H' ρ' a (e.trans b)
  | err x sl m => exact fun c d σ' H' ρ' a b z => h c d σ' H' ρ' a (e.trans b) z
  | fail => exact h
theorem RunS.bindE {α β : Type} {R1 : Rl α β} {sl : Slots} {m : MH} {σ : St} {g : RE α} {k : α → MH → RS} (w : WR cn K sl m σ H ρ) (h : RunS cn K (g.to sl k) ρ H m.n D W) {Q1 : β → Hp → Prop}
    (hQ : ∀ y H1 ρ1 m1 a, WR cn K sl m1 σ H1 ρ1 → Ext K ρ H m.n ρ1 H1 m1.n → R1 K H1 ρ1 m1.n a y → RunS cn K (k a m1) ρ1 H1 m1.n D W → Q1 y H1) : Run cn K R1 g ρ H m.n Q1 fun c d H' => W c d σ H' := by
  cases g with
  | ok a m1 => exact fun H1 ρ1 y rh e r1 => hQ y H1 ρ1 m1 a (w.ext e rh) e r1 (RunS.back e h)
  | err x m1 => exact fun c d H1 ρ1 rh e rx => h c d σ H1 ρ1 (w.ext e rh) e rx
  | fail => exact h
theorem RunS.tm {α β : Type} {R1 : Rl α β} {sl : Slots} {m : MH} {σ : St} {g : Slots → MH → RE α} {k : α → MH → RS} (w : WR cn K sl m σ H ρ) (h : RunS cn K ((g sl m).to sl k) ρ H m.n D W) {Q1 : β → Hp → Prop}
    (hQ : ∀ y H1 ρ1 m1 a, WR cn K sl m1 σ H1 ρ1 → Ext K ρ H m.n ρ1 H1 m1.n → R1 K H1 ρ1 m1.n a y → RunS cn K (k a m1) ρ1 H1 m1.n D W → Q1 y H1) : TM cn K R1 W g σ H Q1 := ⟨sl, m, ρ, w, h.bindE w hQ⟩
/-- .. of a step that raises nothing -/
theorem RunS.bindN {α β : Type} {R1 : Rl α β} {sl : Slots} {m : MH} {σ : St} {g : RE α} {k : α → MH → RS} (h : RunS cn K ((nE g).to sl k) ρ H m.n D W) (w : WR cn K sl m σ H ρ) {Q1 : β → Hp → Prop} {E : XK}
    (hQ : ∀ y H1 ρ1 m1 a, WR cn K sl m1 σ H1 ρ1 → Ext K ρ H m.n ρ1 H1 m1.n → R1 K H1 ρ1 m1.n a y → RunS cn K (k a m1) ρ1 H1 m1.n D W → Q1 y H1) : Run cn K R1 g ρ H m.n Q1 E := by
  cases g with
  | ok a m1 => exact fun H1 ρ1 y rh e r1 => hQ y H1 ρ1 m1 a (w.ext e rh) e r1 (RunS.back e h)
  | err x m1 => exact h.elim
  | fail => exact h
theorem RunS.nxt {sl : Slots} {m : MH} {σ : St} (h : RunS cn K (.nx sl m) ρ H m.n D W) (w : WR cn K sl m σ H ρ) : D.nx σ H := h σ H ρ w .refl
theorem WR.set {sl : Slots} {m : MH} {σ : St} {v : Val} {x : V} (w : WR cn K sl m σ H ρ) (r : RV K H ρ m.n v x) (i : Nat) : WR cn K (sl.set i (.v v)) m (σ.set i (some x)) H ρ := by
  refine ⟨fun j y q => ?_, fun j y q => ?_, by rw [List.length_set, List.length_set]; exact w.len, w.h⟩
  · by_cases e : j = i
    · subst e
      by_cases hl : j < sl.length
      · rw [List.getElem?_set_self hl] at q; cases q
        exact ⟨x, List.getElem?_set_self (by rw [← w.len]; exact hl), r⟩
      · rw [List.getElem?_eq_none (by simpa using hl)] at q; cases q
    · rw [List.getElem?_set_ne (Ne.symm e)] at q
      obtain ⟨v', h1, h2⟩ := w.slo j y q
      exact ⟨v', by rw [List.getElem?_set_ne (Ne.symm e)]; exact h1, h2⟩
  · by_cases e : j = i
    · subst e
      by_cases hl : j < sl.length
      · rw [List.getElem?_set_self hl] at q; cases q
      · rw [List.getElem?_eq_none (by simpa using hl)] at q; cases q
    · rw [List.getElem?_set_ne (Ne.symm e)] at q
      obtain ⟨a, c, d, h0, h1, h2⟩ := w.exs j y q
      exact ⟨a, c, d, h0, by rw [List.getElem?_set_ne (Ne.symm e)]; exact h1, h2⟩
end
/-! ### small statements -/
def sNext : S := fun sl m => .nx sl m
def sSeq (f g : S) : S := fun sl m => match f sl m with
  | .nx sl' m' => g sl' m'
  | r => r
def sBreak : S := fun sl m => .bk sl m
def sCont : S := fun sl m => .ct sl m
def sDrop (f : E) : S := fun sl m => (f sl m).to sl fun _ m1 => .nx sl m1
def sRet (f : E) : S := fun sl m => (f sl m).to sl fun v m1 => .rt v m1
def sRetN : S := fun _ m => .rt .non m
def sIf (c : ET) (f g : S) : S := fun sl m => (c sl m).to sl fun b m1 => match b with | true => f sl m1 | false => g sl m1
def sSet (i : Nat) (f : E) : S := fun sl m => (f sl m).to sl fun v m1 => .nx (sl.set i (.v v)) m1
/-- targets: names and tuples of them -/
abbrev G := Val → Slots → MH → Option Slots
abbrev Gs := List Val → Slots → MH → Option Slots
def gNm (i : Nat) : G := fun v sl _ => some (sl.set i (.v v))
def gsNil : Gs := fun vs sl _ => match vs with | [] => some sl | _ => none
def gsCons (g : G) (h : Gs) : Gs := fun vs sl m => match vs with
  | v :: r => (match g v sl m with | some sl' => h r sl' m | none => none)
  | [] => none
def gTp (n : Nat) (h : Gs) : G := fun v sl m => match wk v with
  | .tup xs => (match Nat.beq xs.length n with | true => h xs sl m | false => none)
  | _ => none
def sAsg (f : E) (g : G) : S := fun sl m => (f sl m).to sl fun v m1 => match g v sl m1 with | some sl' => .nx sl' m1 | none => .fail
/-- o[i] = v -/
def kput (kvs : List (Key × Val)) (k : Key) (v : Val) : List (Key × Val) := match kvs.any fun p => keq p.1 k with
  | true => kvs.map fun p => match keq p.1 k with | true => (p.1, v) | false => p
  | false => kvs ++ [(k, v)]
def lstPut (m : MH) (l : Nat) (xs : List Val) (b v : Val) : RE Unit := match b with
  | .int i => (match ixN xs.length i with | some j => .ok () (m.put l (.lst (xs.set j v))) | none => .fail)
  | _ => .fail
def oSet (a b v : Val) (m : MH) : RE Unit := match a with
  | .loc l => (match m.get l with
    | some (.lst xs) => lstPut m l xs b v
    | some (.dic kvs) => (match keyOf b with
      | some k => (match small kvs with | true => .ok () (m.put l (.dic (kput kvs k v))) | false => .fail)
      | none => .fail)
    | _ => .fail)
  | _ => .fail
def sPut (o i f : E) : S := fun sl m => (f sl m).to sl fun v m1 => (o sl m1).to sl fun a m2 => (i sl m2).to sl fun b m3 => (nE (oSet a b v m3)).to sl fun _ m4 => .nx sl m4
/-- name op= e -/
def sAug (i : Nat) (op : Val → Val → MH → RE Val) (f : E) : S := fun sl m => match sl[i]? with
  | some (.v x) => (f sl m).to sl fun y m1 => (nE (op x y m1)).to sl fun z m2 => .nx (sl.set i (.v z)) m2
  | _ => .fail
/-- o[i] op= e -/
def sAugS (o i : E) (op : Val → Val → MH → RE Val) (f : E) : S := fun sl m => (o sl m).to sl fun a m1 => (i sl m1).to sl fun b m2 => (nE (oIx a b m2)).to sl fun x m3 => (f sl m3).to sl fun y m4 => (nE (op x y m4)).to sl fun z m5 => (nE (oSet a b z m5)).to sl fun _ m6 => .nx sl m6
/-- o.f = e; o.f op= e -/
def oFld (cs : List Nat) (f : Str) (a v : Val) (m : MH) : RE Unit := match a with
  | .loc i => (match m.get i with
    | some (.ins c fs) => (match cs.any (Nat.beq c) with
      | true => (match Nat.blt fs.length 1000 with | true => .ok () (m.put i (.ins c (fput f v fs))) | false => .fail)
      | false => .fail)
    | _ => .fail)
  | _ => .fail
def sFld (cs : List Nat) (f : Str) (o e : E) : S := fun sl m => (e sl m).to sl fun v m1 => (o sl m1).to sl fun a m2 => (nE (oFld cs f a v m2)).to sl fun _ m3 => .nx sl m3
def fldEnd (f : Str) (l c : Nat) (z : Val) (m : MH) : RE Unit := match m.get l with
  | some (.ins c' fs) => (match Nat.beq c' c && Nat.blt fs.length 1000 with | true => .ok () (m.put l (.ins c (fput f z fs))) | false => .fail)
  | _ => .fail
def fldAug (cs : List Nat) (f : Str) (op : Val → Val → MH → RE Val) (e : E) (a : Val) (sl : Slots) (m : MH) : RS := match a with
  | .loc l => (match m.get l with
    | some (.ins c fs) => (match cs.any (Nat.beq c) with
      | true => (match flook fs f with
        | some x => (e sl m).to sl fun y m3 => (nE (op x y m3)).to sl fun z m4 => (nE (fldEnd f l c z m4)).to sl fun _ m5 => .nx sl m5
        | none => .fail)
      | false => .fail)
    | _ => .fail)
  | _ => .fail
def sFldAug (cs : List Nat) (f : Str) (o : E) (op : Val → Val → MH → RE Val) (e : E) : S := fun sl m => (o sl m).to sl fun a m1 => fldAug cs f op e a sl m1
/-- a, b = x, y (names) -/
def sPar (i j : Nat) (f : EA) : S := fun sl m => (f sl m).to sl fun vs m1 => match vs with
  | [v, w] => .nx ((sl.set i (.v v)).set j (.v w)) m1
  | _ => .fail
def sPar3 (i j l : Nat) (f : EA) : S := fun sl m => (f sl m).to sl fun vs m1 => match vs with
  | [v, w, u] => .nx (((sl.set i (.v v)).set j (.v w)).set l (.v u)) m1
  | _ => .fail

section
variable {cn : CN} {X : Cx} {W : WX} {st : Stmt} {rest : List Stmt} {f g : S} {e a b : Expr} {fe fa fb : E} {fc : ET} {pos : Pos}
theorem ps_imp {t t' : TS} (h : PS X st t) (k : ∀ D σ H, t' D σ H → t D σ H) : PS X st t' := ⟨fun pins s σ H D I hw => h.run pins s σ H D I (k D σ H hw)⟩
theorem pss_imp {t t' : TS} (h : PSs X rest t) (k : ∀ D σ H, t' D σ H → t D σ H) : PSs X rest t' := ⟨fun pins s σ H D I hw => h.run pins s σ H D I (k D σ H hw)⟩
theorem mss_nil : PSs X [] (TS' cn X.K W sNext) := pss_imp pss_nil fun D σ H ⟨sl, m, ρ, w, r⟩ => r.nxt w
theorem RunS.seq {K : PySem.W.Frag} {ρ : Nat → Addr} {H : Hp} {n : Nat} {D : Ends} {sl : Slots} {m : MH} (h : RunS cn K (sSeq f g sl m) ρ H n D W) : RunS cn K (f sl m) ρ H n { D with nx := TS' cn K W g D } W := by
  unfold sSeq at h
  cases e : f sl m with
  | nx sl' m' => rw [e] at h; exact fun σ' H' ρ' w ex => ⟨sl', m', ρ', w, RunS.back ex h⟩
  | rt v m' => rw [e] at h; exact h
  | bk sl' m' => rw [e] at h; exact h
  | ct sl' m' => rw [e] at h; exact h
  | err x sl' m' => rw [e] at h; exact h
  | fail => rw [e] at h; exact h
theorem mss_cons (h1 : PS X st (TS' cn X.K W f)) (h2 : PSs X rest (TS' cn X.K W g)) : PSs X (st :: rest) (TS' cn X.K W (sSeq f g)) :=
  pss_imp (pss_cons h1 h2) fun D σ H ⟨sl, m, ρ, w, r⟩ => ⟨sl, m, ρ, w, r.seq⟩
theorem mss_one (h1 : PS X st (TS' cn X.K W f)) : PSs X [st] (TS' cn X.K W f) := pss_one h1
theorem ms_pass : PS X (.Pass pos) (TS' cn X.K W sNext) := ps_imp ps_pass fun D σ H ⟨sl, m, ρ, w, r⟩ => r.nxt w
theorem ms_break : PS X (.Break pos) (TS' cn X.K W sBreak) := ps_imp ps_break fun D σ H ⟨sl, m, ρ, w, r⟩ => r σ H ρ w .refl
theorem ms_continue : PS X (.Continue pos) (TS' cn X.K W sCont) := ps_imp ps_continue fun D σ H ⟨sl, m, ρ, w, r⟩ => r σ H ρ w .refl
theorem ms_expr (he : PE X e (TE' cn X.K W fe)) (hs : swapsWith e none pos.line X.env = pure false := by rfl) : PS X (.Expr e pos) (TS' cn X.K W (sDrop fe)) :=
  ps_imp (ps_expr he hs) fun D σ H ⟨sl, m, ρ, w, r⟩ => RunS.tm w r fun y H1 ρ1 m1 u w1 e1 r1 q => q.nxt w1
theorem ms_ret (he : PE X e (TE' cn X.K W fe)) : PS X (.Return (some e) pos) (TS' cn X.K W (sRet fe)) :=
  ps_imp (ps_ret he) fun D σ H ⟨sl, m, ρ, w, r⟩ => RunS.tm w r fun y H1 ρ1 m1 u w1 e1 r1 q => q H1 ρ1 y w1.h .refl r1
theorem ms_retN : PS X (.Return none pos) (TS' cn X.K W sRetN) := ps_imp ps_retN fun D σ H ⟨sl, m, ρ, w, r⟩ => r H ρ .non w.h .refl .non
theorem ms_if {c : Expr} {p q : List Stmt} (hc : PT X c (TT' cn X.K W fc)) (ha : PSs X p (TS' cn X.K W f)) (hb : PSs X q (TS' cn X.K W g)) : PS X (.If c p q pos) (TS' cn X.K W (sIf fc f g)) := by
  refine ps_imp (ps_if hc ha hb) fun D σ H ⟨sl, m, ρ, w, r⟩ => RunS.tm w r fun y H1 ρ1 m1 u w1 e1 r1 q => ?_
  cases (show u = y from r1)
  cases y with
  | true => rw [if_pos rfl]; exact ⟨sl, m1, ρ1, w1, q⟩
  | false => rw [if_neg Bool.false_ne_true]; exact ⟨sl, m1, ρ1, w1, q⟩
theorem ms_set {i : Nat} {x : Str} {pos' : Pos} (hN : X.N.Nodup) (hi : X.N[i]? = some x) (hx : Loc X.env.scope x) (he : PE X e (TE' cn X.K W fe)) (hs : swapsWith e (some (.Name x pos')) pos.line X.env = pure false := by rfl) (hf : X.fn x = true ∨ X.env.scope.names.lookup x = some .local := by first | exact .inl rfl | exact .inr rfl | assumption) :
    PS X (.Assign [.Name x pos'] e pos) (TS' cn X.K W (sSet i fe)) :=
  ps_imp (ps_set hN hi hx he hs hf) fun D σ H ⟨sl, m, ρ, w, r⟩ => RunS.tm w r fun y H1 ρ1 m1 u w1 e1 r1 q => q.nxt (w1.set r1 i)
/-! ### targets -/
/-- ix: the slots that are stored to -/
def TG' (cn : CN) (K : PySem.W.Frag) (ix : List Nat) (f : G) : TG := fun v σ H Q => ∃ x sl m ρ sl', WR cn K sl m σ H ρ ∧ RV K H ρ m.n x v ∧ f x sl m = some sl' ∧ ∀ σ', WR cn K sl' m σ' H ρ → σ'.length = σ.length → (∀ j, j ∉ ix → σ'[j]? = σ[j]?) → Q σ' H
def TGs' (cn : CN) (K : PySem.W.Frag) (ix : List Nat) (f : Gs) : TGs := fun v σ H Q => ∃ x sl m ρ sl', WR cn K sl m σ H ρ ∧ RVs K H ρ m.n x v ∧ f x sl m = some sl' ∧ ∀ σ', WR cn K sl' m σ' H ρ → σ'.length = σ.length → (∀ j, j ∉ ix → σ'[j]? = σ[j]?) → Q σ' H
theorem pg_imp {t t' : TG} (h : PG X e t) (k : ∀ v σ H Q, t' v σ H Q → t v σ H Q) : PG X e t' := ⟨fun pins s σ H v u Q I r hw => h.run pins s σ H v u Q I r (k v σ H Q hw)⟩
theorem pgs_imp {es : List Expr} {t t' : TGs} (h : PGs X es t) (k : ∀ v σ H Q, t' v σ H Q → t v σ H Q) : PGs X es t' := ⟨fun pins s σ H v u Q I r hw => h.run pins s σ H v u Q I r (k v σ H Q hw)⟩
theorem mg_name {i : Nat} {x : Str} (hN : X.N.Nodup) (hi : X.N[i]? = some x) (hx : Loc X.env.scope x) (hf : X.fn x = true ∨ X.env.scope.names.lookup x = some .local := by first | exact .inl rfl | exact .inr rfl | assumption) : PG X (.Name x pos) (TG' cn X.K [i] (gNm i)) :=
  pg_imp (pg_name hN hi hx hf) fun v σ H Q ⟨x, sl, m, ρ, sl', w, r, h, k⟩ => by
    cases h
    exact k _ (w.set r i) (List.length_set ..) fun j hj => List.getElem?_set_ne fun e => hj (by rw [e]; exact List.mem_cons_self)
theorem mgs_nil : PGs X [] (TGs' cn X.K [] gsNil) := pgs_imp pgs_nil fun v σ H Q ⟨x, sl, m, ρ, sl', w, r, h, k⟩ => by
  cases r with
  | nil => cases h; exact ⟨rfl, k σ w rfl fun _ _ => rfl⟩
  | cons _ _ => cases h
theorem mgs_cons {es : List Expr} {g : G} {h : Gs} {ix iy : List Nat} (h1 : PG X e (TG' cn X.K ix g)) (h2 : PGs X es (TGs' cn X.K iy h)) (hs : (assignEach (e :: es) X.env).map (·.2) = assign e X.env :: (assignEach es X.env).map (·.2) := by rfl) : PGs X (e :: es) (TGs' cn X.K (ix ++ iy) (gsCons g h)) := by
  refine pgs_imp (pgs_cons h1 h2 hs) fun v σ H Q ⟨x, sl, m, ρ, sl', w, r, q, k⟩ => ?_
  cases r with
  | nil => cases q
  | @cons x0 v0 xs vs r1 r2 =>
    unfold gsCons at q
    dsimp only at q
    cases e1 : g x0 sl m with
    | none => rw [e1] at q; cases q
    | some s1 =>
      rw [e1] at q
      refine ⟨v0, vs, rfl, x0, sl, m, ρ, s1, w, r1, e1, fun σ' w' l' h' => ⟨xs, s1, m, ρ, sl', w', r2, q, fun σ2 w2 l2 h2' => k σ2 w2 (l2.trans l') fun j hj => ?_⟩⟩
      rw [h2' j fun z => hj (List.mem_append_right _ z), h' j fun z => hj (List.mem_append_left _ z)]
theorem mg_tup {es : List Expr} {k n : Nat} {h : Gs} {ix : List Nat} (hc : X.calm = true) (h1 : PGs X es (TGs' cn X.K ix h)) (hn : (assignEach es X.env).length = n := by rfl) (hst : (assignEach es X.env).findIdx? (·.1) = none := by rfl) : PG X (.Tuple es k pos) (TG' cn X.K ix (gTp n h)) := by
  refine pg_imp (pg_tup hc h1 hn hst) fun v σ H Q ⟨x, sl, m, ρ, sl', w, r, q, kk⟩ => ?_
  have r := r.wk
  unfold gTp at q
  generalize wk x = x at q r
  cases x with
  | tup xs =>
    obtain ⟨p, vs, rfl, h2, rs⟩ := r.tupL
    dsimp only at q
    cases e1 : Nat.beq xs.length n with
    | false => rw [e1] at q; cases q
    | true =>
      rw [e1] at q
      exact ⟨p, vs, rfl, h2, by rw [← rs.length]; exact Nat.eq_of_beq_eq_true e1, xs, sl, m, ρ, sl', w, rs, q, kk⟩
  | _ => cases q
theorem ms_asg {tg : Expr} {g : G} {ix : List Nat} (he : PE X e (TE' cn X.K W fe)) (hg : PG X tg (TG' cn X.K ix g)) (hs : swapsWithSole [tg] e pos.line X.env = pure false := by rfl) (hw : swappedStores [tg] e X.env = pure none := by rfl)
    (h1 : (assignEach [tg] X.env).map (·.2) = [assign tg X.env] := by rfl) : PS X (.Assign [tg] e pos) (TS' cn X.K W (sAsg fe g)) := by
  refine ps_imp (ps_asg he hg hs hw h1) fun D σ H ⟨sl, m, ρ, w, r⟩ => RunS.tm w r fun y H1 ρ1 m1 u w1 e1 r1 q => ?_
  cases e2 : g u sl m1 with
  | none => rw [e2] at q; exact q.elim
  | some sl' =>
    rw [e2] at q
    exact ⟨u, sl, m1, ρ1, sl', w1, r1, e2, fun σ' w' _ _ => q.nxt w'⟩
/-! ### o[i] = v, o.f = v, .. op= .. -/
theorem RKs.put {K : PySem.W.Frag} {H : Hp} {ρ : Nat → Addr} {n : Nat} {k : Key} {v : Val} {x : V} (q : RV K H ρ n v x) {fs : List (Key × Val)} {gs : List (Key × V)} (h : RKs K H ρ n fs gs) : RKs K H ρ n (kput fs k v) (putK gs k x) := by
  have h1 : ∀ {fs : List (Key × Val)} {gs : List (Key × V)}, fs.map (·.1) = gs.map (·.1) → (fs.any fun p => keq p.1 k) = gs.any fun kv => decide (kv.1 = k) := by
    intro fs
    induction fs with
    | nil =>
      intro gs h
      cases gs with
      | nil => rfl
      | cons b gs => cases h
    | cons a r ih =>
      intro gs h
      cases gs with
      | nil => cases h
      | cons b gs =>
        simp only [List.map_cons, List.cons.injEq] at h
        rw [List.any_cons, List.any_cons, ih h.2, keq_eq, h.1]
  have h2 : ∀ {fs : List (Key × Val)} {gs : List (Key × V)}, RKs K H ρ n fs gs → RKs K H ρ n (fs.map fun p => match keq p.1 k with | true => (p.1, v) | false => p) (gs.map fun kv => if kv.1 = k then (kv.1, x) else kv) := by
    intro fs
    induction fs with
    | nil =>
      intro gs h
      cases gs with
      | nil => exact h
      | cons b gs => cases h.1
    | cons a r ih =>
      intro gs h
      obtain ⟨e1, e2⟩ := h
      cases gs with
      | nil => cases e1
      | cons b gs =>
        obtain ⟨a0, av⟩ := a
        obtain ⟨b0, bv⟩ := b
        simp only [List.map_cons, List.cons.injEq] at e1
        obtain ⟨rfl, e1⟩ := e1
        cases e2 with
        | cons r1 r2 =>
          obtain ⟨i1, i2⟩ := ih (gs := gs) ⟨e1, r2⟩
          have hk : keq a0 k = decide (a0 = k) := keq_eq _ _
          by_cases z : a0 = k
          · rw [decide_eq_true z] at hk
            refine ⟨?_, ?_⟩
            · simp only [List.map_cons, hk, if_pos z]; rw [i1]
            · simp only [List.map_cons, hk, if_pos z]; exact .cons q i2
          · rw [decide_eq_false z] at hk
            refine ⟨?_, ?_⟩
            · simp only [List.map_cons, hk, if_neg z]; rw [i1]
            · simp only [List.map_cons, hk, if_neg z]; exact .cons r1 i2
  unfold kput putK
  rw [h1 h.1]
  cases e : gs.any fun kv => decide (kv.1 = k) with
  | true => rw [if_pos rfl]; exact h2 h
  | false =>
    rw [if_neg Bool.false_ne_true]
    exact ⟨by simp [h.1], by rw [List.map_append, List.map_append]; exact h.2.append (.cons q .nil)⟩
def rSet (cn : CN) (K : PySem.W.Frag) : TSet := fun o i v H Q => ∃ a b c m ρ, RH cn K m H ρ ∧ RV K H ρ m.n a o ∧ RV K H ρ m.n b i ∧ RV K H ρ m.n c v ∧ Run cn K RUn (oSet a b c m) ρ H m.n (fun _ H' => Q H') (fun _ _ _ => False)
theorem Run.put {K : PySem.W.Frag} {ρ : Nat → Addr} {H : Hp} {m : MH} {l : Nat} {o : Ob} {ho : HO} {Q : Unit → Hp → Prop} {E : XK} (q : Run cn K RUn (.ok () (m.put l o)) ρ H m.n Q E) (w : RH cn K m H ρ) (hl : l < m.n) (mu : Mut (H (ρ l))) (ro : RO cn K (upd H (ρ l) ho) ρ m.n (ρ l) o) : Q () (upd H (ρ l) ho) :=
  q _ ρ () (w.put hl mu ro) (.mut hl mu) trivial
theorem m_set (hu : X.A.units + 1 < cLine) : PSet X (rSet cn X.K) := by
  intro pins s σ H o i v ov iv u Q I ro ri rv ⟨a, b, c, m, ρ, w, ra, rb, rc, q⟩
  cases a with
  | loc l =>
    obtain ⟨rfl, hl⟩ := ra.locL
    unfold oSet at q
    dsimp only at q
    cases eo : m.get l with
    | none => rw [eo] at q; exact q.elim
    | some ob =>
      obtain ⟨_, rob⟩ := w.obj l ob eo
      rw [eo] at q
      cases ob with
      | lst xs =>
        obtain ⟨vs, h1, r1⟩ := rob
        have mu : Mut (H (ρ l)) := by rw [h1]; trivial
        cases b with
        | int k =>
          cases rb
          unfold lstPut at q
          dsimp only at q
          cases e : ixN xs.length k with
          | none => rw [e] at q; exact q.elim
          | some j =>
            rw [e] at q
            exact set_list pins s σ H _ _ v ov iv u Q I ro ri rv ⟨_, vs, k, j, rfl, rfl, h1, by rw [← r1.length]; exact e, q.put w hl mu ⟨_, upd_same, (r1.set rc j).ext (.mut hl mu)⟩⟩
        | _ => exact q.elim
      | dic kvs =>
        obtain ⟨gs, h1, r1⟩ := rob
        have mu : Mut (H (ρ l)) := by rw [h1]; trivial
        dsimp only at q
        cases ek : keyOf b with
        | none => rw [ek] at q; exact q.elim
        | some k =>
          rw [ek] at q
          dsimp only at q
          cases es : small kvs with
          | false => rw [es] at q; exact q.elim
          | true =>
            rw [es] at q
            have ey := keyOf_kV rb ek
            subst ey
            have hlen : gs.length < sizeLine := by
              have e := congrArg List.length r1.1
              simp only [List.length_map] at e
              have := Nat.le_of_ble_eq_true es
              rw [sizeLine_eq]; omega
            exact set_dict hu pins s σ H _ _ v ov iv u Q I ro ri rv ⟨_, _, rfl, DPut.k h1 hlen, q.put w hl mu ⟨_, upd_same, (RKs.put rc r1).ext (.mut hl mu)⟩⟩
      | _ => exact q.elim
  | _ => exact q.elim
theorem ms_put {o i : Expr} {fo fi : E} {p' : Pos} (hu : X.A.units + 1 < cLine) (he : PE X e (TE' cn X.K W fe)) (ho : PE X o (TE' cn X.K W fo)) (hi : PE X i (TE' cn X.K W fi))
    (ha : ∀ v, assign (.Subscript o i p') X.env v = (do
      let ov ← holding [v] (eval o X.env)
      let iv ← holding [v, ov] (eval i X.env)
      standAt p'
      holding [v, ov, iv] (setItem ov iv v)
      release [v, ov, iv] []) := by intro _; rfl) (hs : swapsWithSole [.Subscript o i p'] e pos.line X.env = pure false := by rfl) (hw : swappedStores [.Subscript o i p'] e X.env = pure none := by rfl)
    (h1 : (assignEach [.Subscript o i p'] X.env).map (·.2) = [assign (.Subscript o i p') X.env] := by rfl) : PS X (.Assign [.Subscript o i p'] e pos) (TS' cn X.K W (sPut fo fi fe)) := by
  refine ps_imp (ps_asg he (pg_sub ho hi (m_set (cn := cn) hu) ha) hs hw h1) fun D σ H ⟨sl, m, ρ, w, r⟩ => ?_
  refine RunS.tm w r fun y H1 ρ1 m1 u w1 e1 r1 q => ?_
  refine RunS.tm w1 q fun x H2 ρ2 m2 a w2 e2 r2 q => ?_
  refine RunS.tm w2 q fun z H3 ρ3 m3 b w3 e3 r3 q => ?_
  exact ⟨a, b, u, m3, ρ3, w3.h, r2.ext e3, r3, (r1.ext e2).ext e3, (q.bindN w3 fun _ H4 ρ4 m4 _ w4 e4 _ q => q.nxt w4)⟩
end
end Mi

set_option Elab.async false
set_option linter.all false
set_option autoImplicit false
set_option maxRecDepth 100000
set_option maxHeartbeats 2000000
namespace Mi
open PySem PySem.Spec L2
/-! ### op= -/
def oIAdd : Val → Val → MH → RE Val := fun a b m => match a, b with
  | .int i, .int j => .ok (.int (i + j)) m
  | _, _ => .fail
def oISub : Val → Val → MH → RE Val := fun a b m => match a, b with
  | .int i, .int j => .ok (.int (i - j)) m
  | _, _ => .fail
def oIMul : Val → Val → MH → RE Val := oMul
section
variable {cn : CN} {X : Cx}
theorem m_iadd : OpR X (inplaceOp .Add) (rM cn X.K oIAdd) := by
  intro pins s σ H x y v u Q I rx ry ⟨a, b, m, ρ, w, ra, rb, q⟩
  cases a with
  | int i =>
    cases b with
    | int j => cases ra; cases rb; exact iop_add pins s σ H _ _ v u Q I rx ry ⟨i, j, rfl, rfl, Run.val q w (.int _)⟩
    | _ => exact q.elim
  | _ => cases b <;> exact q.elim
theorem m_isub : OpR X (inplaceOp .Sub) (rM cn X.K oISub) := by
  intro pins s σ H x y v u Q I rx ry ⟨a, b, m, ρ, w, ra, rb, q⟩
  cases a with
  | int i =>
    cases b with
    | int j => cases ra; cases rb; exact iop_sub pins s σ H _ _ v u Q I rx ry ⟨i, j, rfl, rfl, Run.val q w (.int _)⟩
    | _ => exact q.elim
  | _ => cases b <;> exact q.elim
theorem m_imul : OpR X (inplaceOp .Mult) (rM cn X.K oIMul) := by
  intro pins s σ H x y v u Q I rx ry ⟨a, b, m, ρ, w, ra, rb, q⟩
  cases a with
  | int i =>
    cases b with
    | int j =>
      cases ra; cases rb
      unfold oIMul oMul at q
      cases z : within64 i || within64 j with
      | false => simp only [z] at q; exact q.elim
      | true =>
        simp only [z] at q
        refine iop_mul pins s σ H _ _ v u Q I rx ry ⟨i, j, rfl, rfl, ?_, q.val w (.int _)⟩
        rcases Bool.or_eq_true_iff.mp z with z | z
        · exact .inl (within64_ok z)
        · exact .inr (within64_ok z)
    | _ => exact q.elim
  | _ => cases b <;> exact q.elim
end
section
variable {cn : CN} {X : Cx} {W : WX} {st : Stmt} {rest : List Stmt} {f g : S} {e a b : Expr} {fe fo fi : E} {fc : ET} {fa : EA} {pos tpos : Pos} {oi : Val → Val → MH → RE Val} {aop : Operator} {o i : Expr}
theorem ms_aug {j : Nat} {x : Str} {pos' : Pos} (hN : X.N.Nodup) (hi : X.N[j]? = some x) (hx : Loc X.env.scope x) (he : PE X e (TE' cn X.K W fe)) (ho : OpR X (inplaceOp aop) (rM cn X.K oi)) (hf : X.fn x = true ∨ X.env.scope.names.lookup x = some .local := by first | exact .inl rfl | exact .inr rfl | assumption) :
    PS X (.AugAssign (.Name x pos') aop e pos) (TS' cn X.K W (sAug j oi fe)) := by
  refine ps_imp (ps_aug (ti := rM cn X.K oi) hN hi hx he ho hf) fun D σ H ⟨sl, m, ρ, w, r⟩ => ?_
  unfold sAug at r
  cases q : sl[j]? with
  | none => rw [q] at r; exact r.elim
  | some z =>
    rw [q] at r
    cases z with
    | v x0 =>
      obtain ⟨v0, h1, h2⟩ := w.slo j x0 q
      refine ⟨v0, h1, RunS.tm w r fun y H1 ρ1 m1 u w1 e1 r1 q => ?_⟩
      exact ⟨x0, u, m1, ρ1, w1.h, h2.ext e1, r1, q.bindN w1 fun z H2 ρ2 m2 v2 w2 e2 r2 q => q.nxt (w2.set r2 j)⟩
    | no => exact r.elim
    | ex e => exact r.elim
def rGet (cn : CN) (K : PySem.W.Frag) : V → V → Hp → VK → Prop := rM cn K oIx
theorem ms_augS (hu : X.A.units + 1 < cLine) (hg : PGet X (rM cn X.K oIx)) (ho : PE X o (TE' cn X.K W fo)) (hi : PE X i (TE' cn X.K W fi)) (he : PE X e (TE' cn X.K W fe)) (hp : OpR X (inplaceOp aop) (rM cn X.K oi))
    (ha : ∀ ov iv new, augStore i ov iv new = (do holding [new, ov, iv] (setItem ov iv new); release [new, ov, iv] []; pure .next) := by intros; rfl) : PS X (.AugAssign (.Subscript o i tpos) aop e pos) (TS' cn X.K W (sAugS fo fi oi fe)) := by
  refine ps_imp (ps_augS (tip := rM cn X.K oi) ho hi hg he hp (m_set (cn := cn) hu) ha) fun D σ H ⟨sl, m, ρ, w, r⟩ => ?_
  refine RunS.tm w r fun x H1 ρ1 m1 a w1 e1 r1 q => ?_
  refine RunS.tm w1 q fun y H2 ρ2 m2 b w2 e2 r2 q => ?_
  refine ⟨a, b, m2, ρ2, w2.h, r1.ext e2, r2, q.bindN w2 fun z H3 ρ3 m3 c w3 e3 r3 q => ?_⟩
  refine RunS.tm w3 q fun y4 H4 ρ4 m4 d w4 e4 r4 q => ?_
  refine ⟨c, d, m4, ρ4, w4.h, r3.ext e4, r4, q.bindN w4 fun z5 H5 ρ5 m5 c5 w5 e5 r5 q => ?_⟩
  exact ⟨a, b, c5, m5, ρ5, w5.h, (((r1.ext e2).ext e3).ext e4).ext e5, ((r2.ext e3).ext e4).ext e5, r5, q.bindN w5 fun _ H6 ρ6 m6 _ w6 e6 _ q => q.nxt w6⟩
theorem ms_par {j k : Nat} {x y : Str} {px py pt : Pos} {kt k2 pt2} (hc : X.calm = true) (hN : X.N.Nodup) (hi : X.N[j]? = some x) (hj : X.N[k]? = some y) (hij : j ≠ k)
    (hx : X.env.scope.names.lookup x = some .local) (hy : X.env.scope.names.lookup y = some .local) (ha : PA X [a, b] (TA' cn X.K W fa))
    (hw : swappedStores [.Tuple [.Name x px, .Name y py] kt pt] (.Tuple [a, b] k2 pt2) X.env = pure (some [x, y]))
    (hs : swapsWithSole [.Tuple [.Name x px, .Name y py] kt pt] (.Tuple [a, b] k2 pt2) pos.line X.env = pure false := by rfl) :
    PS X (.Assign [.Tuple [.Name x px, .Name y py] kt pt] (.Tuple [a, b] k2 pt2) pos) (TS' cn X.K W (sPar j k fa)) := by
  refine ps_imp (ps_par hc hN hi hj hij hx hy ha hw hs) fun D σ H ⟨sl, m, ρ, w, r⟩ => RunS.tm w r fun vs H1 ρ1 m1 us w1 e1 r1 q => ?_
  cases r1 with
  | nil => exact q.elim
  | cons r1 r2 =>
    cases r2 with
    | nil => exact q.elim
    | cons r2 r3 =>
      cases r3 with
      | cons _ _ => exact q.elim
      | nil => exact ⟨_, _, rfl, q.nxt ((w1.set r1 j).set r2 k)⟩
theorem ms_par3 {j k l : Nat} {c : Expr} {x y z : Str} {px py pz pt : Pos} {kt k2 pt2} (hc : X.calm = true) (hN : X.N.Nodup) (hi : X.N[j]? = some x) (hj : X.N[k]? = some y) (hl : X.N[l]? = some z) (hij : j ≠ k) (hil : j ≠ l) (hjl : k ≠ l)
    (hx : X.env.scope.names.lookup x = some .local) (hy : X.env.scope.names.lookup y = some .local) (hz : X.env.scope.names.lookup z = some .local) (ha : PA X [a, b, c] (TA' cn X.K W fa))
    (hw : swappedStores [.Tuple [.Name x px, .Name y py, .Name z pz] kt pt] (.Tuple [a, b, c] k2 pt2) X.env = pure (some [x, y, z]))
    (hs : swapsWithSole [.Tuple [.Name x px, .Name y py, .Name z pz] kt pt] (.Tuple [a, b, c] k2 pt2) pos.line X.env = pure false := by rfl) :
    PS X (.Assign [.Tuple [.Name x px, .Name y py, .Name z pz] kt pt] (.Tuple [a, b, c] k2 pt2) pos) (TS' cn X.K W (sPar3 j k l fa)) := by
  refine ps_imp (ps_par3 hc hN hi hj hl hij hil hjl hx hy hz ha hw hs) fun D σ H ⟨sl, m, ρ, w, r⟩ => RunS.tm w r fun vs H1 ρ1 m1 us w1 e1 r1 q => ?_
  cases r1 with
  | nil => exact q.elim
  | cons r1 r2 =>
    cases r2 with
    | nil => exact q.elim
    | cons r2 r3 =>
      cases r3 with
      | nil => exact q.elim
      | cons r3 r4 =>
        cases r4 with
        | cons _ _ => exact q.elim
        | nil => exact ⟨_, _, _, rfl, q.nxt (((w1.set r1 j).set r2 k).set r3 l)⟩
/-! ### o.f = e -/
theorem length_fput (f : Str) (v : Val) : ∀ fs : List (Str × Val), True := fun _ => trivial
theorem fld_put {K : PySem.W.Frag} {cs : List Nat} {n : Str} {ρ : Nat → Addr} {H : Hp} {m : MH} {a v : Val} {x y : V} {Q : Unit → Hp → Prop} {E : XK} (hf : Fld cn K cs n) (w : RH cn K m H ρ) (ra : RV K H ρ m.n a x) (rv : RV K H ρ m.n v y)
    (q : Run cn K RUn (oFld cs n a v m) ρ H m.n Q E) : ∃ p C dx fs, x = .ref p ∧ H p = some (.ins C dx fs) ∧ Cls K C ∧ NoAttr K C n ∧ fs.length < 1000 ∧ Q () (upd H p (.ins C dx (putF n y fs))) := by
  cases a with
  | loc l =>
    obtain ⟨rfl, hl⟩ := ra.locL
    unfold oFld at q
    dsimp only at q
    cases eo : m.get l with
    | none => rw [eo] at q; exact q.elim
    | some ob =>
      obtain ⟨_, ro⟩ := w.obj l ob eo
      rw [eo] at q
      cases ob with
      | ins c fs =>
        obtain ⟨dx, gs, h1, r1⟩ := ro
        dsimp only at q
        cases e1 : cs.any (Nat.beq c) with
        | false => rw [e1] at q; exact q.elim
        | true =>
          rw [e1] at q
          dsimp only at q
          cases e2 : Nat.blt fs.length 1000 with
          | false => rw [e2] at q; exact q.elim
          | true =>
            rw [e2] at q
            have mu : Mut (H (ρ l)) := by rw [h1]; trivial
            have hlen : gs.length < 1000 := by
              have e := congrArg List.length r1.1
              simp only [List.length_map] at e
              have e3 : fs.length + 1 ≤ 1000 := Nat.le_of_ble_eq_true e2
              omega
            obtain ⟨k1, k2⟩ := hf c e1
            exact ⟨_, _, dx, gs, rfl, h1, k1, k2, hlen, q.put w hl mu ⟨dx, _, upd_same, RFs.ext (.mut hl mu) (r1.put rv)⟩⟩
      | _ => exact q.elim
  | _ => exact q.elim
theorem ms_fld {cs : List Nat} {x y : Str} {p' : Pos} (q0 : x = y) (hf : Fld cn X.K cs x) (ho : PE X o (TE' cn X.K W fo)) (he : PE X e (TE' cn X.K W fe)) (hs : swapsWith e (some (.Attribute o x p')) pos.line X.env = pure false := by rfl) :
    PS X (.Assign [.Attribute o x p'] e pos) (TS' cn X.K W (sFld cs y fo fe)) := by
  subst q0
  refine ps_imp (ps_fld ho he hs) fun D σ H ⟨sl, m, ρ, w, r⟩ => ?_
  refine RunS.tm w r fun y H1 ρ1 m1 u w1 e1 r1 q => ?_
  refine RunS.tm w1 q fun z H2 ρ2 m2 a w2 e2 r2 q => ?_
  obtain ⟨p, C, dx, fs, h1, h2, h3, h4, h5, h6⟩ := fld_put (E := fun _ _ _ => False) hf w2.h r2 (r1.ext e2) (q.bindN (Q1 := fun _ H' => D.nx σ H') w2 fun _ H3 ρ3 m3 _ w3 e3 _ q => q.nxt w3)
  exact ⟨p, C, dx, fs, h1, h2, h3, h4, h5, h6⟩
theorem getF_ok {K : PySem.W.Frag} {cs : List Nat} {n : Str} {ρ : Nat → Addr} {H : Hp} {m : MH} {a : Val} {x : V} {Q : VK} {E : XK} (hf : Fld cn K cs n) (w : RH cn K m H ρ) (ra : RV K H ρ m.n a x)
    (q : Run cn K RV (getF cs n a m) ρ H m.n Q E) : ∃ p C dx fs v, x = .ref p ∧ H p = some (.ins C dx fs) ∧ Cls K C ∧ NoAttr K C n ∧ fs.lookup n = some v ∧ Q v H := by
  cases a with
  | loc l =>
    obtain ⟨rfl, hl⟩ := ra.locL
    unfold getF at q
    dsimp only at q
    cases eo : m.get l with
    | none => rw [eo] at q; exact q.elim
    | some ob =>
      obtain ⟨_, ro⟩ := w.obj l ob eo
      rw [eo] at q
      cases ob with
      | ins c fs =>
        obtain ⟨dx, gs, h1, r1⟩ := ro
        dsimp only at q
        cases e1 : cs.any (Nat.beq c) with
        | false => rw [e1] at q; exact q.elim
        | true =>
          rw [e1] at q
          dsimp only at q
          cases e2 : flook fs n with
          | none => rw [e2] at q; exact q.elim
          | some v =>
            rw [e2] at q
            obtain ⟨x', h3, r3⟩ := r1.look e2
            obtain ⟨k1, k2⟩ := hf c e1
            exact ⟨_, _, dx, gs, x', rfl, h1, k1, k2, h3, q.val w r3⟩
      | _ => exact q.elim
  | _ => exact q.elim
theorem ms_fldaug {cs : List Nat} {x y : Str} (q0 : x = y) (hf : Fld cn X.K cs x) (ho : PE X o (TE' cn X.K W fo)) (he : PE X e (TE' cn X.K W fe)) (hp : OpR X (inplaceOp aop) (rM cn X.K oi)) :
    PS X (.AugAssign (.Attribute o x tpos) aop e pos) (TS' cn X.K W (sFldAug cs y fo oi fe)) := by
  subst q0
  refine ps_imp (ps_fldaug (rd := rM cn X.K oi) ho he hp) fun D σ H ⟨sl, m, ρ, w, r⟩ => ?_
  refine RunS.tm w r fun x1 H1 ρ1 m1 a w1 e1 r1 q => ?_
  unfold fldAug at q
  cases a with
  | loc l =>
    obtain ⟨rfl, hl⟩ := r1.locL
    dsimp only at q
    cases eo : m1.get l with
    | none => rw [eo] at q; exact q.elim
    | some ob =>
      obtain ⟨_, ro⟩ := w1.h.obj l ob eo
      rw [eo] at q
      cases ob with
      | ins c fs =>
        obtain ⟨dx, gs, h1, r2⟩ := ro
        dsimp only at q
        cases e1' : cs.any (Nat.beq c) with
        | false => rw [e1'] at q; exact q.elim
        | true =>
          rw [e1'] at q
          dsimp only at q
          cases e2 : flook fs x with
          | none => rw [e2] at q; exact q.elim
          | some v =>
            rw [e2] at q
            obtain ⟨x', h3, r3⟩ := r2.look e2
            obtain ⟨k1, k2⟩ := hf c e1'
            refine ⟨_, _, dx, gs, x', rfl, h1, k1, k2, h3, RunS.tm w1 q fun y H2 ρ2 m2 b w2 e2 r4 q => ?_⟩
            refine ⟨v, b, m2, ρ2, w2.h, r3.ext e2, r4, q.bindN w2 fun z H3 ρ3 m3 zz w3 e3 r5 q => ?_⟩
            have eρ : ρ3 l = ρ1 l := by rw [e3.rho l (Nat.lt_of_lt_of_le hl e2.le), e2.rho l hl]
            cases eo3 : m3.get l with
            | none => unfold fldEnd at q; rw [eo3] at q; exact q.elim
            | some ob =>
              obtain ⟨hl3, ro⟩ := w3.h.obj l ob eo3
              unfold fldEnd at q
              rw [eo3] at q
              cases ob with
              | ins c' fs' =>
                obtain ⟨dx', gs', h1', r2'⟩ := ro
                dsimp only at q
                cases ec : Nat.beq c' c && Nat.blt fs'.length 1000 with
                | false => rw [ec] at q; exact q.elim
                | true =>
                  rw [ec] at q
                  obtain ⟨ec1, ec2⟩ := Bool.and_eq_true_iff.mp ec
                  have := Nat.eq_of_beq_eq_true ec1
                  subst this
                  have mu : Mut (H3 (ρ3 l)) := by rw [h1']; trivial
                  have hlen : gs'.length < 1000 := by
                    have e := congrArg List.length r2'.1
                    simp only [List.length_map] at e
                    have e3 : fs'.length + 1 ≤ 1000 := Nat.le_of_ble_eq_true ec2
                    omega
                  rw [← eρ]
                  refine ⟨dx', gs', h1', hlen, ?_⟩
                  exact Run.put (E := fun _ _ _ => False) (Q := fun _ H' => D.nx σ H') (q.bindN w3 fun _ H4 ρ4 m4 _ w4 e4 _ q => q.nxt w4) w3.h hl3 mu ⟨dx', _, upd_same, RFs.ext (.mut hl3 mu) (r2'.put r5)⟩
              | _ => exact q.elim
      | _ => exact q.elim
  | _ => exact q.elim
end
end Mi

set_option Elab.async false
set_option linter.all false
set_option autoImplicit false
set_option maxRecDepth 100000
set_option maxHeartbeats 2000000
namespace Mi
open PySem PySem.Spec L2
/-! ### while -/
/-- a loop's turn ends: next or continue go on, break ends the loop -/
def RS.turn (r : RS) (go : Slots → MH → RS) : RS := match r with
  | .nx sl m => go sl m
  | .ct sl m => go sl m
  | .bk sl m => .nx sl m
  | r => r
def sWhile (n : Nat) (c : ET) (f : S) : S := Nat.rec (motive := fun _ => S) (fun _ _ => .fail) (fun _ ih sl m => (c sl m).to sl fun b m1 => match b with
  | true => (f sl m1).turn ih
  | false => .nx sl m1) n
section
variable {cn : CN} {X : Cx} {W : WX} {f : S} {fc : ET} {pos : Pos} {K : PySem.W.Frag}
theorem RunS.turn {ρ : Nat → Addr} {H : Hp} {n : Nat} {D : Ends} {r : RS} {go : Slots → MH → RS} (h : RunS cn K (r.turn go) ρ H n D W) : RunS cn K r ρ H n { D with nx := TS' cn K W go D, ct := TS' cn K W go D, bk := D.nx } W := by
  cases r with
  | nx sl m => exact fun σ' H' ρ' w ex => ⟨sl, m, ρ', w, RunS.back ex h⟩
  | ct sl m => exact fun σ' H' ρ' w ex => ⟨sl, m, ρ', w, RunS.back ex h⟩
  | bk sl m => exact h
  | rt v m => exact h
  | err x sl m => exact h
  | fail => exact h
theorem ms_while {c : Expr} {body : List Stmt} {n : Nat} (hp : PassesOwn (model X.prog X.w) X.A X.env X.xe) (hc : PT X c (TT' cn X.K W fc)) (hb : PSs X body (TS' cn X.K W f)) : PS X (.While c body [] pos) (TS' cn X.K W (sWhile n fc f)) := by
  refine ps_imp (ps_while hp hc hb) fun D σ H h => ?_
  refine ⟨fun k σ H => TS' cn X.K W (sWhile k fc f) D σ H, ⟨n, h⟩, fun k σ H ⟨sl, m, ρ, w, r⟩ => ?_⟩
  cases k with
  | zero => exact r.elim
  | succ k =>
    have r : RunS cn X.K ((fc sl m).to sl fun b m1 => match b with | true => (f sl m1).turn (sWhile k fc f) | false => .nx sl m1) ρ H m.n D W := r
    refine RunS.tm w r fun y H1 ρ1 m1 u w1 e1 r1 q => ?_
    cases (show u = y from r1)
    cases y with
    | true =>
      rw [if_pos rfl]
      exact ⟨TS' cn X.K W (sWhile k fc f) D, fun σ' H' h => ⟨k, Nat.lt_succ_self k, h⟩, sl, m1, ρ1, w1, q.turn⟩
    | false =>
      rw [if_neg Bool.false_ne_true]
      exact q.nxt w1
end
/-! ### for -/
/-- what is walked -/
inductive ItM where
  | lst (l : Nat) | vals (xs : List Val) | rng (i : Int) (n : Nat) | rev (l n : Nat) | enu (l : Nat) | zip (l k : Nat)
/-- the i-th: none: nothing is said; some none: the end -/
def ItM.next (m : MH) (i : Nat) : ItM → Option (Option Val)
  | .lst l => (match m.get l with
    | some (.lst xs) => some xs[i]?
    | some (.rol xs) => some xs[i]?
    | _ => none)
  | .vals xs => some xs[i]?
  | .rng a n => some (match Nat.blt i n with | true => some (.int (a + i)) | false => none)
  | .rev l n => (match m.get l with
    | some (.lst xs) => (match Nat.beq xs.length n with
      | true => some (match Nat.blt i n with | true => xs[n - 1 - i]? | false => none)
      | false => none)
    | _ => none)
  | .enu l => (match m.get l with
    | some (.lst xs) => some (match xs[i]? with | some v => some (.tup [.int i, v]) | none => none)
    | some (.rol xs) => some (match xs[i]? with | some v => some (.tup [.int i, v]) | none => none)
    | _ => none)
  | .zip l k => (match m.get l with
    | some (.lst xs) => (match m.get k with
      | some (.lst ys) => some (match xs[i]? with
        | some v => (match ys[i]? with
          | some w => some (.tup [v, w])
          | none => none)
        | none => none)
      | _ => none)
    | _ => none)
abbrev EI := Slots → MH → RE ItM
/-- an iterator and its number -/
def RI (cn : CN) : Rl ItM It := fun K H ρ n it J => ∀ H' ρ' m', RH cn K m' H' ρ' → Ex0 K ρ H n ρ' H' m'.n → ∀ i, (it.next m' i = some none → J.stop i H') ∧
  ∀ v, it.next m' i = some (some v) → J.go i H' ∧ ∀ x H2, J.yld i H' x H2 → RH cn K m' H2 ρ' ∧ Ext K ρ' H' m'.n ρ' H2 m'.n ∧ RV K H2 ρ' m'.n v x
abbrev TI' (cn : CN) (K : PySem.W.Frag) (W : WX) (f : EI) : TI := TM cn K (RI cn) W f
/-- n: more turns than there are; i: the turn -/
def forGo (g : G) (f : S) (it : ItM) (n : Nat) : Nat → S := Nat.rec (motive := fun _ => Nat → S) (fun _ _ _ => .fail) (fun _ ih i sl m => match it.next m i with
  | some (some v) => (match g v sl m with
    | some sl' => (f sl' m).turn (ih (i + 1))
    | none => .fail)
  | some none => .nx sl m
  | none => .fail) n
def sFor (n : Nat) (fi : EI) (g : G) (f : S) : S := fun sl m => (fi sl m).to sl fun it m1 => forGo g f it n 0 sl m1
section
variable {cn : CN} {X : Cx} {W : WX} {f : S} {fi : EI} {g : G} {pos : Pos} {K : PySem.W.Frag}
theorem ms_for {tg iter : Expr} {body : List Stmt} {n : Nat} {ix : List Nat} (hp : PassesOwn (model X.prog X.w) X.A X.env X.xe) (hc : X.calm = true) (hi : PI X tg iter (TI' cn X.K W fi)) (hg : PG X tg (TG' cn X.K ix g)) (hb : PSs X body (TS' cn X.K W f))
    (hs : ∀ x, foldedSetIterable iter X.env x = pure x := by intro _; rfl) : PS X (.For tg iter body [] pos) (TS' cn X.K W (sFor n fi g f)) := by
  refine ps_imp (ps_for hp hc hi hg hb hs) fun D σ H ⟨sl, m, ρ, w, r⟩ => ?_
  refine RunS.tm w r fun J H1 ρ1 m1 it w1 e1 r1 q => ?_
  refine ⟨fun i k σ H => ∃ sl m ρ, WR cn X.K sl m σ H ρ ∧ Ext X.K ρ1 H1 m1.n ρ H m.n ∧ RunS cn X.K (forGo g f it k i sl m) ρ H m.n D W, ⟨n, sl, m1, ρ1, w1, .refl, q⟩, ?_⟩
  rintro i k σ2 H2 ⟨sl, m, ρ2, w, ex, r⟩
  cases k with
  | zero => exact r.elim
  | succ k =>
    have r : RunS cn X.K (match it.next m i with | some (some v) => (match g v sl m with | some sl' => (f sl' m).turn (forGo g f it k (i + 1)) | none => .fail) | some none => .nx sl m | none => .fail) ρ2 H2 m.n D W := r
    obtain ⟨s1, s2⟩ := r1 H2 ρ2 m w.h (ex.ex0 w1.h) i
    cases e : it.next m i with
    | none => rw [e] at r; exact r.elim
    | some o =>
      rw [e] at r
      cases o with
      | none => exact .inl ⟨s1 e, r.nxt w⟩
      | some v =>
        dsimp only at r
        obtain ⟨go, yld⟩ := s2 v e
        cases e3 : g v sl m with
        | none => rw [e3] at r; exact r.elim
        | some sl' =>
          rw [e3] at r
          refine .inr ⟨go, fun σ H => ∃ sl m ρ, WR cn X.K sl m σ H ρ ∧ Ext X.K ρ1 H1 m1.n ρ H m.n ∧ RunS cn X.K (forGo g f it k (i + 1) sl m) ρ H m.n D W, fun σ' H' h => ⟨k, Nat.lt_succ_self k, h⟩, fun x H3 y => ?_⟩
          obtain ⟨h1, h2, h3⟩ := yld x H3 y
          refine ⟨v, sl, m, ρ2, sl', w.ext h2 h1, h3, e3, fun σ' w' _ _ => ⟨sl', m, ρ2, w', ?_⟩⟩
          have r := RunS.back h2 r
          have back : ∀ (r : RS), RunS cn X.K (r.turn (forGo g f it k (i + 1))) ρ2 H3 m.n D W → RunS cn X.K r ρ2 H3 m.n { D with nx := fun σ H => ∃ sl m ρ, WR cn X.K sl m σ H ρ ∧ Ext X.K ρ1 H1 m1.n ρ H m.n ∧ RunS cn X.K (forGo g f it k (i + 1) sl m) ρ H m.n D W, ct := fun σ H => ∃ sl m ρ, WR cn X.K sl m σ H ρ ∧ Ext X.K ρ1 H1 m1.n ρ H m.n ∧ RunS cn X.K (forGo g f it k (i + 1) sl m) ρ H m.n D W, bk := D.nx } W := fun r h => by
            cases r with
            | nx sl m => exact fun σ' H' ρ' w ex' => ⟨sl, m, ρ', w, (ex.trans h2).trans ex', RunS.back ex' h⟩
            | ct sl m => exact fun σ' H' ρ' w ex' => ⟨sl, m, ρ', w, (ex.trans h2).trans ex', RunS.back ex' h⟩
            | bk sl m => exact h
            | rt v m => exact h
            | err x sl m => exact h
            | fail => exact h
          exact back _ r
end
end Mi

set_option Elab.async false
set_option linter.all false
set_option autoImplicit false
set_option maxRecDepth 100000
set_option maxHeartbeats 2000000
namespace Mi
open PySem PySem.Spec L2 PyProof.Rows
/-! ### what a loop walks -/
def iSeq (f : E) : EI := fun sl m => (f sl m).bind fun v m1 => match wk v with
  | .loc l => (match m1.get l with
    | some (.lst _) => .ok (.lst l) m1
    | some (.rol _) => .ok (.lst l) m1
    | _ => .fail)
  | .tup xs => .ok (.vals xs) m1
  | .klst xs => .ok (.vals xs) m1
  | .str z => .ok (.vals (z.cps.toList.map fun c => .str ⟨#[c]⟩)) m1
  | _ => .fail
def within62 (i : Int) : Bool := Nat.ble i.natAbs 4611686018427387903
theorem within62_ok {i : Int} (h : within62 i = true) : -(2 ^ 62) ≤ i ∧ i < 2 ^ 62 := by
  have := Nat.le_of_ble_eq_true h
  omega
def iRg1 (f : EA) : EI := fun sl m => (f sl m).bind fun vs m1 => match vs with
  | [.int j] => (match within62 j with | true => .ok (.rng 0 j.toNat) m1 | false => .fail)
  | _ => .fail
def iRg2 (f : EA) : EI := fun sl m => (f sl m).bind fun vs m1 => match vs with
  | [.int i, .int j] => (match within62 i && within62 j with | true => .ok (.rng i (j - i).toNat) m1 | false => .fail)
  | _ => .fail
def iRv (f : EA) : EI := fun sl m => (f sl m).bind fun vs m1 => match vs with
  | [.loc l] => (match m1.get l with
    | some (.lst xs) => .ok (.rev l xs.length) m1
    | _ => .fail)
  | _ => .fail
def iEn (f : EA) : EI := fun sl m => (f sl m).bind fun vs m1 => match vs with
  | [.loc l] => (match m1.get l with
    | some (.lst xs) => .ok (.enu l) m1
    | some (.rol xs) => .ok (.enu l) m1
    | _ => .fail)
  | _ => .fail
def vpairs : List Val → List Val → List Val
  | x :: xs, y :: ys => .tup [x, y] :: vpairs xs ys
  | _, _ => []
def iZp (f : EA) : EI := fun sl m => (f sl m).bind fun vs m1 => match vs.map wk with
  | [.loc l, .loc k] => (match m1.get l with
    | some (.lst _) => (match m1.get k with
      | some (.lst _) => .ok (.zip l k) m1
      | _ => .fail)
    | _ => .fail)
  | [.tup xs, .tup ys] => .ok (.vals (vpairs xs ys)) m1
  | _ => .fail
section
variable {cn : CN} {X : Cx} {W : WX} {K : PySem.W.Frag} {H : Hp} {ρ : Nat → Addr} {m : MH} {l : Nat}
theorem RO.sq {a : Addr} {o : Ob} {xs : List Val} {n : Nat} (h : RO cn K H ρ n a o) (e : o = .lst xs ∨ o = .rol xs) : ∃ vs, SqL K H a vs ∧ RVs K H ρ n xs vs := by
  rcases e with rfl | rfl
  · obtain ⟨vs, h1, h2⟩ := h; exact ⟨vs, SqL.of h1, h2⟩
  · obtain ⟨vs, h1, h2⟩ := h; exact ⟨vs, .inl h1, h2⟩
/-- the present list -/
def seqAt (m : MH) (l : Nat) : Option (List Val) := match m.get l with
  | some (.lst xs) => some xs
  | some (.rol xs) => some xs
  | _ => none
theorem rh_sq (w : RH cn K m H ρ) {xs : List Val} (h : seqAt m l = some xs) : ∃ vs, SqL K H (ρ l) vs ∧ RVs K H ρ m.n xs vs := by
  unfold seqAt at h
  cases eo : m.get l with
  | none => rw [eo] at h; cases h
  | some o =>
    have ro := (w.obj l o eo).2
    rw [eo] at h
    cases o with
    | lst ys => cases h; exact ro.sq (.inl rfl)
    | rol ys => cases h; exact ro.sq (.inr rfl)
    | _ => cases h
theorem RVs.get_none {n : Nat} {xs : List Val} {vs : List V} (r : RVs K H ρ n xs vs) {i : Nat} (h : xs[i]? = none) : vs.length ≤ i := by
  rw [← r.length]
  exact List.getElem?_eq_none_iff.mp h
theorem next_lst {i : Nat} {o : Option Val} (h : ItM.next m i (.lst l) = some o) : ∃ xs, seqAt m l = some xs ∧ o = xs[i]? := by
  unfold ItM.next at h
  unfold seqAt
  dsimp only at h
  cases eo : m.get l with
  | none => rw [eo] at h; cases h
  | some ob =>
    rw [eo] at h
    cases ob with
    | lst ys => cases h; exact ⟨ys, rfl, rfl⟩
    | rol ys => cases h; exact ⟨ys, rfl, rfl⟩
    | _ => cases h
theorem ri_lst {n : Nat} (hl : l < n) : RI cn K H ρ n (.lst l) (Itl K (ρ l)) := by
  intro H' ρ' m' w ex i
  have eρ := ex.rho l hl
  refine ⟨fun e => ?_, fun v e => ?_⟩
  · obtain ⟨xs, h1, h2⟩ := next_lst e
    obtain ⟨vs, h3, h4⟩ := rh_sq w h1
    rw [eρ] at h3
    exact ⟨vs, h3, h4.get_none h2.symm⟩
  · obtain ⟨xs, h1, h2⟩ := next_lst e
    obtain ⟨vs, h3, h4⟩ := rh_sq w h1
    rw [eρ] at h3
    obtain ⟨x, h5, h6⟩ := h4.get h2.symm
    refine ⟨⟨vs, x, h3, h5⟩, fun x' H2 y => ?_⟩
    obtain ⟨rfl, y⟩ := y
    have e' := y vs h3
    rw [h5] at e'
    cases e'
    exact ⟨w, .refl, h6⟩
theorem ri_tup {n : Nat} {p : Addr} {xs : List Val} {vs : List V} (h : SqT K H p vs) (r : RVs K H ρ n xs vs) : RI cn K H ρ n (.vals xs) (Itt K p) := by
  intro H' ρ' m' w ex i
  have h' := ex.tup.t p vs h
  have r' := r.ext0 ex.le ex.rho ex.tup
  refine ⟨fun e => ⟨vs, h', r'.get_none (Option.some.inj e)⟩, fun v e => ?_⟩
  obtain ⟨x, h5, h6⟩ := r'.get (Option.some.inj e)
  refine ⟨⟨vs, x, h', h5⟩, fun x' H2 y => ?_⟩
  obtain ⟨rfl, y⟩ := y
  have e' := y vs h'
  rw [h5] at e'
  cases e'
  exact ⟨w, .refl, h6⟩
theorem ri_klst {n : Nat} {p : Addr} {xs : List Val} {vs : List V} (h : SqF K H p vs) (r : RVs K H ρ n xs vs) : RI cn K H ρ n (.vals xs) (Itl K p) := by
  intro H' ρ' m' w ex i
  have h' := (ex.tup.f p vs h).l
  have r' := r.ext0 ex.le ex.rho ex.tup
  refine ⟨fun e => ⟨vs, h', r'.get_none (Option.some.inj e)⟩, fun v e => ?_⟩
  obtain ⟨x, h5, h6⟩ := r'.get (Option.some.inj e)
  refine ⟨⟨vs, x, h', h5⟩, fun x' H2 y => ?_⟩
  obtain ⟨rfl, y⟩ := y
  have e' := y vs h'
  rw [h5] at e'
  cases e'
  exact ⟨w, .refl, h6⟩
theorem ri_str {n : Nat} {z : Str} : RI cn K H ρ n (.vals (z.cps.toList.map fun c => .str ⟨#[c]⟩)) (Its z) := by
  intro H' ρ' m' w ex i
  have key : ∀ o, ItM.next m' i (.vals (z.cps.toList.map fun c => Val.str ⟨#[c]⟩)) = some o → o = (z.cps[i]?).map fun c => Val.str ⟨#[c]⟩ := fun o e => by
    have e := Option.some.inj e
    rw [List.getElem?_map, Array.getElem?_toList] at e
    exact e.symm
  refine ⟨fun e => ?_, fun v e => ?_⟩
  · have e := (key _ e).symm
    cases q : z.cps[i]? with
    | none => exact Array.getElem?_eq_none_iff.mp q
    | some c => rw [q] at e; cases e
  · have e := (key _ e).symm
    cases q : z.cps[i]? with
    | none => rw [q] at e; cases e
    | some c =>
      rw [q] at e
      cases e
      refine ⟨(Array.getElem?_eq_some_iff.mp q).1, fun x' H2 y => ?_⟩
      obtain ⟨rfl, c', h1, rfl⟩ := y
      rw [q] at h1
      cases h1
      exact ⟨w, .refl, .str _⟩
theorem ri_rng {n k : Nat} {a : Int} : RI cn K H ρ n (.rng a k) (Itr a k) := by
  intro H' ρ' m' w ex i
  have key : ∀ o, ItM.next m' i (.rng a k) = some o → o = match Nat.blt i k with | true => some (Val.int (a + i)) | false => none := fun o e => (Option.some.inj e).symm
  refine ⟨fun e => ?_, fun v e => ?_⟩
  · have e := key _ e
    cases q : Nat.blt i k with
    | true => rw [q] at e; cases e
    | false =>
      show k ≤ i
      have : ¬ i + 1 ≤ k := fun h => by
        have := Nat.ble_eq_true_of_le h
        rw [show Nat.ble (i + 1) k = Nat.blt i k from rfl, q] at this
        cases this
      omega
  · have e := key _ e
    cases q : Nat.blt i k with
    | false => rw [q] at e; cases e
    | true =>
      rw [q] at e
      cases e
      refine ⟨Nat.le_of_ble_eq_true q, fun x' H2 y => ?_⟩
      obtain ⟨rfl, rfl⟩ := y
      exact ⟨w, .refl, .int _⟩
theorem ri_rev {n k : Nat} (hl : l < n) : RI cn K H ρ n (.rev l k) (Itv K (ρ l) k) := by
  intro H' ρ' m' w ex i
  have eρ := ex.rho l hl
  have key : ∀ o, ItM.next m' i (.rev l k) = some o → ∃ xs, m'.get l = some (.lst xs) ∧ o = match Nat.blt i k with | true => xs[k - 1 - i]? | false => none := fun o e => by
    unfold ItM.next at e
    dsimp only at e
    cases eo : m'.get l with
    | none => rw [eo] at e; cases e
    | some ob =>
      rw [eo] at e
      cases ob with
      | lst ys =>
        dsimp only at e
        cases eb : Nat.beq ys.length k with
        | false => rw [eb] at e; cases e
        | true => rw [eb] at e; exact ⟨ys, rfl, (Option.some.inj e).symm⟩
      | _ => cases e
  have hb : ∀ {i k : Nat}, Nat.blt i k = false → k ≤ i := fun {i k} q => by
    have : ¬ i + 1 ≤ k := fun h => by
      have := Nat.ble_eq_true_of_le h
      rw [show Nat.ble (i + 1) k = Nat.blt i k from rfl, q] at this
      cases this
    omega
  refine ⟨fun e => ?_, fun v e => ?_⟩
  · show k ≤ i
    cases q : Nat.blt i k with
    | false => exact hb q
    | true =>
      -- an index beyond: not so
      unfold ItM.next at e
      dsimp only at e
      cases eo : m'.get l with
      | none => rw [eo] at e; cases e
      | some ob =>
        rw [eo] at e
        cases ob with
        | lst ys =>
          dsimp only at e
          cases eb : Nat.beq ys.length k with
          | false => rw [eb] at e; cases e
          | true =>
            rw [eb, q] at e
            have hl := Nat.eq_of_beq_eq_true eb
            have := List.getElem?_eq_none_iff.mp (Option.some.inj e)
            have hi : i + 1 ≤ k := Nat.le_of_ble_eq_true q
            omega
        | _ => cases e
  · obtain ⟨xs, h1, h2⟩ := key _ e
    cases q : Nat.blt i k with
    | false => rw [q] at h2; cases h2
    | true =>
      rw [q] at h2
      have ro := (w.obj l _ h1).2
      rw [eρ] at ro
      obtain ⟨vs, h3, h4⟩ := ro.sq (.inl rfl)
      obtain ⟨x, h5, h6⟩ := h4.get h2.symm
      refine ⟨⟨Nat.le_of_ble_eq_true q, vs, x, h3, h5⟩, fun x' H2 y => ?_⟩
      obtain ⟨rfl, y⟩ := y
      have e' := y vs h3
      rw [h5] at e'
      cases e'
      exact ⟨w, .refl, h6⟩
theorem ri_enu {n : Nat} (hl : l < n) : RI cn K H ρ n (.enu l) (Ite K (ρ l)) := by
  intro H' ρ' m' w ex i
  have eρ := ex.rho l hl
  have key : ∀ o, ItM.next m' i (.enu l) = some o → ∃ xs, seqAt m' l = some xs ∧ o = (xs[i]?).map fun v => .tup [.int i, v] := fun o e => by
    unfold ItM.next at e
    unfold seqAt
    dsimp only at e
    cases eo : m'.get l with
    | none => rw [eo] at e; cases e
    | some ob =>
      rw [eo] at e
      cases ob with
      | lst ys => exact ⟨ys, rfl, by have e := (Option.some.inj e).symm; rw [e]; cases ys[i]? <;> rfl⟩
      | rol ys => exact ⟨ys, rfl, by have e := (Option.some.inj e).symm; rw [e]; cases ys[i]? <;> rfl⟩
      | _ => cases e
  refine ⟨fun e => ?_, fun v e => ?_⟩
  · obtain ⟨xs, h1, h2⟩ := key _ e
    obtain ⟨vs, h3, h4⟩ := rh_sq w h1
    rw [eρ] at h3
    refine ⟨vs, h3, h4.get_none ?_⟩
    cases q : xs[i]? with
    | none => rfl
    | some z => rw [q] at h2; cases h2
  · obtain ⟨xs, h1, h2⟩ := key _ e
    obtain ⟨vs, h3, h4⟩ := rh_sq w h1
    rw [eρ] at h3
    cases q : xs[i]? with
    | none => rw [q] at h2; cases h2
    | some z =>
      rw [q] at h2
      cases h2
      obtain ⟨x, h5, h6⟩ := h4.get q
      refine ⟨⟨vs, x, h3, h5⟩, fun x' H2 y => ?_⟩
      obtain ⟨T, x2, rfl, hT, rfl, y⟩ := y
      have e' := y vs h3
      rw [h5] at e'
      cases e'
      exact ⟨w.tupl hT, .tupl hT, .tup (.inl (.inl upd_same)) (.cons (.int _) (.cons (h6.ext (.tupl hT)) .nil))⟩
theorem ri_zip {n k : Nat} (hl : l < n) (hk : k < n) : RI cn K H ρ n (.zip l k) (Itz K (ρ l) (ρ k)) := by
  intro H' ρ' m' w ex i
  have eρ := ex.rho l hl
  have eκ := ex.rho k hk
  have key : ∀ o, ItM.next m' i (.zip l k) = some o → ∃ xs ys, m'.get l = some (.lst xs) ∧ m'.get k = some (.lst ys) ∧ o = match xs[i]? with | some v => (match ys[i]? with | some w => some (.tup [v, w]) | none => none) | none => none := fun o e => by
    unfold ItM.next at e
    dsimp only at e
    cases eo : m'.get l with
    | none => rw [eo] at e; cases e
    | some ob =>
      rw [eo] at e
      cases ob with
      | lst xs =>
        dsimp only at e
        cases eo2 : m'.get k with
        | none => rw [eo2] at e; cases e
        | some ob2 =>
          rw [eo2] at e
          cases ob2 with
          | lst ys => exact ⟨xs, ys, rfl, rfl, (Option.some.inj e).symm⟩
          | _ => cases e
      | _ => cases e
  refine ⟨fun e => ?_, fun v e => ?_⟩
  · obtain ⟨xs, ys, g1, g2, h2⟩ := key _ e
    obtain ⟨vs, h3, h4⟩ := (w.obj l _ g1).2.sq (.inl rfl)
    obtain ⟨us, k3, k4⟩ := (w.obj k _ g2).2.sq (.inl rfl)
    rw [eρ] at h3
    rw [eκ] at k3
    refine ⟨vs, us, h3, k3, ?_⟩
    cases q : xs[i]? with
    | none => exact .inl (h4.get_none q)
    | some z =>
      rw [q] at h2
      dsimp only at h2
      cases q2 : ys[i]? with
      | none => exact .inr (k4.get_none q2)
      | some z2 => rw [q2] at h2; cases h2
  · obtain ⟨xs, ys, g1, g2, h2⟩ := key _ e
    obtain ⟨vs, h3, h4⟩ := (w.obj l _ g1).2.sq (.inl rfl)
    obtain ⟨us, k3, k4⟩ := (w.obj k _ g2).2.sq (.inl rfl)
    rw [eρ] at h3
    rw [eκ] at k3
    cases q : xs[i]? with
    | none => rw [q] at h2; cases h2
    | some z =>
      rw [q] at h2
      dsimp only at h2
      cases q2 : ys[i]? with
      | none => rw [q2] at h2; cases h2
      | some z2 =>
        rw [q2] at h2
        cases h2
        obtain ⟨x, h5, h6⟩ := h4.get q
        obtain ⟨y, k5, k6⟩ := k4.get q2
        refine ⟨⟨vs, us, x, y, h3, k3, h5, k5⟩, fun x' H2 yy => ?_⟩
        obtain ⟨T, x2, y2, rfl, hT, rfl, y1, y3⟩ := yy
        have e1 := y1 vs h3
        have e2 := y3 us k3
        rw [h5] at e1
        rw [k5] at e2
        cases e1; cases e2
        exact ⟨w.tupl hT, .tupl hT, .tup (.inl (.inl upd_same)) (.cons (h6.ext (.tupl hT)) (.cons (k6.ext (.tupl hT)) .nil))⟩
theorem vpairs_get : ∀ (xs ys : List Val) (i : Nat), (vpairs xs ys)[i]? = match xs[i]? with | some v => (match ys[i]? with | some w => some (.tup [v, w]) | none => none) | none => none
  | [], _, i => by simp [vpairs]
  | x :: xs, [], i => by cases h : (x :: xs)[i]? <;> simp [vpairs]
  | x :: xs, y :: ys, 0 => rfl
  | x :: xs, y :: ys, i + 1 => by
    have := vpairs_get xs ys i
    simpa [vpairs] using this
theorem ri_zipT {n : Nat} {p p2 : Addr} {xs ys : List Val} {vs us : List V} (h : SqT K H p vs) (r : RVs K H ρ n xs vs) (h2 : SqT K H p2 us) (r2 : RVs K H ρ n ys us) : RI cn K H ρ n (.vals (vpairs xs ys)) (RZ.ItzT K p p2) := by
  intro H' ρ' m' w ex i
  have h' := ex.tup.t p vs h
  have r' := r.ext0 ex.le ex.rho ex.tup
  have k' := ex.tup.t p2 us h2
  have s' := r2.ext0 ex.le ex.rho ex.tup
  have key : ∀ o, ItM.next m' i (.vals (vpairs xs ys)) = some o → o = match xs[i]? with | some v => (match ys[i]? with | some w => some (Val.tup [v, w]) | none => none) | none => none := fun o e => by
    have e := (Option.some.inj e).symm
    rw [vpairs_get] at e
    exact e
  refine ⟨fun e => ⟨vs, us, h', k', ?_⟩, fun v e => ?_⟩
  · have e := key _ e
    cases q : xs[i]? with
    | none => exact .inl (r'.get_none q)
    | some z =>
      rw [q] at e
      dsimp only at e
      cases q2 : ys[i]? with
      | none => exact .inr (s'.get_none q2)
      | some z2 => rw [q2] at e; cases e
  · have e := key _ e
    cases q : xs[i]? with
    | none => rw [q] at e; cases e
    | some z =>
      rw [q] at e
      dsimp only at e
      cases q2 : ys[i]? with
      | none => rw [q2] at e; cases e
      | some z2 =>
        rw [q2] at e
        cases e
        obtain ⟨x, h5, h6⟩ := r'.get q
        obtain ⟨y, k5, k6⟩ := s'.get q2
        refine ⟨⟨vs, us, x, y, h', k', h5, k5⟩, fun x' H2 yy => ?_⟩
        obtain ⟨T, x2, y2, rfl, hT, rfl, y1, y3⟩ := yy
        have e1 := y1 vs h'
        have e2 := y3 us k'
        rw [h5] at e1
        rw [k5] at e2
        cases e1; cases e2
        exact ⟨w.tupl hT, .tupl hT, .tup (.inl (.inl upd_same)) (.cons (h6.ext (.tupl hT)) (.cons (k6.ext (.tupl hT)) .nil))⟩
end
/-! ### the rules -/
section
variable {cn : CN} {X : Cx} {W : WX} {tg e e2 : Expr} {f : E} {fa : EA} {p pos tpos : Pos}
/-- a list, a tuple or a text -/
def iAny (K : PySem.W.Frag) (te : TE) : TI := fun σ H R => te σ H fun x H1 => (∃ a, x = .ref a ∧ (∃ xs, SqL K H1 a xs) ∧ R (Itl K a) H1) ∨ (∃ a, x = .ref a ∧ (∃ xs, SqT K H1 a xs) ∧ R (Itt K a) H1) ∨ ∃ z, x = .str z ∧ R (Its z) H1
theorem pi_any {te : TE} (he : PE X e te) : PI X tg e (iAny X.K te) := by
  refine ⟨fun pins s σ H R I h => ?_⟩
  refine thn (he.run pins s σ H _ I h) fun v s1 ⟨x, H1, I1, r1, q1⟩ => ?_
  have fp : ∀ b ∈ [s1.heap.objs.size], FpOk X pins H1 b := fun b hb => by
    have e : b = s1.heap.objs.size := by simpa using hb
    subst e
    exact I1.fpOk (Nat.le_refl _) (I1.hok.fresh (Nat.le_refl _))
  rcases q1 with ⟨a, rfl, ⟨xs, hq⟩, q⟩ | ⟨a, rfl, ⟨xs, hq⟩, q⟩ | ⟨z, rfl, q⟩
  · cases r1
    obtain ⟨its, rv, p, hz⟩ := I1.list hq
    exact wpAny_pyIter_list p.isList ⟨s1.heap.objs.size, [s1.heap.objs.size], _, _, H1, rfl, I1.kept (t' := s1.toks) fun b o e => Heap.get?_push_of_some _ e, turn_list a _, ⟨_, Heap.get?_push_size _ rfl, rfl, rfl⟩, fp, q⟩
  · cases r1
    obtain ⟨its, rv, p, hz⟩ := I1.tuple hq
    exact wpAny_pyIter_tuple (show s1.heap.IsTuple a its.toArray from p) ⟨s1.heap.objs.size, [s1.heap.objs.size], _, _, H1, rfl, I1.kept (t' := s1.toks) fun b o e => Heap.get?_push_of_some _ e, turn_tuple a _, ⟨_, Heap.get?_push_size _ rfl, rfl, rfl⟩, fp, q⟩
  · obtain ⟨t, rfl⟩ := r1
    cases ha : z.cps.all (· < 128)
    · exact wpAny_pyIter_wide ha (pi_one (tk := s1.toks) I1 _ (turn_str _ z t "str_iterator" (.inr rfl)) ⟨_, Heap.get?_push_size _ rfl, rfl, rfl⟩ q)
    · exact wpAny_pyIter_ascii ha (pi_one (tk := s1.toks) I1 _ (turn_str _ z t "str_ascii_iterator" (.inl rfl)) ⟨_, Heap.get?_push_size _ rfl, rfl, rfl⟩ q)
theorem pi_imp {t t' : TI} (h : PI X tg e t) (k : ∀ σ H R, t' σ H R → t σ H R) : PI X tg e t' := ⟨fun pins s σ H R I hw => h.run pins s σ H R I (k σ H R hw)⟩
theorem mi_seq (he : PE X e (TE' cn X.K W f)) : PI X tg e (TI' cn X.K W (iSeq f)) := by
  refine pi_imp (pi_any he) fun σ H R ⟨sl, m, ρ, w, r⟩ => ?_
  refine TM.bind w r fun x H1 ρ1 m1 v w1 e1 r1 q => ?_
  have r1 := r1.wk
  generalize wk v = v at q r1
  cases v with
  | loc l =>
    obtain ⟨rfl, hl⟩ := r1.locL
    dsimp only at q
    cases eo : m1.get l with
    | none => rw [eo] at q; exact q.elim
    | some o =>
      obtain ⟨_, ro⟩ := w1.h.obj l o eo
      rw [eo] at q
      cases o with
      | lst xs => obtain ⟨vs, h1, _⟩ := ro.sq (.inl rfl); exact .inl ⟨_, rfl, ⟨vs, h1⟩, q H1 ρ1 _ w1.h .refl (ri_lst hl)⟩
      | rol xs => obtain ⟨vs, h1, _⟩ := ro.sq (.inr rfl); exact .inl ⟨_, rfl, ⟨vs, h1⟩, q H1 ρ1 _ w1.h .refl (ri_lst hl)⟩
      | _ => exact q.elim
  | tup xs =>
    obtain ⟨p, vs, rfl, h1, r2⟩ := r1.tupL
    exact .inr (.inl ⟨p, rfl, ⟨vs, h1⟩, q H1 ρ1 _ w1.h .refl (ri_tup h1 r2)⟩)
  | klst xs =>
    cases r1 with
    | @klst p _ vs h1 r2 => exact .inl ⟨p, rfl, ⟨vs, h1.l⟩, q H1 ρ1 _ w1.h .refl (ri_klst h1 r2)⟩
  | str z => cases r1; exact .inr (.inr ⟨z, rfl, q H1 ρ1 _ w1.h .refl ri_str⟩)
  | _ => exact q.elim
theorem mi_rng1 (hg : Gl X "range") (hm : X.mg "range" = none) (ha : PA X [e] (TA' cn X.K W fa)) (hs : starEach [e] X.env = [(false, eval e X.env)] := by rfl) : PI X tg (.Call (.Name "range" p) [e] [] pos) (TI' cn X.K W (iRg1 fa)) := by
  refine pi_imp (pi_range1 hg hm ha hs) fun σ H R ⟨sl, m, ρ, w, r⟩ => ?_
  refine TM.bind w r fun x H1 ρ1 m1 v w1 e1 r1 q => ?_
  split at q
  · rename_i j
    obtain ⟨x, rfl, r2⟩ := r1.one
    cases r2
    cases z : within62 j with
    | false => rw [z] at q; exact q.elim
    | true =>
      rw [z] at q
      exact ⟨j, rfl, (within62_ok z).1, (within62_ok z).2, q H1 ρ1 _ w1.h .refl ri_rng⟩
  · exact q.elim
theorem mi_rng2 (hg : Gl X "range") (hm : X.mg "range" = none) (ha : PA X [e, e2] (TA' cn X.K W fa)) (hs : starEach [e, e2] X.env = [(false, eval e X.env), (false, eval e2 X.env)] := by rfl) (hs2 : starEach [e2] X.env = [(false, eval e2 X.env)] := by rfl) :
    PI X tg (.Call (.Name "range" p) [e, e2] [] pos) (TI' cn X.K W (iRg2 fa)) := by
  refine pi_imp (pi_range2 hg hm ha hs hs2) fun σ H R ⟨sl, m, ρ, w, r⟩ => ?_
  refine TM.bind w r fun x H1 ρ1 m1 v w1 e1 r1 q => ?_
  split at q
  · rename_i i j
    obtain ⟨x, y, rfl, r2, r3⟩ := r1.two
    cases r2; cases r3
    cases z : within62 i && within62 j with
    | false => rw [z] at q; exact q.elim
    | true =>
      rw [z] at q
      obtain ⟨z1, z2⟩ := Bool.and_eq_true_iff.mp z
      have h1 := within62_ok z1
      have h2 := within62_ok z2
      exact ⟨i, j, rfl, ⟨h1.1, h1.2, h2.1, h2.2⟩, q H1 ρ1 _ w1.h .refl ri_rng⟩
  · exact q.elim
theorem mi_rev (hg : Gl X "reversed") (hm : X.mg "reversed" = none) (ha : PA X [e] (TA' cn X.K W fa)) (hs : starEach [e] X.env = [(false, eval e X.env)] := by rfl) : PI X tg (.Call (.Name "reversed" p) [e] [] pos) (TI' cn X.K W (iRv fa)) := by
  refine pi_imp (pi_reversed hg hm ha hs) fun σ H R ⟨sl, m, ρ, w, r⟩ => ?_
  refine TM.bind w r fun x H1 ρ1 m1 v w1 e1 r1 q => ?_
  split at q
  · rename_i l
    obtain ⟨x, rfl, r2⟩ := r1.one
    obtain ⟨rfl, hl⟩ := r2.locL
    cases eo : m1.get l with
    | none => rw [eo] at q; exact q.elim
    | some o =>
      obtain ⟨_, ro⟩ := w1.h.obj l o eo
      rw [eo] at q
      cases o with
      | lst xs =>
        obtain ⟨vs, h1, h2⟩ := ro.sq (.inl rfl)
        refine ⟨_, vs, rfl, h1, ?_⟩
        rw [← h2.length]
        exact q H1 ρ1 _ w1.h .refl (ri_rev hl)
      | _ => exact q.elim
  · exact q.elim
theorem mi_enum {elts : List Expr} {kk : Nat} (hg : Gl X "enumerate") (hm : X.mg "enumerate" = none) (ha : PA X [e] (TA' cn X.K W fa)) (hs : starEach [e] X.env = [(false, eval e X.env)] := by rfl) : PI X (.Tuple elts kk tpos) (.Call (.Name "enumerate" p) [e] [] pos) (TI' cn X.K W (iEn fa)) := by
  refine pi_imp (pi_enum hg hm ha hs) fun σ H R ⟨sl, m, ρ, w, r⟩ => ?_
  refine TM.bind w r fun x H1 ρ1 m1 v w1 e1 r1 q => ?_
  split at q
  · rename_i l
    obtain ⟨x, rfl, r2⟩ := r1.one
    obtain ⟨rfl, hl⟩ := r2.locL
    cases eo : m1.get l with
    | none => rw [eo] at q; exact q.elim
    | some o =>
      obtain ⟨_, ro⟩ := w1.h.obj l o eo
      rw [eo] at q
      cases o with
      | lst xs =>
        obtain ⟨vs, h1, h2⟩ := ro.sq (.inl rfl)
        exact ⟨_, vs, rfl, h1, q H1 ρ1 _ w1.h .refl (ri_enu hl)⟩
      | rol xs =>
        obtain ⟨vs, h1, h2⟩ := ro.sq (.inr rfl)
        exact ⟨_, vs, rfl, h1, q H1 ρ1 _ w1.h .refl (ri_enu hl)⟩
      | _ => exact q.elim
  · exact q.elim
theorem mi_zip {elts : List Expr} {kk : Nat} (hg : Gl X "zip") (hm : X.mg "zip" = none) (ha : PA X [e, e2] (TA' cn X.K W fa)) (hs : starEach [e, e2] X.env = (false, eval e X.env) :: starEach [e2] X.env := by rfl) (hpl : (backTo pos (starEach [e2] X.env)).any (·.1) = false := by rfl) :
    PI X (.Tuple elts kk tpos) (.Call (.Name "zip" p) [e, e2] [] pos) (TI' cn X.K W (iZp fa)) := by
  refine pi_imp (RZ.pi_zipA hg hm ha hs hpl) fun σ H R ⟨sl, m, ρ, w, r⟩ => ?_
  refine TM.bind w r fun x H1 ρ1 m1 v w1 e1 r1 q => ?_
  have r1 := r1.wk
  generalize v.map wk = v at q r1
  split at q
  · rename_i l k
    obtain ⟨x, y, rfl, r2, r3⟩ := r1.two
    obtain ⟨rfl, hl⟩ := r2.locL
    obtain ⟨rfl, hk⟩ := r3.locL
    cases eo : m1.get l with
    | none => rw [eo] at q; exact q.elim
    | some o =>
      obtain ⟨_, ro⟩ := w1.h.obj l o eo
      rw [eo] at q
      cases o with
      | lst xs =>
        obtain ⟨vs, h1, h2⟩ := ro.sq (.inl rfl)
        dsimp only at q
        cases eo2 : m1.get k with
        | none => rw [eo2] at q; exact q.elim
        | some o2 =>
          obtain ⟨_, ro2⟩ := w1.h.obj k o2 eo2
          rw [eo2] at q
          cases o2 with
          | lst ys =>
            obtain ⟨us, k1, k2⟩ := ro2.sq (.inl rfl)
            exact ⟨_, _, vs, us, rfl, .inl ⟨h1, k1, q H1 ρ1 _ w1.h .refl (ri_zip hl hk)⟩⟩
          | _ => exact q.elim
      | _ => exact q.elim
  · rename_i xs ys
    obtain ⟨x, y, rfl, r2, r3⟩ := r1.two
    obtain ⟨p1, vs, rfl, h1, h2⟩ := r2.tupL
    obtain ⟨p2, us, rfl, k1, k2⟩ := r3.tupL
    exact ⟨p1, p2, vs, us, rfl, .inr ⟨h1, k1, q H1 ρ1 _ w1.h .refl (ri_zipT h1 h2 k1 k2)⟩⟩
  · exact q.elim
end
end Mi

set_option Elab.async false
set_option linter.all false
set_option autoImplicit false
set_option maxRecDepth 100000
set_option maxHeartbeats 2000000
namespace Mi
open PySem PySem.Spec L2 PyProof.Rows
/-! ### raise -/
abbrev EX := Slots → MH → RE Exc
def RXP (cn : CN) : Rl Exc (Value × Option Addr) := fun K H ρ n e p => RX cn K H ρ n e p.1 p.2
def TX' (cn : CN) (K : PySem.W.Frag) (W : WX) (f : EX) : L2.St → Hp → XK → Prop := fun σ H Q => TM cn K (RXP cn) W f σ H fun p H' => Q p.1 p.2 H'
def sRaise (f : EX) : S := fun sl m => (f sl m).to sl fun e m1 => .err e sl m1
/-- values that may stand in an exception's fields -/
def okX : Val → Bool
  | .int i => Nat.blt i.natAbs.log2 1920
  | .str x => Nat.ble x.length 1000000
  | _ => false
def fieldsOf : List Str → List Val → List (Str × Val) → Option (List (Str × Val))
  | [], [], acc => some acc
  | f :: fs, v :: vs, acc => fieldsOf fs vs ((f, v) :: acc)
  | _, _, _ => none
def xMk (c : Nat) (fs : List Str) (f : EA) : EX := fun sl m => (f sl m).bind fun vs m1 => match vs.all okX with
  | true => (match fieldsOf fs vs [] with
    | some gs => .ok ⟨c, gs⟩ m1
    | none => .fail)
  | false => .fail
def xMk0 (c : Nat) : EX := fun _ m => .ok ⟨c, []⟩ m
section
variable {cn : CN} {X : Cx} {W : WX} {e : Expr} {f : EX} {pos : Pos}
theorem ms_raise (hc : X.calm = true) (tk : Takes X W) (he : PMk X e (TX' cn X.K W f)) : PS X (.Raise (some e) none pos) (TS' cn X.K W (sRaise f)) := by
  refine ps_imp (ps_raise hc tk he) fun D σ H ⟨sl, m, ρ, w, r⟩ => ?_
  refine RunS.tm w r fun p H1 ρ1 m1 a w1 e1 r1 q => ?_
  exact q p.1 p.2 σ H1 ρ1 w1 .refl r1
theorem pmk_own0 {C : Addr} {bmB : List Value} {B newId initId : String} {x : Str} {p : Pos} (F : ExcBaseFacts B newId initId bmB) (q : PySem.W.excIn X.K C bmB newId = true) (gC : X.mg x = some (.ref C))
    (kC : PySem.W.keepIn X.K (.ref C) = true) (r : Raises X (.ref C)) (hg : Gl X x) (hdb : (x == ("__debug__" : Str)) = false := by decide) :
    PMk X (.Call (.Name x p) [] [] pos) (fun σ H Q => Q (.ref C) none H) := by
  intro pins s σ H Q I h
  refine wpAny_Call_Name_kw (ld_glob I hg gC ?_ hdb)
  refine PySem.W.callWith_K0 I.kIn kC ?_
  show wpAny _ _ (call (.ref C) []) _ _ _
  obtain ⟨bm, N, nm, qn, bs, hdct, sn, sub, ab, col, dd, k0, k1, k2, k3, k5, mN, hC, hN, hni, T⟩ := exc_obj I.kIn q
  refine wpAny_call_exc_subT F T hC hN hni (fun h' e hm => ?_) (by show 0 ≤ sizeLine; exact Nat.zero_le _)
  exact mk_of I hm r h (I.hok.gone hm.new)
theorem mx_own0 {c : Nat} {bmB : List Value} {B newId initId : String} {x : Str} {p : Pos} (F : ExcBaseFacts B newId initId bmB) (q : PySem.W.excIn X.K (He.ga X.K (cn c)) bmB newId = true) (gC : X.mg x = some (.ref (He.ga X.K (cn c))))
    (kC : PySem.W.keepIn X.K (.ref (He.ga X.K (cn c))) = true) (r : Raises X (.ref (He.ga X.K (cn c)))) (hg : Gl X x) (hdb : (x == ("__debug__" : Str)) = false := by decide) :
    PMk X (.Call (.Name x p) [] [] pos) (TX' cn X.K W (xMk0 c)) := by
  intro pins s σ H Q I ⟨sl, m, ρ, w, h⟩
  refine pmk_own0 F q gC kC r hg hdb pins s σ H Q I ?_
  exact h H ρ (.ref (He.ga X.K (cn c)), none) w.h .refl ⟨rfl, fun z => (z rfl).elim⟩
/-! ### an exception class with its own __init__ -/
/-- Base.__init__(self, ..), Base an own class over ValueError without own __init__ -/
theorem pe_oveinit {pl : Sem Bool} {B : Str} {CB : Addr} {mc : Value} {es : List Expr} {ta : TA} {p1 p2 : Pos} (hg : Gl X B) (hm : X.mg B = some (.ref CB)) (rd : ClX.CRead X.K CB mc) (at_ : PySem.W.findCls X.K (.ref CB) mc "__init__" = some (.val (.builtin "ValueError.__init__"))) (ha : PA X (e :: es) ta)
    (hc : eval (.Call (.Attribute (.Name B p1) "__init__" p2) (e :: es) [] pos) X.env = (do
      let ov ← eval (.Name B p1) X.env
      standAt p2.atName
      let (f, first) ← holding [ov] (getMethod ov "__init__" pl)
      callWith pos f first (backTo pos (starEach (e :: es) X.env)) (backToKw pos (keywordEach [] X.env))) := by rfl) (hdb : (B == ("__debug__" : Str)) = false := by decide)
    (he : starEach (e :: es) X.env = (false, eval e X.env) :: starEach es X.env := by rfl) (hpl : (backTo pos (starEach es X.env)).any (·.1) = false := by rfl) :
    PE X (.Call (.Attribute (.Name B p1) "__init__" p2) (e :: es) [] pos) (tVeI X.K ta) := by
  refine ⟨fun pins s σ H Q I h => ?_⟩
  refine PySem.W.methodCall_KW (ld_glob I hg hm ?_ hdb) hc
  refine PySem.W.method_cls I.kIn rd.ga (PySem.W.cls_value I.kIn rd.rd at_ rfl ?_)
  show wpAny _ _ (callWith pos (Value.builtin "ValueError.__init__") [] (backTo pos (starEach (e :: es) X.env)) []) _ _ _
  refine PyProof.Rows.callWith_method1 (thn (ha.run pos pins _ σ H _ (I.tok _) h) fun us s1 ⟨vs, H1, I1, r1, a, C, ws, ev, hl, T, ea, q⟩ => ?_) he hpl
  subst ev
  cases r1 with
  | @cons _ u0 _ ur ra rw' =>
    obtain rfl : u0 = Value.ref a := ra
    have hlen : ur.length ≤ sizeLine := by
      rw [← Paired.length rw', sizeLine_eq]
      omega
    exact oinit_ok T I1 ea hlen fun s' J => ⟨.non, H1, J, rfl, q⟩
end
end Mi

set_option Elab.async false
set_option linter.all false
set_option autoImplicit false
set_option maxRecDepth 100000
set_option maxHeartbeats 2000000
namespace Mi
open PySem PySem.Spec L2
/-! ### defs -/
abbrev FM := List Val → MH → RE Val
abbrev Tbl := Nat → FM
def slots0 (n : Nat) (as : List Val) : Slots := as.map Sl.v ++ List.replicate (n - as.length) Sl.no
def endF (r : RS) : RE Val := match r with
  | .nx _ m => .ok .non m
  | .rt v m => .ok v m
  | .err e _ m => .err e m
  | _ => .fail
def fnM (n : Nat) (b : S) : FM := fun as m => endF (b (slots0 n as) m)
def spM (cn : CN) (K : PySem.W.Frag) (n : Nat) (φ : FM) : Sp := fun vs H Q E => vs.length = n ∧ ∃ as m ρ, RH cn K m H ρ ∧ RVs K H ρ m.n as vs ∧ Run cn K RV (φ as m) ρ H m.n Q E
theorem RVs.at_ {K : PySem.W.Frag} {H : Hp} {ρ : Nat → Addr} {n : Nat} {xs : List Val} {vs : List V} (r : RVs K H ρ n xs vs) {i : Nat} {x : Val} (h : xs[i]? = some x) : ∃ v, vs[i]? = some v ∧ RV K H ρ n x v := r.get h
theorem WR.start {cn : CN} {K : PySem.W.Frag} {H : Hp} {ρ : Nat → Addr} {m : MH} {as : List Val} {vs : List V} {N : List Str} (w : RH cn K m H ρ) (r : RVs K H ρ m.n as vs) : WR cn K (slots0 N.length as) m (L2.start N vs) H ρ := by
  have hl := r.length
  refine ⟨fun i x h => ?_, fun i e h => ?_, ?_, w⟩
  · unfold slots0 at h
    by_cases hi : i < as.length
    · rw [List.getElem?_append_left (by simpa using hi), List.getElem?_map] at h
      cases e : as[i]? with
      | none => rw [e] at h; cases h
      | some y =>
        rw [e] at h
        cases h
        obtain ⟨v, h1, h2⟩ := r.get e
        refine ⟨v, ?_, h2⟩
        unfold L2.start
        rw [List.getElem?_append_left (by rw [List.length_map, ← hl]; exact hi), List.getElem?_map, h1]
        rfl
    · rw [List.getElem?_append_right (by simpa using hi), List.getElem?_replicate] at h
      split at h <;> cases h
  · unfold slots0 at h
    by_cases hi : i < as.length
    · rw [List.getElem?_append_left (by simpa using hi), List.getElem?_map] at h
      cases q : as[i]? with
      | none => rw [q] at h; cases h
      | some y => rw [q] at h; cases h
    · rw [List.getElem?_append_right (by simpa using hi), List.getElem?_replicate] at h
      split at h <;> cases h
  · unfold slots0 L2.start
    simp [hl]
section
variable {P : Program} {w : World} {K : PySem.W.Frag} {mg : Str → Option Value} {base : Heap} {cn : CN}
/-- THE RULE for a def -/
theorem fn_ok {x qual : Str} {params : Arguments} {body : List Stmt} {scope : Scope} {dvs : List V} {kws : List (Str × V)} {f : Addr} {fd : FuncData} {N ps : List Str} {k : Nat} {b : S} (F : FunD K x qual params body scope dvs kws f fd) (S : FnScope N ps scope)
    (hb : ∀ (cdv : Value) (A : Around) (outer : List PySem.Env) (s : Shared) (H : Hp) (E : XK), Room k (A.deeper (PyProof.Rows.envOfC qual scope s.heap.objs.size f cdv)) → ∀ (W : WX), Takes (cxOf (L2.CX P w) P w K mg base N qual scope f cdv A outer s H E) W →
      PassesOwn (model P w) (cxOf (L2.CX P w) P w K mg base N qual scope f cdv A outer s H E).A (cxOf (L2.CX P w) P w K mg base N qual scope f cdv A outer s H E).env (cxOf (L2.CX P w) P w K mg base N qual scope f cdv A outer s H E).xe →
      PSs (cxOf (L2.CX P w) P w K mg base N qual scope f cdv A outer s H E) body (TS' cn K W b)) :
    FnOk P w K mg base (L2.CX P w) (k + 1) f fd ps (spM cn K ps.length (fnM N.length b)) := by
  refine F.ok S (fun vs H Q E h => h.1) fun cdv A outer s H vs Q E hr h => ?_
  obtain ⟨hl, as, m, ρ, rh, rv, r⟩ := h
  refine ⟨_, hb cdv A outer s H E hr (fun cls d _ H' => E cls d H') (takes_of rfl rfl rfl rfl) (passes_of rfl), slots0 N.length as, m, ρ, WR.start rh rv, ?_⟩
  unfold fnM at r
  cases e : b (slots0 N.length as) m with
  | nx sl m' => rw [e] at r; exact fun σ' H' ρ' w' ex => r H' ρ' .non w'.h ex .non
  | rt v m' => rw [e] at r; exact r
  | err x sl m' => rw [e] at r; exact fun c d σ' H' ρ' w' ex rx => r c d H' ρ' w'.h ex rx
  | bk sl m' => rw [e] at r; exact r.elim
  | ct sl m' => rw [e] at r; exact r.elim
  | fail => rw [e] at r; exact r.elim
/-- nothing is promised -/
theorem fn_none {f : Addr} {fd : FuncData} {ps : List Str} {k : Nat} : FnOk P w K mg base (L2.CX P w) k f fd ps (spM cn K ps.length fun _ _ => .fail) :=
  ⟨fun vs H Q E h => h.1, fun A outer s H args us vs Q E hr he hb hv hs => by
    obtain ⟨_, as, m, ρ, _, _, r⟩ := hs
    exact r.elim⟩
end
/-! ### calls -/
/-- n values are given -/
def app (n : Nat) (φ : FM) (vs : List Val) (m : MH) : RE Val := match Nat.beq vs.length n with
  | true => φ vs m
  | false => .fail
def eCall (n : Nat) (φ : FM) (dv : List Val) (f : EA) : E := fun sl m => (f sl m).bind fun vs m1 => app n φ (vs ++ dv) m1
/-- o.m(..) -/
def recv (c : Nat) (f : Str) (v : Val) (m : MH) : RE Nat := match v with
  | .loc l => (match m.get l with
    | some (.ins c' fs) => (match Nat.beq c' c with
      | true => (match flook fs f with
        | none => .ok l m
        | some _ => .fail)
      | false => .fail)
    | _ => .fail)
  | _ => .fail
def eMeth (n c : Nat) (x : Str) (φ : FM) (dv : List Val) (o : E) (f : EA) : E := fun sl m => (o sl m).bind fun a m1 => (nE (recv c x a m1)).bind fun l m2 => (f sl m2).bind fun vs m3 => app n φ (.loc l :: (vs ++ dv)) m3
/-- C(..) -/
def mkEnd (l : Nat) (v : Val) (m : MH) : RE Val := match v with
  | .non => .ok (.loc l) m
  | _ => .fail
def eMake (n c : Nat) (φ : FM) (dv : List Val) (f : EA) : E := fun sl m => (f sl m).bind fun vs m1 => match Nat.ble m1.n lim with
  | true => nE ((app n φ (.loc m1.n :: (vs ++ dv)) (m1.add (.ins c []))).bind (mkEnd m1.n))
  | false => .fail
section
variable {cn : CN} {X : Cx} {W : WX} {k n : Nat} {f C : Addr} {fd : FuncData} {ps : List Str} {φ : FM} {dvs : List V} {dv : List Val} {ds : List Value} {x m : Str} {p pos apos : Pos} {e o : Expr} {es : List Expr} {h : EA} {fo : E}
/-- default values -/
def Dfl (K : PySem.W.Frag) (dv : List Val) (dvs : List V) : Prop := ∀ H ρ n, RVs K H ρ n dv dvs
/-- how the parameters are bound, dv filling up -/
def BindD (K : PySem.W.Frag) (fd : FuncData) (ps : List Str) (dv : List Val) : Prop := ∃ dvs ds, Dfl K dv dvs ∧ Vals dvs ds ∧ Binds K fd ps ds
theorem BindD.none {K : PySem.W.Frag} {fd : FuncData} {ps : List Str} (h : Binds K fd ps []) : BindD K fd ps [] := ⟨[], [], fun _ _ _ => .nil, .nil, h⟩
theorem BindD.some {K : PySem.W.Frag} {fd : FuncData} {ps : List Str} {dv : List Val} {dvs : List V} (h : ∃ ds, Vals dvs ds ∧ Binds K fd ps ds) (r : Dfl K dv dvs) : BindD K fd ps dv := let ⟨ds, h1, h2⟩ := h; ⟨dvs, ds, r, h1, h2⟩
theorem app_ok {K : PySem.W.Frag} {vs : List Val} {ws : List V} {m : MH} {H : Hp} {ρ : Nat → Addr} {Q : VK} {E : XK} (w : RH cn K m H ρ) (r : RVs K H ρ m.n vs ws) (q : Run cn K RV (app n φ vs m) ρ H m.n Q E) : spM cn K n φ ws H Q E := by
  unfold app at q
  cases e : Nat.beq vs.length n with
  | false => rw [e] at q; exact q.elim
  | true =>
    rw [e] at q
    exact ⟨by rw [← r.length]; exact Nat.eq_of_beq_eq_true e, vs, m, ρ, w, r, q⟩
theorem me_callP (G : FnOk X.prog X.w X.K X.mg X.base (L2.CX X.prog X.w) k f fd ps (spM cn X.K n φ)) (hr : Room k X.A) (hg : Gl X x) (hm : X.mg x = some (.ref f)) (hk : PySem.W.keepIn X.K (.ref f) = true) (B : BindD X.K fd ps dv) (px : ∀ σ, PassesAt (L2.CX X.prog X.w) X σ (WE W σ))
    (ha : PA X (e :: es) (TA' cn X.K W h)) (hdb : (x == ("__debug__" : Str)) = false := by decide) (he : starEach (e :: es) X.env = (false, eval e X.env) :: starEach es X.env := by rfl) (hpl : (backTo pos (starEach es X.env)).any (·.1) = false := by rfl) :
    PE X (.Call (.Name x p) (e :: es) [] pos) (TE' cn X.K W (eCall n φ dv h)) := by
  obtain ⟨dvs, ds, rd, hd, hb⟩ := B
  refine pe_imp (pe_callSD G hr hg hm hk hb hd px ha hdb he hpl) fun σ H Q ⟨sl, m, ρ, w, r⟩ => ?_
  refine TM.bind w r fun vs H1 ρ1 m1 as w1 e1 r1 q => ?_
  exact app_ok w1.h (r1.append (rd _ _ _)) q
theorem me_call (G : FnOk X.prog X.w X.K X.mg X.base (L2.CX X.prog X.w) k f fd ps (spM cn X.K n φ)) (hr : Room k X.A) (hg : Gl X x) (hm : X.mg x = some (.ref f)) (hk : PySem.W.keepIn X.K (.ref f) = true) (B : BindD X.K fd ps dv) (tk : Takes X W)
    (ha : PA X (e :: es) (TA' cn X.K W h)) (hdb : (x == ("__debug__" : Str)) = false := by decide) (he : starEach (e :: es) X.env = (false, eval e X.env) :: starEach es X.env := by rfl) (hpl : (backTo pos (starEach es X.env)).any (·.1) = false := by rfl) :
    PE X (.Call (.Name x p) (e :: es) [] pos) (TE' cn X.K W (eCall n φ dv h)) := me_callP G hr hg hm hk B (passAt tk) ha hdb he hpl
theorem me_call0P (G : FnOk X.prog X.w X.K X.mg X.base (L2.CX X.prog X.w) k f fd ps (spM cn X.K n φ)) (hr : Room k X.A) (hg : Gl X x) (hm : X.mg x = some (.ref f)) (hk : PySem.W.keepIn X.K (.ref f) = true) (B : BindD X.K fd ps dv) (px : ∀ σ, PassesAt (L2.CX X.prog X.w) X σ (WE W σ))
    (hdb : (x == ("__debug__" : Str)) = false := by decide) : PE X (.Call (.Name x p) [] [] pos) (TE' cn X.K W (eCall n φ dv aNil)) := by
  obtain ⟨dvs, ds, rd, hd, hb⟩ := B
  refine ⟨fun pins s σ H Q I ⟨sl, m, ρ, w, r⟩ => ?_⟩
  refine wpAny_Call_Name_kw (ld_glob I hg hm ?_ hdb)
  exact PySem.W.callWith_K0 I.kIn hk (run_fnSD (us := []) (vs := []) (E := fun σ => WE W σ) G hr hb hd (px σ) I .nil (app_ok w.h (rd _ _ _) r))
theorem me_call0 (G : FnOk X.prog X.w X.K X.mg X.base (L2.CX X.prog X.w) k f fd ps (spM cn X.K n φ)) (hr : Room k X.A) (hg : Gl X x) (hm : X.mg x = some (.ref f)) (hk : PySem.W.keepIn X.K (.ref f) = true) (B : BindD X.K fd ps dv) (tk : Takes X W)
    (hdb : (x == ("__debug__" : Str)) = false := by decide) : PE X (.Call (.Name x p) [] [] pos) (TE' cn X.K W (eCall n φ dv aNil)) := me_call0P G hr hg hm hk B (passAt tk) hdb
theorem recv_ok {K : PySem.W.Frag} {c : Nat} {a : Val} {y : V} {m : MH} {H : Hp} {ρ : Nat → Addr} {Q : Nat → Hp → Prop} {E : XK} {sl : Slots} {σ : L2.St} (w : RH cn K m H ρ) (r : RV K H ρ m.n a y) (q : Run cn K (fun _ _ _ _ a b => a = b) (nE (recv c x a m)) ρ H m.n Q E) :
    ∃ l dx fs, a = .loc l ∧ l < m.n ∧ y = .ref (ρ l) ∧ H (ρ l) = some (.ins (He.ga K (cn c)) dx fs) ∧ fs.lookup x = none ∧ Q l H := by
  unfold recv at q
  cases a with
  | loc l =>
    obtain ⟨rfl, hl⟩ := r.locL
    dsimp only at q
    cases eo : m.get l with
    | none => rw [eo] at q; exact q.elim
    | some ob =>
      obtain ⟨_, ro⟩ := w.obj l ob eo
      rw [eo] at q
      cases ob with
      | ins c' fs =>
        obtain ⟨dx, gs, h1, r2⟩ := ro
        dsimp only at q
        cases e1 : Nat.beq c' c with
        | false => rw [e1] at q; exact q.elim
        | true =>
          have := Nat.eq_of_beq_eq_true e1
          subst this
          rw [e1] at q
          dsimp only at q
          cases e2 : flook fs x with
          | some v => rw [e2] at q; exact q.elim
          | none =>
            rw [e2] at q
            exact ⟨l, dx, gs, rfl, hl, rfl, h1, r2.none e2, q H ρ l w .refl rfl⟩
      | _ => exact q.elim
  | _ => exact q.elim
theorem me_methP {c : Nat} {y : Str} {pl : Sem Bool} (q0 : m = y) (ho : PE X o (TE' cn X.K W fo)) (hc : Cls X.K (He.ga X.K (cn c))) (hm : Meth X.K (He.ga X.K (cn c)) m f) (G : FnOk X.prog X.w X.K X.mg X.base (L2.CX X.prog X.w) k f fd ps (spM cn X.K n φ)) (hr : Room k X.A) (B : BindD X.K fd ps dv) (px : ∀ σ, PassesAt (L2.CX X.prog X.w) X σ (WE W σ))
    (ha : PA X (e :: es) (TA' cn X.K W h)) (hst : starEach (e :: es) X.env = (false, eval e X.env) :: starEach es X.env := by rfl) (hpl : (backTo pos (starEach es X.env)).any (·.1) = false := by rfl)
    (ht : eval (.Call (.Attribute o m apos) (e :: es) [] pos) X.env = (do
      let ov ← eval o X.env
      standAt apos.atName
      let (f, first) ← holding [ov] (getMethod ov m pl)
      callWith pos f first (backTo pos (starEach (e :: es) X.env)) (backToKw pos (keywordEach [] X.env))) := by rfl) :
    PE X (.Call (.Attribute o m apos) (e :: es) [] pos) (TE' cn X.K W (eMeth n c y φ dv fo h)) := by
  obtain ⟨dvs, ds, rd, hd, hb⟩ := B
  subst q0
  refine ⟨fun pins s σ H Q I ⟨sl, mm, ρ, w, r⟩ => ?_⟩
  have r := TM.bind w r (Q1 := fun v H1 => ∃ a dx fs, v = V.ref a ∧ H1 a = some (.ins (He.ga X.K (cn c)) dx fs) ∧ fs.lookup m = none ∧ TA' cn X.K W h σ H1 fun vs H2 => spM cn X.K n φ (.ref a :: (vs ++ dvs)) H2 Q (WE W σ)) fun v H1 ρ1 m1 a w1 e1 r1 q => by
    obtain ⟨l, dx, fs, rfl, hl, rfl, h1, h2, ⟨ρ2, m2, l2, rh2, e2, hll, q⟩⟩ := recv_ok (sl := sl) (σ := σ) w1.h r1 q.bind
    cases (show l2 = l from hll)
    refine ⟨_, dx, fs, rfl, h1, h2, ?_⟩
    refine TM.bind (w1.ext e2 rh2) q fun vs H3 ρ3 m3 as w3 e3 r3 q => ?_
    refine app_ok w3.h (.cons ?_ (r3.append (rd _ _ _))) q
    rw [← e2.rho l hl, ← e3.rho l (Nat.lt_of_lt_of_le hl e2.le)]
    exact .loc (Nat.lt_of_lt_of_le hl (Nat.le_trans e2.le e3.le))
  refine PySem.W.methodCall_KW (pl := pl) (thn (ho.run pins s σ H _ I r) fun u s1 ⟨x, H1, I1, rx, a, dx, fs, ex, ea, l, q⟩ => ?_) ht
  subst ex
  obtain rfl : u = Value.ref a := rx
  refine getmeth_ok I1 ea hc hm l ?_
  refine PySem.W.callWith_K (first := [.ref a]) (h₀ := X.base) I.ok.mod.kin hm.kp (thn (ha.run pos pins s1 σ H1 _ I1 q) fun us s2 ⟨vs, H2, I2, r, q2⟩ => ⟨I2.kIn, ?_⟩) hst hpl
  exact run_fnSD (us := .ref a :: us) (vs := .ref a :: vs) (E := fun σ => WE W σ) G hr hb hd (px σ) I2 (.cons rfl r) q2
theorem me_meth {c : Nat} {y : Str} {pl : Sem Bool} (q0 : m = y) (ho : PE X o (TE' cn X.K W fo)) (hc : Cls X.K (He.ga X.K (cn c))) (hm : Meth X.K (He.ga X.K (cn c)) m f) (G : FnOk X.prog X.w X.K X.mg X.base (L2.CX X.prog X.w) k f fd ps (spM cn X.K n φ)) (hr : Room k X.A) (B : BindD X.K fd ps dv) (tk : Takes X W)
    (ha : PA X (e :: es) (TA' cn X.K W h)) (hst : starEach (e :: es) X.env = (false, eval e X.env) :: starEach es X.env := by rfl) (hpl : (backTo pos (starEach es X.env)).any (·.1) = false := by rfl)
    (ht : eval (.Call (.Attribute o m apos) (e :: es) [] pos) X.env = (do
      let ov ← eval o X.env
      standAt apos.atName
      let (f, first) ← holding [ov] (getMethod ov m pl)
      callWith pos f first (backTo pos (starEach (e :: es) X.env)) (backToKw pos (keywordEach [] X.env))) := by rfl) :
    PE X (.Call (.Attribute o m apos) (e :: es) [] pos) (TE' cn X.K W (eMeth n c y φ dv fo h)) := me_methP q0 ho hc hm G hr B (passAt tk) ha hst hpl ht
theorem me_meth0P {c : Nat} {y : Str} {pl : Sem Bool} (q0 : m = y) (ho : PE X o (TE' cn X.K W fo)) (hc : Cls X.K (He.ga X.K (cn c))) (hm : Meth X.K (He.ga X.K (cn c)) m f) (G : FnOk X.prog X.w X.K X.mg X.base (L2.CX X.prog X.w) k f fd ps (spM cn X.K n φ)) (hr : Room k X.A) (B : BindD X.K fd ps dv) (px : ∀ σ, PassesAt (L2.CX X.prog X.w) X σ (WE W σ))
    (ht : eval (.Call (.Attribute o m apos) [] [] pos) X.env = (do
      let ov ← eval o X.env
      standAt apos.atName
      let (f, first) ← holding [ov] (getMethod ov m pl)
      callWith pos f first (backTo pos (starEach [] X.env)) (backToKw pos (keywordEach [] X.env))) := by rfl) :
    PE X (.Call (.Attribute o m apos) [] [] pos) (TE' cn X.K W (eMeth n c y φ dv fo aNil)) := by
  obtain ⟨dvs, ds, rd, hd, hb⟩ := B
  subst q0
  refine ⟨fun pins s σ H Q I ⟨sl, mm, ρ, w, r⟩ => ?_⟩
  have r := TM.bind w r (Q1 := fun v H1 => ∃ a dx fs, v = V.ref a ∧ H1 a = some (.ins (He.ga X.K (cn c)) dx fs) ∧ fs.lookup m = none ∧ spM cn X.K n φ (.ref a :: dvs) H1 Q (WE W σ)) fun v H1 ρ1 m1 a w1 e1 r1 q => by
    obtain ⟨l, dx, fs, rfl, hl, rfl, h1, h2, ⟨ρ2, m2, l2, rh2, e2, hll, q⟩⟩ := recv_ok (sl := sl) (σ := σ) w1.h r1 q.bind
    cases (show l2 = l from hll)
    refine ⟨_, dx, fs, rfl, h1, h2, ?_⟩
    refine app_ok rh2 (.cons ?_ (rd _ _ _)) q
    rw [← e2.rho l hl]
    exact .loc (Nat.lt_of_lt_of_le hl e2.le)
  refine PySem.W.methodCall_KW (pl := pl) (thn (ho.run pins s σ H _ I r) fun u s1 ⟨x, H1, I1, rx, a, dx, fs, ex, ea, l, q⟩ => ?_) ht
  subst ex
  obtain rfl : u = Value.ref a := rx
  refine getmeth_ok I1 ea hc hm l ?_
  exact PySem.W.callWith_K0 (first := [.ref a]) I1.kIn hm.kp (run_fnSD (us := [.ref a]) (vs := [.ref a]) (E := fun σ => WE W σ) G hr hb hd (px σ) I1 (.cons rfl .nil) q)
theorem me_meth0 {c : Nat} {y : Str} {pl : Sem Bool} (q0 : m = y) (ho : PE X o (TE' cn X.K W fo)) (hc : Cls X.K (He.ga X.K (cn c))) (hm : Meth X.K (He.ga X.K (cn c)) m f) (G : FnOk X.prog X.w X.K X.mg X.base (L2.CX X.prog X.w) k f fd ps (spM cn X.K n φ)) (hr : Room k X.A) (B : BindD X.K fd ps dv) (tk : Takes X W)
    (ht : eval (.Call (.Attribute o m apos) [] [] pos) X.env = (do
      let ov ← eval o X.env
      standAt apos.atName
      let (f, first) ← holding [ov] (getMethod ov m pl)
      callWith pos f first (backTo pos (starEach [] X.env)) (backToKw pos (keywordEach [] X.env))) := by rfl) :
    PE X (.Call (.Attribute o m apos) [] [] pos) (TE' cn X.K W (eMeth n c y φ dv fo aNil)) := me_meth0P q0 ho hc hm G hr B (passAt tk) ht
/-! ### C(..) -/
theorem made_ok {c : Nat} {K : PySem.W.Frag} {as : List Val} {ws : List V} {m : MH} {H : Hp} {ρ : Nat → Addr} {Q : VK} {E E' : XK} (w : RH cn K m H ρ) (r : RVs K H ρ m.n as ws) (rd : Dfl K dv dvs)
    (q : Run cn K RV (match Nat.ble m.n lim with | true => nE ((app n φ (.loc m.n :: (as ++ dv)) (m.add (.ins c []))).bind (mkEnd m.n)) | false => .fail) ρ H m.n Q E) (x dx : Addr) (hx : H x = none) (hd : H dx = none) (ne : dx ≠ x) :
    spM cn K n φ (.ref x :: (ws ++ dvs)) (upd (upd H dx (.own x)) x (.ins (He.ga K (cn c)) dx [])) (fun v H2 => v = .non ∧ Q (.ref x) H2) E' := by
  cases e : Nat.ble m.n lim with
  | false => rw [e] at q; exact q.elim
  | true =>
    rw [e] at q
    have hn := Nat.le_of_ble_eq_true e
    have hx2 : upd H dx (.own x) x = none := by rw [upd_ne (Ne.symm ne)]; exact hx
    have w1 : RH cn K m (upd H dx (.own x)) ρ := w.tupl hd
    have x1 : Ext K ρ H m.n ρ (upd H dx (.own x)) m.n := .tupl hd
    have x2 : Ext K ρ (upd H dx (.own x)) m.n (upR ρ m.n x) (upd (upd H dx (.own x)) x (.ins (He.ga K (cn c)) dx [])) (m.n + 1) := .new hx2
    have w2 : RH cn K (m.add (.ins c [])) (upd (upd H dx (.own x)) x (.ins (He.ga K (cn c)) dx [])) (upR ρ m.n x) := w1.add hn hx2 ⟨dx, [], upd_same, rfl, .nil⟩
    have q := q.nE (W' := E')
    have q := Run.back (x1.trans x2) q
    have q := q.bind (R1 := RV)
    refine app_ok w2 (.cons ?_ ((r.ext (x1.trans x2)).append (rd _ _ _))) (q.post fun y H1 ⟨ρ1, m1, a, w3, e3, r3, q3⟩ => ?_)
    · have : V.ref x = V.ref (upR ρ m.n x m.n) := by rw [upR_eq]
      rw [this]
      exact .loc (Nat.lt_succ_self _)
    · unfold mkEnd at q3
      cases a with
      | non =>
        cases r3
        refine ⟨rfl, Run.val q3 w3 ?_⟩
        have : V.ref x = V.ref (ρ1 m.n) := by rw [e3.rho m.n (Nat.lt_succ_self _), upR_eq]
        rw [this]
        exact .loc (Nat.lt_of_lt_of_le (Nat.lt_succ_self _) e3.le)
      | _ => exact q3.elim
theorem me_make {c : Nat} (M : Mk X.K (He.ga X.K (cn c)) f) (G : FnOk X.prog X.w X.K X.mg X.base (L2.CX X.prog X.w) k f fd ps (spM cn X.K n φ)) (hr : Room (k + 1) X.A) (hg : Gl X x) (hm : X.mg x = some (.ref (He.ga X.K (cn c)))) (B : BindD X.K fd ps dv)
    (ha : PA X (e :: es) (TA' cn X.K W h)) (hdb : (x == ("__debug__" : Str)) = false := by decide) (he : starEach (e :: es) X.env = (false, eval e X.env) :: starEach es X.env := by rfl) (hpl : (backTo pos (starEach es X.env)).any (·.1) = false := by rfl) :
    PE X (.Call (.Name x p) (e :: es) [] pos) (TE' cn X.K W (eMake n c φ dv h)) := by
  obtain ⟨dvs, ds, rd, hd, hb⟩ := B
  refine pe_imp (pe_make (E := fun _ _ _ => False) M G hr hg hm hb hd (passes_call (W := fun _ _ _ _ => False) takes0 fun _ _ _ _ z => z) ha hdb he hpl) fun σ H Q ⟨sl, m, ρ, w, r⟩ => ?_
  refine TM.bind w r fun vs H1 ρ1 m1 as w1 e1 r1 q => ?_
  exact fun x dx hx hd ne => made_ok w1.h r1 rd q x dx hx hd ne
theorem me_make0 {c : Nat} (M : Mk X.K (He.ga X.K (cn c)) f) (G : FnOk X.prog X.w X.K X.mg X.base (L2.CX X.prog X.w) k f fd ps (spM cn X.K n φ)) (hr : Room (k + 1) X.A) (hg : Gl X x) (hm : X.mg x = some (.ref (He.ga X.K (cn c)))) (B : BindD X.K fd ps dv)
    (hdb : (x == ("__debug__" : Str)) = false := by decide) :
    PE X (.Call (.Name x p) [] [] pos) (TE' cn X.K W (eMake n c φ dv aNil)) := by
  obtain ⟨dvs, ds, rd, hd, hb⟩ := B
  refine pe_imp (pe_make0 (E := fun _ _ _ => False) M G hr hg hm hb hd (passes_call (W := fun _ _ _ _ => False) takes0 fun _ _ _ _ z => z) hdb) fun σ H Q ⟨sl, m, ρ, w, r⟩ => ?_
  exact fun x dx hx hd ne => made_ok (as := []) w.h .nil rd r x dx hx hd ne
end
end Mi

set_option Elab.async false
set_option linter.all false
set_option autoImplicit false
set_option maxRecDepth 100000
set_option maxHeartbeats 2000000
namespace Mi
open PySem PySem.Spec L2
/-! ### exception classes with their own __init__ -/
def okV (x : V) : Prop := (∃ i : Int, x = .int i ∧ i.natAbs.log2 < 1920) ∨ ∃ y : Str, x = .str y ∧ y.length ≤ 1000000
/-- some text, the heap as it was, for values that may stand -/
def SlOk (n : Nat) (σ : L2.St) : Prop := ∀ i, i < n → ∃ v, σ[i + 1]? = some (some v) ∧ okV v
def TEok (n : Nat) (te : TE) : Prop := ∀ (σ : L2.St) (H : Hp) (Q : VK), SlOk n σ → (∀ y, Q y H) → te σ H Q
def spX1 (K : PySem.W.Frag) (C : Addr) (f : Str) : Sp := fun vs H Q E => ∃ a x, vs = [.ref a, x] ∧ okV x ∧ H a = some (exo a C none) ∧
  ∀ H' dx, H' a = some (exo a C (some dx)) → H' dx = some (exd dx [(f, x)]) → H dx = none → dx ≠ a → (∀ b, b ≠ a → b ≠ dx → H' b = H b) → Q .non H'
def spX2 (K : PySem.W.Frag) (C : Addr) (f g : Str) : Sp := fun vs H Q E => ∃ a x y, vs = [.ref a, x, y] ∧ okV x ∧ okV y ∧ H a = some (exo a C none) ∧
  ∀ H' dx, H' a = some (exo a C (some dx)) → H' dx = some (exd dx [(g, y), (f, x)]) → H dx = none → dx ≠ a → (∀ b, b ≠ a → b ≠ dx → H' b = H b) → Q .non H'
def tX1 (K : PySem.W.Frag) (te : TE) (f : Str) : TS := tSeq (tDrop (tVeI K (tCons (tVar 0) (tCons te tNil)))) (tOst K f (tVar 0) (tVar 1))
def tX2 (K : PySem.W.Frag) (te : TE) (f g : Str) : TS := tSeq (tDrop (tVeI K (tCons (tVar 0) (tCons te tNil)))) (tSeq (tOst K f (tVar 0) (tVar 1)) (tOst K g (tVar 0) (tVar 2)))
section
variable {K : PySem.W.Frag} {C : Addr} {f g : Str} {te : TE}
theorem x1_pure (T : OexC K C) (hf : PySem.W.findIn K (.ref C) f = some none) (ht : TEok 1 te) {vs : List V} {H : Hp} {Q : VK} {E : XK} {N : List Str} (hN : N.length = 2) (h : spX1 K C f vs H Q E) : tX1 K te f { nx := fun _ H' => Q .non H', rt := Q } (L2.start N vs) H := by
  obtain ⟨a, x, rfl, ox, ha, hq⟩ := h
  have es : L2.start N [.ref a, x] = [some (.ref a), some x] := by unfold L2.start; rw [hN]; rfl
  rw [es]
  refine ⟨.ref a, rfl, ht _ _ _ (fun i hi => ?_) fun y => ?_⟩
  · match i, hi with
    | 0, _ => exact ⟨x, rfl, ox⟩
  · refine ⟨a, C, [y], rfl, by show 1 ≤ 1000; omega, T, ha, ?_⟩
    refine ⟨x, rfl, .ref a, rfl, a, C, rfl, T, hf, .inl ⟨ha, fun dx hd ne => ?_⟩⟩
    refine hq _ dx upd_same ?_ hd ne fun b hb hb2 => ?_
    · rw [upd_ne ne, upd_same]
    · rw [upd_ne hb, upd_ne hb2]
theorem x2_pure (T : OexC K C) (hf : PySem.W.findIn K (.ref C) f = some none) (hg : PySem.W.findIn K (.ref C) g = some none) (ht : TEok 2 te) {vs : List V} {H : Hp} {Q : VK} {E : XK} {N : List Str} (hN : N.length = 3) (h : spX2 K C f g vs H Q E) : tX2 K te f g { nx := fun _ H' => Q .non H', rt := Q } (L2.start N vs) H := by
  obtain ⟨a, x, y, rfl, ox, oy, ha, hq⟩ := h
  have es : L2.start N [.ref a, x, y] = [some (.ref a), some x, some y] := by unfold L2.start; rw [hN]; rfl
  rw [es]
  refine ⟨.ref a, rfl, ht _ _ _ (fun i hi => ?_) fun z => ?_⟩
  · match i, hi with
    | 0, _ => exact ⟨x, rfl, ox⟩
    | 1, _ => exact ⟨y, rfl, oy⟩
  · refine ⟨a, C, [z], rfl, by show 1 ≤ 1000; omega, T, ha, ?_⟩
    refine ⟨x, rfl, .ref a, rfl, a, C, rfl, T, hf, .inl ⟨ha, fun dx hd ne => ?_⟩⟩
    refine ⟨y, rfl, .ref a, rfl, a, C, rfl, T, hg, .inr ⟨dx, [(f, x)], upd_same, by rw [upd_ne ne, upd_same], by show 1 ≤ 900; omega, ?_⟩⟩
    refine hq _ dx ?_ upd_same hd ne fun b hb hb2 => ?_
    · rw [upd_ne (Ne.symm ne), upd_same]
    · rw [upd_ne hb2, upd_ne hb, upd_ne hb2]
theorem te_c {n : Nat} {v : V} : TEok n (tC v) := fun σ H Q _ h => h v
theorem te_var {n : Nat} (h0 : 0 < n) : TEok n (tVar 1) := fun σ H Q hs h => by
  obtain ⟨v, h1, _⟩ := hs 0 h0
  exact ⟨v, h1, h v⟩
/-- a part of an f-string -/
def TEs (n : Nat) (te : TE) : Prop := ∀ (σ : L2.St) (H : Hp) (Q : VK), SlOk n σ → (∀ y : Str, y.length ≤ 1000000 → Q (.str y) H) → te σ H Q
theorem ts_c {n : Nat} {y : Str} (hy : y.length ≤ 1000000) : TEs n (tC (.str y)) := fun σ H Q _ h => h y hy
theorem ts_fmt {n i : Nat} (hi : i < n) : TEs n (tFmt (tVar (i + 1))) := fun σ H Q hs h => by
  obtain ⟨v, h1, h2⟩ := hs i hi
  refine ⟨v, h1, ?_⟩
  rcases h2 with ⟨j, rfl, hj⟩ | ⟨y, rfl, hy⟩
  · refine .inr ⟨j, rfl, hj, h _ ?_⟩
    have := int_text_length_le (k := 1920) (by decide) hj
    rw [ofString_length]; omega
  · exact .inl ⟨y, rfl, by rw [sizeLine_eq]; omega, h y hy⟩
theorem js_ok {n : Nat} {σ : L2.St} (hs : SlOk n σ) : ∀ (ts : List TE) (acc : Str) (H : Hp) (Q : Str → Hp → Prop), (∀ t ∈ ts, TEs n t) → acc.length + ts.length * 1000000 ≤ 16777216 → (∀ y, Q y H) → tJs ts acc σ H Q
  | [], acc, H, Q, _, _, h => h acc
  | t :: ts, acc, H, Q, ht, hl, h => by
    refine ht t (List.mem_cons_self ..) σ H _ hs fun y hy => ?_
    have e : (acc ++ y).length = acc.length + y.length := Str.length_append ..
    rw [List.length_cons] at hl
    exact ⟨y, rfl, by rw [e, sizeLine_eq]; omega, js_ok hs ts _ H Q (fun t h => ht t (List.mem_cons_of_mem _ h)) (by rw [e]; omega) h⟩
theorem te_js {n : Nat} {ts : List TE} (ht : ∀ t ∈ ts, TEs n t) (hl : ts.length ≤ 16) : TEok n (fun σ H Q => tJs ts Str.empty σ H fun out H1 => Q (.str out) H1) :=
  fun σ H Q hs h => js_ok hs ts _ H _ ht (by show 0 + _ ≤ _; omega) fun y => h _
end
/-! ### the rule for X(e, ..) -/
section
variable {cn : CN} {X : Cx} {W : WX} {k c : Nat} {fI : Addr} {fd : FuncData} {ps : List Str} {x f g : Str} {p pos : Pos} {e : Expr} {es : List Expr} {h : EA}
theorem okX_V {K : PySem.W.Frag} {H : Hp} {ρ : Nat → Addr} {n : Nat} {v : Val} {x : V} (r : RV K H ρ n v x) (h : okX v = true) : okV x := by
  cases v with
  | int i => cases r; exact .inl ⟨i, rfl, Nat.le_of_ble_eq_true h⟩
  | str y => cases r; exact .inr ⟨y, rfl, Nat.le_of_ble_eq_true h⟩
  | _ => cases h
/-- the heap behind -/
theorem x_end {K : PySem.W.Frag} {C : Addr} {H1 H2 : Hp} {a dx : Addr} {gs : List (Str × V)} (ha : H1 a = none) (hd : upd H1 a (exo a C none) dx = none) (ne : dx ≠ a)
    (hb : ∀ b, b ≠ a → b ≠ dx → H2 b = upd H1 a (exo a C none) b) : H1 dx = none ∧ upd (del H2 a) dx (.xd gs) = upd H1 dx (.xd gs) := by
  have h0 : H1 dx = none := by
    have e : upd H1 a (exo a C none) dx = H1 dx := upd_ne ne
    rw [← e]; exact hd
  refine ⟨h0, ?_⟩
  funext b
  by_cases e : b = dx
  · rw [e, upd_same, upd_same]
  · rw [upd_ne e, upd_ne e]
    by_cases e2 : b = a
    · rw [e2, del_same, ha]
    · rw [del_ne e2, hb b e2 e, upd_ne e2]
theorem x_fin {K : PySem.W.Frag} {H1 : Hp} {ρ : Nat → Addr} {m : MH} {dx : Addr} {ex : Exc} {gs : List (Str × V)} {Q : XK} {E : XK} (w : RH cn K m H1 ρ) (r : RFs K H1 ρ m.n ex.fs gs) (hd : H1 dx = none)
    (q : Run cn K (RXP cn) (.ok ex m) ρ H1 m.n (fun p H' => Q p.1 p.2 H') E) : Q (.ref (He.ga K (cn ex.cls))) (some dx) (upd H1 dx (.xd gs)) :=
  q _ ρ (.ref (He.ga K (cn ex.cls)), some dx) (w.tupl hd) (.tupl hd) ⟨rfl, fun _ => ⟨dx, gs, rfl, upd_same, r.ext (.tupl hd)⟩⟩
theorem mx_1 {f' : Str} (q0 : f = f') (T : OexC X.K (He.ga X.K (cn c))) (iC : PySem.W.findIn X.K (.ref (He.ga X.K (cn c))) "__init__" = some (some (.ref fI))) (tI : PySem.W.typeIn X.K (.ref fI) = some (.type "function"))
    (F1 : FnOk X.prog X.w X.K X.mg X.base (L2.CX X.prog X.w) k fI fd ps (spX1 X.K (He.ga X.K (cn c)) f)) (hr : Room (k + 1) X.A) (hb : Binds X.K fd ps []) (hg : Gl X x) (hm : X.mg x = some (.ref (He.ga X.K (cn c)))) (ha : PA X (e :: es) (TA' cn X.K W h))
    (hdb : (x == ("__debug__" : Str)) = false := by decide) (he : starEach (e :: es) X.env = (false, eval e X.env) :: starEach es X.env := by rfl) (hpl : (backTo pos (starEach es X.env)).any (·.1) = false := by rfl) :
    PMk X (.Call (.Name x p) (e :: es) [] pos) (TX' cn X.K W (xMk c [f'] h)) := by
  subst q0
  intro pins s σ H Q I ⟨sl, m, ρ, w, r⟩
  refine pmk_oex (dvs := []) T iC tI F1 hr hb .nil (passes_call (W := fun _ _ _ _ => False) takes0 fun _ _ _ _ z => z) hg hm ha hdb he hpl pins s σ H Q I ?_
  refine TM.bind w r fun vs H1 ρ1 m1 as w1 e1 r1 q => ?_
  cases eo : as.all okX with
  | false => rw [eo] at q; exact q.elim
  | true =>
    rw [eo] at q
    cases r1 with
    | nil => exact q.elim
    | @cons x1 v1 _ _ r1 r2 =>
      cases r2 with
      | cons _ _ => exact q.elim
      | nil =>
        refine ⟨by show 1 ≤ 1000; omega, fun a hn => ⟨a, _, rfl, okX_V r1 (by simpa using eo), upd_same, fun H' dx h1 h2 h3 h4 h5 => ⟨rfl, dx, _, h1, h2, ?_, ?_⟩⟩⟩
        · exact (x_end (K := X.K) (gs := []) hn h3 h4 h5).1
        · obtain ⟨k1, k2⟩ := x_end (K := X.K) (gs := [(f, v1)]) hn h3 h4 h5
          rw [k2]
          exact x_fin (ex := ⟨c, [(f, x1)]⟩) w1.h ⟨rfl, .cons r1 .nil⟩ k1 q
theorem mx_2 {f' g' : Str} (q0 : f = f') (q1 : g = g') (T : OexC X.K (He.ga X.K (cn c))) (iC : PySem.W.findIn X.K (.ref (He.ga X.K (cn c))) "__init__" = some (some (.ref fI))) (tI : PySem.W.typeIn X.K (.ref fI) = some (.type "function"))
    (F1 : FnOk X.prog X.w X.K X.mg X.base (L2.CX X.prog X.w) k fI fd ps (spX2 X.K (He.ga X.K (cn c)) f g)) (hr : Room (k + 1) X.A) (hb : Binds X.K fd ps []) (hg : Gl X x) (hm : X.mg x = some (.ref (He.ga X.K (cn c)))) (ha : PA X (e :: es) (TA' cn X.K W h))
    (hdb : (x == ("__debug__" : Str)) = false := by decide) (he : starEach (e :: es) X.env = (false, eval e X.env) :: starEach es X.env := by rfl) (hpl : (backTo pos (starEach es X.env)).any (·.1) = false := by rfl) :
    PMk X (.Call (.Name x p) (e :: es) [] pos) (TX' cn X.K W (xMk c [f', g'] h)) := by
  subst q0 q1
  intro pins s σ H Q I ⟨sl, m, ρ, w, r⟩
  refine pmk_oex (dvs := []) T iC tI F1 hr hb .nil (passes_call (W := fun _ _ _ _ => False) takes0 fun _ _ _ _ z => z) hg hm ha hdb he hpl pins s σ H Q I ?_
  refine TM.bind w r fun vs H1 ρ1 m1 as w1 e1 r1 q => ?_
  cases eo : as.all okX with
  | false => rw [eo] at q; exact q.elim
  | true =>
    rw [eo] at q
    cases r1 with
    | nil => exact q.elim
    | @cons x1 v1 _ _ r1 r2 =>
      cases r2 with
      | nil => exact q.elim
      | @cons x2 v2 _ _ r2 r3 =>
        cases r3 with
        | cons _ _ => exact q.elim
        | nil =>
          have eo' : okX x1 = true ∧ okX x2 = true := by simpa using eo
          refine ⟨by show 2 ≤ 1000; omega, fun a hn => ⟨a, _, _, rfl, okX_V r1 eo'.1, okX_V r2 eo'.2, upd_same, fun H' dx h1 h2 h3 h4 h5 => ⟨rfl, dx, _, h1, h2, ?_, ?_⟩⟩⟩
          · exact (x_end (K := X.K) (gs := []) hn h3 h4 h5).1
          · obtain ⟨k1, k2⟩ := x_end (K := X.K) (gs := [(g, v2), (f, v1)]) hn h3 h4 h5
            rw [k2]
            exact x_fin (ex := ⟨c, [(g, x2), (f, x1)]⟩) w1.h ⟨rfl, .cons r2 (.cons r1 .nil)⟩ k1 q
end
end Mi

set_option Elab.async false
set_option linter.all false
set_option autoImplicit false
set_option maxRecDepth 100000
set_option maxHeartbeats 2000000
namespace Mi
open PySem PySem.Spec L2 PyProof.Rows
/-! ### try .. except X [as n]: .. -/
/-- what the clauses wish of an exception of the body, one after the other -/
def wMix (K : PySem.W.Frag) (Wout : WX) (D : Ends) : List (Value × Option Nat × (Addr → Value → Option Addr → TS)) → WX
  | [] => Wout
  | (c, none, ts) :: r => fun cls d σ H => ∃ b, PySem.W.exmOne K cls c = some b ∧ (b = true → ∀ a, H a = none → ts a cls d D σ H) ∧ (b = false → wMix K Wout D r cls d σ H)
  | (c, some i, ts) :: r => fun cls d σ H => ∃ b, PySem.W.exmOne K cls c = some b ∧ (b = true → ∀ a, H a = none → ts a cls d { nx := fun σ' H' => D.nx (σ'.set i none) H', rt := D.rt, bk := fun σ' H' => D.bk (σ'.set i none) H', ct := fun σ' H' => D.ct (σ'.set i none) H' } (σ.set i (some (.ref a))) H) ∧
      (b = false → wMix K Wout D r cls d σ H)
inductive HdsX (X : Cx) : List ExceptHandler → List (Value × Option Nat × (Addr → Value → Option Addr → TS)) → Prop
  | nil : HdsX X [] []
  | cons {x : Str} {c : Value} {ts : Addr → Value → Option Addr → TS} {b₀ : Stmt} {suite : List Stmt} {np pos' : Pos} {hds : List ExceptHandler} {l : List (Value × Option Nat × (Addr → Value → Option Addr → TS))} (hc : Names X x c)
      (hsu : ∀ (a : Addr) (oe : Obj) (cls : Value) (d : Option Addr) (pn : List (Addr × Obj)), Zc cls d oe → (∃ vs, oe.data = .fields vs) → PSs (X.suite a ((a, oe) :: pn)) (b₀ :: suite) (ts a cls d)) (r : HdsX X hds l) :
      HdsX X (.ExceptHandler (some (.Name x np)) none (b₀ :: suite) pos' :: hds) ((c, none, ts) :: l)
  | as_ {x n : Str} {i : Nat} {c : Value} {ts : Addr → Value → Option Addr → TS} {b₀ : Stmt} {suite : List Stmt} {np pos' : Pos} {hds : List ExceptHandler} {l : List (Value × Option Nat × (Addr → Value → Option Addr → TS))} (hN : X.N.Nodup) (hi : X.N[i]? = some n) (hln : X.env.kindOf n = some .local) (hc : Names X x c)
      (hsu : ∀ (a : Addr) (oe : Obj) (cls : Value) (d : Option Addr) (pn : List (Addr × Obj)), Zc cls d oe → (∃ vs, oe.data = .fields vs) → PSs (X.suite a ((a, oe) :: pn)) (b₀ :: suite) (ts a cls d)) (r : HdsX X hds l) :
      HdsX X (.ExceptHandler (some (.Name x np)) (some n) (b₀ :: suite) pos' :: hds) ((c, some i, ts) :: l)
section
variable {X : Cx} {body : List Stmt} {h₀ : ExceptHandler} {hds : List ExceptHandler} {l : List (Value × Option Nat × (Addr → Value → Option Addr → TS))} {pos : Pos} {tb : WX → TS} {Wout : WX}
theorem ps_try_mix (hs : X.stack = X.env :: X.outer) (hf : X.env.frame = some X.env.locals) (tk : Takes X Wout)
    (hb : ∀ (W : WX) (pn : List (Addr × Obj)) (xe : Value → Shared → Prop), Takes (X.tr pn xe) W → PassesOwn (model X.prog X.w) X.A X.env xe → PSs (X.tr pn xe) body (tb W))
    (hh : HdsX X (h₀ :: hds) l) : PS X (.Try body (h₀ :: hds) [] [] pos) (fun D σ H => tb (wMix X.K Wout D l) D σ H) := by
  refine ⟨fun pins s σ H D I h => ?_⟩
  have ok := I.ok
  have hfr : X.A.frames = some (X.env :: X.outer) := by rw [ok.frames, hs]
  refine wpAny_Try_except ?_
  refine wpAny_mono ((hb (wMix X.K Wout D l) (X.pn ++ pins) (fun e s₁ => wpAny (model X.prog X.w) X.A (noteFrame e X.env) (fun _ s₂ => wpAny (model X.prog X.w) X.A (setFlight e none) (fun _ s₃ =>
    wpAny (model X.prog X.w) X.A (handleBy e X.env (h₀ :: hds)) (SP X pins D) X.xe s₃) X.xe s₂) X.xe s₁) (fun u s' xx => ?_) PassesOwn.looking).run [] s σ H D (I.toTry _) h) (fun f s1 hsp => ?_) (fun e s1 he => he)
  · obtain ⟨a, B, sI, pins', σ', H', cls, d, rfl, J', nb, up, sky, na, os, ag, w⟩ := xx
    have J : Inv X pins σ' H' sI := J'.ofTry ok
    have sky' : Sky B (X.env :: X.outer) a (Zc cls d) X.env.locals s'.heap := by rw [← hs]; exact sky
    show wpAny (model X.prog X.w) X.A (noteFrame (.ref a) X.env) _ _ _
    refine Sky.land Zc.steady hfr hf sky' fun h3 fl3 up3 => ?_
    have J3 : Inv X pins σ' H' { s' with heap := h3 } := J.landed nb fl3.1 (up.trans up3) os ag
    obtain ⟨oe3, vs3, he3, hz3, hd3⟩ := fl3.there
    have notFr : ∀ {h : Heap} {o : Obj} {vs : Array Value}, h.FunFrames B (X.env :: X.outer) → h.get? a = some o → o.data = .fields vs → a ∉ frs (X.env :: X.outer) := fun {h o vs} ff e dd hm => by
      obtain ⟨_, o', e', hnf⟩ := ff.mem hm
      rw [e] at e'; cases e'
      exact hnf _ dd
    have nfr := notFr fl3.2.2.1 he3 hd3
    have nL : a ≠ X.env.locals := fun z => nfr (List.mem_filterMap.mpr ⟨X.env, List.mem_cons_self, by rw [hf, z]⟩)
    have nF : a ∉ X.fs := fun hm => by
      obtain ⟨e, he, q⟩ := List.mem_filterMap.mp hm
      exact nfr (List.mem_filterMap.mpr ⟨e, List.mem_cons_of_mem _ he, q⟩)
    have S3 := J3.suite he3 hd3 na nL nF
    have LT : PySem.W.Looks (model X.prog X.w) h3 (typeOf (.ref a)) cls := fun A Q E s k q => wpAny_typeOf_ref (k _ _ he3) (by rw [hz3.1]; exact q)
    have test : ∀ {x : Str} {np : Pos} {c : Value} {Q : Value → Shared → Prop} {E : Value → Shared → Prop}, Names X x c → Q c { s' with heap := h3 } → wpAny (model X.prog X.w) (X.A.mark (some (.ref a))) (eval (.Name x np) X.env) Q E { s' with heap := h3 } := fun {x np c Q E} hc q => by
      obtain ⟨hg, hdbg, hm | ⟨hm, hv, hnn⟩⟩ := hc
      · exact ld_glob (X := X.suite a ((a, oe3) :: (X.pn ++ pins))) S3 hg hm q hdbg
      · exact ld_blt (X := X.suite a ((a, oe3) :: (X.pn ++ pins))) S3 hg hm hv q hnn hdbg
    have go : ∀ {hds' : List ExceptHandler} {l' : List (Value × Option Nat × (Addr → Value → Option Addr → TS))}, HdsX X hds' l' → wMix X.K Wout D l' cls d σ' H' →
        wpAny (model X.prog X.w) X.A (handleBy (.ref a) X.env hds') (SP X pins D) X.xe { s' with heap := h3 } := by
      intro hds' l' hk
      induction hk with
      | nil =>
        intro w
        refine wpAny_handleBy_nil ?_
        obtain ⟨k1, k2, k3, oe, vs, T, oT, ts', he, hz, hd, h1, hr⟩ := id fl3
        unfold PySem.passOn
        refine wpAny_bind (wpAny_field he hd h1 ?_)
        rw [if_neg (show ¬ ((Value.ref T == Value.none) = true) from by simp)]
        have fin : wpAny (model X.prog X.w) X.A (setFlight (.ref a) X.env.frame) (fun _ s4 => wpAny (model X.prog X.w) X.A (throw (.ref a) : Sem Flow) (SP X pins D) X.xe s4) X.xe { s' with heap := h3 } := by
          rw [hf]
          refine HandSPX.setFlight_upZ fl3 fun h4 hh4 up4 => wpAny_throw (tk _ _ ?_)
          exact ⟨a, B, sI, pins, σ', H', cls, d, rfl, J, nb, (up.trans up3).trans up4, .inr (.inr (by rw [hs]; exact hh4)), na, os, ag, w⟩
        first
          | exact wpAny_bind (wpAny_pure (wpAny_bind fin))
          | exact wpAny_bind fin
      | @cons x c ts b₀ suite np pos' hds2 l2 hc hsu r ih =>
        intro w
        obtain ⟨b, hb1, hyes, hno⟩ := w
        refine wpAny_handleBy_cons (codeAny_handlers_test ?_) (by intro q; cases q)
        have LM := PySem.W.exm_one (M := model X.prog X.w) (J3.kIn) LT hb1
        refine test hc (LM.here ?_)
        cases b with
        | true =>
          refine codeAny_handlers_suite ?_
          refine HandSPX.lands_againZ fl3 fun h4 fl4 up4 => ?_
          have J4 : Inv X pins σ' H' { s' with heap := h4 } := J.landed nb fl4.1 ((up.trans up3).trans up4) os ag
          obtain ⟨oe4, vs4, he4, hz4, hd4⟩ := fl4.there
          have S4 := J4.suite he4 hd4 na nL nF
          refine wpAny_mono ((hsu a oe4 cls d (X.pn ++ pins) hz4 ⟨_, hd4⟩).run [] _ _ H' _ S4 (hyes rfl a na)) (fun f s6 hsp => ?_) (fun _ _ z => False.elim z)
          cases f with
          | next =>
            obtain ⟨σ6, H6, S6, q6⟩ := hsp
            exact ⟨_, _, S6.unsuite ok, q6⟩
          | brk =>
            obtain ⟨σ6, H6, S6, q6⟩ := hsp
            exact ⟨_, _, S6.unsuite ok, q6⟩
          | cont =>
            obtain ⟨σ6, H6, S6, q6⟩ := hsp
            exact ⟨_, _, S6.unsuite ok, q6⟩
          | ret u =>
            obtain ⟨v6, σ6, H6, S6, r6, q6⟩ := hsp
            exact ⟨_, _, _, S6.unsuite ok, r6, q6⟩
        | false =>
          show wpAny _ X.A (handleBy (.ref a) X.env hds2) _ _ _
          exact ih (hno rfl)
      | @as_ x n i c ts b₀ suite np pos' hds2 l2 hN hi hln hc hsu r ih =>
        intro w
        obtain ⟨b, hb1, hyes, hno⟩ := w
        have hloc : Loc X.env.scope n := .inl hln
        refine wpAny_handleBy_cons (codeAny_handlers_test ?_) (by intro q; cases q)
        have LM := PySem.W.exm_one (M := model X.prog X.w) (J3.kIn) LT hb1
        refine test hc (LM.here ?_)
        cases b with
        | true =>
          refine codeAny_handlers_suite_as ?_
          refine HandSPX.lands_againZ fl3 fun h4 fl4 up4 => ?_
          have J4 : Inv X pins σ' H' { s' with heap := h4 } := J.landed nb fl4.1 ((up.trans up3).trans up4) os ag
          obtain ⟨oe4, vs4, he4, hz4, hd4⟩ := fl4.there
          have S4 := J4.suite he4 hd4 na nL nF
          refine store_ok (X := X.suite a ((a, oe4) :: (X.pn ++ pins))) (v := .ref a) S4 hN hi hloc rfl (fun s5 S5 => ?_) (.inr hln)
          refine wpAny_mono ((hsu a oe4 cls d (X.pn ++ pins) hz4 ⟨_, hd4⟩).run [] s5 _ H' _ S5 (hyes rfl a na)) (fun f s6 hsp => ?_) (fun _ _ z => False.elim z)
          have end_ : ∀ {σ6 : L2.St} {H6 : Hp} {Q : Shared → Prop}, Inv (X.suite a ((a, oe4) :: (X.pn ++ pins))) [] σ6 H6 s6 → (∀ s7, Inv X pins (σ6.set i none) H6 s7 → Q s7) →
              wpAny (model X.prog X.w) X.A (do bindName X.env n .none; unbindBehindTheSuite X.env n pos') (fun _ s7 => Q s7) X.xe s6 := fun {σ6 H6 Q} S6 hq => gone_ok (S6.unsuite ok) hN hi hln hq
          cases f with
          | next =>
            obtain ⟨σ6, H6, S6, q6⟩ := hsp
            exact end_ S6 fun s7 J7 => ⟨_, _, J7, q6⟩
          | brk =>
            obtain ⟨σ6, H6, S6, q6⟩ := hsp
            exact end_ S6 fun s7 J7 => ⟨_, _, J7, q6⟩
          | cont =>
            obtain ⟨σ6, H6, S6, q6⟩ := hsp
            exact end_ S6 fun s7 J7 => ⟨_, _, J7, q6⟩
          | ret u =>
            obtain ⟨v6, σ6, H6, S6, r6, q6⟩ := hsp
            exact end_ S6 fun s7 J7 => ⟨_, _, _, J7, r6, q6⟩
        | false =>
          show wpAny _ X.A (handleBy (.ref a) X.env hds2) _ _ _
          exact ih (hno rfl)
    exact go hh w
  · cases f with
    | next =>
      obtain ⟨σ', H', J', q⟩ := hsp
      exact wpAny_execs_nil ⟨σ', H', J'.ofTry ok, q⟩
    | brk =>
      obtain ⟨σ', H', J', q⟩ := hsp
      exact ⟨σ', H', J'.ofTry ok, q⟩
    | cont =>
      obtain ⟨σ', H', J', q⟩ := hsp
      exact ⟨σ', H', J'.ofTry ok, q⟩
    | ret u =>
      obtain ⟨v, σ', H', J', r, q⟩ := hsp
      exact ⟨v, σ', H', J'.ofTry ok, r, q⟩
end
/-! ### .. as computed -/
structure Hd where
  ys : List Nat
  ns : List Nat
  slot : Option Nat
  f : S
def noEx : Slots → Bool
  | [] => true
  | .ex _ :: _ => false
  | _ :: r => noEx r
/-- behind a suite -/
def suiteEnd (o : Option Nat) (r : RS) : RS := match r with
  | .nx sl m => (match o with
    | none => (match noEx sl with | true => .nx sl m | false => .fail)
    | some i => (match noEx (sl.set i .no) with | true => .nx (sl.set i .no) m | false => .fail))
  | .bk sl m => (match o with
    | none => (match noEx sl with | true => .bk sl m | false => .fail)
    | some i => (match noEx (sl.set i .no) with | true => .bk (sl.set i .no) m | false => .fail))
  | .ct sl m => (match o with
    | none => (match noEx sl with | true => .ct sl m | false => .fail)
    | some i => (match noEx (sl.set i .no) with | true => .ct (sl.set i .no) m | false => .fail))
  | .rt v m => .rt v m
  | _ => .fail
def hdGo (e : Exc) (sl : Slots) (m : MH) : List Hd → RS
  | [] => .err e sl m
  | h :: r => match h.ys.any (Nat.beq e.cls) with
    | true => suiteEnd h.slot (match h.slot with
      | none => h.f sl m
      | some i => h.f (sl.set i (.ex e)) m)
    | false => (match h.ns.any (Nat.beq e.cls) with
      | true => hdGo e sl m r
      | false => .fail)
def sTry (f : S) (l : List Hd) : S := fun sl m => match f sl m with
  | .err e sl1 m1 => (match noEx sl1 with | true => hdGo e sl1 m1 l | false => .fail)
  | r => r
def CN.at (cn : CN) (a : Addr) (cls : Value) (d : Option Addr) : CN := ⟨cn.nm, some (a, cls, d)⟩
theorem at_nm {cn : CN} {a : Addr} {cls : Value} {d : Option Addr} : (cn.at a cls d).nm = cn.nm := rfl
theorem RO.cn {cn cn' : CN} {K : PySem.W.Frag} {H : Hp} {ρ : Nat → Addr} {n : Nat} {a : Addr} {o : Ob} (e : cn.nm = cn'.nm) (h : RO cn K H ρ n a o) : RO cn' K H ρ n a o := by
  obtain ⟨nm, xc⟩ := cn
  obtain ⟨nm', xc'⟩ := cn'
  cases (show nm = nm' from e)
  cases o <;> exact h
theorem RH.cn {cn cn' : CN} {K : PySem.W.Frag} {H : Hp} {ρ : Nat → Addr} {m : MH} (e : cn.nm = cn'.nm) (h : RH cn K m H ρ) : RH cn' K m H ρ := ⟨h.bd, fun i o q => ⟨(h.obj i o q).1, (h.obj i o q).2.cn e⟩, h.all, h.inj⟩
theorem RX.cn {cn cn' : CN} {K : PySem.W.Frag} {H : Hp} {ρ : Nat → Addr} {n : Nat} {x : Exc} {c : Value} {d : Option Addr} (e : cn.nm = cn'.nm) (h : RX cn K H ρ n x c d) : RX cn' K H ρ n x c d := ⟨by rw [h.1, e], h.2⟩
theorem noEx_ok : ∀ {sl : Slots}, noEx sl = true → ∀ (i : Nat) (e : Exc), sl[i]? = some (Sl.ex e) → False
  | [], _, i, e, h => by simp at h
  | .ex _ :: _, h0, _, _, _ => by cases h0
  | .no :: r, h0, 0, e, h => by cases h
  | .no :: r, h0, i + 1, e, h => noEx_ok (sl := r) h0 i e h
  | .v _ :: r, h0, 0, e, h => by cases h
  | .v _ :: r, h0, i + 1, e, h => noEx_ok (sl := r) h0 i e h
theorem WR.cn {cn cn' : CN} {K : PySem.W.Frag} {sl : Slots} {m : MH} {σ : L2.St} {H : Hp} {ρ : Nat → Addr} (e : cn.nm = cn'.nm) (hn : noEx sl = true) (w : WR cn K sl m σ H ρ) : WR cn' K sl m σ H ρ :=
  ⟨w.slo, fun i x q => (noEx_ok hn i x q).elim, w.len, w.h.cn e⟩
/-- the suite's name comes -/
theorem WR.come {cn : CN} {K : PySem.W.Frag} {sl : Slots} {m : MH} {σ : L2.St} {H : Hp} {ρ : Nat → Addr} {i : Nat} {x : Exc} {a : Addr} {cls : Value} {d : Option Addr} (hn : noEx sl = true) (w : WR cn K sl m σ H ρ) (r : RX cn K H ρ m.n x cls d) : WR (cn.at a cls d) K (sl.set i (.ex x)) m (σ.set i (some (.ref a))) H ρ := by
  refine ⟨fun j y q => ?_, fun j y q => ?_, by rw [List.length_set, List.length_set]; exact w.len, w.h.cn at_nm.symm⟩
  · by_cases e : j = i
    · subst e
      by_cases hl : j < sl.length
      · rw [List.getElem?_set_self hl] at q; cases q
      · rw [List.getElem?_eq_none (by simpa using hl)] at q; cases q
    · rw [List.getElem?_set_ne (Ne.symm e)] at q
      obtain ⟨v', h1, h2⟩ := w.slo j y q
      exact ⟨v', by rw [List.getElem?_set_ne (Ne.symm e)]; exact h1, h2⟩
  · by_cases e : j = i
    · subst e
      by_cases hl : j < sl.length
      · rw [List.getElem?_set_self hl] at q; cases q
        exact ⟨a, cls, d, rfl, List.getElem?_set_self (by rw [← w.len]; exact hl), r.cn at_nm.symm⟩
      · rw [List.getElem?_eq_none (by simpa using hl)] at q; cases q
    · rw [List.getElem?_set_ne (Ne.symm e)] at q
      exact (noEx_ok hn j y q).elim
/-- .. and goes -/
theorem WR.gone {cn cn' : CN} {K : PySem.W.Frag} {sl : Slots} {m : MH} {σ : L2.St} {H : Hp} {ρ : Nat → Addr} {i : Nat} (e : cn.nm = cn'.nm) (hn : noEx (sl.set i .no) = true) (w : WR cn K sl m σ H ρ) : WR cn' K (sl.set i .no) m (σ.set i none) H ρ := by
  refine ⟨fun j y q => ?_, fun j y q => (noEx_ok hn j y q).elim, by rw [List.length_set, List.length_set]; exact w.len, w.h.cn e⟩
  by_cases e : j = i
  · subst e
    by_cases hl : j < sl.length
    · rw [List.getElem?_set_self hl] at q; cases q
    · rw [List.getElem?_eq_none (by simpa using hl)] at q; cases q
  · rw [List.getElem?_set_ne (Ne.symm e)] at q
    obtain ⟨v', h1, h2⟩ := w.slo j y q
    exact ⟨v', by rw [List.getElem?_set_ne (Ne.symm e)]; exact h1, h2⟩
/-- the clauses as computed -/
inductive MHs (cn : CN) (X : Cx) : List ExceptHandler → List Hd → List (Value × Option Nat × (Addr → Value → Option Addr → TS)) → Prop
  | nil : MHs cn X [] [] []
  | cons {x : Str} {c : Value} {ys ns : List Nat} {f : S} {b₀ : Stmt} {suite : List Stmt} {np pos' : Pos} {hds : List ExceptHandler} {hl : List Hd} {l : List (Value × Option Nat × (Addr → Value → Option Addr → TS))} (hc : Names X x c)
      (hy : ∀ k, ys.any (Nat.beq k) = true → PySem.W.exmOne X.K (.ref (He.ga X.K (cn k))) c = some true) (hn : ∀ k, ns.any (Nat.beq k) = true → PySem.W.exmOne X.K (.ref (He.ga X.K (cn k))) c = some false)
      (hsu : ∀ (a : Addr) (oe : Obj) (cls : Value) (d : Option Addr) (pn : List (Addr × Obj)), Zc cls d oe → (∃ vs, oe.data = .fields vs) → PSs (X.suite a ((a, oe) :: pn)) (b₀ :: suite) (TS' (cn.at a cls d) X.K (fun _ _ _ _ => False) f)) (r : MHs cn X hds hl l) :
      MHs cn X (.ExceptHandler (some (.Name x np)) none (b₀ :: suite) pos' :: hds) (⟨ys, ns, none, f⟩ :: hl) ((c, none, fun a cls d => TS' (cn.at a cls d) X.K (fun _ _ _ _ => False) f) :: l)
  | as_ {x n : Str} {i : Nat} {c : Value} {ys ns : List Nat} {f : S} {b₀ : Stmt} {suite : List Stmt} {np pos' : Pos} {hds : List ExceptHandler} {hl : List Hd} {l : List (Value × Option Nat × (Addr → Value → Option Addr → TS))} (hN : X.N.Nodup) (hi : X.N[i]? = some n) (hln : X.env.kindOf n = some .local) (hc : Names X x c)
      (hy : ∀ k, ys.any (Nat.beq k) = true → PySem.W.exmOne X.K (.ref (He.ga X.K (cn k))) c = some true) (hn : ∀ k, ns.any (Nat.beq k) = true → PySem.W.exmOne X.K (.ref (He.ga X.K (cn k))) c = some false)
      (hsu : ∀ (a : Addr) (oe : Obj) (cls : Value) (d : Option Addr) (pn : List (Addr × Obj)), Zc cls d oe → (∃ vs, oe.data = .fields vs) → PSs (X.suite a ((a, oe) :: pn)) (b₀ :: suite) (TS' (cn.at a cls d) X.K (fun _ _ _ _ => False) f)) (r : MHs cn X hds hl l) :
      MHs cn X (.ExceptHandler (some (.Name x np)) (some n) (b₀ :: suite) pos' :: hds) (⟨ys, ns, some i, f⟩ :: hl) ((c, some i, fun a cls d => TS' (cn.at a cls d) X.K (fun _ _ _ _ => False) f) :: l)
section
variable {cn : CN} {X : Cx} {W : WX} {D : Ends} {body : List Stmt} {h₀ : ExceptHandler} {hds : List ExceptHandler} {hl : List Hd} {l : List (Value × Option Nat × (Addr → Value → Option Addr → TS))} {pos : Pos} {f : S}
theorem MHs.hdsX (h : MHs cn X hds hl l) : HdsX X hds l := by
  induction h with
  | nil => exact .nil
  | cons hc hy hn hsu r ih => exact .cons hc hsu ih
  | as_ hN hi hln hc hy hn hsu r ih => exact .as_ hN hi hln hc hsu ih
/-- a suite's run, seen from without -/
theorem suite_none {K : PySem.W.Frag} {a : Addr} {cls : Value} {d : Option Addr} {r : RS} {ρ : Nat → Addr} {H : Hp} {n : Nat} (h : RunS cn K (suiteEnd none r) ρ H n D W) : RunS (cn.at a cls d) K r ρ H n D (fun _ _ _ _ => False) := by
  cases r with
  | nx sl m =>
    unfold suiteEnd at h
    dsimp only at h
    cases e : noEx sl with
    | false => rw [e] at h; exact h.elim
    | true => rw [e] at h; exact fun σ' H' ρ' w ex => h σ' H' ρ' (w.cn at_nm e) ex
  | bk sl m =>
    unfold suiteEnd at h
    dsimp only at h
    cases e : noEx sl with
    | false => rw [e] at h; exact h.elim
    | true => rw [e] at h; exact fun σ' H' ρ' w ex => h σ' H' ρ' (w.cn at_nm e) ex
  | ct sl m =>
    unfold suiteEnd at h
    dsimp only at h
    cases e : noEx sl with
    | false => rw [e] at h; exact h.elim
    | true => rw [e] at h; exact fun σ' H' ρ' w ex => h σ' H' ρ' (w.cn at_nm e) ex
  | rt v m => exact fun H' ρ' x w ex rv => h H' ρ' x (w.cn at_nm) ex rv
  | err x sl m => exact h.elim
  | fail => exact h
theorem suite_some {K : PySem.W.Frag} {a : Addr} {cls : Value} {d : Option Addr} {r : RS} {ρ : Nat → Addr} {H : Hp} {n i : Nat} (h : RunS cn K (suiteEnd (some i) r) ρ H n D W) :
    RunS (cn.at a cls d) K r ρ H n { nx := fun σ' H' => D.nx (σ'.set i none) H', rt := D.rt, bk := fun σ' H' => D.bk (σ'.set i none) H', ct := fun σ' H' => D.ct (σ'.set i none) H' } (fun _ _ _ _ => False) := by
  cases r with
  | nx sl m =>
    unfold suiteEnd at h
    dsimp only at h
    cases e : noEx (sl.set i .no) with
    | false => rw [e] at h; exact h.elim
    | true => rw [e] at h; exact fun σ' H' ρ' w ex => h _ H' ρ' (w.gone at_nm e) ex
  | bk sl m =>
    unfold suiteEnd at h
    dsimp only at h
    cases e : noEx (sl.set i .no) with
    | false => rw [e] at h; exact h.elim
    | true => rw [e] at h; exact fun σ' H' ρ' w ex => h _ H' ρ' (w.gone at_nm e) ex
  | ct sl m =>
    unfold suiteEnd at h
    dsimp only at h
    cases e : noEx (sl.set i .no) with
    | false => rw [e] at h; exact h.elim
    | true => rw [e] at h; exact fun σ' H' ρ' w ex => h _ H' ρ' (w.gone at_nm e) ex
  | rt v m => exact fun H' ρ' x w ex rv => h H' ρ' x (w.cn at_nm) ex rv
  | err x sl m => exact h.elim
  | fail => exact h
theorem MHs.go (h : MHs cn X hds hl l) {x : Exc} {sl : Slots} {m : MH} {c : Value} {d : Option Addr} {σ : L2.St} {H : Hp} {ρ : Nat → Addr} (hn : noEx sl = true) (w : WR cn X.K sl m σ H ρ) (rx : RX cn X.K H ρ m.n x c d) (q : RunS cn X.K (hdGo x sl m hl) ρ H m.n D W) : wMix X.K W D l c d σ H := by
  induction h with
  | nil => exact q c d σ H ρ w .refl rx
  | @cons x' c' ys ns f b₀ suite np pos' hds hl l hc hy hno hsu r ih =>
    have q : RunS cn X.K (match ys.any (Nat.beq x.cls) with | true => suiteEnd none (f sl m) | false => (match ns.any (Nat.beq x.cls) with | true => hdGo x sl m hl | false => .fail)) ρ H m.n D W := q
    cases e1 : ys.any (Nat.beq x.cls) with
    | true =>
      rw [e1] at q
      exact ⟨true, by rw [rx.1]; exact hy _ e1, fun _ a na => ⟨sl, m, ρ, w.cn at_nm.symm hn, suite_none q⟩, fun z => (by cases z)⟩
    | false =>
      rw [e1] at q
      dsimp only at q
      cases e2 : ns.any (Nat.beq x.cls) with
      | false => rw [e2] at q; exact q.elim
      | true =>
        rw [e2] at q
        exact ⟨false, by rw [rx.1]; exact hno _ e2, fun z => (by cases z), fun _ => ih q⟩
  | @as_ x' n i c' ys ns f b₀ suite np pos' hds hl l hN hi hln hc hy hno hsu r ih =>
    have q : RunS cn X.K (match ys.any (Nat.beq x.cls) with | true => suiteEnd (some i) (f (sl.set i (.ex x)) m) | false => (match ns.any (Nat.beq x.cls) with | true => hdGo x sl m hl | false => .fail)) ρ H m.n D W := q
    cases e1 : ys.any (Nat.beq x.cls) with
    | true =>
      rw [e1] at q
      exact ⟨true, by rw [rx.1]; exact hy _ e1, fun _ a na => ⟨_, m, ρ, w.come hn rx, suite_some q⟩, fun z => (by cases z)⟩
    | false =>
      rw [e1] at q
      dsimp only at q
      cases e2 : ns.any (Nat.beq x.cls) with
      | false => rw [e2] at q; exact q.elim
      | true =>
        rw [e2] at q
        exact ⟨false, by rw [rx.1]; exact hno _ e2, fun z => (by cases z), fun _ => ih q⟩
theorem ms_try (hs : X.stack = X.env :: X.outer) (hf : X.env.frame = some X.env.locals) (tk : Takes X W)
    (hb : ∀ (W : WX) (pn : List (Addr × Obj)) (xe : Value → Shared → Prop), Takes (X.tr pn xe) W → PassesOwn (model X.prog X.w) X.A X.env xe → PSs (X.tr pn xe) body (TS' cn X.K W f))
    (hh : MHs cn X (h₀ :: hds) hl l) : PS X (.Try body (h₀ :: hds) [] [] pos) (TS' cn X.K W (sTry f hl)) := by
  refine ps_imp (ps_try_mix (tb := fun W => TS' cn X.K W f) hs hf tk hb hh.hdsX) fun D σ H ⟨sl, m, ρ, w, r⟩ => ⟨sl, m, ρ, w, ?_⟩
  unfold sTry at r
  cases e : f sl m with
  | err x sl1 m1 =>
    rw [e] at r
    dsimp only at r
    cases e2 : noEx sl1 with
    | false => rw [e2] at r; exact r.elim
    | true =>
      rw [e2] at r
      exact fun c d σ' H' ρ' w' ex rx => hh.go e2 w' rx (RunS.back ex r)
  | nx sl' m' => rw [e] at r; exact r
  | bk sl' m' => rw [e] at r; exact r
  | ct sl' m' => rw [e] at r; exact r
  | rt v m' => rw [e] at r; exact r
  | fail => rw [e] at r; exact r.elim
end
/-- error.f in a suite -/
def eXf (i c : Nat) (f : Str) : E := fun sl m => match sl[i]? with
  | some (.ex e) => (match Nat.beq e.cls c with
    | true => (match flook e.fs f with
      | some v => .ok v m
      | none => .fail)
    | false => .fail)
  | _ => .fail
theorem me_xf {cn : CN} {X : Cx} {W : WX} {a : Addr} {oe : Obj} {cls : Value} {d : Option Addr} {pn : List (Addr × Obj)} {x n n' : Str} {i c : Nat} {p pos : Pos} (q0 : n = n') (T : XfC X.K (He.ga X.K (cn c))) (hno : PySem.W.findIn X.K (.ref (He.ga X.K (cn c))) n = some none)
    (hz : Zc cls d oe) (hf : ∃ vs, oe.data = .fields vs) (hN : X.N[i]? = some x) (hv : Vis X.env.scope x) (hd : (x == ("__debug__" : Str)) = false := by decide) (hcd : (x == ("__classdict__" : Str)) = false := by decide) :
    PE (X.suite a ((a, oe) :: pn)) (.Attribute (.Name x p) n pos) (TE' (cn.at a cls d) X.K W (eXf i c n')) := by
  subst q0
  refine pe_imp (pe_xf T hno hz hf (pe_var (i := i) hN hv hd hcd)) fun σ H Q ⟨sl, m, ρ, w, r⟩ => ?_
  unfold eXf at r
  cases e : sl[i]? with
  | none => rw [e] at r; exact r.elim
  | some z =>
    rw [e] at r
    cases z with
    | no => exact r.elim
    | v _ => exact r.elim
    | ex x =>
      dsimp only at r
      obtain ⟨a', c', d', h1, h2, h3⟩ := w.exs i x e
      cases h1
      cases e1 : Nat.beq x.cls c with
      | false => rw [e1] at r; exact r.elim
      | true =>
        rw [e1] at r
        dsimp only at r
        have ec := Nat.eq_of_beq_eq_true e1
        cases e2 : flook x.fs n with
        | none => rw [e2] at r; exact r.elim
        | some v =>
          rw [e2] at r
          obtain ⟨da, gs, k1, k2, k3⟩ := h3.2 (fun z => by rw [z] at e2; cases e2)
          obtain ⟨y, k4, k5⟩ := k3.look e2
          exact ⟨_, h2, rfl, by rw [h3.1, ec]; rfl, da, gs, y, k1, k2, k4, r.val w.h k5⟩
end Mi

set_option Elab.async false
set_option linter.all false
set_option autoImplicit false
set_option maxRecDepth 100000
set_option maxHeartbeats 2000000
namespace Mi
open PySem PySem.Spec L2
/-! ### comprehensions -/
def wipeM (sl : Slots) : List Nat → Slots
  | [] => sl
  | v :: vs => (wipeM sl vs).set v .no
abbrev Bd := Slots → List Val → MH → RE (List Val)
/-- the turns: r: what is had, the last first -/
def walkGo (it : ItM) (sl : Slots) (g : G) (t : ET) (bd : Bd) (n : Nat) : Nat → List Val → MH → RE (List Val) := Nat.rec (motive := fun _ => Nat → List Val → MH → RE (List Val)) (fun _ _ _ => .fail) (fun _ ih i r m => match it.next m i with
  | some (some v) => (match g v sl m with
    | some sl2 => (nE (t sl2 m)).bind fun b m2 => (match b with
      | true => bd sl2 r m2
      | false => .ok r m2).bind fun r' m3 => ih (i + 1) r' m3
    | none => .fail)
  | some none => .ok r m
  | none => .fail) n
def bdOne (f : E) : Bd := fun sl r m => (nE (f sl m)).bind fun y m2 => match Nat.blt r.length 1000000 with
  | true => .ok (y :: r) m2
  | false => .fail
def bdTwo (n : Nat) (fi : EI) (g : G) (t : ET) (vs : List Nat) (f : E) : Bd := fun sl r m => (nE (fi sl m)).bind fun it m2 => walkGo it (wipeM sl vs) g t (bdOne f) n 0 r m2
def eLc (n : Nat) (fi : EI) (g : G) (t : ET) (f : E) (vs : List Nat) : E := fun sl m => (fi sl m).bind fun it m1 => (walkGo it (wipeM sl vs) g t (bdOne f) n 0 [] m1).bind fun r m2 => mk (.lst r.reverse) m2
def eLc2 (n : Nat) (fi : EI) (g : G) (t : ET) (fi1 : EI) (g1 : G) (t1 : ET) (f : E) (vs vs1 : List Nat) : E := fun sl m => (fi sl m).bind fun it m1 => (walkGo it (wipeM sl vs) g t (bdTwo n fi1 g1 t1 vs1 f) n 0 [] m1).bind fun r m2 => mk (.lst r.reverse) m2
def tYs : ET := fun _ m => .ok true m
section
variable {cn : CN} {K : PySem.W.Frag} {H H0 : Hp} {ρ ρ0 : Nat → Addr} {m : MH} {n n0 : Nat} {D : Addr}
theorem wipe_in {σ : L2.St} {i : Nat} : ∀ {vs : List Nat}, i ∈ vs → i < σ.length → (wipe σ vs)[i]? = some none
  | v :: vs, h, hl => by
    unfold wipe
    by_cases e : v = i
    · subst e
      rw [List.getElem?_set_self (by rw [wipe_length]; exact hl)]
    · rw [List.getElem?_set_ne e]
      exact wipe_in ((List.mem_cons.mp h).resolve_left fun z => e z.symm) hl
theorem wipe_eq {σ σ' : L2.St} {vs : List Nat} (hl : σ'.length = σ.length) (h : ∀ j, j ∉ vs → σ'[j]? = σ[j]?) : wipe σ' vs = wipe σ vs := by
  refine List.ext_getElem? fun j => ?_
  by_cases hj : j ∈ vs
  · by_cases hlt : j < σ.length
    · rw [wipe_in hj (by omega), wipe_in hj hlt]
    · rw [List.getElem?_eq_none (by rw [wipe_length]; omega), List.getElem?_eq_none (by rw [wipe_length]; omega)]
  · rw [wipe_out hj, wipe_out hj, h j hj]
theorem wipe_wipe {σ : L2.St} {vs : List Nat} : wipe (wipe σ vs) vs = wipe σ vs := wipe_eq (wipe_length σ vs) fun j hj => wipe_out hj
theorem WR.wipe {sl : Slots} {σ : L2.St} (w : WR cn K sl m σ H ρ) : ∀ vs : List Nat, WR cn K (wipeM sl vs) m (L2.wipe σ vs) H ρ
  | [] => w
  | v :: vs => by
    have w0 := WR.wipe w vs
    unfold wipeM L2.wipe
    refine ⟨fun j y q => ?_, fun j y q => ?_, by rw [List.length_set, List.length_set]; exact w0.len, w0.h⟩
    · by_cases e : j = v
      · subst e
        by_cases hl : j < (wipeM sl vs).length
        · rw [List.getElem?_set_self hl] at q; cases q
        · rw [List.getElem?_eq_none (by simpa using hl)] at q; cases q
      · rw [List.getElem?_set_ne (Ne.symm e)] at q
        obtain ⟨v', h1, h2⟩ := w0.slo j y q
        exact ⟨v', by rw [List.getElem?_set_ne (Ne.symm e)]; exact h1, h2⟩
    · by_cases e : j = v
      · subst e
        by_cases hl : j < (wipeM sl vs).length
        · rw [List.getElem?_set_self hl] at q; cases q
        · rw [List.getElem?_eq_none (by simpa using hl)] at q; cases q
      · rw [List.getElem?_set_ne (Ne.symm e)] at q
        obtain ⟨a, c, d, h0, h1, h2⟩ := w0.exs j y q
        exact ⟨a, c, d, h0, by rw [List.getElem?_set_ne (Ne.symm e)]; exact h1, h2⟩
theorem off_new (w : RH cn K m H ρ) (hD : H D = none) : ∀ i, i < m.n → ρ i ≠ D := fun i hi z => by
  obtain ⟨u, hu⟩ := w.some hi
  rw [z, hD] at hu
  cases hu
/-- a list that stands apart is changed -/
theorem RH.side {ho : HO} (w : RH cn K m H ρ) (hD : ∀ i, i < m.n → ρ i ≠ D) (mu : Mut (H D)) : RH cn K m (upd H D ho) ρ := by
  have e0 : ∀ xs vs, RVs K H ρ m.n xs vs → RVs K (upd H D ho) ρ m.n xs vs := fun xs vs q => q.ext0 (Nat.le_refl _) (fun _ _ => rfl) (.mut mu)
  refine ⟨w.bd, fun i o e => ?_, w.all, w.inj⟩
  obtain ⟨h1, h2⟩ := w.obj i o e
  have hk : upd H D ho (ρ i) = H (ρ i) := upd_ne (hD i h1)
  refine ⟨h1, ?_⟩
  cases o with
  | lst xs => obtain ⟨vs, k1, k2⟩ := h2; exact ⟨vs, by rw [hk]; exact k1, e0 _ _ k2⟩
  | rol xs => obtain ⟨vs, k1, k2⟩ := h2; exact ⟨vs, by unfold Rd; rw [hk]; exact k1, e0 _ _ k2⟩
  | dic xs => obtain ⟨vs, k1, k2, k3⟩ := h2; exact ⟨vs, by rw [hk]; exact k1, k2, e0 _ _ k3⟩
  | ins c xs => obtain ⟨dx, vs, k1, k2, k3⟩ := h2; exact ⟨dx, vs, by rw [hk]; exact k1, k2, e0 _ _ k3⟩
theorem Ext.side {ho : HO} (e : Ext K ρ0 H0 n0 ρ H n) (h0 : H0 D = none) (mu : Mut (H D)) : Ext K ρ0 H0 n0 ρ (upd H D ho) n :=
  ⟨e.le, e.rho, e.tup.trans (.mut mu), fun a u q k => by
    obtain ⟨h1, h2⟩ := e.fr a u q k
    exact ⟨by rw [upd_ne (ne_of_none q h0)]; exact h1, h2⟩⟩
/-- the list D grows apart from the heap: r, the last first -/
structure LS (cn : CN) (K : PySem.W.Frag) (D : Addr) (r : List Val) (m : MH) (H : Hp) (ρ : Nat → Addr) (ρ0 : Nat → Addr) (H0 : Hp) (n0 : Nat) : Prop where
  h : RH cn K m H ρ
  ext : Ext K ρ0 H0 n0 ρ H m.n
  non : H0 D = none
  off : ∀ i, i < m.n → ρ i ≠ D
  acc : ∃ vs, H D = some (.lst vs) ∧ RVs K H ρ m.n r.reverse vs
theorem LS.to {r : List Val} {H' : Hp} {ρ' : Nat → Addr} {m' : MH} (s : LS cn K D r m H ρ ρ0 H0 n0) (h : RH cn K m' H' ρ') (e : Ext K ρ H m.n ρ' H' m'.n) : LS cn K D r m' H' ρ' ρ0 H0 n0 := by
  obtain ⟨vs, h1, h2⟩ := s.acc
  obtain ⟨k1, k2⟩ := e.fr D _ h1 s.off
  exact ⟨h, s.ext.trans e, s.non, k2, vs, k1, h2.ext e⟩
theorem LS.push {r : List Val} {y : Val} {v : V} (s : LS cn K D r m H ρ ρ0 H0 n0) (q : RV K H ρ m.n y v) {vs : List V} (h1 : H D = some (.lst vs)) : LS cn K D (y :: r) m (upd H D (.lst (vs ++ [v]))) ρ ρ0 H0 n0 := by
  obtain ⟨vs', k1, h2⟩ := s.acc
  rw [h1] at k1
  cases k1
  have mu : Mut (H D) := by rw [h1]; trivial
  refine ⟨s.h.side s.off mu, s.ext.side s.non mu, s.non, s.off, _, upd_same, ?_⟩
  rw [List.reverse_cons]
  exact (h2.append (.cons q .nil)).ext0 (Nat.le_refl _) (fun _ _ => rfl) (.mut mu)
theorem LS.ex0 {r : List Val} {ho : HO} (s : LS cn K D r m H ρ ρ0 H0 n0) {vs : List V} (h1 : H D = some (.lst vs)) : Ex0 K ρ H m.n ρ (upd H D ho) m.n :=
  ⟨Nat.le_refl _, fun _ _ => rfl, Tp.mut (by rw [h1]; trivial), fun a gs q => by rw [upd_ne (fun z => by rw [z, h1] at q; cases q)]; exact q⟩
/-- the list is taken in -/
theorem LS.fin {r : List Val} {Q : VK} {W : XK} (s : LS cn K D r m H ρ ρ0 H0 n0) (q : Run cn K RV (Mi.mk (.lst r.reverse) m) ρ0 H0 n0 Q W) : Q (.ref D) H := by
  unfold Mi.mk at q
  cases e : Nat.ble m.n lim with
  | false => rw [e] at q; exact q.elim
  | true =>
    rw [e] at q
    have hn := Nat.le_of_ble_eq_true e
    obtain ⟨vs, h1, h2⟩ := s.acc
    have e0 : RVs K H (upR ρ m.n D) (m.n + 1) r.reverse vs := h2.ext0 (Nat.le_succ _) (fun i hi => upR_lt hi) .refl
    have w : RH cn K (m.add (.lst r.reverse)) H (upR ρ m.n D) := RH.adopt s.h hn s.off ⟨vs, h1, e0⟩
    refine q H (upR ρ m.n D) (.ref D) w ⟨Nat.le_trans s.ext.le (Nat.le_succ _), fun i hi => ?_, s.ext.tup, fun a u qa k => ?_⟩ ?_
    · rw [upR_lt (Nat.lt_of_lt_of_le hi s.ext.le)]; exact s.ext.rho i hi
    · obtain ⟨k1, k2⟩ := s.ext.fr a u qa k
      refine ⟨k1, fun i hi => ?_⟩
      have hi' : i < m.n + 1 := hi
      by_cases hi2 : i = m.n
      · rw [hi2, upR_eq]; exact fun z => by have := s.non; rw [z, qa] at this; cases this
      · rw [upR_lt (by omega)]; exact k2 i (by omega)
    · have : V.ref D = V.ref (upR ρ m.n D m.n) := by rw [upR_eq]
      rw [this]
      exact .loc (Nat.lt_succ_self _)
/-- a step, seen from further back -/
theorem Run.bindB {α β γ δ : Type} {R : Rl α β} {R1 : Rl γ δ} {g : RE γ} {k : γ → MH → RE α} {Q : β → Hp → Prop} {W W' : XK} (h : Run cn K R ((Mi.nE g).bind k) ρ0 H0 n0 Q W) :
    Run cn K R1 g ρ H n (fun y H1 => ∃ ρ1 m1 a, RH cn K m1 H1 ρ1 ∧ Ext K ρ H n ρ1 H1 m1.n ∧ R1 K H1 ρ1 m1.n a y ∧ Run cn K R (k a m1) ρ0 H0 n0 Q W) W' := by
  cases g with
  | ok a m1 => exact fun H1 ρ1 y w e r1 => ⟨ρ1, m1, a, w, e, r1, h⟩
  | err x m1 => exact h.elim
  | fail => exact h
theorem Run.bindC {α β γ δ : Type} {R : Rl α β} {R1 : Rl γ δ} {g : RE γ} {k : γ → MH → RE α} {Q : β → Hp → Prop} {W W' : XK} (h : Run cn K R ((Mi.nE g).bind k) ρ0 H0 n0 Q W) {Q1 : δ → Hp → Prop}
    (hQ : ∀ y H1 ρ1 m1 a, RH cn K m1 H1 ρ1 → Ext K ρ H n ρ1 H1 m1.n → R1 K H1 ρ1 m1.n a y → Run cn K R (k a m1) ρ0 H0 n0 Q W → Q1 y H1) : Run cn K R1 g ρ H n Q1 W' :=
  (Run.bindB (R1 := R1) h).post fun y H1 ⟨ρ1, m1, a, rh, e, r, q⟩ => hQ y H1 ρ1 m1 a rh e r q
end
/-! ### the rules -/
/-- what a block's body wishes: from the slots behind the tests on, r and D grow -/
def BdOkW (cn : CN) (K : PySem.W.Frag) (W : XK) (bd : Bd) (tb : L2.St → Hp → Addr → (Hp → Prop) → Prop) : Prop := ∀ (sl : Slots) (r : List Val) (m : MH) (σ : L2.St) (H H0 : Hp) (ρ ρ0 : Nat → Addr) (n0 : Nat) (D : Addr) (kf : List Val → MH → RE Val) (Q : VK) (Nx : Hp → Prop),
  WR cn K sl m σ H ρ → LS cn K D r m H ρ ρ0 H0 n0 → Run cn K RV ((bd sl r m).bind kf) ρ0 H0 n0 Q W →
    (∀ r' m' H' ρ', LS cn K D r' m' H' ρ' ρ0 H0 n0 → Ex0 K ρ H m.n ρ' H' m'.n → Run cn K RV (kf r' m') ρ0 H0 n0 Q W → Nx H') → tb σ H D Nx
def BdOk (cn : CN) (K : PySem.W.Frag) (bd : Bd) (tb : L2.St → Hp → Addr → (Hp → Prop) → Prop) : Prop := ∀ W : XK, BdOkW cn K W bd tb
def tbOne (te : TE) : L2.St → Hp → Addr → (Hp → Prop) → Prop := fun σ H D Nx => te σ H fun y H4 => ∃ acc, H4 D = some (.lst acc) ∧ acc.length < sizeLine ∧ Nx (upd H4 D (.lst (acc ++ [y])))
section
variable {cn : CN} {K : PySem.W.Frag}
theorem bd_one {f : E} : BdOk cn K (bdOne f) (tbOne (TE' cn K (fun _ _ _ _ => False) f)) := by
  intro W sl r m σ H H0 ρ ρ0 n0 D kf Q Nx w ls q hN
  unfold bdOne at q
  rw [RE.bind_assoc] at q
  refine ⟨sl, m, ρ, w, Run.bindC q fun y H1 ρ1 m1 a rh e r1 q => ?_⟩
  cases eb : Nat.blt r.length 1000000 with
  | false => rw [eb] at q; exact q.elim
  | true =>
    rw [eb] at q
    have ls1 := ls.to rh e
    obtain ⟨vs, h1, h2⟩ := ls1.acc
    refine ⟨vs, h1, ?_, hN _ _ _ _ (ls1.push r1 h1) ((e.ex0 w.h).trans (ls1.ex0 h1)) q⟩
    have hl := h2.length
    rw [List.length_reverse] at hl
    have : r.length + 1 ≤ 1000000 := Nat.le_of_ble_eq_true eb
    rw [← hl, sizeLine_eq]; omega
/-- one clause's turns -/
def tTurns (J : It) (g : TG) (tt : TT) (tb : L2.St → Hp → Addr → (Hp → Prop) → Prop) (vs : List Nat) (σ : L2.St) (D : Addr) (Qd : Hp → Prop) (H1 : Hp) : Prop := ∃ W : Nat → Nat → Hp → Prop, (∃ m, W 0 m H1) ∧ ∀ i m H, W i m H →
  (J.stop i H ∧ Qd H) ∨ (J.go i H ∧ ∃ Nx : Hp → Prop, (∀ H', Nx H' → ∃ m', m' < m ∧ W (i + 1) m' H') ∧ ∀ x H', J.yld i H x H' → g x (L2.wipe σ vs) H' fun σ2 H2 => L2.wipe σ2 vs = L2.wipe σ vs ∧ tt σ2 H2 fun b H3 =>
    if b = true then tb σ2 H3 D Nx else Nx H3)
theorem turns_ok {W : XK} {it : ItM} {J : It} {g : G} {t : ET} {bd : Bd} {ix vs : List Nat} {tb : L2.St → Hp → Addr → (Hp → Prop) → Prop} (hb : BdOkW cn K W bd tb) (hv : ∀ j ∈ ix, j ∈ vs) {n : Nat} {sl : Slots} {r : List Val} {m : MH} {σ : L2.St} {H H0 Hi : Hp} {ρ ρ0 ρi : Nat → Addr} {n0 ni : Nat} {D : Addr} {kf : List Val → MH → RE Val} {Q : VK} {Qd : Hp → Prop}
    (w : WR cn K sl m σ H ρ) (ls : LS cn K D r m H ρ ρ0 H0 n0) (ri : RI cn K Hi ρi ni it J) (ei : Ex0 K ρi Hi ni ρ H m.n) (q : Run cn K RV ((walkGo it (wipeM sl vs) g t bd n 0 r m).bind kf) ρ0 H0 n0 Q W)
    (hd : ∀ r' m' H' ρ', LS cn K D r' m' H' ρ' ρ0 H0 n0 → Ex0 K ρ H m.n ρ' H' m'.n → Run cn K RV (kf r' m') ρ0 H0 n0 Q W → Qd H') :
    tTurns J (TG' cn K ix g) (TT' cn K (fun _ _ _ _ => False) t) tb vs σ D Qd H := by
  refine ⟨fun i k H' => ∃ m' ρ' r', LS cn K D r' m' H' ρ' ρ0 H0 n0 ∧ Ex0 K ρ H m.n ρ' H' m'.n ∧ Run cn K RV ((walkGo it (wipeM sl vs) g t bd k i r' m').bind kf) ρ0 H0 n0 Q W, ⟨n, m, ρ, r, ls, .refl, q⟩, ?_⟩
  rintro i k H2 ⟨m2, ρ2, r2, ls2, ex2, q⟩
  cases k with
  | zero => exact q.elim
  | succ k =>
    have q : Run cn K RV (((match it.next m2 i with
      | some (some v) => (match g v (wipeM sl vs) m2 with
        | some sl2 => (nE (t sl2 m2)).bind fun b m2 => (match b with
          | true => bd sl2 r2 m2
          | false => .ok r2 m2).bind fun r' m3 => walkGo it (wipeM sl vs) g t bd k (i + 1) r' m3
        | none => .fail)
      | some none => .ok r2 m2
      | none => .fail) : RE (List Val)).bind kf) ρ0 H0 n0 Q W := q
    obtain ⟨s1, s2⟩ := ri H2 ρ2 m2 ls2.h (ei.trans ex2) i
    cases e : it.next m2 i with
    | none => rw [e] at q; exact q.elim
    | some o =>
      rw [e] at q
      cases o with
      | none => exact .inl ⟨s1 e, hd _ _ _ _ ls2 ex2 q⟩
      | some v =>
        dsimp only at q
        obtain ⟨go, yld⟩ := s2 v e
        refine .inr ⟨go, fun H' => ∃ m' ρ' r', LS cn K D r' m' H' ρ' ρ0 H0 n0 ∧ Ex0 K ρ H m.n ρ' H' m'.n ∧ Run cn K RV ((walkGo it (wipeM sl vs) g t bd k (i + 1) r' m').bind kf) ρ0 H0 n0 Q W, fun H' h => ⟨k, Nat.lt_succ_self k, h⟩, fun x H3 y => ?_⟩
        obtain ⟨h1, h2, h3⟩ := yld x H3 y
        have ls3 := ls2.to h1 h2
        have ex3 := ex2.trans (h2.ex0 ls2.h)
        have w3 := (w.wipe vs).ex0 ex3 h1
        cases e3 : g v (wipeM sl vs) m2 with
        | none => rw [e3] at q; exact q.elim
        | some sl2 =>
          rw [e3] at q
          dsimp only at q
          rw [RE.bind_assoc] at q
          refine ⟨v, _, m2, ρ2, sl2, w3, h3, e3, fun σ2 w2 lσ hσ => ⟨?_, ?_⟩⟩
          · exact (wipe_eq lσ fun j hj => hσ j fun z => hj (hv j z)).trans wipe_wipe
          · refine ⟨sl2, m2, ρ2, w2, Run.bindC q fun b H4 ρ4 m4 b' rh4 e4 r4 q => ?_⟩
            cases (show b' = b from r4)
            have ls4 := ls3.to rh4 e4
            have ex4 := ex3.trans (e4.ex0 w2.h)
            cases b with
            | true =>
              rw [if_pos rfl]
              dsimp only at q
              rw [RE.bind_assoc] at q
              exact hb sl2 r2 m4 σ2 H4 H0 ρ4 ρ0 n0 D _ Q _ (w2.ext e4 rh4) ls4 q fun r' m' H' ρ' l' x' q' => ⟨m', ρ', r', l', ex4.trans x', q'⟩
            | false =>
              rw [if_neg Bool.false_ne_true]
              exact ⟨m4, ρ4, r2, ls4, ex4, q⟩
/-- two clauses: the second source's own turns -/
def tbTwo (wi1 : TI) (g1 : TG) (tt1 : TT) (te : TE) (vs1 : List Nat) : L2.St → Hp → Addr → (Hp → Prop) → Prop := fun σ H D Nx => wi1 σ H fun J1 H4 => tTurns J1 g1 tt1 (tbOne te) vs1 σ D Nx H4
theorem bd_two {n : Nat} {fi : EI} {g : G} {t : ET} {f : E} {ix vs : List Nat} (hv : ∀ j ∈ ix, j ∈ vs) : BdOk cn K (bdTwo n fi g t vs f) (tbTwo (TI' cn K (fun _ _ _ _ => False) fi) (TG' cn K ix g) (TT' cn K (fun _ _ _ _ => False) t) (TE' cn K (fun _ _ _ _ => False) f) vs) := by
  intro W sl r m σ H H0 ρ ρ0 n0 D kf Q Nx w ls q hN
  unfold bdTwo at q
  rw [RE.bind_assoc] at q
  refine ⟨sl, m, ρ, w, Run.bindC q fun J H1 ρ1 m1 it rh e r1 q => ?_⟩
  exact turns_ok (bd_one _) hv (w.ext e rh) (ls.to rh e) r1 .refl q fun r' m' H' ρ' l' x' q' => hN r' m' H' ρ' l' ((e.ex0 w.h).trans x') q'
end
section
variable {cn : CN} {X : Cx} {W : WX} {elt tg iter tg1 iter1 c : Expr} {ifs ifs1 : List Expr} {scope : Scope} {own : List (Str × Nat)} {vs1 ix ix1 : List Nat} {pos spos py : Pos} {fi fi1 : EI} {g g1 : G} {t t1 : ET} {f : E} {n : Nat}
theorem mts_nil : PTs X [] (TT' cn X.K W tYs) := ⟨fun pins s σ H Q I ⟨sl, m, ρ, w, r⟩ => pts_nil.run pins s σ H Q I (r H ρ true w.h .refl rfl)⟩
theorem mts_one (h : PT X c (TT' cn X.K W t)) : PTs X [c] (TT' cn X.K W t) := pts_one h
abbrev No : WX := fun _ _ _ _ => False
theorem lc_read {σ : L2.St} {H : Hp} {Q : VK} (hv : ∀ j ∈ ix, j ∈ own.map (·.2)) (h : TE' cn X.K W (eLc n fi g t f (own.map (·.2))) σ H Q) : tLc (TI' cn X.K W fi) (TG' cn X.K ix g) (TT' cn X.K No t) (TE' cn X.K No f) (own.map (·.2)) σ H Q := by
  obtain ⟨sl, m, ρ, w, r⟩ := h
  refine TM.bind w r fun J H1 ρ1 m1 it w1 e1 r1 q D hD => ?_
  have w2 : WR cn X.K sl m1 σ (upd H1 D (.lst [])) ρ1 := w1.ext (.tupl hD) (w1.h.tupl hD)
  have ls : LS cn X.K D [] m1 (upd H1 D (.lst [])) ρ1 ρ1 H1 m1.n := ⟨w1.h.tupl hD, .tupl hD, hD, off_new w1.h hD, [], upd_same, .nil⟩
  exact turns_ok (Qd := fun H' => Q (.ref D) H') (bd_one _) hv w2 ls r1 ((Ext.tupl hD).ex0 w1.h) q fun r' m' H' ρ' l' _ q' => l'.fin q'
theorem lc2_read {σ : L2.St} {H : Hp} {Q : VK} (hv : ∀ j ∈ ix, j ∈ own.map (·.2)) (hv1 : ∀ j ∈ ix1, j ∈ vs1) (h : TE' cn X.K W (eLc2 n fi g t fi1 g1 t1 f (own.map (·.2)) vs1) σ H Q) :
    tLc2 (TI' cn X.K W fi) (TG' cn X.K ix g) (TT' cn X.K No t) (TI' cn X.K No fi1) (TG' cn X.K ix1 g1) (TT' cn X.K No t1) (TE' cn X.K No f) (own.map (·.2)) vs1 σ H Q := by
  obtain ⟨sl, m, ρ, w, r⟩ := h
  refine TM.bind w r fun J H1 ρ1 m1 it w1 e1 r1 q D hD => ?_
  have w2 : WR cn X.K sl m1 σ (upd H1 D (.lst [])) ρ1 := w1.ext (.tupl hD) (w1.h.tupl hD)
  have ls : LS cn X.K D [] m1 (upd H1 D (.lst [])) ρ1 ρ1 H1 m1.n := ⟨w1.h.tupl hD, .tupl hD, hD, off_new w1.h hD, [], upd_same, .nil⟩
  exact turns_ok (Qd := fun H' => Q (.ref D) H') (bd_two (ix := ix1) hv1 _) hv w2 ls r1 ((Ext.tupl hD).ex0 w1.h) q fun r' m' H' ρ' l' _ q' => l'.fin q'
theorem me_lc (hc : X.calm = true) (hN : X.N.Nodup) (hi : PI X tg iter (TI' cn X.K W fi)) (ok : BlkOk X.N X.env.scope scope own) (hv : ∀ j ∈ ix, j ∈ own.map (·.2))
    (hg : ∀ (s : Shared) (H : Hp) (C : Addr) (cl : List (Str × Addr)) (fp : List Addr), PG (X.blk s H scope (compEnvC scope cl C X.env) fp) tg (TG' cn X.K ix g)) (ht : ∀ (s : Shared) (H : Hp) (C : Addr) (cl : List (Str × Addr)) (fp : List Addr), PTs (X.blk s H scope (compEnvC scope cl C X.env) fp) ifs (TT' cn X.K No t))
    (he : ∀ (s : Shared) (H : Hp) (C : Addr) (cl : List (Str × Addr)) (fp : List Addr), PE (X.blk s H scope (compEnvC scope cl C X.env) fp) elt (TE' cn X.K No f)) (hs : ∀ x, foldedSetIterable iter X.env x = pure x := by intro _; rfl) :
    PE X (.ListComp elt [⟨tg, iter, ifs, 0⟩] scope pos) (TE' cn X.K W (eLc n fi g t f (own.map (·.2)))) :=
  pe_imp (pe_lc hc hN hi ok hg ht he hs) fun σ H Q h => lc_read hv h
theorem me_lc2 (hc : X.calm = true) (hN : X.N.Nodup) (hi : PI X tg iter (TI' cn X.K W fi)) (ok : BlkOk X.N X.env.scope scope own) (hvs : ∀ i ∈ vs1, i ∈ own.map (·.2)) (hv : ∀ j ∈ ix, j ∈ own.map (·.2)) (hv1 : ∀ j ∈ ix1, j ∈ vs1)
    (hg : ∀ (s : Shared) (H : Hp) (C : Addr) (cl : List (Str × Addr)) (fp : List Addr), PG (X.blk s H scope (compEnvC scope cl C X.env) fp) tg (TG' cn X.K ix g)) (ht : ∀ (s : Shared) (H : Hp) (C : Addr) (cl : List (Str × Addr)) (fp : List Addr), PTs (X.blk s H scope (compEnvC scope cl C X.env) fp) ifs (TT' cn X.K No t))
    (hi1 : ∀ (s : Shared) (H : Hp) (C : Addr) (cl : List (Str × Addr)) (fp : List Addr), PI (X.blk s H scope (compEnvC scope cl C X.env) fp) tg1 iter1 (TI' cn X.K No fi1))
    (hg1 : ∀ (s : Shared) (H : Hp) (C : Addr) (cl : List (Str × Addr)) (fp : List Addr), PG (X.blk s H scope (compEnvC scope cl C X.env) fp) tg1 (TG' cn X.K ix1 g1)) (ht1 : ∀ (s : Shared) (H : Hp) (C : Addr) (cl : List (Str × Addr)) (fp : List Addr), PTs (X.blk s H scope (compEnvC scope cl C X.env) fp) ifs1 (TT' cn X.K No t1))
    (he : ∀ (s : Shared) (H : Hp) (C : Addr) (cl : List (Str × Addr)) (fp : List Addr), PE (X.blk s H scope (compEnvC scope cl C X.env) fp) elt (TE' cn X.K No f)) (hs : ∀ x, foldedSetIterable iter X.env x = pure x := by intro _; rfl) (hs1 : ∀ env x, foldedSetIterable iter1 env x = pure x := by intro _ _; rfl) :
    PE X (.ListComp elt [⟨tg, iter, ifs, 0⟩, ⟨tg1, iter1, ifs1, 0⟩] scope pos) (TE' cn X.K W (eLc2 n fi g t fi1 g1 t1 f (own.map (·.2)) vs1)) :=
  pe_imp (pe_lc2 hc hN hi ok hvs hg ht hi1 hg1 ht1 he hs hs1) fun σ H Q h => lc2_read hv hv1 h
/-- name = [..] -/
theorem ms_setLc {i : Nat} {y : Str} (hc : X.calm = true) (hN : X.N.Nodup) (hy : X.N[i]? = some y) (hyl : X.env.scope.names.lookup y = some .local)
    (hsw : swapsWith (.ListComp elt [⟨tg, iter, ifs, 0⟩] scope pos) (some (.Name y py)) spos.line X.env = pure true) (hi : PI X tg iter (TI' cn X.K W fi)) (ok : BlkOk X.N X.env.scope scope own) (hv : ∀ j ∈ ix, j ∈ own.map (·.2))
    (hg : ∀ (s : Shared) (H : Hp) (C : Addr) (cl : List (Str × Addr)) (fp : List Addr), PG (X.blk s H scope (compEnvC scope cl C X.env) fp) tg (TG' cn X.K ix g)) (ht : ∀ (s : Shared) (H : Hp) (C : Addr) (cl : List (Str × Addr)) (fp : List Addr), PTs (X.blk s H scope (compEnvC scope cl C X.env) fp) ifs (TT' cn X.K No t))
    (he : ∀ (s : Shared) (H : Hp) (C : Addr) (cl : List (Str × Addr)) (fp : List Addr), PE (X.blk s H scope (compEnvC scope cl C X.env) fp) elt (TE' cn X.K No f)) (hs : ∀ x, foldedSetIterable iter X.env x = pure x := by intro _; rfl) :
    PS X (.Assign [.Name y py] (.ListComp elt [⟨tg, iter, ifs, 0⟩] scope pos) spos) (TS' cn X.K W (sSet i (eLc n fi g t f (own.map (·.2))))) := by
  refine ps_imp (ps_setLc hc hN hy hyl hsw hi ok hg ht he hs) fun D σ H ⟨sl, m, ρ, w, r⟩ => ?_
  exact lc_read hv (RunS.tm w r fun y H1 ρ1 m1 u w1 e1 r1 q => q.nxt (w1.set r1 i))
theorem ms_setLc2 {i : Nat} {y : Str} (hc : X.calm = true) (hN : X.N.Nodup) (hy : X.N[i]? = some y) (hyl : X.env.scope.names.lookup y = some .local)
    (hsw : swapsWith (.ListComp elt [⟨tg, iter, ifs, 0⟩, ⟨tg1, iter1, ifs1, 0⟩] scope pos) (some (.Name y py)) spos.line X.env = pure true) (hi : PI X tg iter (TI' cn X.K W fi)) (ok : BlkOk X.N X.env.scope scope own) (hvs : ∀ i ∈ vs1, i ∈ own.map (·.2)) (hv : ∀ j ∈ ix, j ∈ own.map (·.2)) (hv1 : ∀ j ∈ ix1, j ∈ vs1)
    (hg : ∀ (s : Shared) (H : Hp) (C : Addr) (cl : List (Str × Addr)) (fp : List Addr), PG (X.blk s H scope (compEnvC scope cl C X.env) fp) tg (TG' cn X.K ix g)) (ht : ∀ (s : Shared) (H : Hp) (C : Addr) (cl : List (Str × Addr)) (fp : List Addr), PTs (X.blk s H scope (compEnvC scope cl C X.env) fp) ifs (TT' cn X.K No t))
    (hi1 : ∀ (s : Shared) (H : Hp) (C : Addr) (cl : List (Str × Addr)) (fp : List Addr), PI (X.blk s H scope (compEnvC scope cl C X.env) fp) tg1 iter1 (TI' cn X.K No fi1))
    (hg1 : ∀ (s : Shared) (H : Hp) (C : Addr) (cl : List (Str × Addr)) (fp : List Addr), PG (X.blk s H scope (compEnvC scope cl C X.env) fp) tg1 (TG' cn X.K ix1 g1)) (ht1 : ∀ (s : Shared) (H : Hp) (C : Addr) (cl : List (Str × Addr)) (fp : List Addr), PTs (X.blk s H scope (compEnvC scope cl C X.env) fp) ifs1 (TT' cn X.K No t1))
    (he : ∀ (s : Shared) (H : Hp) (C : Addr) (cl : List (Str × Addr)) (fp : List Addr), PE (X.blk s H scope (compEnvC scope cl C X.env) fp) elt (TE' cn X.K No f)) (hs : ∀ x, foldedSetIterable iter X.env x = pure x := by intro _; rfl) (hs1 : ∀ env x, foldedSetIterable iter1 env x = pure x := by intro _ _; rfl) :
    PS X (.Assign [.Name y py] (.ListComp elt [⟨tg, iter, ifs, 0⟩, ⟨tg1, iter1, ifs1, 0⟩] scope pos) spos) (TS' cn X.K W (sSet i (eLc2 n fi g t fi1 g1 t1 f (own.map (·.2)) vs1))) := by
  refine ps_imp (ps_setLc2 hc hN hy hyl hsw hi ok hvs hg ht hi1 hg1 ht1 he hs hs1) fun D σ H ⟨sl, m, ρ, w, r⟩ => ?_
  exact lc2_read hv hv1 (RunS.tm w r fun y H1 ρ1 m1 u w1 e1 r1 q => q.nxt (w1.set r1 i))
end
end Mi

set_option Elab.async false
set_option linter.all false
set_option autoImplicit false
set_option maxRecDepth 100000
set_option maxHeartbeats 2000000
namespace Mi
open PySem PySem.Spec L2
/-! ### texts as lists -/
/-- the pieces between the c -/
def splitC (c : Nat) : List Nat → List (List Nat)
  | [] => [[]]
  | a :: r => match Nat.beq a c with
    | true => [] :: splitC c r
    | false => (match splitC c r with
      | p :: q => (a :: p) :: q
      | [] => [[a]])
theorem splitC_ne (c : Nat) : ∀ l, ∃ p q, splitC c l = p :: q
  | [] => ⟨[], [], rfl⟩
  | a :: r => by
    unfold splitC
    cases h : Nat.beq a c with
    | true => exact ⟨_, _, rfl⟩
    | false =>
      obtain ⟨p, q, e⟩ := splitC_ne c r
      rw [e]
      exact ⟨_, _, rfl⟩
/-- the pieces and the c again -/
def glueC (c : Nat) : List (List Nat) → List Nat
  | [] => []
  | [p] => p
  | p :: q => p ++ c :: glueC c q
theorem glue_cons (c : Nat) (p : List Nat) (q : List (List Nat)) (h : q ≠ []) : glueC c (p :: q) = p ++ c :: glueC c q := by
  cases q with
  | nil => exact absurd rfl h
  | cons a b => rfl
theorem split_glue (c : Nat) : ∀ ps : List (List Nat), ps ≠ [] → (∀ p ∈ ps, c ∉ p) → splitC c (glueC c ps) = ps
  | [], h, _ => absurd rfl h
  | [p], _, h => by
    have hp := h p (List.mem_cons_self ..)
    show splitC c p = [p]
    clear h
    induction p with
    | nil => rfl
    | cons a r ih =>
      have ha : a ≠ c := fun e => hp (by rw [e]; exact List.mem_cons_self ..)
      have hr : c ∉ r := fun e => hp (List.mem_cons_of_mem _ e)
      unfold splitC
      have : Nat.beq a c = false := by
        cases q : Nat.beq a c with
        | true => exact absurd (Nat.eq_of_beq_eq_true q) ha
        | false => rfl
      rw [this, ih (List.cons_ne_nil _ _) hr]
  | p :: q :: r, _, h => by
    have hp := h p (List.mem_cons_self ..)
    have ih := split_glue c (q :: r) (List.cons_ne_nil _ _) fun z hz => h z (List.mem_cons_of_mem _ hz)
    rw [glue_cons c p (q :: r) (List.cons_ne_nil _ _)]
    clear h
    induction p with
    | nil =>
      show splitC c (c :: glueC c (q :: r)) = _
      unfold splitC
      rw [Nat.beq_refl, ih]
    | cons a s ihp =>
      have ha : a ≠ c := fun e => hp (by rw [e]; exact List.mem_cons_self ..)
      have hr : c ∉ s := fun e => hp (List.mem_cons_of_mem _ e)
      show splitC c (a :: (s ++ c :: glueC c (q :: r))) = _
      unfold splitC
      have : Nat.beq a c = false := by
        cases q : Nat.beq a c with
        | true => exact absurd (Nat.eq_of_beq_eq_true q) ha
        | false => rfl
      rw [this, ihp (List.cons_ne_nil _ _) hr]
def strOf (l : List Nat) : Str := ⟨l.toArray⟩
theorem strOf_toList (x : Str) : strOf x.cps.toList = x := by cases x; unfold strOf; simp
theorem join_glue (c : Nat) : ∀ ps : List Str, (Str.join ⟨#[c]⟩ ps).cps.toList = glueC c (ps.map fun p => p.cps.toList)
  | [] => rfl
  | [p] => rfl
  | p :: q :: r => by
    have ih := join_glue c (q :: r)
    show ((p ++ ⟨#[c]⟩ ++ Str.join ⟨#[c]⟩ (q :: r) : Str)).cps.toList = p.cps.toList ++ c :: glueC c ((q :: r).map fun p => p.cps.toList)
    rw [← ih]
    show (p.cps ++ #[c] ++ (Str.join ⟨#[c]⟩ (q :: r)).cps).toList = _
    simp
theorem split_eq (x : Str) (c : Nat) : Txt.split x ⟨#[c]⟩ = (splitC c x.cps.toList).map strOf := by
  have h1 := StrLaws.join_split x ⟨#[c]⟩
  have h2 := StrLaws.split_free x c
  have h3 : (Txt.split x ⟨#[c]⟩).map (fun p => p.cps.toList) ≠ [] := by
    have := PyProof.Rows.split_pos x ⟨#[c]⟩
    intro e
    rw [List.map_eq_nil_iff] at e
    rw [e] at this
    simp at this
  have e : x.cps.toList = glueC c ((Txt.split x ⟨#[c]⟩).map fun p => p.cps.toList) := by rw [← join_glue, h1]
  rw [e, split_glue c _ h3 (fun p hp => by
    obtain ⟨q, hq, rfl⟩ := List.mem_map.mp hp
    exact h2 q hq), List.map_map]
  have : (strOf ∘ fun p : Str => p.cps.toList) = id := funext strOf_toList
  rw [this, List.map_id]
/-- the first c -/
def fidx (c : Nat) : List Nat → Option Nat
  | [] => none
  | a :: r => match Nat.beq a c with
    | true => some 0
    | false => (match fidx c r with | some i => some (i + 1) | none => none)
theorem fidx_some (c : Nat) : ∀ (l : List Nat) (i : Nat), fidx c l = some i → l[i]? = some c ∧ ∀ k, k < i → l[k]? ≠ some c
  | [], i, h => by cases h
  | a :: r, i, h => by
    unfold fidx at h
    cases q : Nat.beq a c with
    | true =>
      rw [q] at h
      cases h
      exact ⟨by rw [Nat.eq_of_beq_eq_true q]; rfl, fun k hk => absurd hk (Nat.not_lt_zero _)⟩
    | false =>
      rw [q] at h
      dsimp only at h
      cases e : fidx c r with
      | none => rw [e] at h; cases h
      | some j =>
        rw [e] at h
        cases h
        obtain ⟨h1, h2⟩ := fidx_some c r j e
        refine ⟨h1, fun k hk => ?_⟩
        cases k with
        | zero => intro z; cases z; rw [Nat.beq_refl] at q; cases q
        | succ k => exact h2 k (by omega)
theorem fidx_none (c : Nat) : ∀ (l : List Nat), fidx c l = none → ∀ k : Nat, l[k]? ≠ some c
  | [], _, k => by simp
  | a :: r, h, k => by
    unfold fidx at h
    cases q : Nat.beq a c with
    | true => rw [q] at h; cases h
    | false =>
      rw [q] at h
      dsimp only at h
      cases e : fidx c r with
      | some j => rw [e] at h; cases h
      | none =>
        cases k with
        | zero => intro z; cases z; rw [Nat.beq_refl] at q; cases q
        | succ k => exact fidx_none c r e k
theorem at_one (x : Str) (c i : Nat) : StrLaws.At x ⟨#[c]⟩ x.length i ↔ x.cps.toList[i]? = some c := StrLaws.subAt_one x c i
theorem occ_one (x : Str) (c : Nat) : match fidx c x.cps.toList with | none => Builtin.Str.occurrences x ⟨#[c]⟩ 0 x.length 1 = [] | some i => ∃ r, Builtin.Str.occurrences x ⟨#[c]⟩ 0 x.length 1 = i :: r := by
  rcases StrLaws.occ_head x ⟨#[c]⟩ 1 (Nat.le_refl 1) with ⟨h0, hn⟩ | ⟨i, r, h0, hi, hn⟩
  · cases e : fidx c x.cps.toList with
    | none => exact h0
    | some j => exact absurd ((at_one x c j).mpr (fidx_some c _ _ e).1) (hn j)
  · cases e : fidx c x.cps.toList with
    | none => exact absurd ((at_one x c i).mp hi) (fidx_none c _ e i)
    | some j =>
      obtain ⟨h1, h2⟩ := fidx_some c _ _ e
      have : i = j := by
        rcases Nat.lt_trichotomy i j with h | h | h
        · exact absurd ((at_one x c i).mp hi) (h2 i h)
        · exact h
        · exact absurd ((at_one x c j).mpr h1) (hn j h)
      subst this
      exact ⟨r, h0⟩
theorem index_eq (x : Str) (c : Nat) : Txt.index0 x ⟨#[c]⟩ = fidx c x.cps.toList := by
  have h := occ_one x c
  unfold Txt.index0
  cases e : fidx c x.cps.toList with
  | none => rw [e] at h; rw [h]; rfl
  | some i => rw [e] at h; obtain ⟨r, h⟩ := h; rw [h]; rfl
def partC (c : Nat) (x : Str) : Str × Str × Str := match fidx c x.cps.toList with
  | some i => (strOf (x.cps.toList.take i), ⟨#[c]⟩, strOf (x.cps.toList.drop (i + 1)))
  | none => (x, ⟨#[]⟩, ⟨#[]⟩)
theorem sub_eq (x : Str) (i j : Nat) : Builtin.Str.strSub x i j = strOf ((x.cps.toList.drop i).take (j - i)) := by
  unfold strOf
  apply Str.ext'
  apply Array.toList_inj.mp
  rw [PySem.StrLaws.strSub_toList]
theorem part_eq (x : Str) (c : Nat) : Txt.partition x ⟨#[c]⟩ = partC c x := by
  have h := occ_one x c
  unfold Txt.partition partC
  cases e : fidx c x.cps.toList with
  | none => rw [e] at h; rw [h]; rfl
  | some i =>
    rw [e] at h
    obtain ⟨r, h⟩ := h
    rw [h]
    dsimp only
    rw [sub_eq, sub_eq]
    have e1 : ((x.cps.toList.drop 0).take (i - 0)) = x.cps.toList.take i := by simp
    have e2 : ((x.cps.toList.drop (i + (⟨#[c]⟩ : Str).length)).take (x.length - (i + (⟨#[c]⟩ : Str).length))) = x.cps.toList.drop (i + 1) := by
      show (x.cps.toList.drop (i + 1)).take (x.length - (i + 1)) = _
      refine List.take_of_length_le ?_
      simp [Str.length]
    rw [e1, e2]
/-! ### methods of texts -/
def isOne (b : Str) : Option Nat := match b.cps.toList with
  | [c] => some c
  | _ => none
theorem isOne_eq {b : Str} {c : Nat} (h : isOne b = some c) : b = ⟨#[c]⟩ := by
  unfold isOne at h
  cases e : b.cps.toList with
  | nil => rw [e] at h; cases h
  | cons a r =>
    rw [e] at h
    cases r with
    | cons _ _ => cases h
    | nil => cases h; rw [← strOf_toList b, e]; rfl
def small1 (x : Str) : Bool := Nat.ble x.length 1000000
abbrev BM := Val → List Val → MH → RE Val
def sSplit : BM := fun v vs m => match v, vs with
  | .str x, [.str b] => (match isOne b with
    | some c => (match small1 x with
      | true => mk (.lst ((splitC c x.cps.toList).map fun l => .str (strOf l))) m
      | false => .fail)
    | none => .fail)
  | _, _ => .fail
def sPart : BM := fun v vs m => match v, vs with
  | .str x, [.str b] => (match isOne b with
    | some c => (match small1 x with
      | true => .ok (.tup [.str (partC c x).1, .str (partC c x).2.1, .str (partC c x).2.2]) m
      | false => .fail)
    | none => .fail)
  | _, _ => .fail
def sIndex : BM := fun v vs m => match v, vs with
  | .str x, [.str b] => (match isOne b with
    | some c => (match fidx c x.cps.toList with
      | some i => .ok (.int (i : Nat)) m
      | none => .fail)
    | none => .fail)
  | _, _ => .fail
/-- a method of a built-in -/
def eBm (ck : Val → MH → Bool) (op : BM) (o : E) (f : EA) : E := fun sl m => (o sl m).bind fun v m1 => match ck v m1 with
  | true => (f sl m1).bind fun vs m2 => nE (op v vs m2)
  | false => .fail
def rB (cn : CN) (K : PySem.W.Frag) (op : BM) : V → List V → Hp → VK → Prop := fun x xs H Q => ∃ v vs m ρ, RH cn K m H ρ ∧ RV K H ρ m.n v x ∧ RVs K H ρ m.n vs xs ∧ Run cn K RV (op v vs m) ρ H m.n Q (fun _ _ _ => False)
def isS : Val → MH → Bool := fun v _ => match v with | .str _ => true | _ => false
def isI : Val → MH → Bool := fun v _ => match v with | .int _ => true | _ => false
def isL : Val → MH → Bool := fun v m => match v with
  | .loc l => (match m.get l with | some (.lst _) => true | _ => false)
  | _ => false
def isD : Val → MH → Bool := fun v m => match v with
  | .loc l => (match m.get l with | some (.dic _) => true | _ => false)
  | _ => false
def Ck (cn : CN) (K : PySem.W.Frag) (ck : Val → MH → Bool) (T : String) : Prop := ∀ (v : Val) (x : V) (m : MH) (H : Hp) (ρ : Nat → Addr), RH cn K m H ρ → RV K H ρ m.n v x → ck v m = true → tyV K T x H
section
variable {cn : CN} {K : PySem.W.Frag}
theorem ck_str : Ck cn K isS "str" := fun v x m H ρ w r h => by
  cases v with
  | str _ => cases r; exact (rfl : "str" = "str")
  | _ => cases h
theorem ck_int : Ck cn K isI "int" := fun v x m H ρ w r h => by
  cases v with
  | int _ => cases r; exact (rfl : "int" = "int")
  | _ => cases h
theorem ck_list : Ck cn K isL "list" := fun v x m H ρ w r h => by
  cases v with
  | loc l =>
    obtain ⟨rfl, hl⟩ := r.locL
    unfold isL at h
    dsimp only at h
    cases eo : m.get l with
    | none => rw [eo] at h; cases h
    | some ob =>
      have ro := (w.obj l ob eo).2
      rw [eo] at h
      cases ob with
      | lst xs => obtain ⟨vs, h1, _⟩ := ro; exact .inl ⟨rfl, vs, SqL.of h1⟩
      | _ => cases h
  | _ => cases h
theorem ck_dict : Ck cn K isD "dict" := fun v x m H ρ w r h => by
  cases v with
  | loc l =>
    obtain ⟨rfl, hl⟩ := r.locL
    unfold isD at h
    dsimp only at h
    cases eo : m.get l with
    | none => rw [eo] at h; cases h
    | some ob =>
      have ro := (w.obj l ob eo).2
      rw [eo] at h
      cases ob with
      | dic xs => obtain ⟨vs, h1, _⟩ := ro; exact .inr (.inr (.inl ⟨rfl, .inl ⟨vs, h1⟩⟩))
      | _ => cases h
  | _ => cases h
end
section
variable {cn : CN} {X : Cx} {W : WX} {o e : Expr} {es : List Expr} {fo : E} {fa : EA} {name : Str} {apos cpos : Pos} {T id : String} {op : BM} {ck : Val → MH → Bool}
theorem me_bm (hk : Ck cn X.K ck T) (pa : PlainAttrs T) (slot : Slot T name id) (hty : typeOf (.builtin id) = pure (.type "method_descriptor")) (hm : MtR X id (rB cn X.K op)) (ho : PE X o (TE' cn X.K W fo)) (ha : PA X (e :: es) (TA' cn X.K W fa))
    (hbase : attributeBase o name X.env (eval o X.env) = eval o X.env := by rfl)
    (hfew : ((backTo cpos (starEach (e :: es) X.env)).all (fun x => !x.1) && (backToKw cpos (keywordEach [] X.env)).all (fun x => x.1.isSome)
      && decide ((e :: es).length + ([] : List Keyword).length + (if ([] : List Keyword).isEmpty then 0 else 1) < 30)) = true := by rfl)
    (hline : (apos.endLine == cpos.line) = true := by rfl) (hs : starEach (e :: es) X.env = (false, eval e X.env) :: starEach es X.env := by rfl) (hplain : (backTo cpos (starEach es X.env)).any (·.1) = false := by rfl) :
    PE X (.Call (.Attribute o name apos) (e :: es) [] cpos) (TE' cn X.K W (eBm ck op fo fa)) := by
  refine pe_imp (pe_bm pa slot hty hm ho ha hbase hfew hline hs hplain) fun σ H Q ⟨sl, m, ρ, w, r⟩ => ?_
  refine TM.bind w r fun x H1 ρ1 m1 v w1 e1 r1 q => ?_
  cases ec : ck v m1 with
  | false => rw [ec] at q; exact q.elim
  | true =>
    rw [ec] at q
    refine ⟨hk v x m1 H1 ρ1 w1.h r1 ec, TM.bind w1 q fun xs H2 ρ2 m2 vs w2 e2 r2 q => ?_⟩
    exact ⟨v, vs, m2, ρ2, w2.h, r1.ext e2, r2, q.nE⟩
theorem me_bm0 (hk : Ck cn X.K ck T) (pa : PlainAttrs T) (slot : Slot T name id) (hty : typeOf (.builtin id) = pure (.type "method_descriptor")) (hm : MtR X id (rB cn X.K op)) (ho : PE X o (TE' cn X.K W fo))
    (hbase : attributeBase o name X.env (eval o X.env) = eval o X.env := by rfl) (hline : (apos.endLine == cpos.line) = true := by rfl) : PE X (.Call (.Attribute o name apos) [] [] cpos) (TE' cn X.K W (eBm ck op fo aNil)) := by
  refine pe_imp (pe_bm0 pa slot hty hm ho hbase hline) fun σ H Q ⟨sl, m, ρ, w, r⟩ => ?_
  refine TM.bind w r fun x H1 ρ1 m1 v w1 e1 r1 q => ?_
  cases ec : ck v m1 with
  | false => rw [ec] at q; exact q.elim
  | true =>
    rw [ec] at q
    exact ⟨hk v x m1 H1 ρ1 w1.h r1 ec, v, [], m1, ρ1, w1.h, r1, .nil, q.nE⟩
theorem MtR.imp {r r' : V → List V → Hp → VK → Prop} (h : MtR X id r) (k : ∀ x xs H Q, r' x xs H Q → r x xs H Q) : MtR X id r' := fun pins s σ H x xs v us Q I rx rs q => h pins s σ H x xs v us Q I rx rs (k x xs H Q q)
theorem RVs.strs {K : PySem.W.Frag} {H : Hp} {ρ : Nat → Addr} {n : Nat} : ∀ l : List Str, RVs K H ρ n (l.map .str) (l.map V.str)
  | [] => .nil
  | x :: r => .cons (.str x) (RVs.strs r)
theorem m_split : MtR X "str.split" (rB cn X.K sSplit) := by
  refine MtR.imp mt_split fun x xs H Q ⟨v, vs, m, ρ, w, rv, rvs, q⟩ => ?_
  unfold sSplit at q
  split at q
  · rename_i a b
    cases rv
    obtain ⟨y, rfl, r1⟩ := rvs.one
    cases r1
    cases e1 : isOne b with
    | none => rw [e1] at q; exact q.elim
    | some c =>
      rw [e1] at q
      dsimp only at q
      cases e2 : small1 a with
      | false => rw [e2] at q; exact q.elim
      | true =>
        rw [e2] at q
        have eb := isOne_eq e1
        subst eb
        have hl : a.length ≤ 1000000 := Nat.le_of_ble_eq_true e2
        refine ⟨a, _, rfl, rfl, rfl, by rw [sizeLine_eq]; omega, fun p hp => ?_⟩
        rw [split_eq]
        have e : ((splitC c a.cps.toList).map fun l => Val.str (strOf l)) = ((splitC c a.cps.toList).map strOf).map .str := by rw [List.map_map]; rfl
        dsimp only at q
        rw [e] at q
        exact Run.mkLst q w (RVs.strs _) hp
  · exact q.elim
theorem m_part : MtR X "str.partition" (rB cn X.K sPart) := by
  refine MtR.imp mt_partition fun x xs H Q ⟨v, vs, m, ρ, w, rv, rvs, q⟩ => ?_
  unfold sPart at q
  split at q
  · rename_i a b
    cases rv
    obtain ⟨y, rfl, r1⟩ := rvs.one
    cases r1
    cases e1 : isOne b with
    | none => rw [e1] at q; exact q.elim
    | some c =>
      rw [e1] at q
      dsimp only at q
      cases e2 : small1 a with
      | false => rw [e2] at q; exact q.elim
      | true =>
        rw [e2] at q
        have eb := isOne_eq e1
        subst eb
        have hl : a.length ≤ 1000000 := Nat.le_of_ble_eq_true e2
        refine ⟨a, _, rfl, rfl, rfl, by rw [sizeLine_eq]; omega, fun p hp => ?_⟩
        rw [part_eq]
        exact Run.newTup q w (.cons (.str _) (.cons (.str _) (.cons (.str _) .nil))) hp
  · exact q.elim
theorem m_index (hc : X.calm = true) : MtR X "str.index" (rB cn X.K sIndex) := by
  intro pins s σ H x xs v us Q I rx rs ⟨v0, vs, m, ρ, w, rv, rvs, q⟩
  unfold sIndex at q
  split at q
  · rename_i a b
    cases rv
    obtain ⟨y, rfl, r1⟩ := rvs.one
    cases r1
    cases e1 : isOne b with
    | none => rw [e1] at q; exact q.elim
    | some c =>
      rw [e1] at q
      dsimp only at q
      cases e2 : fidx c a.cps.toList with
      | none => rw [e2] at q; exact q.elim
      | some i =>
        rw [e2] at q
        have eb := isOne_eq e1
        subst eb
        refine mt_indexX (W := fun _ _ _ _ => False) hc takes0 pins s σ H _ _ v us Q I rx rs ⟨a, _, rfl, rfl, fun k hk => ?_, fun hk => ?_⟩
        · rw [index_eq, e2] at hk
          cases hk
          exact Run.val q w (.int _)
        · rw [index_eq, e2] at hk; cases hk
  · exact q.elim
/-! ### methods of lists -/
def lAppend : BM := fun v vs m => match v, vs with
  | .loc l, [y] => (match m.get l with
    | some (.lst xs) => (match small xs with
      | true => .ok .non (m.put l (.lst (xs ++ [y])))
      | false => .fail)
    | _ => .fail)
  | _, _ => .fail
def lExtend : BM := fun v vs m => match v, vs with
  | .loc l, [.loc k] => (match m.get l with
    | some (.lst xs) => (match m.get k with
      | some (.lst ys) => (match small xs && small ys with
        | true => .ok .non (m.put l (.lst (xs ++ ys)))
        | false => .fail)
      | _ => .fail)
    | _ => .fail)
  | _, _ => .fail
def lPop : BM := fun v vs m => match v, vs with
  | .loc l, [] => (match m.get l with
    | some (.lst xs) => (match xs[xs.length - 1]? with
      | some y => .ok y (m.put l (.lst xs.dropLast))
      | none => .fail)
    | _ => .fail)
  | _, _ => .fail
theorem RVs.dropLast {K : PySem.W.Frag} {H : Hp} {ρ : Nat → Addr} {n : Nat} {xs : List Val} {vs : List V} (r : RVs K H ρ n xs vs) : RVs K H ρ n xs.dropLast vs.dropLast := by
  rw [List.dropLast_eq_take, List.dropLast_eq_take, r.length]
  exact r.take _
theorem lst_at {K : PySem.W.Frag} {m : MH} {H : Hp} {ρ : Nat → Addr} {l : Nat} {xs : List Val} (w : RH cn K m H ρ) (h : m.get l = some (.lst xs)) : l < m.n ∧ ∃ vs, H (ρ l) = some (.lst vs) ∧ RVs K H ρ m.n xs vs ∧ Mut (H (ρ l)) := by
  obtain ⟨hl, vs, h1, h2⟩ := w.obj l _ h
  exact ⟨hl, vs, h1, h2, by rw [h1]; trivial⟩
/-- an object is changed, a value goes on -/
theorem Run.chg {K : PySem.W.Frag} {ρ : Nat → Addr} {H : Hp} {m : MH} {l : Nat} {v : Val} {x : V} {o : Ob} {ho : HO} {Q : VK} {E : XK} (q : Run cn K RV (.ok v (m.put l o)) ρ H m.n Q E) (w : RH cn K m H ρ) (hl : l < m.n) (mu : Mut (H (ρ l))) (ro : RO cn K (upd H (ρ l) ho) ρ m.n (ρ l) o) (r : RV K H ρ m.n v x) : Q x (upd H (ρ l) ho) :=
  q _ ρ x (w.put hl mu ro) (.mut hl mu) (r.ext (.mut hl mu))
theorem m_append : MtR X "list.append" (rB cn X.K lAppend) := by
  refine MtR.imp (r := rAppend) mt_append fun x xs H Q ⟨v, vs, m, ρ, w, rv, rvs, q⟩ => ?_
  unfold lAppend at q
  split at q
  · rename_i l y
    obtain ⟨rfl, _⟩ := rv.locL
    obtain ⟨y', rfl, r1⟩ := rvs.one
    cases eo : m.get l with
    | none => rw [eo] at q; exact q.elim
    | some ob =>
      rw [eo] at q
      cases ob with
      | lst zs =>
        obtain ⟨hl, us, h1, h2, mu⟩ := lst_at w eo
        dsimp only at q
        cases es : small zs with
        | false => rw [es] at q; exact q.elim
        | true =>
          rw [es] at q
          have hz : us.length < sizeLine := by
            have := Nat.le_of_ble_eq_true es
            rw [← h2.length, sizeLine_eq]; omega
          exact ⟨_, us, y', rfl, rfl, h1, hz, Run.chg q w hl mu ⟨_, upd_same, (h2.append (.cons r1 .nil)).ext (.mut hl mu)⟩ .non⟩
      | _ => exact q.elim
  · exact q.elim
theorem m_extend : MtR X "list.extend" (rB cn X.K lExtend) := by
  refine MtR.imp (r := rExtend) mt_extend fun x xs H Q ⟨v, vs, m, ρ, w, rv, rvs, q⟩ => ?_
  unfold lExtend at q
  split at q
  · rename_i l k
    obtain ⟨rfl, _⟩ := rv.locL
    obtain ⟨y', rfl, r1⟩ := rvs.one
    obtain ⟨rfl, _⟩ := r1.locL
    cases eo : m.get l with
    | none => rw [eo] at q; exact q.elim
    | some ob =>
      rw [eo] at q
      cases ob with
      | lst zs =>
        obtain ⟨hl, us, h1, h2, mu⟩ := lst_at w eo
        dsimp only at q
        cases eo2 : m.get k with
        | none => rw [eo2] at q; exact q.elim
        | some ob2 =>
          rw [eo2] at q
          cases ob2 with
          | lst ys =>
            obtain ⟨hk, ws, k1, k2, _⟩ := lst_at w eo2
            dsimp only at q
            cases es : small zs && small ys with
            | false => rw [es] at q; exact q.elim
            | true =>
              rw [es] at q
              obtain ⟨s1, s2⟩ := Bool.and_eq_true_iff.mp es
              have a1 := Nat.le_of_ble_eq_true s1
              have a2 := Nat.le_of_ble_eq_true s2
              exact ⟨_, _, us, ws, rfl, rfl, h1, k1, by rw [← h2.length, ← k2.length, sizeLine_eq]; omega, Run.chg q w hl mu ⟨_, upd_same, (h2.append k2).ext (.mut hl mu)⟩ .non⟩
          | _ => exact q.elim
      | _ => exact q.elim
  · exact q.elim
theorem m_pop : MtR X "list.pop" (rB cn X.K lPop) := by
  refine MtR.imp (r := rPop) mt_pop fun x xs H Q ⟨v, vs, m, ρ, w, rv, rvs, q⟩ => ?_
  unfold lPop at q
  split at q
  · rename_i l
    obtain ⟨rfl, _⟩ := rv.locL
    cases rvs
    cases eo : m.get l with
    | none => rw [eo] at q; exact q.elim
    | some ob =>
      rw [eo] at q
      cases ob with
      | lst zs =>
        obtain ⟨hl, us, h1, h2, mu⟩ := lst_at w eo
        dsimp only at q
        cases es : zs[zs.length - 1]? with
        | none => rw [es] at q; exact q.elim
        | some y =>
          rw [es] at q
          obtain ⟨y', k1, k2⟩ := h2.get es
          exact ⟨_, us, y', rfl, rfl, h1, by rw [← h2.length]; exact k1, Run.chg q w hl mu ⟨_, upd_same, h2.dropLast.ext (.mut hl mu)⟩ k2⟩
      | _ => exact q.elim
  · exact q.elim
end
end Mi

set_option Elab.async false
set_option linter.all false
set_option autoImplicit false
set_option maxRecDepth 100000
set_option maxHeartbeats 2000000
namespace Mi
open PySem PySem.Spec L2
/-! ### levels -/
def noT : Tbl := fun _ _ _ => .fail
def Lv (bodies : Tbl → Tbl → Tbl) (n : Nat) : Tbl × Tbl := Nat.rec (motive := fun _ => Tbl × Tbl) (noT, noT) (fun _ r => (bodies r.1 r.2, r.1)) n
section
variable (P : Program) (w : World) (K : PySem.W.Frag) (mg : Str → Option Value) (base : Heap) (fn : List He.DefD) (pss : Nat → List Str) (fds : Nat → FuncData) (cn : CN)
/-- every def keeps its promise at the level k -/
def Ok (k : Nat) (T : Tbl) : Prop := ∀ (i : Nat) (d : He.DefD), fn[i]? = some d → FnOk P w K mg base (L2.CX P w) k (He.fAd K d.at_) (fds i) (pss i) (spM cn K (pss i).length (T i))
theorem ok_no (k : Nat) : Ok P w K mg base fn pss fds cn k noT := fun i d h => fn_none
theorem lv_ok {bodies : Tbl → Tbl → Tbl} (step : ∀ n T T1, Ok P w K mg base fn pss fds cn (n + 2) T → Ok P w K mg base fn pss fds cn (n + 1) T1 → Ok P w K mg base fn pss fds cn (n + 3) (bodies T T1)) :
    ∀ n, Ok P w K mg base fn pss fds cn (n + 2) (Lv bodies n).1 ∧ Ok P w K mg base fn pss fds cn (n + 1) (Lv bodies n).2
  | 0 => ⟨fun _ _ _ => fn_none, fun _ _ _ => fn_none⟩
  | n + 1 => ⟨step n _ _ (lv_ok step n).1 (lv_ok step n).2, (lv_ok step n).1⟩
end
/-! ### blocks by evaluation -/
def nodupB : List Str → Bool
  | [] => true
  | x :: r => !(r.any fun y => decide (x = y)) && nodupB r
def blkB (N : List Str) (sc scope : Scope) (own : List (Str × Nat)) : Bool :=
  decide (scope.kind = .function) && ((scope.names.all fun y => decide (scope.names.lookup y.1 = some y.2)) && ((own.all fun p => decide (N[p.2]? = some p.1)) &&
    ((scope.names.all fun y => !decide (y.2 = .free) || (decide (sc.names.lookup y.1 = some .cell) || decide (sc.names.lookup y.1 = some .free))) &&
      scope.names.all fun y => !(decide (y.2 = .local) || decide (y.2 = .cell)) || (decide (y.1 ∈ own.map (·.1)) || !decide (y.1 ∈ N)))))
theorem blkB_ok {N : List Str} {sc scope : Scope} {own : List (Str × Nat)} (h : blkB N sc scope own = true) : BlkOk N sc scope own := by
  unfold blkB at h
  simp only [Bool.and_eq_true, List.all_eq_true, decide_eq_true_eq, Bool.or_eq_true, Bool.not_eq_true', decide_eq_false_iff_not] at h
  obtain ⟨h1, h2, h3, h4, h5⟩ := h
  refine ⟨h1, h2, h3, fun y hy e => ?_, fun y hy e => ?_⟩
  · rcases h4 y hy with z | z
    · exact absurd e z
    · exact z
  · rcases h5 y hy with z | z
    · exact absurd e (by simpa using z)
    · exact z
/-! ### the hook with more facts -/
/-- an own exception class with its own __init__ -/
def oexB (K : PySem.W.Frag) (C : Addr) : Bool := (match K.lookup C with
  | some ⟨.type "type", _, .cls cd, sl⟩ => (match cd.mro, sl.toList with
    | .ref C' :: bm, [_, _, _, _, some (.builtin n), _] => C' == C && (n == "ValueError.__new__" && (!cd.hasDel && (cd.hasDict && PySem.HandSPX.refsVE bm)))
    | _, _ => false)
  | _ => false) && (decide (PySem.W.findIn K (.ref C) "__setattr__" = some (some (.builtin "object.__setattr__"))) && (decide (PySem.W.subIn K (.ref C) (.type "BaseException") = some true) && (decide (PySem.W.typeIn K (.ref C) = some (.type "type")) && PySem.W.keepIn K (.ref C))))
theorem oexB_ok {K : PySem.W.Frag} {C : Addr} (h : oexB K C = true) : OexC K C := by
  obtain ⟨q, h⟩ := Bool.and_eq_true_iff.mp h
  obtain ⟨h2, h⟩ := Bool.and_eq_true_iff.mp h
  obtain ⟨h3, h⟩ := Bool.and_eq_true_iff.mp h
  obtain ⟨h4, h5⟩ := Bool.and_eq_true_iff.mp h
  refine ⟨?_, of_decide_eq_true h2, of_decide_eq_true h3, of_decide_eq_true h4, h5⟩
  split at q
  · rename_i dd cd sl ho
    split at q
    · rename_i C' bm k0 k1 k2 k3 n k5 hm hs
      simp only [Bool.and_eq_true, beq_iff_eq, Bool.not_eq_true'] at q
      obtain ⟨rfl, rfl, hdel, hdct, hb⟩ := q
      obtain ⟨nm, bs, mro, ns, qn, hd, sn, sub, ab, col, del⟩ := cd
      dsimp only at hm hdel hdct
      subst hm hdel hdct
      have hsl : sl = #[k0, k1, k2, k3, some (.builtin "ValueError.__new__"), k5] := by
        obtain ⟨l⟩ := sl
        simp only at hs
        rw [hs]
      subst hsl
      exact ⟨nm, qn, ns, bs, bm, sn, sub, ab, col, dd, k0, k1, k2, k3, k5, ho, hb⟩
    · cases q
  · cases q
/-- Base.__init__ is ValueError's -/
def isVal (r : Option PySem.W.CFound) (n : String) : Bool := match r with
  | some (.val (.builtin m)) => m == n
  | _ => false
theorem isVal_ok {r : Option PySem.W.CFound} {n : String} (h : isVal r n = true) : r = some (.val (.builtin n)) := by
  cases r with
  | none => cases h
  | some c =>
    cases c with
    | get _ _ _ _ => cases h
    | val v =>
      cases v with
      | builtin m =>
        have : m = n := eq_of_beq h
        rw [this]
      | _ => cases h
def vinB (K : PySem.W.Frag) (C : Addr) : Bool := PySem.W.readsIn K C (.type "type") && (decide (PySem.W.specialIn K (.ref C) "__getattribute__" = some (some (.builtin "type.__getattribute__"))) && isVal (PySem.W.findCls K (.ref C) (.type "type") "__init__") "ValueError.__init__")
theorem vinB_ok {K : PySem.W.Frag} {C : Addr} (h : vinB K C = true) : ClX.CRead K C (.type "type") ∧ PySem.W.findCls K (.ref C) (.type "type") "__init__" = some (.val (.builtin "ValueError.__init__")) := by
  obtain ⟨h1, h⟩ := Bool.and_eq_true_iff.mp h
  obtain ⟨h2, h3⟩ := Bool.and_eq_true_iff.mp h
  exact ⟨⟨h1, of_decide_eq_true h2⟩, isVal_ok h3⟩
/-- further facts about the top's objects -/
inductive Fb where
  | tup (x : Str) (vs : List He.Dv) | lst (x : Str) (vs : List He.Dv) | xf (x : Str) | oex (x : Str) | vin (x : Str) | ini (x : Str) | tp0 (p : PySem.W.Frag → Addr) | vls (x : Str) (kvs : List (Str × Str))
/-- the empty tuple stands there -/
def tp0B (K : PySem.W.Frag) (a : Addr) : Bool := match K.lookup a with
  | some o => decide (o.cls = .type "tuple") && (match o.data with | .seq its _ => its.toList.isEmpty | _ => false)
  | none => false
theorem tp0B_ok {K : PySem.W.Frag} {a : Addr} (h : tp0B K a = true) (H : Hp) : SqT K H a [] := by
  unfold tp0B at h
  cases q : K.lookup a with
  | none => rw [q] at h; cases h
  | some o =>
    rw [q] at h
    obtain ⟨h1, h2⟩ := Bool.and_eq_true_iff.mp h
    split at h2
    · rename_i its n e
      have e2 : its.toList = [] := List.isEmpty_iff.mp h2
      exact .inr ⟨o, its, n, q, of_decide_eq_true h1, e, by rw [← Array.length_toList, e2]; exact Nat.zero_le _, by rw [e2]; exact .nil⟩
    · cases h2
def Fb.ok (K : PySem.W.Frag) : Fb → Bool
  | .tup x vs => He.tupB K x vs
  | .lst x vs => He.lstB K x vs
  | .xf x => xfB K (He.ga K x)
  | .oex x => oexB K (He.ga K x)
  | .vin x => vinB K (He.ga K x)
  | .tp0 p => tp0B K (p K)
  | .vls x kvs => He.valsB K (He.ga K x) (kvs.map fun q => (q.1, He.Dv.str q.2))
  | .ini x => decide (PySem.W.findIn K (.ref (He.ga K x)) "__init__" = some (some (.ref (He.ma K (He.ga K x) "__init__")))) && decide (PySem.W.typeIn K (.ref (He.ma K (He.ga K x) "__init__")) = some (.type "function"))
theorem ini_ok {K : PySem.W.Frag} {x : Str} (h : (Fb.ini x).ok K = true) : PySem.W.findIn K (.ref (He.ga K x)) "__init__" = some (some (.ref (He.ma K (He.ga K x) "__init__"))) ∧ PySem.W.typeIn K (.ref (He.ma K (He.ga K x) "__init__")) = some (.type "function") := by
  obtain ⟨h1, h2⟩ := Bool.and_eq_true_iff.mp h
  exact ⟨of_decide_eq_true h1, of_decide_eq_true h2⟩
abbrev AlM : Type := He.AlD × Bool
def obsM (fa : List He.Fa) (fn : List He.DefD) (fb : List Fb) (K : PySem.W.Frag) : AlM := (He.obsD fa fn K, fb.all fun f => f.ok K)
def SaysM (fa : List He.Fa) (fn : List He.DefD) (fb : List Fb) (K : PySem.W.Frag) : Prop := obsM fa fn fb K = (He.valD fn, true)
def obsMG (n : Nat) (fa : List He.Fa) (fn : List He.DefD) (fb : List Fb) (g : Addr → Option Obj) : AlM := obsM fa fn fb (He.frG g (PySem.cStatics :: He.asD g n))
def hookM (n : Nat) (fa : List He.Fa) (fn : List He.DefD) (fb : List Fb) : PySem.W.Hook where
  α := AlM
  obs := fun s => obsMG n fa fn fb s.heap.get?
  val := fun _ => (He.valD fn, true)
  says := fun _ h => ∃ K : PySem.W.Frag, K.In h ∧ SaysM fa fn fb K
  of := fun _ _ e => ⟨_, He.frG_in, e⟩
  keeps := fun _ _ _ ⟨K, hK, c⟩ k => ⟨K, PySem.W.Frag.In.keeps hK k, c⟩
theorem obsMG_eq {n : Nat} {fa : List He.Fa} {fn : List He.DefD} {fb : List Fb} {g : Addr → Option Obj} {s : Shared} (h : ∀ a, g a = s.heap.get? a) : obsMG n fa fn fb g = (hookM n fa fn fb).obs s := by
  have e : g = s.heap.get? := funext h
  rw [e] <;> rfl
section
variable {fa : List He.Fa} {fn : List He.DefD} {fb : List Fb} {K : PySem.W.Frag}
theorem SaysM.d (c : SaysM fa fn fb K) : He.SaysD fa fn K := congrArg (fun z : AlM => z.1) c
theorem SaysM.b (c : SaysM fa fn fb K) (i : Nat) {f : Fb} (h : fb[i]? = some f := by rfl) : f.ok K = true :=
  List.all_eq_true.mp (show (fb.all fun f => f.ok K) = true from congrArg (fun z : AlM => z.2) c) f (List.mem_of_getElem? h)
end
/-- a promise whose exceptions nobody wants -/
theorem FnOk.no {P : Program} {w : World} {K : PySem.W.Frag} {mg : Str → Option Value} {base : Heap} {k : Nat} {f : Addr} {fd : FuncData} {ps : List Str} {sp : Sp} (G : FnOk P w K mg base (L2.CX P w) k f fd ps sp) :
    FnOk P w K mg base L2.CX0 k f fd ps (fun vs H Q _ => sp vs H Q fun _ _ _ => False) :=
  ⟨fun vs H Q E h => G.len vs H Q _ h, fun A outer s H args us vs Q E hr he hb hv hs => codeAny_mono (G.run A outer s H args us vs Q _ hr he hb hv hs) fun r s' h => by
    cases r with
    | error e => obtain ⟨_, _, _, _, _, _, _, _, _, _, _, _, f⟩ := h; exact f.elim
    | ok fl => cases fl <;> exact h⟩
theorem any_mem {l : List Nat} {k : Nat} (h : l.any (Nat.beq k) = true) : k ∈ l := by
  obtain ⟨x, hx, e⟩ := List.any_eq_true.mp h
  rw [Nat.eq_of_beq_eq_true e]; exact hx
theorem un200 {k : Nat} {A : Around} (r : Room k A) : A.units + 200 < cLine := by have := r.un; omega
theorem un1 {k : Nat} {A : Around} (r : Room k A) : A.units + 1 < cLine := by have := r.un; omega
end Mi

set_option Elab.async false
set_option linter.all false
set_option autoImplicit false
set_option maxRecDepth 100000
set_option maxHeartbeats 2000000
namespace Mi
open PySem PySem.Spec L2
/-! ### dicts -/
def eDic0 : E := fun _ m => mk (.dic []) m
def dAt (m : MH) (l : Nat) : Option (List (Key × Val)) := match m.get l with
  | some (.dic kvs) => some kvs
  | _ => none
def isDn (v : Val) (m : MH) : RE Nat := match v with
  | .loc l => (match dAt m l with
    | some _ => .ok l m
    | none => .fail)
  | _ => .fail
def getD2 (l : Nat) (y z : Val) (m : MH) : RE Val := match dAt m l with
  | some kvs => (match keyOf y with
    | some k => (match klook kvs k with | some v => .ok v m | none => .ok z m)
    | none => .fail)
  | none => .fail
def setD2 (l : Nat) (y z : Val) (m : MH) : RE Val := match dAt m l with
  | some kvs => (match keyOf y with
    | some k => (match small kvs with
      | true => (match klook kvs k with | some v => .ok v m | none => .ok z (m.put l (.dic (kput kvs k z))))
      | false => .fail)
    | none => .fail)
  | none => .fail
def eD2 (op : Nat → Val → Val → MH → RE Val) (o k d : E) : E := fun sl m => (o sl m).bind fun a m1 => (nE (isDn a m1)).bind fun l m2 => (k sl m2).bind fun y m3 => (d sl m3).bind fun z m4 => nE (op l y z m4)
section
variable {cn : CN} {K : PySem.W.Frag} {H : Hp} {ρ : Nat → Addr} {m : MH}
theorem dic_at {l : Nat} {kvs : List (Key × Val)} (w : RH cn K m H ρ) (h : dAt m l = some kvs) : m.get l = some (.dic kvs) ∧ l < m.n ∧ ∃ gs, H (ρ l) = some (.dK gs) ∧ RKs K H ρ m.n kvs gs ∧ Mut (H (ρ l)) := by
  unfold dAt at h
  cases eo : m.get l with
  | none => rw [eo] at h; cases h
  | some ob =>
    obtain ⟨hl, ro⟩ := w.obj l ob eo
    rw [eo] at h
    cases ob with
    | dic xs => cases h; obtain ⟨gs, h1, h2⟩ := ro; exact ⟨rfl, hl, gs, h1, h2, by rw [h1]; trivial⟩
    | _ => cases h
theorem isDn_ok {a : Val} {x : V} {Q : Nat → Hp → Prop} {E : XK} (w : RH cn K m H ρ) (r : RV K H ρ m.n a x) (q : Run cn K (fun _ _ _ _ a b => a = b) (nE (isDn a m)) ρ H m.n Q E) : ∃ l, a = .loc l ∧ l < m.n ∧ x = .ref (ρ l) ∧ IsD H (ρ l) ∧ Q l H := by
  unfold isDn at q
  cases a with
  | loc l =>
    obtain ⟨rfl, hl⟩ := r.locL
    dsimp only at q
    cases e : dAt m l with
    | none => rw [e] at q; exact q.elim
    | some kvs =>
      rw [e] at q
      obtain ⟨_, _, gs, h1, _, _⟩ := dic_at w e
      exact ⟨l, rfl, hl, rfl, .inl ⟨gs, .inl h1⟩, q H ρ l w .refl rfl⟩
  | _ => exact q.elim
end
section
variable {cn : CN} {X : Cx} {W : WX} {o e f : Expr} {fo fe ff : E} {apos cpos pos : Pos}
theorem me_dic0 : PE X (.Dict [] [] pos) (TE' cn X.K W eDic0) := pe_imp pe_dnewK fun σ H Q ⟨sl, m, ρ, w, r⟩ p hp => Run.mk r w.h hp ⟨[], upd_same, rfl, .nil⟩
/-- from the dict's number on -/
theorem d2_step {op : Nat → Val → Val → MH → RE Val} {σ : L2.St} {H : Hp} {Q : VK} (h : TE' cn X.K W (eD2 op fo fe ff) σ H Q) :
    TE' cn X.K W fo σ H fun x H1 => ∃ a, x = .ref a ∧ IsD H1 a ∧ TE' cn X.K W fe σ H1 fun y H2 => TE' cn X.K W ff σ H2 fun z H3 => ∃ l b c m ρ, ρ l = a ∧ RH cn X.K m H3 ρ ∧ RV X.K H3 ρ m.n b y ∧ RV X.K H3 ρ m.n c z ∧ Run cn X.K RV (nE (op l b c m)) ρ H3 m.n Q (fun c d H' => W c d σ H') := by
  obtain ⟨sl, m, ρ, w, r⟩ := h
  refine TM.bind w r fun x H1 ρ1 m1 a w1 e1 r1 q => ?_
  obtain ⟨l, rfl, hl, rfl, hD, ρ2, m2, l2, rh2, e2, hll, q⟩ := isDn_ok w1.h r1 q.bind
  cases (show l2 = l from hll)
  refine ⟨_, rfl, hD, TM.bind (w1.ext e2 rh2) q fun y H3 ρ3 m3 b w3 e3 r3 q => TM.bind w3 q fun z H4 ρ4 m4 c w4 e4 r4 q => ?_⟩
  have eρ : ρ4 l = ρ1 l := by
    have l2' := Nat.lt_of_lt_of_le hl e2.le
    rw [e4.rho l (Nat.lt_of_lt_of_le l2' e3.le), e3.rho l l2', e2.rho l hl]
  exact ⟨l, b, c, m4, ρ4, eρ, w4.h, r3.ext e4, r4, q⟩
theorem me_get2 (hu : X.A.units + 1 < cLine) (ho : PE X o (TE' cn X.K W fo)) (he : PE X e (TE' cn X.K W fe)) (hf : PE X f (TE' cn X.K W ff)) (mm : M2 X o "get" apos e f cpos) : PE X (.Call (.Attribute o "get" apos) [e, f] [] cpos) (TE' cn X.K W (eD2 getD2 fo fe ff)) := by
  refine pe_imp (pe_dget2 hu ho he hf mm) fun σ H Q h => ?_
  obtain ⟨sl, m, ρ, w, r⟩ := d2_step h
  refine ⟨sl, m, ρ, w, r.post fun x H1 ⟨a, ex, hD, h2⟩ => ⟨a, ex, hD, ?_⟩⟩
  obtain ⟨sl, m, ρ, w, r⟩ := h2
  refine ⟨sl, m, ρ, w, r.post fun y H2 h3 => ?_⟩
  obtain ⟨sl, m, ρ, w, r⟩ := h3
  refine ⟨sl, m, ρ, w, r.post fun z H3 ⟨l, b, c, m3, ρ3, eρ, w3, r1, r2, q⟩ => ?_⟩
  unfold getD2 at q
  cases ed : dAt m3 l with
  | none => rw [ed] at q; exact q.elim
  | some kvs =>
    rw [ed] at q
    obtain ⟨_, hl, gs, h1, h2, _⟩ := dic_at w3 ed
    dsimp only at q
    cases ek : keyOf b with
    | none => rw [ek] at q; exact q.elim
    | some k =>
      rw [ek] at q
      dsimp only at q
      have ey := keyOf_kV r1 ek
      subst ey
      rw [← eρ]
      refine ⟨valV gs k, DGet.k h1, ?_⟩
      cases el : klook kvs k with
      | some v =>
        rw [el] at q
        obtain ⟨v', k1, k2⟩ := (h2.look (k := k)).1 v el
        rw [k1]
        exact Run.val (Run.nE (W' := fun _ _ _ => True) q) w3 k2
      | none =>
        rw [el] at q
        rw [(h2.look (k := k)).2 el]
        exact Run.val (Run.nE (W' := fun _ _ _ => True) q) w3 r2
theorem me_setd (ho : PE X o (TE' cn X.K W fo)) (he : PE X e (TE' cn X.K W fe)) (hf : PE X f (TE' cn X.K W ff)) (mm : M2 X o "setdefault" apos e f cpos) : PE X (.Call (.Attribute o "setdefault" apos) [e, f] [] cpos) (TE' cn X.K W (eD2 setD2 fo fe ff)) := by
  refine pe_imp (pe_dsetd ho he hf mm) fun σ H Q h => ?_
  obtain ⟨sl, m, ρ, w, r⟩ := d2_step h
  refine ⟨sl, m, ρ, w, r.post fun x H1 ⟨a, ex, hD, h2⟩ => ⟨a, ex, hD, ?_⟩⟩
  obtain ⟨sl, m, ρ, w, r⟩ := h2
  refine ⟨sl, m, ρ, w, r.post fun y H2 h3 => ?_⟩
  obtain ⟨sl, m, ρ, w, r⟩ := h3
  refine ⟨sl, m, ρ, w, r.post fun z H3 ⟨l, b, c, m3, ρ3, eρ, w3, r1, r2, q⟩ => ?_⟩
  unfold setD2 at q
  cases ed : dAt m3 l with
  | none => rw [ed] at q; exact q.elim
  | some kvs =>
    rw [ed] at q
    obtain ⟨_, hl, gs, h1, h2, mu⟩ := dic_at w3 ed
    dsimp only at q
    cases ek : keyOf b with
    | none => rw [ek] at q; exact q.elim
    | some k =>
      rw [ek] at q
      dsimp only at q
      cases es : small kvs with
      | false => rw [es] at q; exact q.elim
      | true =>
        rw [es] at q
        dsimp only at q
        have ey := keyOf_kV r1 ek
        subst ey
        have hlen : gs.length < sizeLine := by
          have e := congrArg List.length h2.1
          simp only [List.length_map] at e
          have := Nat.le_of_ble_eq_true es
          rw [sizeLine_eq]; omega
        rw [← eρ]
        refine ⟨gs, k, h1, rfl, hlen, fun v hv => ?_, fun hn => ?_⟩
        · cases el : klook kvs k with
          | some v0 =>
            rw [el] at q
            obtain ⟨v', k1, k2⟩ := (h2.look (k := k)).1 v0 el
            rw [hv] at k1
            cases k1
            exact Run.val (Run.nE (W' := fun _ _ _ => True) q) w3 k2
          | none => rw [(h2.look (k := k)).2 el] at hv; cases hv
        · cases el : klook kvs k with
          | some v0 =>
            obtain ⟨v', k1, k2⟩ := (h2.look (k := k)).1 v0 el
            rw [hn] at k1; cases k1
          | none =>
            rw [el] at q
            exact Run.chg (Run.nE (W' := fun _ _ _ => True) q) w3 hl mu ⟨_, upd_same, (RKs.put r2 h2).ext (.mut hl mu)⟩ r2
end
end Mi

set_option Elab.async false
set_option linter.all false
set_option autoImplicit false
set_option maxRecDepth 100000
set_option maxHeartbeats 2000000
/-! list(reversed(a tuple)) -/
namespace RTL
open PySem PySem.Spec PyProof.Rows RT
theorem nolen_rt : typeLookup (.type "reversed") "__len__" = pure none := by rw [typeLookup_type, builtinLookup_eq_fast]; kernel_rfl
theorem slot_rt_hint : Slot "reversed" "__length_hint__" "reversed.__length_hint__" :=
  .of (owner := "reversed") (n := "__length_hint__") (by rw [typeLookup_type, builtinLookup_eq_fast]; kernel_rfl) (by decide +kernel) (by decide +kernel) (by decide +kernel)
    (by first | exact .inl (by decide +kernel) | exact .inr (by decide +kernel)) (by rw [isSubtype_type]; kernel_rfl)
theorem entry_rt_hint : entryFor table "reversed.__length_hint__" = some Builtin.«reversed.__length_hint__» := entryFor_of_tree (by kernel_rfl)
theorem args_rt_hint (a : Value) : argsOk "reversed.__length_hint__" ⟨[a], []⟩ := by
  unfold argsOk; rw [signature?_of (id := "reversed.__length_hint__") (n := "__length_hint__".toList.reverse) (o := ['d', 'e', 's', 'r', 'e', 'v', 'e', 'r']) (by kernel_rfl) owner_rt]; kernel_rfl
section
variable {prog : Program} {w : World} {A : Around} {s : Shared} {R : Result → Shared → Prop} {it t : Addr} {items : Array Value} {E : Value → Shared → Prop}
theorem call_hint {n : Nat} {Q : Value → Shared → Prop} (hit : IsRt s.heap it t ((items.size : Int) - 1)) (ht : IsTup s.heap t items) (hn : items.size ≤ sizeLine)
    (h : ∀ k tk, s.toks ≤ tk → Q (.int (items.size : Int) k) { s with toks := tk }) :
    wpAny (model prog w) A (call (.builtin "reversed.__length_hint__") [.ref it]) Q E s := by
  obtain ⟨o, ho, hc, hd⟩ := id hit
  have hz := hn
  rw [sizeLine_eq] at hn
  refine wpAny_call_entry slot_rt_hint hit.typeIs entry_rt_hint ?_ (args_rt_hint _)
  unfold Builtin.«reversed.__length_hint__»
  refine wpAny_bind (wpAny_of_eq (a := Value.ref it) rfl ?_)
  refine wpAny_bind (wpAny_field ho hd (x := .ref t) rfl ?_)
  rw [if_neg (show ¬ ((Value.ref t == Value.none) = true) from fun h => nomatch h)]
  refine wpAny_bind (PyProof.Rows.len_tuple ht (by omega) ?_)
  try dsimp only
  refine wpAny_bind (wpAny_of_eq (a := some (items.size : Int)) rfl ?_)
  try dsimp only
  refine wpAny_bind (wpAny_field (s := { s with toks := s.toks + 1 + 1 }) ho hd (x := rawInt ((items.size : Int) - 1)) rfl ?_)
  show wpAny _ _ (if _ then _ else _) _ _ _
  rw [if_neg (by omega)]
  unfold retInt
  refine wpAny_bind (wpAny_mkInt ?_)
  refine wpAny_pure ⟨_, rfl, ?_⟩
  have e : (items.size : Int) - 1 + 1 = items.size := by omega
  rw [e]
  exact h _ _ (by show s.toks ≤ s.toks + 1 + 1 + 1; omega)
theorem walks (hh : A.handled = none) (hne : t ≠ it) (hn : items.size ≤ sizeLine) :
    WalksS prog w A it [it, t] [it] (fun a b => b = a) items.size (fun i v => items[items.size - 1 - i]? = some v) (fun i s => i ≤ items.size ∧ IsRt s.heap it t ((items.size : Int) - 1 - (i : Int)) ∧ IsTup s.heap t items) where
  sub := by simp
  grefl := fun _ => rfl
  gtrans := fun _ _ _ a b => b.trans a
  frame := fun i s h' tk ⟨a, b, c⟩ _ k => ⟨a, b.at fun o e => k it (by simp) o e, by
    obtain ⟨o, e, r⟩ := c
    exact ⟨o, k t (by simp) o e, r⟩⟩
  item := fun i s Q E hi ⟨a, b, c⟩ hQ => by
    have e1 : (items.size : Int) - 1 - (i : Int) = ((items.size - 1 - i : Nat) : Int) := by omega
    have hx : items[items.size - 1 - i]? = some items[items.size - 1 - i] := Array.getElem?_eq_getElem (by omega)
    rw [e1] at b
    refine next_rt_item b c hx hn fun h' b' sb => ?_
    have e2 : ((items.size - 1 - i : Nat) : Int) - 1 = (items.size : Int) - 1 - ((i + 1 : Nat) : Int) := by omega
    rw [e2] at b'
    have k : ∀ b o, b ≠ it → s.heap.get? b = some o → h'.get? b = some o := fun b o hb e => (sb.2 b hb).trans e
    refine hQ _ _ hx ⟨by omega, b', ?_⟩ ⟨fun b o hb e => k b o (fun e' => hb (by simp [e'])) e, rfl, rfl, rfl, Nat.le_succ _⟩
    obtain ⟨o, e, r⟩ := c
    exact ⟨o, k t o hne e, r⟩
  done := fun s Q E ⟨a, b, c⟩ hQ => by
    have e1 : (items.size : Int) - 1 - ((items.size : Nat) : Int) = -1 := by omega
    rw [e1] at b
    exact next_rt_end hh b fun h' eb => hQ _ ⟨fun b o hb e => eb b o (fun e' => hb (by simp [e'])) e, rfl, rfl, rfl, Nat.le_refl _⟩
  self := fun i s Q E ⟨a, b, c⟩ hQ => iter_rt b hQ

theorem list_len_hint {Q : Bool → Shared → Prop} (hit : IsRt s.heap it t ((items.size : Int) - 1)) (ht : IsTup s.heap t items) (hn : items.size ≤ sizeLine)
    (h : ∀ b tk, s.toks ≤ tk → Q b { s with toks := tk }) : wpAny (model prog w) A (Builtin.List.listLengthHint (.ref it)) Q E s := by
  have hT : s.TypeIs (.ref it) "reversed" := hit.typeIs
  have hz := hn
  rw [sizeLine_eq] at hn
  unfold Builtin.List.listLengthHint
  refine wpAny_bind (wpAny_specialOf hT nolen_rt ?_)
  show wpAny _ A (specialOf (Value.ref it) (Str.ofString "__length_hint__") >>= _) _ _ _
  refine wpAny_bind (wpAny_specialOf hT slot_rt_hint.lookup ?_)
  generalize hid : ("reversed.__length_hint__" : String) = id0
  wp_delta
  rw [show splitId id0 = some ("reversed", "__length_hint__") from by subst hid; decide +kernel]
  subst hid
  refine wpAny_bind (wpAny_isInstance (b := true) hT (by rw [isSubtype_type]; kernel_rfl) ?_)
  rw [if_neg (by decide)]
  try dsimp only
  rw [if_neg (by decide +kernel)]
  refine wpAny_bind (wpAny_rule ?_)
  rw [slot_rt_hint.bind]
  refine wpAny_bind (wpAny_pure ?_)
  refine wpAny_bind (wpAny_attempt (call_hint (n := 0) hit ht hz fun k tk hk => ?_))
  try dsimp only
  have hA : asInt? (.int (items.size : Int) k) = pure (some (items.size : Int)) := rfl
  rw [hA]
  generalize hm : (pure (some (items.size : Int)) : Sem (Option Int)) = mm
  refine wpAny_bind ?_
  subst hm
  refine wpAny_pure ?_
  have f1 : Builtin.List.listFitsIndex (items.size : Int) = true := by
    unfold Builtin.List.listFitsIndex; simp only [Bool.and_eq_true, decide_eq_true_eq]; omega
  have f2 : Builtin.List.listTooLong (items.size : Int).toNat = false := by
    unfold Builtin.List.listTooLong; simp only [Int.toNat_natCast]; exact decide_eq_false (by omega)
  try dsimp only
  rw [if_neg (by rw [f1]; decide)]
  try dsimp only
  rw [if_neg (by omega : ¬ ((items.size : Int) < 0))]
  try dsimp only
  rw [if_neg (by rw [f2]; decide)]
  exact wpAny_pure (h _ _ hk)
theorem extend_rt (hh : A.handled = none) (hne : t ≠ it) (hn : items.size ≤ sizeLine) (S : Addr) (res : Value) (c₀ : Nat) (hit : IsRt s.heap it t ((items.size : Int) - 1)) (ht : IsTup s.heap t items) (hSf : S ∉ [it, t])
    (hS : s.heap.get? S = some { cls := .type "list", data := .seq #[] c₀ })
    (hR : ∀ s' acc' c', Moved (S :: [it]) (fun a b => b = a) s s' → s'.heap.get? S = some { cls := .type "list", dict := none, data := .seq acc' c', slots := #[] } → ItemsOf (fun i v => items[items.size - 1 - i]? = some v) acc' items.size → R (.ok (.ret res)) s') :
    wpAny (model prog w) A.in1 (Builtin.List.listExtendWith (.ref S) (.ref it) res)
      (fun fin s' => match fin with | .done f => R (.ok f) s' | .again c' => c'.quiet = true ∧ codeAny (model prog w) A c' R s') (fun e s' => R (.error e) s') s := by
  have W := walks (prog := prog) (w := w) (A := A.in1) (it := it) (t := t) (items := items) hh hne hn
  have hSI : S ≠ it := fun e => hSf (by simp [e])
  have hSt : S ≠ t := fun e => hSf (by simp [e])
  have hT : s.TypeIs (.ref it) "reversed" := hit.typeIs
  unfold Builtin.List.listExtendWith
  refine wpAny_bind (wpAny_typeOf hT ?_)
  have h1 : Builtin.List.listSameRef (.ref S) (.ref it) = false := by simp [Builtin.List.listSameRef, hSI]
  have h2 : (Value.type "reversed" == Value.type "list") = false := by decide
  have h3 : (Value.type "reversed" == Value.type "tuple") = false := by decide
  simp only [h1, h2, h3, Bool.or_false, Bool.false_eq_true, if_false]
  refine wpAny_bind (iter_rt hit ?_)
  refine wpAny_bind (wpAny_holding ?_)
  refine list_len_hint hit ht hn fun b tk hk => ?_
  have go : ∀ (h' : Heap), (∀ b o, b ≠ S → s.heap.get? b = some o → h'.get? b = some o) → (∃ c1, h'.get? S = some { cls := .type "list", dict := none, data := .seq #[] c1, slots := #[] }) →
      wpAny (model prog w) A.in1 (again (.builtin "list.extend.loop" ⟨[.ref S, .ref it, res], []⟩))
      (fun fin s' => match fin with | .done f => R (.ok f) s' | .again c' => c'.quiet = true ∧ codeAny (model prog w) A c' R s') (fun e s' => R (.error e) s') { s with heap := h', toks := tk } := by
    intro h' oth ⟨c1, e1⟩
    have e0 : ((items.size : Nat) : Int) - 1 - ((0 : Nat) : Int) = (items.size : Int) - 1 := by omega
    refine wpAny_pure ⟨plainId_quiet F.plain_extend_loop _, codeAny_extend_loopS W hn _ hSf _ items.size 0 _ _ _ rfl (Nat.zero_le _) ⟨Nat.zero_le _, by rw [e0]; exact hit.at fun o e => oth _ o (Ne.symm hSI) e, ?_⟩ e1 (ItemsOf.nil _) fun s' acc' c' hm hS' hacc => ?_⟩
    · obtain ⟨o, e, r⟩ := ht
      exact ⟨o, oth _ o (Ne.symm hSt) e, r⟩
    · exact hR s' acc' c' (Moved.trans W.gtrans ((Moved.refl (wr := S :: [it]) (G := fun a b => b = a) (s := s) W.grefl).then_heap hk fun b o hb e => oth b o (fun h => hb (h ▸ List.mem_cons_self)) e) hm) hS' hacc
  cases b with
  | true =>
    show wpAny _ A.in1 (rule "list.extend.makes-room" >>= fun _ => Builtin.List.listTouch (.ref S) >>= fun _ =>
      again (.builtin "list.extend.loop" ⟨[.ref S, .ref it, res], []⟩)) _ _ _
    refine wpAny_bind (wpAny_rule ?_)
    refine wpAny_bind ?_
    show wpAny _ A.in1 (updateSeq S (·.push .none) >>= fun _ => updateSeq S (·.pop)) _ _ _
    refine wpAny_bind (wpAny_updateSeq (s := { s with toks := tk }) hS rfl ?_)
    have hS₂ := Heap.get?_update_self (Obj.mapSeq (·.push Value.none)) hS rfl
    refine wpAny_updateSeq (hz := by seq_fits) hS₂ rfl ?_
    have hS₃ := Heap.get?_update_self (Obj.mapSeq (·.pop)) hS₂ rfl
    exact go _ (fun b o hb e => (Heap.get?_update_other _ _ (Ne.symm hb)).trans ((Heap.get?_update_other _ _ (Ne.symm hb)).trans e)) ⟨_, hS₃⟩
  | false =>
    rw [if_neg (by decide +kernel)]
    exact go _ (fun b o hb e => e) ⟨_, hS⟩

theorem list_init_rt (hh : A.handled = none) (hne : t ≠ it) (hn : items.size ≤ sizeLine) (S : Addr) (hit : IsRt s.heap it t ((items.size : Int) - 1)) (ht : IsTup s.heap t items) (hSf : S ∉ [it, t])
    (hS : s.heap.get? S = some { cls := .type "list", data := .seq #[] })
    (hR : ∀ s' acc' c', Moved (S :: [it]) (fun a b => b = a) s s' → s'.heap.get? S = some { cls := .type "list", dict := none, data := .seq acc' c', slots := #[] } → ItemsOf (fun i v => items[items.size - 1 - i]? = some v) acc' items.size → R (.ok (.ret .none)) s') :
    wpAny (model prog w) A.in1 (Builtin.«list.__init__» ⟨[.ref S, .ref it], []⟩)
      (fun fin s' => match fin with | .done f => R (.ok f) s' | .again c' => c'.quiet = true ∧ codeAny (model prog w) A c' R s') (fun e s' => R (.error e) s') s := by
  show wpAny _ A.in1 (do let old ← Builtin.List.listItems (.ref S); Builtin.List.listUpdate (.ref S) (fun _ => #[]); letGo old.toList.reverse; Builtin.List.listExtendWith (.ref S) (.ref it) .none) _ _ s
  have hSI : S ≠ it := fun e => hSf (by simp [e])
  have hSt : S ≠ t := fun e => hSf (by simp [e])
  refine wpAny_bind ?_
  unfold Builtin.List.listItems
  refine wpAny_bind (wpAny_seqItems hS rfl (wpAny_pure ?_))
  show wpAny _ A.in1 (updateSeq S (fun _ => #[]) >>= fun _ => letGo (#[] : Array Value).toList.reverse >>= fun _ => Builtin.List.listExtendWith (.ref S) (.ref it) .none) _ _ s
  refine wpAny_bind (wpAny_updateSeq hS rfl ?_)
  have hS₂ := Heap.get?_update_self (Obj.mapSeq (fun _ => (#[] : Array Value))) hS rfl
  have oth : ∀ b o, b ≠ S → s.heap.get? b = some o → (s.heap.update S (Obj.mapSeq (fun _ => (#[] : Array Value)))).get? b = some o :=
    fun b o hb e => (Heap.get?_update_other _ _ (Ne.symm hb)).trans e
  refine wpAny_bind (wpAny_letGo ?_)
  refine extend_rt hh hne hn S .none _ (hit.at fun o e => oth _ o (Ne.symm hSI) e) (by obtain ⟨o, e, r⟩ := ht; exact ⟨o, oth _ o (Ne.symm hSt) e, r⟩) hSf hS₂ fun s' acc' c' hm hS' hacc => ?_
  exact hR s' acc' c' (Moved.trans (fun _ _ _ a b => b.trans a) ((Moved.refl (wr := S :: [it]) (G := fun a b => b = a) (s := s) (fun _ => rfl)).then_heap (Nat.le_refl _) fun b o hb e => oth b o (fun h => hb (h ▸ List.mem_cons_self)) e) hm) hS' hacc
theorem call_list_rt {Q : Value → Shared → Prop} (hh : A.handled = none) (hne : t ≠ it) (hn : items.size ≤ sizeLine) (hit : IsRt s.heap it t ((items.size : Int) - 1)) (ht : IsTup s.heap t items)
    (hQ : ∀ s' acc' c', Moved (s.heap.objs.size :: [it]) (fun a b => b = a) { s with heap := s.heap.push { cls := .type "list", data := .seq #[] } } s' →
      s'.heap.get? s.heap.objs.size = some { cls := .type "list", dict := none, data := .seq acc' c', slots := #[] } → ItemsOf (fun i v => items[items.size - 1 - i]? = some v) acc' items.size → Q (.ref s.heap.objs.size) s') :
    wpAny (model prog w) A (call (.type "list") [.ref it]) Q E s := by
  obtain ⟨oi, hoi, _⟩ := id hit
  obtain ⟨ot, hot, _⟩ := id ht
  have hSi : s.heap.objs.size ≠ it := Nat.ne_of_gt (Heap.lt_size hoi)
  have hSt : s.heap.objs.size ≠ t := Nat.ne_of_gt (Heap.lt_size hot)
  refine callType_codes (Q₁ := fun obj s₁ => obj = .ref s.heap.objs.size ∧ s₁ = { s with heap := s.heap.push { cls := .type "list", data := .seq #[] } }) F.called_list (F.typeCall_list_1 _) F.entry_list_init
    (code_list_new _ ⟨rfl, rfl⟩) fun obj s₁ h₁ => ?_
  obtain ⟨rfl, rfl⟩ := h₁
  have hit1 : IsRt (s.heap.push { cls := .type "list", data := .seq #[] }) it t ((items.size : Int) - 1) := hit.at fun o e => Heap.get?_push_of_some _ e
  have ht1 : IsTup (s.heap.push { cls := .type "list", data := .seq #[] }) t items := by obtain ⟨o, e, r⟩ := ht; exact ⟨o, Heap.get?_push_of_some _ e, r⟩
  have hSf : s.heap.objs.size ∉ [it, t] := by simp [hSi, hSt]
  have hS : (s.heap.push { cls := .type "list", data := .seq #[] }).get? s.heap.objs.size = some { cls := .type "list", data := .seq #[] } := Heap.get?_push_size _ rfl
  refine ⟨⟨_, hS, rfl⟩, F.args_list_init_2 _ _, list_init_rt (A := A.in1) (s := { s with heap := s.heap.push { cls := .type "list", data := .seq #[] } }) hh hne hn _ hit1 ht1 hSf hS fun s' acc' c' hm hS' hacc => ?_⟩
  exact ⟨rfl, hQ s' acc' c' hm hS' hacc⟩
end
open L2
section
variable {X : Cx}
def tListRev (K : PySem.W.Frag) (te : TE) : TE := fun σ H Q => te σ H fun v H1 => ∃ (a : Addr) (xs : List V), v = .ref a ∧ SqT K H1 a xs ∧ ∀ q, H1 q = none → Q (.ref q) (upd H1 q (.lst xs.reverse))
theorem pe_listRev {e : Expr} {te : TE} {p p2 pos pos2 : Pos} (hc : X.calm = true) (hg : Gl X "list") (hm : X.mg "list" = none) (hg2 : Gl X "reversed") (hm2 : X.mg "reversed" = none) (he : PE X e te)
    (hs : starEach [e] X.env = (false, eval e X.env) :: starEach [] X.env := by rfl)
    (hs2 : starEach [.Call (.Name "reversed" p2) [e] [] pos2] X.env = (false, eval (.Call (.Name "reversed" p2) [e] [] pos2) X.env) :: starEach [] X.env := by rfl) :
    PE X (.Call (.Name "list" p) [.Call (.Name "reversed" p2) [e] [] pos2] [] pos) (tListRev X.K te) := by
  refine ⟨fun pins s σ H Q I h => ?_⟩
  refine Call_ (ld_blt I hg hm PyProof.Rows.boot_list (PyProof.Rows.callWith_type1 (args_cons (Call_ (ld_blt I hg2 hm2 PyProof.Rows.boot_reversed (PyProof.Rows.callWith_type1 (args_cons (thn (he.run pins s σ H _ I h) fun u s1 ⟨v, H1, I1, r1, q1⟩ => args_nil ?_) hs) hs rfl))) hs2) hs2 rfl))
  obtain ⟨a, xs, ev, hq, q⟩ := q1
  subst ev
  obtain rfl : u = Value.ref a := r1
  obtain ⟨its, rv, p', hz⟩ := I1.tuple hq
  have hn : its.toArray.size ≤ sizeLine := by rw [List.size_toArray, ← rv.length]; exact hz
  have hz' := hn
  rw [sizeLine_eq] at hz'
  refine call_reversed_tup p' (fun A E Q hQ => PyProof.Rows.len_tuple p' (by omega) hQ) (args_nil ?_)
  have I2 : Inv X pins σ H1 { s1 with heap := s1.heap.push (rtObj a ((its.toArray.size : Int) - 1)), toks := s1.toks + 1 + 1 } := I1.kept (t' := s1.toks + 1 + 1) fun b o e => Heap.get?_push_of_some _ e
  have fp := I1.fpOk (H' := H1) (b := s1.heap.objs.size) (Nat.le_refl _) (I1.hok.fresh (Nat.le_refl _))
  obtain ⟨ol, hol, _⟩ := id p'
  have hne : a ≠ s1.heap.objs.size := Nat.ne_of_lt (Heap.lt_size hol)
  refine call_list_rt (s := { s1 with heap := s1.heap.push (rtObj a ((its.toArray.size : Int) - 1)), toks := s1.toks + 1 + 1 }) (t := a) (it := s1.heap.objs.size) (items := its.toArray) (I1.ok.hd hc) hne hn ⟨_, Heap.get?_push_size _ rfl, rfl, rfl⟩ (by obtain ⟨o, e, r⟩ := p'; exact ⟨o, Heap.get?_push_of_some _ e, r⟩) fun s' acc' c' hm' hS' hacc => ?_
  have eqs := PySem.Moved.eq_with hm'
  rw [eqs]
  have hp := I2.hok.fresh (Nat.le_refl _)
  refine ⟨.ref _, upd H1 _ (.lst xs.reverse), I2.turnedNew (t' := s'.toks) (ch := [s1.heap.objs.size]) (fun b o hb e => hm'.heap b o (fun hmem => ?_) (Heap.get?_push_of_some _ e)) (fun b hb => ?_) (Nat.le_refl _) (show ObjOk X.prog X.w _ _ _ (.lst xs.reverse) from ⟨by rw [List.length_reverse]; exact hz, acc'.toList, c', vals_rev rv hacc, ?_⟩), rfl, q _ hp⟩
  · rcases List.mem_cons.mp hmem with e' | hmem
    · exact absurd (Heap.lt_size e) (by rw [e']; exact Nat.lt_irrefl _)
    · exact hb hmem
  · rw [List.mem_singleton.mp hb]; exact fp
  · rw [Array.toArray_toList]; exact hS'
end
end RTL
namespace Mi
open PySem PySem.Spec PyProof.Rows L2
section
variable {cn : CN} {X : Cx} {W : WX} {o e f : Expr} {fo fe ff : E} {apos cpos pos : Pos}
def bRevT : Val → MH → RE Val := fun v m => match wk v with | .tup xs => mk (.lst xs.reverse) m | _ => .fail
theorem me_lrev {e : Expr} {fe : E} {p p2 pos pos2 : Pos} (hc : X.calm = true) (hg : Gl X "list") (hm : X.mg "list" = none) (hg2 : Gl X "reversed") (hm2 : X.mg "reversed" = none) (he : PE X e (TE' cn X.K W fe))
    (hs : starEach [e] X.env = (false, eval e X.env) :: starEach [] X.env := by rfl)
    (hs2 : starEach [.Call (.Name "reversed" p2) [e] [] pos2] X.env = (false, eval (.Call (.Name "reversed" p2) [e] [] pos2) X.env) :: starEach [] X.env := by rfl) :
    PE X (.Call (.Name "list" p) [.Call (.Name "reversed" p2) [e] [] pos2] [] pos) (TE' cn X.K W (eUn bRevT fe)) := by
  refine pe_imp (RTL.pe_listRev hc hg hm hg2 hm2 he hs hs2) fun σ H Q ⟨sl, m, ρ, w, r⟩ => ?_
  refine TM.bind w r fun x H1 ρ1 m1 u w1 e1 r1 q => ?_
  have q := Run.nE (W' := fun _ _ _ => True) q
  unfold bRevT at q
  have r1 := r1.wk
  generalize wk u = u at q r1
  split at q
  · obtain ⟨p, vs, rfl, h1, rs⟩ := r1.tupL
    exact ⟨p, vs, rfl, h1, fun l hl => Run.mkLst q w1.h rs.reverse hl⟩
  · exact q.elim
theorem pt_if {c a b : Expr} {tA tB tC : TT} (hc : PT X c tA) (ha : PT X a tB) (hb : PT X b tC) : PT X (.IfExp c a b pos) (fun σ H Q => tA σ H fun d H1 => match d with | true => tB σ H1 Q | false => tC σ H1 Q) := by
  refine ⟨fun pins s σ H Q I h => ?_⟩
  show wpAny _ _ (isTrue c X.env (eval c X.env) >>= fun d => if d then isTrue a X.env (eval a X.env) else isTrue b X.env (eval b X.env)) _ _ _
  refine wpAny_bind (thn (hc.run pins s σ H _ I h) fun d s1 ⟨H1, I1, q1⟩ => ?_)
  cases d with
  | true => exact ha.run pins s1 σ H1 _ I1 q1
  | false => exact hb.run pins s1 σ H1 _ I1 q1
def tIf' (tf f g : ET) : ET := fun sl m => (tf sl m).bind fun c m1 => match c with | true => f sl m1 | false => g sl m1
theorem mt_if {c a b : Expr} {tf f g : ET} (hc : PT X c (TT' cn X.K W tf)) (ha : PT X a (TT' cn X.K W f)) (hb : PT X b (TT' cn X.K W g)) : PT X (.IfExp c a b pos) (TT' cn X.K W (tIf' tf f g)) := by
  refine pt_imp (pt_if hc ha hb) fun σ H Q ⟨sl, m, ρ, w, r⟩ => ?_
  refine TM.bind w r fun c H1 ρ1 m1 u w1 e1 r1 q => ?_
  cases (show u = c from r1)
  cases c with
  | true => exact ⟨sl, m1, ρ1, w1, q⟩
  | false => exact ⟨sl, m1, ρ1, w1, q⟩
end
end Mi

set_option Elab.async false
set_option linter.all false
set_option autoImplicit false
set_option maxRecDepth 100000
set_option maxHeartbeats 2000000
/-! list.extend by a tuple -/
namespace EXT
open PySem PySem.Spec PyProof.Rows L2
theorem meets_tup (l : Addr) (items : Array Value) (n : Nat) (b : Addr) (items2 : Array Value) (hz : items.size + items2.size ≤ sizeLine) :
    Meets (Builtin.«list.extend» ⟨[.ref l, .ref b], []⟩) (fun _ R s => s.heap.get? l = some { cls := .type "list", dict := none, data := .seq items n, slots := #[] } ∧ IsTup s.heap b items2 ∧ R (.ok (.ret Value.none)) { s with heap := s.heap.update l (Obj.mapSeq fun x => x ++ items2) }) :=
  .of_wp fun prog w A R s h => by
    obtain ⟨hl, ⟨o, hb, hc, n2, hd⟩, h⟩ := h
    show wpAny _ _ (Builtin.List.listExtendWith (.ref l) (.ref b) .none) _ _ s
    have hlb : l ≠ b := fun e => by
      subst e
      rw [hl] at hb
      have e1 : o.cls = .type "list" := by rw [← Option.some.inj hb]
      rw [hc] at e1
      exact absurd e1 (by decide)
    unfold Builtin.List.listExtendWith
    refine wpAny_bind (wpAny_typeOf (T := "tuple") ⟨o, hb, hc⟩ ?_)
    have h1 : Builtin.List.listSameRef (.ref l) (.ref b) = false := by simp [Builtin.List.listSameRef, hlb]
    have h2 : (Value.type "tuple" == Value.type "list") = false := by decide
    have h3 : (Value.type "tuple" == Value.type "tuple") = true := by decide
    simp only [h1, h2, h3, Bool.or_false, Bool.false_or, if_true]
    refine wpAny_bind ?_
    unfold Builtin.List.listItems
    refine wpAny_bind (wpAny_seqItems hb hd (wpAny_pure ?_))
    refine wpAny_bind (wpAny_bind (wpAny_seqItems hl rfl (wpAny_pure ?_)))
    have hlong : ¬ (!items.isEmpty && Builtin.List.listTooLong (items.size + items2.size)) = true := by
      rw [notLongL hz, Bool.and_false]
      exact Bool.false_ne_true
    rw [if_neg hlong]
    show wpAny _ _ (updateSeq l (· ++ items2) >>= fun _ => _) _ _ s
    refine wpAny_bind (wpAny_updateSeq hl rfl ?_ (hz := by omega) (_hz' := by rw [Array.size_append]; omega))
    exact wpAny_pure ⟨_, rfl, h⟩
def rExtT (K : PySem.W.Frag) : V → List V → Hp → VK → Prop := fun x vs H Q => ∃ l b xs zs, x = .ref l ∧ vs = [.ref b] ∧ H l = some (.lst xs) ∧ SqT K H b zs ∧ xs.length + zs.length ≤ sizeLine ∧ Q .non (upd H l (.lst (xs ++ zs)))
theorem mt_extT {X : Cx} : MtM X "list.extend" (rExtT X.K) := by
  intro pins s σ H x vs v us Q I rx rv h
  obtain ⟨l, b, xs, zs, rfl, rfl, hH, hB, hz, q⟩ := h
  cases rx
  obtain ⟨u, rfl, ru⟩ := rv.one
  cases ru
  obtain ⟨z, its, n, r, hl, e⟩ := I.lstM hH
  obtain ⟨its2, r2, p2, z2⟩ := I.tuple hB
  have l2 := r2.length
  refine call_meets F.slot_list_extend ⟨_, e, rfl⟩ F.entry_list_extend (F.args_list_extend_2 _ _)
    (meets_tup l its.toArray n b its2.toArray (by rw [List.size_toArray, List.size_toArray]; omega)) ⟨e, p2, ?_⟩
  refine ⟨.non, _, I.lset (its' := its ++ its2) hH e (by simp) (r.append r2) ?_, rfl, q⟩
  rw [List.length_append]
  omega
end EXT
namespace Mi
open PySem PySem.Spec PyProof.Rows L2
section
variable {cn : CN} {X : Cx}
def lExtend2 : BM := fun v vs m => match vs.map wk with
  | [.tup ys] => (match v with
    | .loc l => (match m.get l with
      | some (.lst xs) => (match small xs && small ys with
        | true => .ok .non (m.put l (.lst (xs ++ ys)))
        | false => .fail)
      | _ => .fail)
    | _ => .fail)
  | _ => lExtend v (vs.map wk) m
theorem m_extend2 : MtR X "list.extend" (rB cn X.K lExtend2) := by
  intro pins s σ H x xs v us Q I rx rs ⟨a, as, m, ρ, w, rv, rvs, q⟩
  unfold lExtend2 at q
  have rvs := rvs.wk
  generalize as.map wk = as at q rvs
  split at q
  · rename_i ys
    obtain ⟨y', rfl, r1⟩ := rvs.one
    obtain ⟨p, ws, rfl, k1, k2⟩ := r1.tupL
    split at q
    · rename_i l
      obtain ⟨rfl, _⟩ := rv.locL
      split at q
      · rename_i zs eo
        obtain ⟨hl, us', h1, h2, mu⟩ := lst_at w eo
        cases es : small zs && small ys with
        | false => rw [es] at q; exact q.elim
        | true =>
          rw [es] at q
          obtain ⟨s1, s2⟩ := Bool.and_eq_true_iff.mp es
          have a1 := Nat.le_of_ble_eq_true s1
          have a2 := Nat.le_of_ble_eq_true s2
          exact EXT.mt_extT pins s σ H _ _ v us Q I rx rs ⟨_, _, us', ws, rfl, rfl, h1, k1, by rw [← h2.length, ← k2.length, sizeLine_eq]; omega, Run.chg q w hl mu ⟨_, upd_same, (h2.append k2).ext (.mut hl mu)⟩ .non⟩
      · exact q.elim
    · exact q.elim
  · exact m_extend pins s σ H x xs v us Q I rx rs ⟨a, as, m, ρ, w, rv, rvs, q⟩
end
end Mi

set_option Elab.async false
set_option linter.all false
set_option autoImplicit false
set_option maxRecDepth 100000
set_option maxHeartbeats 2000000
/-! a call that sees nothing of the heap, and that leaves it alone: it may be computed by itself -/
namespace Mi
open PySem PySem.Spec L2
/-- no objects within -/
def pureV : Nat → Val → Bool
  | 0, _ => false
  | f + 1, v => match v with
    | .tup xs => xs.all fun x => pureV f x
    | .dtp xs => xs.all fun x => pureV f x
    | .loc _ => false
    | .klst _ => false
    | _ => true
section
variable {cn : CN} {K : PySem.W.Frag} {H H' : Hp} {ρ ρ' : Nat → Addr} {n n' : Nat} {m : MH}
theorem RVs.all {xs : List Val} {vs : List V} {p : Val → Bool} (h : ∀ x v, p x = true → RV K H ρ n x v → RV K H' ρ' n' x v) (r : RVs K H ρ n xs vs) (hp : xs.all p = true) : RVs K H' ρ' n' xs vs := by
  induction xs generalizing vs with
  | nil => cases r; exact .nil
  | cons x xs ih =>
    cases r with
    | cons a b =>
      rw [List.all_cons, Bool.and_eq_true] at hp
      exact .cons (h _ _ hp.1 a) (ih b hp.2)
theorem RV.pure (t : Tp K H H') : ∀ (f : Nat) (x : Val) (v : V), pureV f x = true → RV K H ρ n x v → RV K H' ρ' n' x v
  | 0, _, _, h, _ => by cases h
  | f + 1, x, v, h, r => by
    cases r with
    | non => exact .non
    | bl b => exact .bl b
    | int i => exact .int i
    | str x => exact .str x
    | ty x => exact .ty x
    | loc h' => cases h
    | klst a b => cases h
    | tup a b => exact .tup (t.t _ _ a) (b.all (fun x v => RV.pure t f x v) h)
    | dtp a b => exact .dtp (t.d _ _ a) (b.all (fun x v => RV.pure t f x v) h)
theorem rh_stay (w : RH cn K m H ρ) (t : Tp K H H') (k : ∀ a u, H a = some u → H' a = some u) : RH cn K m H' ρ := by
  have e : Ext K ρ H m.n ρ H' m.n := ⟨Nat.le_refl _, fun _ _ => rfl, t, fun a u h q => ⟨k a u h, q⟩⟩
  refine ⟨w.bd, fun i o h => ?_, w.all, w.inj⟩
  obtain ⟨h1, h2⟩ := w.obj i o h
  obtain ⟨u, hu⟩ := w.some h1
  exact ⟨h1, h2.ext e ((k _ u hu).trans hu.symm)⟩
theorem rh0 : RH cn K ⟨0, .nil⟩ H ρ := ⟨Nat.zero_le _, fun i o q => (by cases q), fun i h => absurd h (Nat.not_lt_zero _), fun i j h => absurd h (Nat.not_lt_zero _)⟩
end
/-- the result of a call by itself, in a heap that goes on -/
def isoR (r : RE Val) (m : MH) : RE Val := match r with
  | .ok v m' => (match pureV 60 v with
    | true => .ok v m
    | false => (match v with
      | .loc i => (match m'.get i with
        | some (.lst xs) => (match xs.all (pureV 60) with
          | true => mk (.lst xs) m
          | false => .fail)
        | _ => .fail)
      | _ => .fail))
  | _ => .fail
def isoM (φ : FM) : FM := fun as m => match as.all (pureV 60) with
  | true => isoR (φ as ⟨0, .nil⟩) m
  | false => .fail
theorem iso_ok {cn : CN} {K : PySem.W.Frag} {n : Nat} {φ : FM} {vs : List V} {H : Hp} {Q : VK} {E : XK} (h : spM cn K n (isoM φ) vs H Q E) : spM cn K n φ vs H Q E := by
  obtain ⟨hl, as, m, ρ, w, ra, q⟩ := h
  unfold isoM at q
  cases ep : as.all (pureV 60) with
  | false => rw [ep] at q; exact q.elim
  | true =>
    rw [ep] at q
    refine ⟨hl, as, ⟨0, .nil⟩, ρ, rh0, ra.all (fun x v => RV.pure .refl 60 x v) ep, ?_⟩
    cases er : φ as ⟨0, .nil⟩ with
    | fail => rw [er] at q; exact q.elim
    | err e m' => rw [er] at q; exact q.elim
    | ok v m' =>
      rw [er] at q
      unfold isoR at q
      intro H' ρ' x w' ex r
      have fr : ∀ a u, H a = some u → H' a = some u ∧ ∀ i, i < m'.n → ρ' i ≠ a := fun a u hu => ex.fr a u hu fun i hi => absurd hi (Nat.not_lt_zero _)
      cases epv : pureV 60 v with
      | true =>
        simp only [epv] at q
        exact q H' ρ x (rh_stay w ex.tup fun a u hu => (fr a u hu).1) ⟨Nat.le_refl _, fun _ _ => rfl, ex.tup, fun a u hu k => ⟨(fr a u hu).1, k⟩⟩ (RV.pure .refl 60 v x epv r)
      | false =>
        simp only [epv] at q
        split at q
        · rename_i i
          obtain ⟨rfl, hi⟩ := r.locL
          split at q
          · rename_i xs eg
            obtain ⟨_, us, ho, ru⟩ := w'.obj i _ eg
            cases ex2 : xs.all (pureV 60) with
            | false => rw [ex2] at q; exact q.elim
            | true =>
              rw [ex2] at q
              dsimp only at q
              let p := ρ' i
              let H0 : Hp := fun a => if a = p then none else H' a
              have h0 : H0 p = none := if_pos rfl
              have hn : ∀ a, a ≠ p → H0 a = H' a := fun a ne => if_neg ne
              have hne : ∀ a u, H a = some u → a ≠ p := fun a u hu e => (fr a u hu).2 i hi e.symm
              have t0 : Tp K H' H0 := ⟨fun b zs z => by
                rcases z with z | z
                · have ne : b ≠ p := fun e => by
                    subst e
                    rcases z with z | ⟨o, z⟩
                    · exact absurd (ho.symm.trans z) (fun e => by cases e)
                    · exact absurd (ho.symm.trans z) (fun e => by cases e)
                  refine .inl ?_
                  unfold Rd
                  rw [hn b ne]
                  exact z
                · exact .inr z, fun b zs z => by
                rcases z with ⟨o, z⟩ | z
                · have ne : b ≠ p := fun e => by
                    subst e
                    exact absurd (ho.symm.trans z) (fun e => by cases e)
                  exact .inl ⟨o, by rw [hn b ne]; exact z⟩
                · exact .inr z, fun b zs z => by
                rcases z with ⟨o, z, zd⟩ | z
                · have ne : b ≠ p := fun e => by
                    subst e
                    exact absurd (ho.symm.trans z) (fun e => by cases e)
                  exact .inl ⟨o, by rw [hn b ne]; exact z, zd⟩
                · exact .inr z⟩
              have k0 : ∀ a u, H a = some u → H0 a = some u := fun a u hu => (hn a (hne a u hu)).trans (fr a u hu).1
              have w0 : RH cn K m H0 ρ := rh_stay w (ex.tup.trans t0) k0
              have e0 : Ext K ρ H m.n ρ H0 m.n := ⟨Nat.le_refl _, fun _ _ => rfl, ex.tup.trans t0, fun a u hu k => ⟨k0 a u hu, k⟩⟩
              have res := Run.mkLst (Run.back e0 q) w0 (ru.all (fun x v => RV.pure t0 60 x v) ex2) h0
              have eq : upd H0 p (.lst us) = H' := by
                funext a
                by_cases ha : a = p
                · rw [ha, upd_same]; exact ho.symm
                · rw [upd_ne ha]; exact hn a ha
              rw [eq] at res
              exact res
          · exact q.elim
        · exact q.elim
end Mi

set_option Elab.async false
set_option linter.all false
set_option autoImplicit false
set_option maxRecDepth 100000
set_option maxHeartbeats 2000000
/-! the laws' _law_tape and _law_draw -/
namespace Mi
open PySem L2
def dC : S := (sIf (tBl (eBin oLt (eVar 4) (eC (.int 0)))) (sSet 4 (eBin oSub (eBin oMul (eUn oNeg (eC (.int 2))) (eVar 4)) (eC (.int 1)))) (sNext))
def dD : S := (sIf (tOr' (tBl (eBin oLt (eVar 4) (eBin oPow (eC (.int 10)) (eC (.int 9))))) (tBl (eBin oGe (eVar 3) (eBi bLen (aCons (eVar 2) (aNil)))))) (sSeq (sSet 4 (eBin oMod (eBi bInt (aCons (eBin oAdd (eBin oAdd (eBin oMul (eVar 4) (eC (.int 48271))) (eBin oMul (eVar 3) (eC (.int 69621)))) (eC (.int 12345))) (aNil))) (eC (.int 2147483647)))) (sSet 4 (eBin oMod (eBi bInt (aCons (eBin oAdd (eBin oAdd (eBin oMul (eVar 4) (eVar 4)) (eBin oMul (eVar 3) (eC (.int 39373)))) (eC (.int 6789))) (aNil))) (eC (.int 2147483629))))) (sNext))
def dE : S := (sSeq (sPut (eVar 0) (eC (.int 1)) (eBin oAdd (eVar 3) (eC (.int 1)))) (sPut (eVar 0) (eC (.int 2)) (eVar 4)))
def dB : S := (sSet 4 (eIf (tBl (eBin oLt (eVar 3) (eBi bLen (aCons (eVar 2) (aNil))))) (eBin oIx (eVar 2) (eVar 3)) (eBin oIx (eVar 0) (eC (.int 3)))))
def dA : S := (sSeq (sSet 2 (eBin oIx (eVar 0) (eC (.int 0)))) (sSeq (sSet 3 (eBin oIx (eVar 0) (eC (.int 1)))) (sSeq dB (sSeq dC (sSeq dD dE)))))
def dF : S := (sSeq (sSet 5 (eBin oMod (eBi bInt (aCons (eBin oIx (eVar 0) (eC (.int 2))) (aNil))) (eVar 1))) (sSeq (sPut (eVar 0) (eC (.int 2)) (eBin oDiv (eBin oIx (eVar 0) (eC (.int 2))) (eVar 1))) (sRet (eVar 5))))
def drawB : S := sSeq (sIf (tBl (eBin oLt (eBin oIx (eVar 0) (eC (.int 2))) (eVar 1))) dA (sNext)) dF
def tapeB : S := sSeq (sSet 1 (eBi bLen (aCons (eVar 0) (aNil)))) (sSeq (sFor 200000 (iSeq (eVar 0)) (gNm 2) (sSet 1 (eBin oMod (eBi bInt (aCons (eBin oAdd (eBin oAdd (eBin oMul (eVar 1) (eC (.int 48271))) (eBin oMul (eVar 2) (eC (.int 16807)))) (eC (.int 7))) (aNil))) (eC (.int 1000000007))))) (sRet (eLst (aCons (eBi bList (aCons (eVar 0) (aNil))) (aCons (eC (.int 0)) (aCons (eC (.int 0)) (aCons (eVar 1) (aNil))))))))
/-- the tape in a heap -/
def mT (n : Nat) (k v mix : Int) (ns : List Int) (ll lr r : Tr) : MH := ⟨n, .node (some (.lst (ns.map .int))) (.node (some (.lst [.loc 0, .int k, .int v, .int mix])) ll lr) r⟩
/-- the slots of a draw -/
abbrev dS (many k c : Int) (q : Sl) : Slots := [.v (.loc 1), .v (.int many), .v (.loc 0), .v (.int k), .v (.int c), q]
section
variable {n : Nat} {k v mix many c : Int} {ns : List Int} {ll lr r : Tr} {q : Sl}
theorem eBin_ok {op : Val → Val → MH → RE Val} {f g : E} {sl : Slots} {m : MH} {a b c : Val} (hf : f sl m = .ok a m) (hg : g sl m = .ok b m) (ho : op (wk a) (wk b) m = .ok c m) : eBin op f g sl m = .ok c m := by
  unfold eBin; rw [hf]; show (g sl m).bind _ = _; rw [hg]; show nE (op (wk a) (wk b) m) = _; rw [ho]; rfl
theorem eBint_ok {f : E} {sl : Slots} {m : MH} {i : Int} (hf : f sl m = .ok (.int i) m) : eBi bInt (aCons f aNil) sl m = .ok (.int i) m := by
  unfold eBi aCons; rw [hf]; rfl
theorem oMul_r {a b : Int} {m : MH} (h : within64 b = true) : oMul (.int a) (.int b) m = .ok (.int (a * b)) m := by
  show (match within64 a || within64 b with | true => (RE.ok (Val.int (a * b)) m) | false => .fail) = _
  rw [h, Bool.or_true]
theorem oMod_r {a b : Int} {m : MH} (h : 0 < b) : oMod (.int a) (.int b) m = .ok (.int (a % b)) m := by
  show (match decide (0 < b) with | true => (RE.ok (Val.int (a % b)) m) | false => .fail) = _
  rw [decide_eq_true h]
theorem oDiv_r {a b : Int} {m : MH} (h : 0 < b) (h2 : b < 1073741824) : oDiv (.int a) (.int b) m = .ok (.int (a / b)) m := by
  show (match decide (0 < b) && decide (b < 1073741824) with | true => (RE.ok (Val.int (a / b)) m) | false => .fail) = _
  rw [decide_eq_true h, decide_eq_true h2]; rfl
theorem w64 {a : Int} (h0 : 0 ≤ a) (h1 : a < 2147483648) : within64 a = true := by
  unfold within64
  exact Nat.ble_eq_true_of_le (by omega)
theorem sSet_ok {i : Nat} {f : E} {sl : Slots} {m : MH} {v : Val} (hf : f sl m = .ok v m) : sSet i f sl m = .nx (sl.set i (.v v)) m := by
  unfold sSet; rw [hf]; rfl
theorem sSeq_ok {f g : S} {sl sl' : Slots} {m m' : MH} (h : f sl m = .nx sl' m') : sSeq f g sl m = g sl' m' := by
  unfold sSeq; rw [h]
theorem dF_ok {x2 x3 x4 x5 : Sl} (hm : 0 < many) (hm2 : many < 1073741824) :
    dF [.v (.loc 1), .v (.int many), x2, x3, x4, x5] (mT n k v mix ns ll lr r) = .rt (.int (v % many)) (mT n k (v / many) mix ns ll lr r) := by
  have e1 : sSet 5 (eBin oMod (eBi bInt (aCons (eBin oIx (eVar 0) (eC (.int 2))) (aNil))) (eVar 1)) [.v (.loc 1), .v (.int many), x2, x3, x4, x5] (mT n k v mix ns ll lr r) = .nx [.v (.loc 1), .v (.int many), x2, x3, x4, .v (.int (v % many))] (mT n k v mix ns ll lr r) :=
    sSet_ok (eBin_ok (eBint_ok (i := v) rfl) (b := .int many) rfl (oMod_r hm))
  have e2 : (eBin oDiv (eBin oIx (eVar 0) (eC (.int 2))) (eVar 1)) [.v (.loc 1), .v (.int many), x2, x3, x4, .v (.int (v % many))] (mT n k v mix ns ll lr r) = .ok (.int (v / many)) (mT n k v mix ns ll lr r) :=
    eBin_ok (a := .int v) rfl (b := .int many) rfl (oDiv_r hm hm2)
  have e3 : (sPut (eVar 0) (eC (.int 2)) (eBin oDiv (eBin oIx (eVar 0) (eC (.int 2))) (eVar 1))) [.v (.loc 1), .v (.int many), x2, x3, x4, .v (.int (v % many))] (mT n k v mix ns ll lr r) = .nx [.v (.loc 1), .v (.int many), x2, x3, x4, .v (.int (v % many))] (mT n k (v / many) mix ns ll lr r) := by
    unfold sPut; rw [e2]; rfl
  unfold dF
  rw [sSeq_ok e1, sSeq_ok e3]
  rfl
theorem atI_map (hk : 0 ≤ k) (h : k < ((ns.map Val.int).length : Int)) : ∃ c, atI (ns.map Val.int) k = some (Val.int c) := by
  unfold atI ixN
  rw [if_pos hk, if_pos h]
  show ∃ c, (ns.map Val.int)[k.toNat]? = _
  have hl : k.toNat < ns.length := by rw [List.length_map] at h; omega
  exact ⟨ns[k.toNat], by rw [List.getElem?_map, List.getElem?_eq_getElem hl]; rfl⟩
theorem dB_ok {x : Sl} (hk : 0 ≤ k) : ∃ c, dB [.v (.loc 1), .v (.int many), .v (.loc 0), .v (.int k), x, q] (mT n k v mix ns ll lr r) = .nx (dS many k c q) (mT n k v mix ns ll lr r) := by
  cases h : decide (k < ((ns.map Val.int).length : Int)) with
  | true =>
    obtain ⟨c, e⟩ := atI_map hk (of_decide_eq_true h)
    refine ⟨c, ?_⟩
    refine sSet_ok (v := .int c) ?_
    show (match decide (k < ((ns.map Val.int).length : Int)) with | true => (nE (ixL (ns.map .int) (.int k) (mT n k v mix ns ll lr r))) | false => .ok (.int mix) (mT n k v mix ns ll lr r)) = _
    rw [h]
    show nE (match atI (ns.map Val.int) k with | some v' => RE.ok v' (mT n k v mix ns ll lr r) | none => .fail) = _
    rw [e]; rfl
  | false =>
    refine ⟨mix, ?_⟩
    refine sSet_ok (v := .int mix) ?_
    show (match decide (k < ((ns.map Val.int).length : Int)) with | true => (nE (ixL (ns.map .int) (.int k) (mT n k v mix ns ll lr r))) | false => .ok (.int mix) (mT n k v mix ns ll lr r)) = _
    rw [h]
theorem dC_ok (m : MH) : ∃ c', dC (dS many k c q) m = .nx (dS many k c' q) m := by
  cases h : decide (c < 0) with
  | true =>
    refine ⟨-2 * c - 1, ?_⟩
    show (match decide (c < 0) with | true => (RS.nx (dS many k (-2 * c - 1) q) m) | false => .nx (dS many k c q) m) = _
    rw [h]
  | false =>
    refine ⟨c, ?_⟩
    show (match decide (c < 0) with | true => (RS.nx (dS many k (-2 * c - 1) q) m) | false => .nx (dS many k c q) m) = _
    rw [h]
def dX : S := (sSeq (sSet 4 (eBin oMod (eBi bInt (aCons (eBin oAdd (eBin oAdd (eBin oMul (eVar 4) (eC (.int 48271))) (eBin oMul (eVar 3) (eC (.int 69621)))) (eC (.int 12345))) (aNil))) (eC (.int 2147483647)))) (sSet 4 (eBin oMod (eBi bInt (aCons (eBin oAdd (eBin oAdd (eBin oMul (eVar 4) (eVar 4)) (eBin oMul (eVar 3) (eC (.int 39373)))) (eC (.int 6789))) (aNil))) (eC (.int 2147483629)))))
theorem dX_ok (m : MH) : ∃ c', dX (dS many k c q) m = .nx (dS many k c' q) m := by
  let c1 : Int := (c * 48271 + k * 69621 + 12345) % 2147483647
  have h0 : 0 ≤ c1 := Int.emod_nonneg _ (by decide)
  have h1 : c1 < 2147483648 := Int.lt_trans (Int.emod_lt_of_pos _ (by decide)) (by decide)
  have e1 : sSet 4 (eBin oMod (eBi bInt (aCons (eBin oAdd (eBin oAdd (eBin oMul (eVar 4) (eC (.int 48271))) (eBin oMul (eVar 3) (eC (.int 69621)))) (eC (.int 12345))) (aNil))) (eC (.int 2147483647))) (dS many k c q) m = .nx (dS many k c1 q) m :=
    sSet_ok (eBin_ok (eBint_ok (eBin_ok (eBin_ok (eBin_ok (a := .int c) rfl (b := .int 48271) rfl (oMul_r rfl)) (eBin_ok (a := .int k) rfl (b := .int 69621) rfl (oMul_r rfl)) rfl) (b := .int 12345) rfl rfl)) (b := .int 2147483647) rfl (oMod_r (by decide)))
  have e2 : sSet 4 (eBin oMod (eBi bInt (aCons (eBin oAdd (eBin oAdd (eBin oMul (eVar 4) (eVar 4)) (eBin oMul (eVar 3) (eC (.int 39373)))) (eC (.int 6789))) (aNil))) (eC (.int 2147483629))) (dS many k c1 q) m = .nx (dS many k ((c1 * c1 + k * 39373 + 6789) % 2147483629) q) m :=
    sSet_ok (eBin_ok (eBint_ok (eBin_ok (eBin_ok (eBin_ok (a := .int c1) rfl (b := .int c1) rfl (oMul_r (w64 h0 h1))) (eBin_ok (a := .int k) rfl (b := .int 39373) rfl (oMul_r rfl)) rfl) (b := .int 6789) rfl rfl)) (b := .int 2147483629) rfl (oMod_r (by decide)))
  unfold dX
  exact ⟨_, (sSeq_ok e1).trans e2⟩
theorem dD_ok : ∃ c', dD (dS many k c q) (mT n k v mix ns ll lr r) = .nx (dS many k c' q) (mT n k v mix ns ll lr r) := by
  have e : dD (dS many k c q) (mT n k v mix ns ll lr r) = (match decide (c < 1000000000) with | true => dX (dS many k c q) (mT n k v mix ns ll lr r) | false => (match decide (((ns.map Val.int).length : Int) ≤ k) with | true => dX (dS many k c q) (mT n k v mix ns ll lr r) | false => .nx (dS many k c q) (mT n k v mix ns ll lr r))) := by
    have : dD (dS many k c q) (mT n k v mix ns ll lr r) = ((match decide (c < 1000000000) with | true => RE.ok true (mT n k v mix ns ll lr r) | false => RE.ok (decide (((ns.map Val.int).length : Int) ≤ k)) (mT n k v mix ns ll lr r)).to (dS many k c q) fun b m1 => match b with | true => dX (dS many k c q) m1 | false => .nx (dS many k c q) m1) := rfl
    rw [this]
    cases decide (c < 1000000000) <;> rfl
  rw [e]
  cases decide (c < 1000000000) with
  | true => exact dX_ok _
  | false =>
    cases decide (((ns.map Val.int).length : Int) ≤ k) with
    | true => exact dX_ok _
    | false => exact ⟨c, rfl⟩
theorem dE_ok : dE (dS many k c q) (mT n k v mix ns ll lr r) = .nx (dS many k c q) (mT n (k + 1) c mix ns ll lr r) := rfl
theorem dA_ok (hk : 0 ≤ k) {x2 x3 x4 : Sl} : ∃ c, dA [.v (.loc 1), .v (.int many), x2, x3, x4, q] (mT n k v mix ns ll lr r) = .nx (dS many k c q) (mT n (k + 1) c mix ns ll lr r) := by
  obtain ⟨c1, e1⟩ := dB_ok (n := n) (v := v) (mix := mix) (ns := ns) (ll := ll) (lr := lr) (r := r) (many := many) (q := q) (x := x4) hk
  obtain ⟨c2, e2⟩ := dC_ok (many := many) (k := k) (c := c1) (q := q) (mT n k v mix ns ll lr r)
  obtain ⟨c3, e3⟩ := dD_ok (many := many) (k := k) (c := c2) (q := q) (n := n) (v := v) (mix := mix) (ns := ns) (ll := ll) (lr := lr) (r := r)
  refine ⟨c3, ?_⟩
  have f1 : sSet 2 (eBin oIx (eVar 0) (eC (.int 0))) [.v (.loc 1), .v (.int many), x2, x3, x4, q] (mT n k v mix ns ll lr r) = .nx [.v (.loc 1), .v (.int many), .v (.loc 0), x3, x4, q] (mT n k v mix ns ll lr r) := rfl
  have f2 : sSet 3 (eBin oIx (eVar 0) (eC (.int 1))) [.v (.loc 1), .v (.int many), .v (.loc 0), x3, x4, q] (mT n k v mix ns ll lr r) = .nx [.v (.loc 1), .v (.int many), .v (.loc 0), .v (.int k), x4, q] (mT n k v mix ns ll lr r) := rfl
  unfold dA
  rw [sSeq_ok f1, sSeq_ok f2, sSeq_ok e1, sSeq_ok e2, sSeq_ok e3]
  exact dE_ok
theorem draw_ok (hk : 0 ≤ k) (hm : 0 < many) (hm2 : many < 1073741824) :
    ∃ d k' v', 0 ≤ d ∧ d < many ∧ 0 ≤ k' ∧ fnM 6 drawB [.loc 1, .int many] (mT n k v mix ns ll lr r) = .ok (.int d) (mT n k' v' mix ns ll lr r) := by
  have e0 : (sIf (tBl (eBin oLt (eBin oIx (eVar 0) (eC (.int 2))) (eVar 1))) dA (sNext)) [.v (.loc 1), .v (.int many), .no, .no, .no, .no] (mT n k v mix ns ll lr r) = (match decide (v < many) with | true => dA [.v (.loc 1), .v (.int many), .no, .no, .no, .no] (mT n k v mix ns ll lr r) | false => .nx [.v (.loc 1), .v (.int many), .no, .no, .no, .no] (mT n k v mix ns ll lr r)) := rfl
  cases h : decide (v < many) with
  | true =>
    obtain ⟨c, e⟩ := dA_ok (n := n) (v := v) (mix := mix) (ns := ns) (ll := ll) (lr := lr) (r := r) (many := many) (q := .no) (x2 := .no) (x3 := .no) (x4 := .no) hk
    rw [h] at e0
    refine ⟨c % many, k + 1, c / many, Int.emod_nonneg _ (by omega), Int.emod_lt_of_pos _ hm, by omega, ?_⟩
    show endF (drawB [.v (.loc 1), .v (.int many), .no, .no, .no, .no] (mT n k v mix ns ll lr r)) = _
    unfold drawB
    rw [sSeq_ok (e0.trans e), dF_ok hm hm2]
    rfl
  | false =>
    rw [h] at e0
    refine ⟨v % many, k, v / many, Int.emod_nonneg _ (by omega), Int.emod_lt_of_pos _ hm, hk, ?_⟩
    show endF (drawB [.v (.loc 1), .v (.int many), .no, .no, .no, .no] (mT n k v mix ns ll lr r)) = _
    unfold drawB
    rw [sSeq_ok e0, dF_ok hm hm2]
    rfl
def tL : S := sSet 1 (eBin oMod (eBi bInt (aCons (eBin oAdd (eBin oAdd (eBin oMul (eVar 1) (eC (.int 48271))) (eBin oMul (eVar 2) (eC (.int 16807)))) (eC (.int 7))) (aNil))) (eC (.int 1000000007)))
theorem tL_ok {x0 : Sl} {a b : Int} {m : MH} : tL [x0, .v (.int a), .v (.int b)] m = .nx [x0, .v (.int ((a * 48271 + b * 16807 + 7) % 1000000007)), .v (.int b)] m :=
  sSet_ok (eBin_ok (eBint_ok (eBin_ok (eBin_ok (eBin_ok (a := .int a) rfl (b := .int 48271) rfl (oMul_r rfl)) (eBin_ok (a := .int b) rfl (b := .int 16807) rfl (oMul_r rfl)) rfl) (b := .int 7) rfl rfl)) (b := .int 1000000007) rfl (oMod_r (by decide)))
theorem tFor_ok {x0 : Sl} {m : MH} : ∀ (rest pre : List Int) (fuel : Nat) (a : Int) (x2 : Sl), rest.length < fuel → ∃ a' x2', forGo (gNm 2) tL (.vals ((pre ++ rest).map .int)) fuel pre.length [x0, .v (.int a), x2] m = .nx [x0, .v (.int a'), x2'] m
  | [], pre, fuel + 1, a, x2, _ => by
    refine ⟨a, x2, ?_⟩
    have e : (ItM.vals ((pre ++ []).map Val.int)).next m pre.length = some none := by
      show some (((pre ++ []).map Val.int)[pre.length]?) = some none
      rw [List.getElem?_eq_none (by simp)]
    show (match (ItM.vals ((pre ++ []).map Val.int)).next m pre.length with | some (some v) => _ | some none => _ | none => _) = _
    rw [e]
  | b :: rest, pre, fuel + 1, a, x2, h => by
    have e : (ItM.vals ((pre ++ b :: rest).map Val.int)).next m pre.length = some (some (.int b)) := by
      show some (((pre ++ b :: rest).map Val.int)[pre.length]?) = _
      rw [List.getElem?_map, List.getElem?_append_right (Nat.le_refl _), Nat.sub_self]; rfl
    obtain ⟨a', x2', ih⟩ := tFor_ok (x0 := x0) (m := m) rest (pre ++ [b]) fuel ((a * 48271 + b * 16807 + 7) % 1000000007) (.v (.int b)) (by have : rest.length + 1 < fuel + 1 := h; omega)
    refine ⟨a', x2', ?_⟩
    show (match (ItM.vals ((pre ++ b :: rest).map Val.int)).next m pre.length with
      | some (some v) => (match gNm 2 v [x0, .v (.int a), x2] m with
        | some sl' => (tL sl' m).turn (forGo (gNm 2) tL (.vals ((pre ++ b :: rest).map .int)) fuel (pre.length + 1))
        | none => .fail)
      | some none => .nx [x0, .v (.int a), x2] m
      | none => .fail) = _
    rw [e]
    show (tL [x0, .v (.int a), .v (.int b)] m).turn (forGo (gNm 2) tL (.vals ((pre ++ b :: rest).map .int)) fuel (pre.length + 1)) = _
    rw [tL_ok]
    show forGo (gNm 2) tL (.vals ((pre ++ b :: rest).map .int)) fuel (pre.length + 1) [x0, .v (.int ((a * 48271 + b * 16807 + 7) % 1000000007)), .v (.int b)] m = _
    rw [List.append_assoc, List.length_append] at ih
    exact ih
theorem tape_ok (h : ns.length ≤ 63) : ∃ mix, fnM 3 tapeB [.klst (ns.map .int)] ⟨0, .nil⟩ = .ok (.loc 1) (mT 2 0 0 mix ns .nil .nil .nil) := by
  obtain ⟨a', x2', e⟩ := tFor_ok (x0 := .v (.klst (ns.map .int))) (m := ⟨0, .nil⟩) ns [] 200000 ((ns.map Val.int).length : Int) .no (by omega)
  rw [List.nil_append, List.length_nil] at e
  refine ⟨a', ?_⟩
  show endF (tapeB [.v (.klst (ns.map .int)), .no, .no] ⟨0, .nil⟩) = _
  have e1 : sSet 1 (eBi bLen (aCons (eVar 0) (aNil))) [.v (.klst (ns.map .int)), .no, .no] ⟨0, .nil⟩ = .nx [.v (.klst (ns.map .int)), .v (.int ((ns.map Val.int).length : Int)), .no] ⟨0, .nil⟩ := rfl
  have e0 : iSeq (eVar 0) [.v (.klst (ns.map .int)), .v (.int ((ns.map Val.int).length : Int)), .no] ⟨0, .nil⟩ = .ok (.vals (ns.map .int)) ⟨0, .nil⟩ := rfl
  have e2 : (sFor 200000 (iSeq (eVar 0)) (gNm 2) tL) [.v (.klst (ns.map .int)), .v (.int ((ns.map Val.int).length : Int)), .no] ⟨0, .nil⟩ = .nx [.v (.klst (ns.map .int)), .v (.int a'), x2'] ⟨0, .nil⟩ := by
    unfold sFor
    rw [e0]
    generalize 200000 = q at e
    exact e
  unfold tapeB
  rw [sSeq_ok e1]
  show endF (sSeq (sFor 200000 (iSeq (eVar 0)) (gNm 2) tL) _ _ _) = _
  rw [sSeq_ok e2]
  kernel_rfl
end
end Mi

set_option Elab.async false
set_option linter.all false
set_option autoImplicit false
set_option maxRecDepth 100000
set_option maxHeartbeats 2000000
/-! drawing from menus -/
namespace Mi
open PySem L2
section
variable {n : Nat} {k v mix many : Int} {ns : List Int} {ll lr r : Tr} {op : Val → Val → MH → RE Val} {i : Nat} {x : Val} {sl : Slots} {φ : FM}
/-- the call of _law_draw -/
abbrev eDraw (φ : FM) (many : Int) : E := eCall 2 φ [] (aCons (eVar 1) (aCons (eC (.int many)) aNil))
theorem eDraw_ok (hφ : ∀ as m, φ as m = fnM 6 drawB as m) (h1 : sl[1]? = some (.v (.loc 1))) (hk : 0 ≤ k) (hm : 0 < many) (hm2 : many < 1073741824) :
    ∃ d k' v', 0 ≤ d ∧ d < many ∧ 0 ≤ k' ∧ eDraw φ many sl (mT n k v mix ns ll lr r) = .ok (.int d) (mT n k' v' mix ns ll lr r) := by
  obtain ⟨d, k', v', h2, h3, h4, e⟩ := draw_ok (n := n) (k := k) (v := v) (mix := mix) (many := many) (ns := ns) (ll := ll) (lr := lr) (r := r) hk hm hm2
  refine ⟨d, k', v', h2, h3, h4, ?_⟩
  have e0 : eVar 1 sl (mT n k v mix ns ll lr r) = .ok (.loc 1) (mT n k v mix ns ll lr r) := by unfold eVar; rw [h1]
  have e1 : eDraw φ many sl (mT n k v mix ns ll lr r) = φ [.loc 1, .int many] (mT n k v mix ns ll lr r) := by
    unfold eDraw eCall aCons
    rw [e0]; rfl
  rw [e1, hφ, e]
theorem sSet_to {j : Nat} {f : E} {m m' : MH} {v : Val} (hf : f sl m = .ok v m') : sSet j f sl m = .nx (sl.set j (.v v)) m' := by
  unfold sSet; rw [hf]; rfl
theorem ix_draw {f : E} (hx : sl[i]? = some (.v x)) {d k' v' : Int} (e : f sl (mT n k v mix ns ll lr r) = .ok (.int d) (mT n k' v' mix ns ll lr r)) :
    eBin op (eVar i) f sl (mT n k v mix ns ll lr r) = eBin op (eVar i) (eC (.int d)) sl (mT n k' v' mix ns ll lr r) := by
  have e0 : ∀ m, eVar i sl m = .ok x m := fun m => by unfold eVar; rw [hx]
  unfold eBin
  rw [e0, e0]
  show (f sl (mT n k v mix ns ll lr r)).bind _ = _
  rw [e]; rfl
theorem asg_draw {f f' : E} {g : G} {m m' : MH} (e : f sl m = f' sl m') : sAsg f g sl m = sAsg f' g sl m' := by unfold sAsg; rw [e]
theorem seq_draw {f f' rest : S} {m m' : MH} (e : f sl m = f' sl m') : sSeq f rest sl m = sSeq f' rest sl m' := by unfold sSeq; rw [e]
/-- x, y = menu[_law_draw(tape, many)] -/
theorem menu_draw (hφ : ∀ as m, φ as m = fnM 6 drawB as m) (h1 : sl[1]? = some (.v (.loc 1))) (hx : sl[i]? = some (.v x)) (hk : 0 ≤ k) (hm : 0 < many) (hm2 : many < 1073741824) (g : G) (rest : S) :
    ∃ (d : Nat) (k' v' : Int), (d : Int) < many ∧ 0 ≤ k' ∧ sSeq (sAsg (eBin oIx (eVar i) (eDraw φ many)) g) rest sl (mT n k v mix ns ll lr r) = sSeq (sAsg (eBin oIx (eVar i) (eC (.int (d : Int)))) g) rest sl (mT n k' v' mix ns ll lr r) := by
  obtain ⟨d, k', v', h2, h3, h4, e⟩ := eDraw_ok (n := n) (k := k) (v := v) (mix := mix) (many := many) (ns := ns) (ll := ll) (lr := lr) (r := r) hφ h1 hk hm hm2
  obtain ⟨d', rfl⟩ := Int.eq_ofNat_of_zero_le h2
  exact ⟨d', k', v', h3, h4, seq_draw (asg_draw (ix_draw hx e))⟩
/-! a draw elsewhere: what is evaluated first may be replaced -/
theorem aCons_draw {f f' : E} {g : EA} {m m' : MH} (e : f sl m = f' sl m') : aCons f g sl m = aCons f' g sl m' := by unfold aCons; rw [e]
theorem eCall_draw {n : Nat} {φ : FM} {dv : List Val} {h h' : EA} {m m' : MH} (e : h sl m = h' sl m') : eCall n φ dv h sl m = eCall n φ dv h' sl m' := by unfold eCall; rw [e]
theorem tTru_draw {f f' : E} {m m' : MH} (e : f sl m = f' sl m') : tTru f sl m = tTru f' sl m' := by unfold tTru; rw [e]
theorem tOr_draw {c c' d : ET} {m m' : MH} (e : c sl m = c' sl m') : tOr' c d sl m = tOr' c' d sl m' := by unfold tOr'; rw [e]
theorem sIf_draw {c c' : ET} {f g : S} {m m' : MH} (e : c sl m = c' sl m') : sIf c f g sl m = sIf c' f g sl m' := by unfold sIf; rw [e]
theorem or_skip {c d : ET} {f g : S} {m : MH} (e : c sl m = .ok false m) : sIf (tOr' c d) f g sl m = sIf d f g sl m := by unfold sIf tOr'; rw [e]; rfl
theorem chk_ok {φ : FM} {j : Nat} {z : Val} {f : S} {m : MH} (hj : sl[j]? = some (.v z)) (hz : φ [z] m = .ok (.bl true) m) : sIf (tNot' (tTru (eCall 1 φ [] (aCons (eVar j) aNil)))) f sNext sl m = .nx sl m := by
  have e : eCall 1 φ [] (aCons (eVar j) aNil) sl m = .ok (.bl true) m := by
    unfold eCall aCons eVar
    rw [hj]
    exact hz
  unfold sIf tNot' tTru
  rw [e]
  rfl
end
end Mi

set_option Elab.async false
set_option linter.all false
set_option autoImplicit false
set_option maxRecDepth 100000
set_option maxHeartbeats 2000000
/-! a dict of the module: its keys texts -/
namespace Mi
open PySem PySem.Spec PyProof.Rows L2
/-- the table at d: keys and values, and no others -/
structure KTab (K : PySem.W.Frag) (w : World) (d : Addr) (tbl : List (Str × Val)) : Prop where
  kd : ∃ es n, KDict K w d es n
  look : ∀ z, ∃ r, PySem.W.nsIn K d z = some r ∧ (match flook tbl z with
    | some v => ∃ u x, r = some u ∧ RelV x u ∧ ∀ H ρ n, RV K H ρ n v x
    | none => r = none)
section
variable {cn : CN} {X : Cx} {W : WX} {d : Addr} {tbl : List (Str × Val)}
theorem mapN (D : ∃ es n, KDict X.K X.w d es n) {h : Heap} (hk : X.K.In h) : ∃ f, h.MapOf (noneKind X.prog X.w) d f ∧ f none = none := by
  obtain ⟨es, n, D⟩ := D
  refine ⟨fun k => findBy (noneKind X.prog X.w).is es k, ⟨_, es, n, hk _ _ D.at_, ⟨rfl, rfl, rfl⟩, rfl, fun e he => ?_, fun k => rfl⟩, ?_⟩
  · obtain ⟨x, t, e1, e2⟩ := D.lit.all e (Array.mem_toList_iff.mpr he)
    exact ⟨some (.inr x), by rw [e1]; exact (PySem.strKind_is X.prog X.w x t), e2⟩
  · have q : (es.find? fun e => nkIs none e.key) = none := by
      rw [Array.find?_eq_none]
      intro e he hq
      obtain ⟨x, t, e1, _⟩ := D.lit.all e (Array.mem_toList_iff.mpr he)
      rw [e1] at hq
      cases hq
    show (es.find? fun e => nkIs none e.key).map (·.val) = none
    rw [q] <;> rfl
/-- z not in table -/
def kNotIn (tbl : List (Str × Val)) : Val → MH → RE Val := fun v m => match v with
  | .str z => .ok (.bl (flook tbl z).isNone) m
  | .non => .ok (.bl true) m
  | _ => .fail
def kIx (tbl : List (Str × Val)) : Val → MH → RE Val := fun v m => match v with
  | .str z => (match flook tbl z with | some x => .ok x m | none => .fail)
  | _ => .fail
theorem k_notin (D : KTab X.K X.w d tbl) : OpR X (compareOp .NotIn) (fun x y H Q => y = .ref d ∧ ∃ b : Bool, ((∃ z, x = .str z ∧ b = (flook tbl z).isNone) ∨ (x = .non ∧ b = true)) ∧ Q (.bl b) H) := by
  intro pins s σ H x y v u Q I rx ry ⟨ey, b, hx, q⟩
  subst ey
  rcases hx with ⟨z, rfl, rfl⟩ | ⟨rfl, rfl⟩
  · obtain ⟨es, n, kd⟩ := D.kd
    obtain ⟨r, h1, h2⟩ := D.look z
    refine op_notIn_kd kd pins s σ H _ _ v u Q I rx ry ⟨z, r, rfl, rfl, h1, ?_⟩
    cases e : flook tbl z with
    | none =>
      rw [e] at h2 q
      cases h2
      exact q
    | some w =>
      rw [e] at h2 q
      obtain ⟨u, x, rfl, _⟩ := h2
      exact q
  · cases rx
    cases ry
    obtain ⟨f, hm, hf⟩ := mapN D.kd I.kIn
    obtain ⟨es, n, kd⟩ := D.kd
    refine wpAny_notIn_of (show (noneKind X.prog X.w).is none .none = true from rfl) kd.low hm ?_
    rw [hf]
    exact ⟨.bl true, H, I.tok _, rfl, q⟩
theorem me_kNotIn {a : Expr} {f : E} {y : Str} {p pos : Pos} (D : KTab X.K X.w d tbl) (ha : PE X a (TE' cn X.K W f)) (hg : Gl X y) (hm : X.mg y = some (.ref d)) (hd : (y == ("__debug__" : Str)) = false := by decide) (hk : behindInMarks .NotIn (.Name y p) = false := by rfl) :
    PE X (.Compare a [.NotIn] [.Name y p] pos) (TE' cn X.K W (eUn (kNotIn tbl) f)) := by
  refine pe_imp (pe_cmpR (k_notin D) ha (pe_glob (v := .ref d) hg hm rfl hd) hk) fun σ H Q ⟨sl, m, ρ, w, r⟩ => ?_
  refine TM.bind w r fun x H1 ρ1 m1 u w1 e1 r1 q => ?_
  have q := Run.nE (W' := fun _ _ _ => True) q
  unfold kNotIn at q
  split at q
  · rename_i z _
    cases r1
    exact ⟨rfl, _, .inl ⟨z, rfl, rfl⟩, Run.val q w1.h (.bl _)⟩
  · cases r1
    exact ⟨rfl, _, .inr ⟨rfl, rfl⟩, Run.val q w1.h (.bl _)⟩
  · exact q.elim
theorem me_kIx {b : Expr} {f : E} {y : Str} {p pos : Pos} (D : KTab X.K X.w d tbl) (hb : PE X b (TE' cn X.K W f)) (hg : Gl X y) (hm : X.mg y = some (.ref d)) (hs : PlainIx b) (hd : (y == ("__debug__" : Str)) = false := by decide) :
    PE X (.Subscript (.Name y p) b pos) (TE' cn X.K W (eUn (kIx tbl) f)) := by
  refine pe_imp (pe_ix ix_kdict (pe_glob (v := .ref d) hg hm rfl hd) hb hs) fun σ H Q ⟨sl, m, ρ, w, r⟩ => ?_
  refine TM.bind w r fun x H1 ρ1 m1 u w1 e1 r1 q => ?_
  have q := Run.nE (W' := fun _ _ _ => True) q
  unfold kIx at q
  split at q
  · rename_i z _
    cases r1
    obtain ⟨r, h1, h2⟩ := D.look z
    cases e : flook tbl z with
    | none => rw [e] at q; exact q.elim
    | some v =>
      rw [e] at h2 q
      obtain ⟨u, x, rfl, rx, rv⟩ := h2
      obtain ⟨es, n, kd⟩ := D.kd
      exact ⟨d, z, x, rfl, rfl, ⟨es, n, u, kd.at_, kd.lit, h1, rx⟩, Run.val q w1.h (rv _ _ _)⟩
  · exact q.elim
theorem mt_kNotIn {a : Expr} {f : E} {y : Str} {p pos : Pos} (D : KTab X.K X.w d tbl) (ha : PE X a (TE' cn X.K W f)) (hg : Gl X y) (hm : X.mg y = some (.ref d)) (hd : (y == ("__debug__" : Str)) = false := by decide) (hk : behindInMarks .NotIn (.Name y p) = false := by rfl) :
    PT X (.Compare a [.NotIn] [.Name y p] pos) (TT' cn X.K W (tBl (eUn (kNotIn tbl) f))) := by
  refine pt_imp (pt_cmpR (k_notin D) ha (pe_glob (v := .ref d) hg hm rfl hd) hk) fun σ H Q ⟨sl, m, ρ, w, r⟩ => ?_
  have r' : Run cn X.K RBo ((f sl m).bind fun a m1 => (nE (kNotIn tbl a m1)).bind fun v m3 => match v with | .bl b => .ok b m3 | _ => .fail) ρ H m.n Q (fun c d H' => W c d σ H') := by
    have e : tBl (eUn (kNotIn tbl) f) sl m = ((f sl m).bind fun a m1 => (nE (kNotIn tbl a m1)).bind fun v m3 => match v with | .bl b => .ok b m3 | _ => .fail) := by
      unfold tBl eUn
      rw [RE.bind_assoc] <;> rfl
    rw [← e]; exact r
  refine TM.bind w r' fun x H1 ρ1 m1 u w1 e1 r1 q => ?_
  cases u with
  | str z =>
    cases r1
    exact ⟨rfl, _, .inl ⟨z, rfl, rfl⟩, _, rfl, q H1 ρ1 _ w1.h .refl rfl⟩
  | non =>
    cases r1
    exact ⟨rfl, _, .inr ⟨rfl, rfl⟩, _, rfl, q H1 ρ1 _ w1.h .refl rfl⟩
  | _ => exact q.elim
end
end Mi

set_option Elab.async false
set_option linter.all false
set_option autoImplicit false
set_option maxRecDepth 100000
set_option maxHeartbeats 2000000
/-! the hook with tables -/
namespace Mi
open PySem PySem.Spec L2
abbrev AlX : Type := AlM × List (Option (List (Option (Str × Int))))
def obsX (fa : List He.Fa) (fn : List He.DefD) (fb : List Fb) (ts : List He.Tab) (K : PySem.W.Frag) : AlX := (obsM fa fn fb K, ts.map fun t => He.dicW K (t.1 K))
def valX (fn : List He.DefD) (ts : List He.Tab) (w : World) : AlX := ((He.valD fn, true), ts.map fun t => some (He.keysIn w.params t.2))
def SaysX (fa : List He.Fa) (fn : List He.DefD) (fb : List Fb) (ts : List He.Tab) (w : World) (K : PySem.W.Frag) : Prop := obsX fa fn fb ts K = valX fn ts w
def obsXG (n : Nat) (fa : List He.Fa) (fn : List He.DefD) (fb : List Fb) (ts : List He.Tab) (g : Addr → Option Obj) : AlX := obsX fa fn fb ts (He.frG g (PySem.cStatics :: He.asD g n))
def hookX (n : Nat) (fa : List He.Fa) (fn : List He.DefD) (fb : List Fb) (ts : List He.Tab) : PySem.W.Hook where
  α := AlX
  obs := fun s => obsXG n fa fn fb ts s.heap.get?
  val := fun w => valX fn ts w
  says := fun w h => ∃ K : PySem.W.Frag, K.In h ∧ SaysX fa fn fb ts w K
  of := fun _ _ e => ⟨_, He.frG_in, e⟩
  keeps := fun _ _ _ ⟨K, hK, c⟩ k => ⟨K, PySem.W.Frag.In.keeps hK k, c⟩
theorem obsXG_eq {n : Nat} {fa : List He.Fa} {fn : List He.DefD} {fb : List Fb} {ts : List He.Tab} {g : Addr → Option Obj} {s : Shared} (h : ∀ a, g a = s.heap.get? a) : obsXG n fa fn fb ts g = (hookX n fa fn fb ts).obs s := by
  have e : g = s.heap.get? := funext h
  rw [e] <;> rfl
section
variable {fa : List He.Fa} {fn : List He.DefD} {fb : List Fb} {ts : List He.Tab} {w : World} {K : PySem.W.Frag}
theorem SaysX.m (c : SaysX fa fn fb ts w K) : SaysM fa fn fb K := congrArg (fun z : AlX => z.1) c
theorem SaysX.tab (c : SaysX fa fn fb ts w K) (i : Nat) {t : He.Tab} (h : ts[i]? = some t := by rfl) : He.dicW K (t.1 K) = some (He.keysIn w.params t.2) := by
  have e : ts.map (fun t => He.dicW K (t.1 K)) = ts.map fun t => some (He.keysIn w.params t.2) := congrArg (fun z : AlX => z.2) c
  have e2 : (ts.map fun t => He.dicW K (t.1 K))[i]? = (ts.map fun t => some (He.keysIn w.params t.2))[i]? := by rw [e]
  rw [List.getElem?_map, List.getElem?_map, h] at e2
  exact Option.some.inj e2
end
theorem keysMiss {P : Params} {z : Str} : ∀ {l : List DictEntry} {ks : List Str}, l.map He.keyOf = He.keysIn P ks → z ∉ ks → l.find? (fun e => e.key.isStr z) = none ∧ l.any (fun e => e.refKey) = false
  | [], _, _, _ => ⟨rfl, rfl⟩
  | e :: r, [], h, _ => by cases h
  | e :: r, k :: ks, h, hz => by
    have h1 : He.keyOf e :: r.map He.keyOf = some (k, PyData.keyHash P k) :: He.keysIn P ks := h
    injection h1 with h2 h3
    obtain ⟨a, b⟩ := keysMiss (z := z) h3 (fun q => hz (List.mem_cons_of_mem _ q))
    have hk : z ≠ k := fun q => hz (q ▸ List.mem_cons_self)
    unfold He.keyOf at h2
    split at h2
    · rename_i x t q
      have h4 := Option.some.inj h2
      obtain ⟨h5, h6⟩ := Prod.mk.inj h4
      subst h5
      have c1 : e.key.isStr z = false := by
        rw [q]
        show (x == z) = false
        exact beq_eq_false_iff_ne.mpr (Ne.symm hk)
      have c2 : e.refKey = false := by
        unfold DictEntry.refKey
        rw [q]
      refine ⟨?_, ?_⟩
      · rw [List.find?_cons, c1]; exact a
      · rw [List.any_cons, c2, b]; rfl
    · cases h2
theorem flook_none {tbl : List (Str × Val)} {z : Str} (h : flook tbl z = none) : z ∉ tbl.map (·.1) := by
  rw [flook_eq] at h
  intro hz
  obtain ⟨p, hp, e⟩ := List.mem_map.mp hz
  obtain ⟨v, hv⟩ := L2.mem_lookup (n := p.1) (c := p.2) hp
  rw [e, h] at hv
  cases hv
/-- a table whose values are texts -/
theorem tab_ok {K : PySem.W.Frag} {w : World} {a : Addr} {kvs : List (Str × Str)} (h : He.dicW K a = some (He.keysIn w.params (kvs.map (·.1)))) (hv : He.valsB K a (kvs.map fun q => (q.1, He.Dv.str q.2)) = true) :
    KTab K w a (kvs.map fun q => (q.1, Val.str q.2)) where
  kd := He.dicW_ok h
  look := fun z => by
    cases e : flook (kvs.map fun q => (q.1, Val.str q.2)) z with
    | none =>
      refine ⟨none, ?_, rfl⟩
      have hz := flook_none e
      rw [List.map_map] at hz
      obtain ⟨es, n, kd⟩ := He.dicW_ok h
      have h2 : es.toList.map He.keyOf = He.keysIn w.params (kvs.map (·.1)) := by
        unfold He.dicW at h
        rw [kd.at_] at h
        have h3 : (match decide ("dict" = "dict") && ((#[] : Array (Option Value)).isEmpty && !(a == sysModules)) with
          | true => some (es.toList.map He.keyOf)
          | false => none) = some (He.keysIn w.params (kvs.map (·.1))) := h
        rw [kd.low] at h3
        exact Option.some.inj h3
      obtain ⟨c1, c2⟩ := keysMiss (z := z) h2 hz
      unfold PySem.W.nsIn
      rw [kd.at_]
      show (match es.toList.find? (fun e => e.key.isStr z) with
        | some e => some (some e.val)
        | none => if es.toList.any (fun e => e.refKey) then none else some none) = _
      rw [c1, c2]
      rfl
    | some v =>
      rw [flook_eq] at e
      obtain ⟨q, hq, eq⟩ := List.mem_map.mp (PySem.mem_of_lookup e)
      cases eq
      obtain ⟨u, h1, h2⟩ := He.valsB_ok hv (q := (q.1, He.Dv.str q.2)) (List.mem_map.mpr ⟨q, hq, rfl⟩)
      exact ⟨some u, h1, u, .str q.2, rfl, h2, fun H ρ n => .str _⟩
end Mi

set_option Elab.async false
set_option linter.all false
set_option autoImplicit false
set_option maxRecDepth 100000
set_option maxHeartbeats 2000000
/-! exceptions out of a comprehension -/
namespace L2
open PySem PySem.Spec PyProof.Rows
theorem noteFrame_frame {u : Value} {e e' : Env} (h : e.frame = e'.frame) : noteFrame u e = noteFrame u e' := by
  unfold noteFrame PySem.frameOf
  rw [h]
/-- what a comprehension's block ends with; an exception goes on from a frame fr -/
def postX (M : Model) (A : Around) (E : Value → Shared → Prop) (use : Option (Value → Sem Unit)) (Q : Value → Shared → Prop) (acc : Value) (C : Addr) (fr : Option Addr) : Result → Shared → Prop
  | .ok _, s' => (match use with
    | none => ∃ m, s'.heap.Ns C m ∧ ∀ h', Heap.SameBut C s'.heap h' → Q acc { s' with heap := h' }
    | some u => wpAny M A (u acc) (fun _ s2 => ∃ m, s2.heap.Ns C m ∧ ∀ h', Heap.SameBut C s2.heap h' → Q .none { s2 with heap := h' }) E s')
  | .error x, s' => ∃ m, s'.heap.Ns C m ∧ ∀ h', Heap.SameBut C s'.heap h' → ∀ ce : Env, ce.frame = fr → wpAny M A (passOn "comprehension.variables-let-go" x ce : Sem Value) (fun _ _ => False) E { s' with heap := h' }
theorem comp_freeX {M : Model} {A : Around} {E : Value → Shared → Prop} {s : Shared} {env : Env} {e : Expr} {scope : Scope} {pos : Pos} {newAcc first : Sem Value} {g : Comprehension} {gs : List Comprehension} {cl : List (Str × Addr)} {use : Option (Value → Sem Unit)}
    {Q : Value → Shared → Prop} (h1 : clausesOf e = g :: gs) (h2 : ∀ x, foldedSetIterable g.iter env x = pure x) (h3 : closureFor scope env = pure cl) (hk : scope.kind = .function) (hn : ∀ x ∈ scope.names, x.2 = .local → scope.names.lookup x.1 = some .local)
    (h : wpAny M A first (fun x s1 => wpAny M A (pyIter x) (fun it s2 => wpAny M A newAcc (fun acc s3 =>
      wpAny M A (newFunctionEnv scope env.globals cl [] env.qual none .none (some env)) (fun ce s4 =>
        codeAny M A (.compStart e 0 it acc { ce with scope := relabel scope env }) (postX M A E use Q acc ce.locals ce.frame) s4) E s3) E s2) E s1) E s) :
    wpAny M A (comprehension e scope env pos newAcc false first use) Q E s := by
  unfold comprehension
  rw [h3, h1]
  refine wpAny_bind (wpAny_mono h (fun x s1 k1 => ?_) fun _ _ z => z)
  refine wpAny_bind (wpAny_standAt (wpAny_bind (wpAny_of_eq (h2 x) (wpAny_bind (wpAny_holding (wpAny_mono k1 (fun it s2 k2 => ?_) fun _ _ z => z))))))
  refine wpAny_standIf (wpAny_bind (wpAny_mono k2 (fun acc s3 k3 => ?_) fun _ _ z => z))
  refine wpAny_bind (wpAny_pure (wpAny_bind (wpAny_mono k3 (fun ce s4 k4 => ?_) fun _ _ z => z)))
  dsimp only
  have lo : ∀ x ∈ (scope.names.filter fun x => (x.2 == .local || x.2 == .cell) && x.1 != (".0" : Str)).reverse, x.2 = .local → Env.kindOf { ce with scope := relabel scope env } x.1 = some .local := fun x hx hl =>
    lookup_relabel_local (hn x (List.mem_filter.mp (List.mem_reverse.mp hx)).1 hl)
  have lo2 : ∀ x ∈ (scope.names.filter fun x => (x.2 == .local || x.2 == .cell) && x.1 != (".0" : Str)).reverse.drop 1 ++ (scope.names.filter fun x => (x.2 == .local || x.2 == .cell) && x.1 != (".0" : Str)).reverse.take 1,
      x.2 = .local → Env.kindOf { ce with scope := relabel scope env } x.1 = some .local := fun x hx hl =>
    (List.mem_append.mp hx).elim (fun z => lo x (List.mem_of_mem_drop z) hl) fun z => lo x (List.mem_of_mem_take z) hl
  refine wpAny_holding (wpAny_bind (wpAny_attempt (wpAny_holding (wpAny_run (codeAny_mono k4 fun r s' hr => ?_)))))
  rcases r with x | f
  · obtain ⟨m, n1, r1⟩ := hr
    exact wpAny_bind (wpAny_holding (wpAny_comp_letGo (cenv := { ce with scope := relabel scope env }) hk _ s' m lo n1 fun h' m' _ k => wpAny_mono (r1 h' k _ rfl) (fun _ _ z => z.elim) fun _ _ z => z))
  · cases use with
    | none =>
      obtain ⟨m, n1, r1⟩ := hr
      exact wpAny_bind (wpAny_holding (wpAny_comp_letGo (cenv := { ce with scope := relabel scope env }) hk _ s' m lo n1 fun h' m' _ k => wpAny_pure (r1 h' k)))
    | some u =>
      refine wpAny_bind (wpAny_rule (wpAny_bind (wpAny_holding (wpAny_mono hr (fun _ s2 k => ?_) fun _ _ z => z))))
      obtain ⟨m, n1, r1⟩ := k
      exact wpAny_bind (wpAny_comp_letGo (cenv := { ce with scope := relabel scope env }) hk _ s2 m lo2 n1 fun h' m' _ k => wpAny_pure (r1 h' k))
theorem funFrames_at {B B' h h' : Heap} : ∀ {l : List Env}, h.FunFrames B l → (∀ L ∈ frs l, h'.get? L = h.get? L ∧ B'.get? L = none) → h'.FunFrames B' l
  | [], _, _ => trivial
  | env :: l, ⟨hk, ⟨L, o, hf, _, ho, hd⟩, hr⟩, k => by
    have m : L ∈ frs (env :: l) := List.mem_filterMap.mpr ⟨env, List.mem_cons_self, hf⟩
    refine ⟨hk, ⟨L, o, hf, (k L m).2, (k L m).1.trans ho, hd⟩, funFrames_at hr fun b hb => k b ?_⟩
    obtain ⟨e, he, q⟩ := List.mem_filterMap.mp hb
    exact List.mem_filterMap.mpr ⟨e, List.mem_cons_of_mem _ he, q⟩
/-- a heap without one object -/
theorem hide1 (h : Heap) (C : Addr) : ∃ G : Heap, (∀ b o, G.get? b = some o → h.get? b = some o ∧ b ≠ C) ∧ (∀ b o, b ≠ C → h.get? b = some o → G.get? b = some o) ∧ ∀ b, h.get? b = none → G.get? b = none := by
  obtain ⟨G, g1, g2⟩ := restrict h fun b => decide (b ≠ C)
  have k1 : ∀ b o, G.get? b = some o → h.get? b = some o ∧ b ≠ C := fun b o e => by
    by_cases hb : b = C
    · rw [g2 b (decide_eq_false fun z => z hb)] at e; cases e
    · exact ⟨(g1 b (decide_eq_true hb)).symm.trans e, hb⟩
  refine ⟨G, k1, fun b o hb e => (g1 b (decide_eq_true hb)).trans e, fun b e => ?_⟩
  cases q : G.get? b with
  | none => rfl
  | some o => rw [(k1 b o q).1] at e; cases e
section
variable {X : Cx} {pins : List (Addr × Obj)} {σ : St} {H : Hp} {s s' : Shared} {E : XK} {u : Value}
/-- a call's exception: as XE.of_call, told that it flies -/
theorem flies (I : Inv X pins σ H s) (c : CX X.prog X.w X.stack H s E u s') :
    ∃ (a : Addr) (B : Heap) (sI : Shared) (H' : Hp) (cls : Value) (d : Option Addr), u = .ref a ∧ Inv X pins σ H' sI ∧ (∀ b o, sI.heap.get? b = some o → b ∉ frs X.stack → B.get? b = some o) ∧ sI.heap.UpToSlots s'.heap ∧
      HandSPX.FlyingZ B X.stack a (Zc cls d) s'.heap ∧ H' a = none ∧ s'.os = sI.os ∧ AllBare s'.gens ∧ E cls d H' := by
  obtain ⟨a, B, H', cls, d, rfl, fl, hok, ub, na, os, ag, hE⟩ := c
  obtain ⟨G, g1, g2⟩ := restrict s'.heap fun b => (B.get? b).isSome || decide (b ∈ frs X.stack)
  have st : B.StaysIn s'.heap := fl.1
  have gB : ∀ b o, B.get? b = some o → G.get? b = some o := fun b o e => (g1 b (by simp [e])).trans (st b o e)
  have gF : ∀ b, b ∈ frs X.stack → G.get? b = s'.heap.get? b := fun b hb => g1 b (by simp [hb])
  have og : ∀ b o, G.get? b = some o → s'.heap.get? b = some o ∧ ((B.get? b).isSome = true ∨ b ∈ frs X.stack) := fun b o e => by
    cases q : ((B.get? b).isSome || decide (b ∈ frs X.stack)) with
    | false => rw [g2 b q] at e; cases e
    | true => exact ⟨(g1 b q).symm.trans e, by simpa [Bool.or_eq_true] using q⟩
  refine ⟨a, B, { s with heap := G, gens := s'.gens, drawn := s'.drawn, toks := s'.toks }, H', cls, d, rfl, ?_, fun b o e hb => ?_, Heap.UpToSlots.of_keeps fun b o e => (og b o e).1, fl, na, os, ag, hE⟩
  · refine I.call (ch := []) ⟨fun b o e n hb _ => gB b o (ub.keep b o e n hb), fun b o e n hb _ => ?_, fun b o e n _ => ub.free b o e n, fun b o e _ => ?_, ub.tups, ub.frzs, ub.tbls⟩ (hok.kept gB) ag (fun _ z => nomatch z)
    · obtain ⟨sl, q⟩ := ub.slot b o e hb
      exact ⟨sl, (gF b hb).trans q⟩
    · by_cases hb : b ∈ frs X.stack
      · obtain ⟨sl, q⟩ := ub.slot b o e hb
        exact ⟨_, (gF b hb).trans q⟩
      · obtain ⟨o', q⟩ := ub.there b o e hb
        exact ⟨o', gB b o' q⟩
  · obtain ⟨e', h⟩ := og b o e
    rcases h with h | h
    · obtain ⟨o', q⟩ := Option.isSome_iff_exists.mp h
      have z := st b o' q
      rw [e'] at z; cases z
      exact q
    · exact absurd h hb
/-- it leaves the block: noted there, the block's names let go, it goes on in the def -/
theorem leave_comp {W : WX} {σ' : St} {H3 H' : Hp} {s3 : Shared} {scope : Scope} {ce : Env} {fp : List Addr} {pins' : List (Addr × Obj)} {E1 : Value → Shared → Prop} (hst : X.stack = X.env :: X.outer) (hf : X.env.frame = some X.env.locals) (tk : Takes X W)
    (I3 : Inv X pins σ H3 s3) (f3 : ∀ b ∈ fp, FpOk X pins H3 b) (cL : ce.locals = s3.heap.objs.size) (cF : ce.frame = X.env.frame) (I : Inv (X.blk s3 H3 scope ce fp) pins' σ' H' s) (c : CX X.prog X.w X.stack H' s (fun c d H2 => W c d σ H2) u s') :
    wpAny (model X.prog X.w) X.A (noteFrame u ce) (fun _ s2 => postX (model X.prog X.w) X.A X.xe none (fun _ _ => False) .none s3.heap.objs.size X.env.frame (.error u) s2) E1 s' := by
  obtain ⟨a, B, sI, H2, cls, d, rfl, J, nb, up, fl, na, os, ag, hW⟩ := flies I c
  have fl1 : HandSPX.FlyingZ B X.stack a (Zc cls d) s'.heap := fl
  have nb : ∀ b o, sI.heap.get? b = some o → b ∉ frs X.stack → B.get? b = some o := nb
  rw [hst] at fl1
  have hfr : X.A.frames = some (X.env :: X.outer) := by rw [I3.ok.frames, hst]
  have eC : H2 s3.heap.objs.size = none := cL ▸ J.free
  obtain ⟨m, hn, _⟩ := J.loc
  have hn : sI.heap.Ns ce.locals m := hn
  rw [cL] at hn
  have cS : s3.heap.objs.size ∉ frs X.stack := fun hm => by
    obtain ⟨_, o, ho, _⟩ := I3.stack.mem hm
    exact Nat.lt_irrefl _ (Heap.lt_size ho)
  rw [noteFrame_frame cF]
  refine HandSPX.looks_onZ Zc.steady hfr hf fl1 fun h1 hd up1 => ?_
  refine ⟨m, (up.trans up1).ns hn, fun h2 sb ce2 hce => ?_⟩
  obtain ⟨B', b1, b2, b3⟩ := hide1 B s3.heap.objs.size
  obtain ⟨G, g1, g2, g3⟩ := hide1 sI.heap s3.heap.objs.size
  obtain ⟨st, hna, ff, oe, vs, T, oT, ts, he, hz, hdd, h1', hnT, hTe, hT, hdT, ht3⟩ := hd
  have noC : ∀ b o ws, h1.get? b = some o → o.data = .fields ws → b ≠ s3.heap.objs.size := fun b o ws e q z => by
    obtain ⟨o', es, ep, e', q', _⟩ := (up.trans up1).ns hn
    rw [z] at e
    rw [show h1.get? s3.heap.objs.size = some o' from e'] at e
    cases e
    rw [q'] at q
    cases q
  have aC := noC a oe vs he hdd
  have TC := noC T oT ts hT hdT
  have hd2 : HandSPX.HeldZ B' X.stack a (Zc cls d) X.env.locals h2 := by
    refine ⟨fun b o e => (sb.2 b (b1 b o e).2).trans (st b o (b1 b o e).1), b3 a hna, ?_, oe, vs, T, oT, ts, (sb.2 a aC).trans he, hz, hdd, h1', b3 T hnT, hTe, (sb.2 T TC).trans hT, hdT, ht3⟩
    rw [hst]
    refine funFrames_at ff fun L hL => ⟨sb.2 L fun z => cS (z ▸ (by rw [hst]; exact hL)), b3 L (ff.mem hL).1⟩
  unfold PySem.passOn
  refine wpAny_bind (wpAny_field ((sb.2 a aC).trans he) hdd h1' ?_)
  rw [if_neg (show ¬ ((Value.ref T == Value.none) = true) from by simp), hce, hf]
  have fin : wpAny (model X.prog X.w) X.A (setFlight (.ref a) (some X.env.locals)) (fun _ s4 => wpAny (model X.prog X.w) X.A (throw (.ref a) : Sem Value) (fun _ _ => False) X.xe s4) X.xe { s' with heap := h2 } := by
    refine HandSPX.setFlight_onZ hd2 fun h4 hh4 up4 => wpAny_throw (tk _ _ ?_)
    have un : Un (frs X.stack) fp H3 H2 s3.heap sI.heap := J.base
    have ne : ∀ b o, s3.heap.get? b = some o → b ≠ s3.heap.objs.size := fun b o e => Nat.ne_of_lt (Heap.lt_size e)
    refine ⟨a, B', { sI with heap := G }, pins, σ, H2, cls, d, rfl, ?_, fun b o e hb => b2 b o (g1 b o e).2 (nb b o (g1 b o e).1 hb), fun b o e hn => ?_, .inr (.inr hh4), na, os, ag, hW⟩
    · refine I3.call' (ch := fp) J.os ⟨fun b o e n hb hx => g2 b o (ne b o e) (un.keep b o e n hb hx), fun b o e n hb hx => ?_, un.free, fun b o e hx => ?_, un.tups, un.frzs, un.tbls⟩ (fun b o q => ?_) J.bare fun b hb => ⟨(f3 b hb).2.2.2.1, (f3 b hb).2.1, (f3 b hb).2.2.2.2.1, (f3 b hb).2.2.2.2.2⟩
      · obtain ⟨sl, q⟩ := un.slot b o e n hb hx
        exact ⟨sl, g2 b _ (ne b o e) q⟩
      · obtain ⟨o', q⟩ := un.there b o e hx
        exact ⟨o', g2 b _ (ne b o e) q⟩
      · refine (J.hok b o q).stay (fun c v hc r => g2 c v (fun z => ?_) r) (fun _ r => r) fun _ _ r => r
        rw [z] at hc
        rcases hc with hc | hc
        · rw [← hc, eC] at q; cases q
        · rw [eC] at hc; cases hc
    · obtain ⟨e, hC⟩ := g1 b o e
      obtain ⟨sl, e1⟩ := (up.trans up1) b o e hn
      obtain ⟨sl2, e2⟩ := up4 b _ ((sb.2 b hC).trans e1) hn
      exact ⟨sl2, e2⟩
  first
    | exact wpAny_bind (wpAny_pure (wpAny_bind fin))
    | exact wpAny_bind fin
end
section
variable {X : Cx}
/-- the element may let a callee's exception out; W: what the def wishes of it -/
abbrev ElX (X : Cx) (scope : Scope) (elt : Expr) (Wk : XK) (te : TE) : Prop := ∀ (s : Shared) (H : Hp) (C : Addr) (cl : List (Str × Addr)) (fp : List Addr) (xe : Value → Shared → Prop),
  (∀ σ', PassesAt (L2.CX X.prog X.w) ((X.blk s H scope (compEnvC scope cl C X.env) fp).wish xe) σ' Wk) → PE ((X.blk s H scope (compEnvC scope cl C X.env) fp).wish xe) elt te
theorem lcX_core {W : WX} {pins : List (Addr × Obj)} {s : Shared} {σ : St} {H : Hp} {Q : VK} {elt tg iter : Expr} {ifs : List Expr} {scope : Scope} {own : List (Str × Nat)} {pos pos' : Pos} {wi : TI} {g : TG} {tt : TT} {te : TE} {use : Option (Value → Sem Unit)} {Qf : Value → Shared → Prop}
    (hst : X.stack = X.env :: X.outer) (hf : X.env.frame = some X.env.locals) (tk : Takes X W) (hc : X.calm = true) (hN : X.N.Nodup) (I : Inv X pins σ H s) (hi : PI X tg iter wi) (ok : BlkOk X.N X.env.scope scope own)
    (hg : ∀ (s : Shared) (H : Hp) (C : Addr) (cl : List (Str × Addr)) (fp : List Addr), PG (X.blk s H scope (compEnvC scope cl C X.env) fp) tg g)
    (ht : ∀ (s : Shared) (H : Hp) (C : Addr) (cl : List (Str × Addr)) (fp : List Addr), PTs (X.blk s H scope (compEnvC scope cl C X.env) fp) ifs tt)
    (he : ElX X scope elt (fun c d H2 => W c d σ H2) te) (hs : ∀ x, foldedSetIterable iter X.env x = pure x) (h : tLc wi g tt te (own.map (·.2)) σ H Q)
    (hR : ∀ D C s' m H', Inv X pins σ H' s' → Q (.ref D) H' → s'.heap.Ns C m → FpOk X pins H' C → postX (model X.prog X.w) X.A X.xe use Qf (.ref D) C X.env.frame (.ok .next) s') :
    wpAny (model X.prog X.w) X.A (comprehension (.ListComp elt [⟨tg, iter, ifs, 0⟩] scope pos) scope X.env pos' (newList []) false (eval iter X.env) use) Qf X.xe s := by
  have cl0 : ∀ y ∈ scope.names, y.2 = .free → ∃ c, X.env.cells.lookup y.1 = some c := fun y hy e => (ok.free y hy e).elim (fun k => I.ok.has _ (.inl k)) fun k => I.ok.has _ (.inr k)
  refine comp_freeX (use := use) rfl hs (closure_ok cl0) ok.kind (fun y hy e => by rw [ok.uniq y hy, e]) (thn (hi.run pins s σ H _ I h) fun xv s1 hx => thn hx fun itv s2 h2 => ?_)
  obtain ⟨it, fp, tn, J, H2, rfl, I2, T, st2, f2, q⟩ := h2
  refine wpAny_newObj_type (newEnv_comp ?_) (by show 0 ≤ sizeLine; decide)
  obtain ⟨D, hD⟩ : ∃ D, D = s2.heap.objs.size := ⟨_, rfl⟩
  obtain ⟨W0, ⟨m0, w0⟩, turn⟩ := q D (I2.hok.fresh (Nat.le_of_eq hD.symm))
  rw [← hD]
  obtain ⟨s3, hs3⟩ : ∃ s3 : Shared, s3 = { s2 with heap := s2.heap.push { cls := .type "list", data := .seq ([] : List Value).toArray } } := ⟨_, rfl⟩
  have e3 : s3.heap = s2.heap.push { cls := .type "list", data := .seq ([] : List Value).toArray } := by rw [hs3]
  have k3 : ∀ b o, s2.heap.get? b = some o → s3.heap.get? b = some o := fun b o e => by rw [e3]; exact Heap.get?_push_of_some _ e
  obtain ⟨H3, hH3⟩ : ∃ H3, H3 = upd H2 D (.lst []) := ⟨_, rfl⟩
  have I3 : Inv X pins σ H3 s3 := by
    rw [hs3, hH3]
    refine I2.laid (t' := s2.toks) (fun b o e => Heap.get?_push_of_some _ e) (Nat.le_of_eq hD.symm) ⟨Nat.zero_le _, [], 0, .nil, ?_⟩
    rw [hD]
    exact Heap.get?_push_size _ rfl
  have lt2 : ∀ b ∈ fp, b < s2.heap.objs.size := fun b hb => let ⟨o, e, _⟩ := T.obj _ _ st2 b hb; Heap.lt_size e
  have f3 : ∀ b ∈ fp, FpOk X pins H3 b := fun b hb => ⟨by rw [hH3, upd_ne (by rw [hD]; exact Nat.ne_of_lt (lt2 b hb))]; exact (f2 b hb).1, (f2 b hb).2⟩
  have l3 : ∀ b ∈ fp, b < s3.heap.objs.size := fun b hb => by
    rw [e3, Heap.size_push]
    exact Nat.lt_succ_of_lt (lt2 b hb)
  have st3 : tn 0 s3.heap := T.keep _ _ _ st2 fun b _ o e => k3 b o e
  have I4 := block_start I3 ok hN fun b hb => ⟨f3 b hb, l3 b hb⟩
  obtain ⟨ce, hce⟩ : ∃ ce, ce = compEnvC scope (cellsFrom (s3.heap.objs.size + 1) scope.names (cloFrom X.env.cells scope.names [])) s3.heap.objs.size X.env := ⟨_, rfl⟩
  have pg := hg s3 H3 s3.heap.objs.size (cellsFrom (s3.heap.objs.size + 1) scope.names (cloFrom X.env.cells scope.names [])) fp
  have pt := ht s3 H3 s3.heap.objs.size (cellsFrom (s3.heap.objs.size + 1) scope.names (cloFrom X.env.cells scope.names [])) fp
  have pe := he s3 H3 s3.heap.objs.size (cellsFrom (s3.heap.objs.size + 1) scope.names (cloFrom X.env.cells scope.names [])) fp
  rw [← hce] at I4 pg pt pe
  have cL : ce.locals = s3.heap.objs.size := by rw [hce]; rfl
  have cF : ce.frame = X.env.frame := by rw [hce]; rfl
  rw [← hH3] at w0
  rw [← hs3]
  show codeAny _ _ (.compStart (.ListComp elt [⟨tg, iter, ifs, 0⟩] scope pos) 0 (.ref it) (.ref D) (compEnvC scope (cellsFrom (s3.heap.objs.size + 1) scope.names (cloFrom X.env.cells scope.names [])) s3.heap.objs.size X.env)) (postX (model X.prog X.w) X.A X.xe use Qf (.ref D) s3.heap.objs.size X.env.frame) { s3 with heap := pushCells (s3.heap.push { cls := .type "dict", data := .dict #[] }) scope.names }
  rw [← hce]
  obtain ⟨s4, hs4⟩ : ∃ s4 : Shared, s4 = { s3 with heap := pushCells (s3.heap.push { cls := .type "dict", data := .dict #[] }) scope.names } := ⟨_, rfl⟩
  rw [← hs4] at I4 ⊢
  have st4 : tn 0 s4.heap := T.keep _ _ _ st3 fun b _ o e => by rw [hs4]; exact pushCells_keeps _ _ _ _ (Heap.get?_push_of_some _ e)
  -- what the block wishes of an exception
  obtain ⟨EC, hEC⟩ : ∃ EC : Value → Shared → Prop, EC = fun u s' => ∃ (pins' : List (Addr × Obj)) (σ' : St) (H' : Hp) (s0 : Shared), Inv (X.blk s3 H3 scope ce fp) pins' σ' H' s0 ∧ CX X.prog X.w X.stack H' s0 (fun c d H2 => W c d σ H2) u s' := ⟨_, rfl⟩
  have pe := pe EC fun σ' p' H' s0 u s' I' c => by
    rw [hEC]
    exact ⟨p', σ', H', s0, I'.unwish, c⟩
  have out : ∀ u s', EC u s' → notedBy (model X.prog X.w) X.A ce (fun e s2 => postX (model X.prog X.w) X.A X.xe use Qf (.ref D) s3.heap.objs.size X.env.frame (.error e) s2) u s' := fun u s' z => by
    rw [hEC] at z
    obtain ⟨p', σ', H', s0, I', c⟩ := z
    exact leave_comp hst hf tk I3 f3 cL cF I' c
  have fpo : ∀ {σ' : St} {H' : Hp} {s' : Shared}, Inv (X.blk s3 H3 scope ce fp) [] σ' H' s' → (∀ b ∈ fp, H' b = none) → ∀ b ∈ fp, FpOk (X.blk s3 H3 scope ce fp) [] H' b := fun {σ' H' s'} I' hn b hb =>
    ⟨hn b hb, (I'.ok.exf b hb).1, I'.ok.exfs b hb, .inl hb, fun x c e => (I'.ok.exf b hb).2 x c e, fun p hp => absurd (show p ∈ ([] : List (Addr × Obj)) ++ [] from hp) (by simp)⟩
  have loop : codeAny (model X.prog X.w) X.A (.compLoop (.ListComp elt [⟨tg, iter, ifs, 0⟩] scope pos) 0 (.ref it) (.ref D) ce) (postX (model X.prog X.w) X.A X.xe use Qf (.ref D) s3.heap.objs.size X.env.frame) s4 := by
    refine compLoop_any (fun n s' => ∃ i H', Inv (X.blk s3 H3 scope ce fp) [] (wipe σ (own.map (·.2))) H' s' ∧ tn i s'.heap ∧ (∀ b ∈ fp, H' b = none) ∧ W0 i n H') ?_ m0 ⟨0, H3, I4, st4, fun b hb => (f3 b hb).1, w0⟩
    rintro n s5 ⟨i, H5, I5, st5, n5, w5⟩
    have tk0 := turn i n H5 w5
    rcases tk0 with ⟨stop, qq⟩ | ⟨go, Nx, hNx, step⟩
    · refine thnF (T.done (X.blk s3 H3 scope ce fp) rfl rfl rfl hc i [] s5 _ H5 (fun _ _ => False) I5 (fpo I5 n5) st5 stop) fun r s6 ⟨hr, I6⟩ => ?_
      subst hr
      have I7 : Inv X pins σ H5 s6 := I3.call' (ch := fp) I6.os I6.base I6.hok I6.bare fun b hb => ⟨(f3 b hb).2.2.2.1, (f3 b hb).2.1, (f3 b hb).2.2.2.2.1, (f3 b hb).2.2.2.2.2⟩
      obtain ⟨m, hn, _⟩ := I6.loc
      have hn : s6.heap.Ns ce.locals m := hn
      have nC : H5 ce.locals = none := I6.free
      rw [cL] at hn nC
      exact hR D s3.heap.objs.size s6 m H5 I7 qq hn (I3.fpOk (Nat.le_refl _) nC)
    · refine thnF (T.item (X.blk s3 H3 scope ce fp) rfl rfl rfl hc i [] s5 _ H5 (fun _ _ => False) I5 (fpo I5 n5) st5 go) fun r s6 ⟨u, hr, h6⟩ => ?_
      subst hr
      refine thnF h6 fun _ s7 ⟨x, H7, I7, r7, y7, st7, n7⟩ => ?_
      refine thnF (pg.run _ s7 _ H7 x u _ (I7.pinned (fpo I7 n7) (T.obj _ _ st7)) r7 (step x H7 y7)) fun _ s8 ⟨σ8, H8, I8, hw8, q8⟩ => ?_
      refine thnF (pt.run _ s8 σ8 H8 _ I8 q8) fun b s9 ⟨H9, I9, q9⟩ => ?_
      have fin : ∀ {s' : Shared} {H' : Hp}, Inv (X.blk s3 H3 scope ce fp) ([] ++ pinsAt fp s7.heap) σ8 H' s' → Nx H' →
          ∃ m, m < n ∧ ∃ i H', Inv (X.blk s3 H3 scope ce fp) [] (wipe σ (own.map (·.2))) H' s' ∧ tn i s'.heap ∧ (∀ b ∈ fp, H' b = none) ∧ W0 i m H' := fun {s' H'} I' nx => by
        obtain ⟨m', hm, w'⟩ := hNx H' nx
        have pn : ∀ b ∈ fp, ∀ o, s7.heap.get? b = some o → s'.heap.get? b = some o ∧ H' b = none := fun b hb o e =>
          have z := I'.pin (b, o) (List.mem_append_right _ (List.mem_append_right _ (mem_pinsAt hb e)))
          ⟨z.1, z.2.1⟩
        refine ⟨m', hm, i + 1, H', (I'.unpinned (pins := [])).weak (by rw [← hw8, wipe_length]) (fun j v e => ?_), T.keep _ _ _ st7 fun b hb o e => (pn b hb o e).1, fun b hb => ?_, w'⟩
        · rw [← hw8] at e
          exact (wipe_some e).1
        · obtain ⟨o, e, _⟩ := T.obj _ _ st7 b hb
          exact (pn b hb o e).2
      cases b with
      | false => exact fin I9 q9
      | true =>
        refine wpAny_mono (pe.run _ s9 σ8 H9 _ (I9.wish EC) q9) (fun z s10 ⟨yv, H10, I10, r10, acc, hD10, hz10, nx⟩ => ?_) out
        exact app_ok (X := X.blk s3 H3 scope ce fp) I10.unwish hD10 hz10 r10 fun s11 I11 => fin I11 nx
  exact codeAny_compStart_list loop (T.self X.A 0 _ _ _ st4 loop)
/-- as a value -/
theorem pe_lcX {W : WX} {elt tg iter : Expr} {ifs : List Expr} {scope : Scope} {own : List (Str × Nat)} {pos : Pos} {wi : TI} {g : TG} {tt : TT} {te : St → TE} (hst : X.stack = X.env :: X.outer) (hf : X.env.frame = some X.env.locals) (tk : Takes X W) (hc : X.calm = true) (hN : X.N.Nodup)
    (hi : PI X tg iter wi) (ok : BlkOk X.N X.env.scope scope own) (hg : ∀ (s : Shared) (H : Hp) (C : Addr) (cl : List (Str × Addr)) (fp : List Addr), PG (X.blk s H scope (compEnvC scope cl C X.env) fp) tg g)
    (ht : ∀ (s : Shared) (H : Hp) (C : Addr) (cl : List (Str × Addr)) (fp : List Addr), PTs (X.blk s H scope (compEnvC scope cl C X.env) fp) ifs tt) (he : ∀ σ, ElX X scope elt (fun c d H2 => W c d σ H2) (te σ)) (hs : ∀ x, foldedSetIterable iter X.env x = pure x := by intro _; rfl) :
    PE X (.ListComp elt [⟨tg, iter, ifs, 0⟩] scope pos) (fun σ H Q => tLc wi g tt (te σ) (own.map (·.2)) σ H Q) := by
  refine ⟨fun pins s σ H Q I h => ?_⟩
  rw [eval_ListComp]
  refine lcX_core hst hf tk hc hN I hi ok hg ht (he σ) hs h fun D C s' m H' I' q hn ⟨f0, f1, f2, f3, f4, f5⟩ => ⟨m, hn, fun h2 sb => ?_⟩
  exact ⟨.ref D, H', I'.turned (t' := s'.toks) (fun b o hb e => (sb.2 b hb).trans e) f0 f1 f3 f4 f5, rfl, q⟩
/-- name = [..] -/
theorem ps_setLcX {W : WX} {i : Nat} {y : Str} {py : Pos} {elt tg iter : Expr} {ifs : List Expr} {scope : Scope} {own : List (Str × Nat)} {pos spos : Pos} {wi : TI} {g : TG} {tt : TT} {te : St → TE} (hst : X.stack = X.env :: X.outer) (hf : X.env.frame = some X.env.locals) (tk : Takes X W) (hc : X.calm = true) (hN : X.N.Nodup)
    (hy : X.N[i]? = some y) (hyl : X.env.scope.names.lookup y = some .local) (hsw : swapsWith (.ListComp elt [⟨tg, iter, ifs, 0⟩] scope pos) (some (.Name y py)) spos.line X.env = pure true)
    (hi : PI X tg iter wi) (ok : BlkOk X.N X.env.scope scope own) (hg : ∀ (s : Shared) (H : Hp) (C : Addr) (cl : List (Str × Addr)) (fp : List Addr), PG (X.blk s H scope (compEnvC scope cl C X.env) fp) tg g)
    (ht : ∀ (s : Shared) (H : Hp) (C : Addr) (cl : List (Str × Addr)) (fp : List Addr), PTs (X.blk s H scope (compEnvC scope cl C X.env) fp) ifs tt) (he : ∀ σ, ElX X scope elt (fun c d H2 => W c d σ H2) (te σ)) (hs : ∀ x, foldedSetIterable iter X.env x = pure x := by intro _; rfl) :
    PS X (.Assign [.Name y py] (.ListComp elt [⟨tg, iter, ifs, 0⟩] scope pos) spos) (tAsg (fun σ H Q => tLc wi g tt (te σ) (own.map (·.2)) σ H Q) (gName i)) := by
  refine ⟨fun pins s σ H D I h => ?_⟩
  rw [exec_Assign_Name_used _ _ _ _ hsw]
  refine wpAny_bind (wpAny_standAt (wpAny_bind ?_))
  show wpAny _ X.A (do let _ ← comprehension (.ListComp elt [⟨tg, iter, ifs, 0⟩] scope pos) scope X.env (firstIterPos [⟨tg, iter, ifs, 0⟩] pos) (newList []) false (eval iter X.env) (some (assign (.Name y py) X.env))) _ _ s
  have h : tLc wi g tt (te σ) (own.map (·.2)) σ H (fun x H1 => gName i x σ H1 D.nx) := h
  refine wpAny_bind (thn (lcX_core (Qf := fun _ s' => SP X pins D .next s') hst hf tk hc hN I hi ok hg ht (he σ) hs h fun L C s' m H' I' q hn ⟨f0, f1, f2, f3, f4, f5⟩ => ?_) fun _ s' hq => wpAny_pure (wpAny_pure hq))
  show wpAny _ _ (assign (.Name y py) X.env (.ref L)) _ _ _
  refine wpAny_assign_Name (store_ok2 (v := V.ref L) I' hN hy (.inl hyl) rfl (fun s2 I2 ⟨a, sb, ha⟩ => ?_) (.inr hyl))
  refine ⟨m, hn.sameBut sb (ha.elim (fun z => by rw [z]; exact f1) fun z e => f4 y a z e.symm), fun h3 sb3 => ?_⟩
  exact ⟨_, H', I2.turned (t' := s2.toks) (fun b o hb e => (sb3.2 b hb).trans e) f0 f1 f3 f4 f5, q⟩
end
end L2

set_option Elab.async false
set_option linter.all false
set_option autoImplicit false
set_option maxRecDepth 100000
set_option maxHeartbeats 2000000
namespace Mi
open PySem PySem.Spec L2 PyProof.Rows
/-! ### comprehensions whose element may raise -/
def bdOneX (f : E) : Bd := fun sl r m => (f sl m).bind fun y m2 => match Nat.blt r.length 1000000 with
  | true => .ok (y :: r) m2
  | false => .fail
def eLcX (n : Nat) (fi : EI) (g : G) (t : ET) (f : E) (vs : List Nat) : E := fun sl m => (fi sl m).bind fun it m1 => (walkGo it (wipeM sl vs) g t (bdOneX f) n 0 [] m1).bind fun r m2 => mk (.lst r.reverse) m2
/-- a wish that asks no slots -/
abbrev Kx (Wk : XK) : WX := fun c d _ H => Wk c d H
section
variable {cn : CN} {K : PySem.W.Frag}
theorem Run.bindE {α β γ δ : Type} {R : Rl α β} {R1 : Rl γ δ} {g : RE γ} {k : γ → MH → RE α} {Q : β → Hp → Prop} {W : XK} {H H0 : Hp} {ρ ρ0 : Nat → Addr} {n n0 : Nat} (h : Run cn K R (g.bind k) ρ0 H0 n0 Q W) (x : Ext K ρ0 H0 n0 ρ H n) {Q1 : δ → Hp → Prop}
    (hQ : ∀ y H1 ρ1 m1 a, RH cn K m1 H1 ρ1 → Ext K ρ H n ρ1 H1 m1.n → R1 K H1 ρ1 m1.n a y → Run cn K R (k a m1) ρ0 H0 n0 Q W → Q1 y H1) : Run cn K R1 g ρ H n Q1 W := by
  cases g with
  | ok a m1 => exact fun H1 ρ1 y w e r1 => hQ y H1 ρ1 m1 a w e r1 h
  | err e m1 => exact fun c d H1 ρ1 w e r1 => h c d H1 ρ1 w (x.trans e) r1
  | fail => exact h
theorem bd_oneX {f : E} {W : XK} : BdOkW cn K W (bdOneX f) (tbOne (TE' cn K (Kx W) f)) := by
  intro sl r m σ H H0 ρ ρ0 n0 D kf Q Nx w ls q hN
  unfold bdOneX at q
  rw [RE.bind_assoc] at q
  refine ⟨sl, m, ρ, w, Run.bindE q ls.ext fun y H1 ρ1 m1 a rh e r1 q => ?_⟩
  cases eb : Nat.blt r.length 1000000 with
  | false => rw [eb] at q; exact q.elim
  | true =>
    rw [eb] at q
    have ls1 := ls.to rh e
    obtain ⟨vs, h1, h2⟩ := ls1.acc
    refine ⟨vs, h1, ?_, hN _ _ _ _ (ls1.push r1 h1) ((e.ex0 w.h).trans (ls1.ex0 h1)) q⟩
    have hl := h2.length
    rw [List.length_reverse] at hl
    have : r.length + 1 ≤ 1000000 := Nat.le_of_ble_eq_true eb
    rw [← hl, sizeLine_eq]; omega
end
section
variable {cn : CN} {X : Cx} {W : WX} {elt tg iter : Expr} {ifs : List Expr} {scope : Scope} {own : List (Str × Nat)} {ix : List Nat} {pos spos py : Pos} {fi : EI} {g : G} {t : ET} {f : E} {n : Nat}
theorem lcX_read {σ : L2.St} {H : Hp} {Q : VK} (hv : ∀ j ∈ ix, j ∈ own.map (·.2)) (h : TE' cn X.K W (eLcX n fi g t f (own.map (·.2))) σ H Q) : tLc (TI' cn X.K W fi) (TG' cn X.K ix g) (TT' cn X.K No t) (TE' cn X.K (Kx fun c d H2 => W c d σ H2) f) (own.map (·.2)) σ H Q := by
  obtain ⟨sl, m, ρ, w, r⟩ := h
  refine TM.bind w r fun J H1 ρ1 m1 it w1 e1 r1 q D hD => ?_
  have w2 : WR cn X.K sl m1 σ (upd H1 D (.lst [])) ρ1 := w1.ext (.tupl hD) (w1.h.tupl hD)
  have ls : LS cn X.K D [] m1 (upd H1 D (.lst [])) ρ1 ρ1 H1 m1.n := ⟨w1.h.tupl hD, .tupl hD, hD, off_new w1.h hD, [], upd_same, .nil⟩
  exact turns_ok (Qd := fun H' => Q (.ref D) H') bd_oneX hv w2 ls r1 ((Ext.tupl hD).ex0 w1.h) q fun r' m' H' ρ' l' _ q' => l'.fin q'
theorem me_lcX (hst : X.stack = X.env :: X.outer) (hf : X.env.frame = some X.env.locals) (tk : Takes X W) (hc : X.calm = true) (hN : X.N.Nodup) (hi : PI X tg iter (TI' cn X.K W fi)) (ok : BlkOk X.N X.env.scope scope own) (hv : ∀ j ∈ ix, j ∈ own.map (·.2))
    (hg : ∀ (s : Shared) (H : Hp) (C : Addr) (cl : List (Str × Addr)) (fp : List Addr), PG (X.blk s H scope (compEnvC scope cl C X.env) fp) tg (TG' cn X.K ix g)) (ht : ∀ (s : Shared) (H : Hp) (C : Addr) (cl : List (Str × Addr)) (fp : List Addr), PTs (X.blk s H scope (compEnvC scope cl C X.env) fp) ifs (TT' cn X.K No t))
    (he : ∀ Wk : XK, ElX X scope elt Wk (TE' cn X.K (Kx Wk) f)) (hs : ∀ x, foldedSetIterable iter X.env x = pure x := by intro _; rfl) :
    PE X (.ListComp elt [⟨tg, iter, ifs, 0⟩] scope pos) (TE' cn X.K W (eLcX n fi g t f (own.map (·.2)))) :=
  pe_imp (pe_lcX (te := fun σ => TE' cn X.K (Kx fun c d H2 => W c d σ H2) f) hst hf tk hc hN hi ok hg ht (fun σ => he fun c d H2 => W c d σ H2) hs) fun σ H Q h => lcX_read hv h
/-- name = [..] -/
theorem ms_setLcX {i : Nat} {y : Str} (hst : X.stack = X.env :: X.outer) (hf : X.env.frame = some X.env.locals) (tk : Takes X W) (hc : X.calm = true) (hN : X.N.Nodup) (hy : X.N[i]? = some y) (hyl : X.env.scope.names.lookup y = some .local)
    (hsw : swapsWith (.ListComp elt [⟨tg, iter, ifs, 0⟩] scope pos) (some (.Name y py)) spos.line X.env = pure true) (hi : PI X tg iter (TI' cn X.K W fi)) (ok : BlkOk X.N X.env.scope scope own) (hv : ∀ j ∈ ix, j ∈ own.map (·.2))
    (hg : ∀ (s : Shared) (H : Hp) (C : Addr) (cl : List (Str × Addr)) (fp : List Addr), PG (X.blk s H scope (compEnvC scope cl C X.env) fp) tg (TG' cn X.K ix g)) (ht : ∀ (s : Shared) (H : Hp) (C : Addr) (cl : List (Str × Addr)) (fp : List Addr), PTs (X.blk s H scope (compEnvC scope cl C X.env) fp) ifs (TT' cn X.K No t))
    (he : ∀ Wk : XK, ElX X scope elt Wk (TE' cn X.K (Kx Wk) f)) (hs : ∀ x, foldedSetIterable iter X.env x = pure x := by intro _; rfl) :
    PS X (.Assign [.Name y py] (.ListComp elt [⟨tg, iter, ifs, 0⟩] scope pos) spos) (TS' cn X.K W (sSet i (eLcX n fi g t f (own.map (·.2))))) := by
  refine ps_imp (ps_setLcX (te := fun σ => TE' cn X.K (Kx fun c d H2 => W c d σ H2) f) hst hf tk hc hN hy hyl hsw hi ok hg ht (fun σ => he fun c d H2 => W c d σ H2) hs) fun D σ H ⟨sl, m, ρ, w, r⟩ => ?_
  exact lcX_read hv (RunS.tm w r fun y H1 ρ1 m1 u w1 e1 r1 q => q.nxt (w1.set r1 i))
end
/-! ### str -/
def bStr : List Val → MH → RE Val := fun vs m => match vs with
  | [.int i] => (match Nat.blt i.natAbs.log2 1920 with
    | true => .ok (.str (toString i)) m
    | false => .fail)
  | _ => .fail
theorem mc_str {cn : CN} {X : Cx} : CallR X (.type "str") (rC cn X.K bStr) := by
  intro pins s σ H xs us Q I r ⟨vs, m, ρ, w, rs, q⟩
  unfold bStr at q
  split at q
  · rename_i i
    obtain ⟨x, rfl, r1⟩ := rs.one
    cases r1
    cases e0 : Nat.blt i.natAbs.log2 1920 with
    | false => rw [e0] at q; exact q.elim
    | true =>
      rw [e0] at q
      exact L2.call_str_int pins s σ H _ us Q I r ⟨i, rfl, Nat.le_of_ble_eq_true e0, Run.val q w (.str _)⟩
  · exact q.elim
end Mi

set_option Elab.async false
set_option linter.all false
set_option autoImplicit false
set_option maxRecDepth 100000
set_option maxHeartbeats 4000000
/-! sets of texts: made of a tuple or list, sorted -/
namespace TXS
open PySem PySem.Spec PyProof.Rows L2 PySem.Froz
section
variable {P : Program} {w : World} {A : Around} {E : Value → Shared → Prop} {s : Shared}
/-- a text more, where it isn't there yet -/
def addS (l : List Str) (x : Str) : List Str := if x ∈ l then l else x :: l
theorem tail_ris {ep : Nat} {es1 : Array (Int × Value)} {t2 : SetTable} {b : Bool} (r : Ris t2.place.toList) : Ris (tailTx ep es1 t2 b).2.2.place.toList ∧ (tailTx ep es1 t2 b).2.2.led = t2.led := by
  unfold tailTx
  by_cases c : (!b && t2.tooFull) = true
  · rw [if_pos c]; exact ⟨relayAll_ris t2 es1 _, relayAll_led t2 es1 _⟩
  · rw [if_neg c]; exact ⟨r, rfl⟩
theorem add_ris {h : Int} {v : Value} {D : SD} (r : Ris D.2.2.place.toList) : Ris (addTx h v D).2.2.place.toList ∧ (addTx h v D).2.2.led = D.2.2.led := by
  obtain ⟨es, ep, t⟩ := D
  have h1 := layNew_ris t es h v r
  have h2 := layNew_led t es h v
  unfold addTx
  by_cases c : (layNew t es h v).2.1.plain = true
  · dsimp only
    rw [if_pos c]
    obtain ⟨a, b⟩ := tail_ris (ep := ep) (es1 := (layNew t es h v).1) (t2 := { (layNew t es h v).2.1 with plain := false }) (b := (layNew t es h v).2.2.1) h1
    exact ⟨a, b.trans h2⟩
  · dsimp only
    rw [if_neg c]
    obtain ⟨a, b⟩ := tail_ris (ep := ep) (es1 := (layNew t es h v).1) (t2 := (layNew t es h v).2.1) (b := (layNew t es h v).2.2.1) h1
    exact ⟨a, b.trans h2⟩
/-- the set of the texts l stands at a -/
def SetX (P : Program) (w : World) (h : Heap) (a : Addr) (l : List Str) : Prop :=
  ∃ D : SD, h.get? a = some (sObj "set" D) ∧ TxOk P w D l ∧ l.Nodup ∧ Ris D.2.2.place.toList ∧ (w.params.followText "set-order" = true ∨ D.2.2.led = true)
theorem SetX.at {h h' : Heap} {a : Addr} {l : List Str} (x : SetX P w h a l) (k : ∀ o, h.get? a = some o → h'.get? a = some o) : SetX P w h' a l :=
  let ⟨D, e, r⟩ := x; ⟨D, k _ e, r⟩
/-- a text is put in -/
theorem put_x {a : Addr} {l : List Str} {k : Str} {u : Tok} {Q : Bool → Shared → Prop} (R : SetX P w s.heap a l) (hb : l.length + 1 < scanBound)
    (h : ∀ b h', Heap.SameBut a s.heap h' → SetX P w h' a (addS l k) → Q b { s with heap := h' }) : wpAny (model P w) A (setAddHashed a (.str k u) (hashStr w k)) Q E s := by
  obtain ⟨D, ho, F, nd, r, hl⟩ := R
  by_cases hk : k ∈ l
  · obtain ⟨es, ep, t⟩ := D
    have hd : (sObj "set" (es, ep, t)).data = .set es ep t := rfl
    have hsz : es.size = l.length := F.sz
    have hb0 : es.size < scanBound := by omega
    have hkey := is_str (P := P) (w := w) k u
    unfold setAddHashed setAddHashedIn
    refine wpAny_holding (wpAny_bind (wpAny_setState_of ho hd F.fit ?_))
    dsimp only
    rw [byScan_of rfl hb0 F.el]
    simp only [↓reduceIte]
    unfold setAddByScan
    refine wpAny_bind (wpAny_bind (wpAny_rule (wpAny_bind (wpAny_setScan_of (knd := strKind P w) (k := k) hkey ho hd F.fit F.el ?_))))
    cases hf : List.findIdx? (fun e => (strKind P w).is k e.2) es.toList with
    | none =>
      obtain ⟨e, he, q⟩ := (F.mem k).mp hk
      have c := List.findIdx?_eq_none_iff.mp hf e he
      rw [q] at c
      cases c
    | some j =>
      dsimp only
      refine wpAny_pure (wpAny_pure (h _ s.heap (Heap.SameBut.refl a s.heap) ?_))
      unfold addS
      rw [if_pos hk]
      exact ⟨_, ho, F, nd, r, hl⟩
  · refine add_x ho F hk hb (h _ _ (Heap.SameBut.update s.heap a _) ?_)
    obtain ⟨r1, r2⟩ := add_ris (h := hashStr w k) (v := .str k u) r
    unfold addS
    rw [if_neg hk]
    exact ⟨_, get_upd _ ho rfl, add_ok u F, List.nodup_cons.mpr ⟨hk, nd⟩, r1, hl.imp id fun z => r2.trans z⟩
theorem addS_len {l : List Str} {x : Str} : (addS l x).length ≤ l.length + 1 := by
  unfold addS
  split
  · exact Nat.le_succ _
  · exact Nat.le_refl _
theorem folds_len : ∀ (xs l : List Str), (xs.foldl addS l).length ≤ l.length + xs.length
  | [], l => Nat.le_refl _
  | x :: xs, l => by
    have h1 := folds_len xs (addS l x)
    have h2 := addS_len (l := l) (x := x)
    simp only [List.foldl_cons, List.length_cons]
    omega
end
section
variable {prog : Program} {w : World} {A : Around} {R : Result → Shared → Prop} {I : Addr} {fp wr : List Addr} {G : Array GenState → Array GenState → Prop} {n : Nat} {P : Nat → Value → Prop} {St : Nat → Shared → Prop}
/-- the loop that fills the set -/
theorem fill (W : WalksS prog w A.in1 I fp wr G n P St) (S : Addr) (hS : S ∉ fp) (xs : List Str) (hx : xs.length = n) (hn : n + 1 < scanBound) (hv : ∀ i v, P i v → ∃ t, v = .str (xs.getD i Str.empty) t) :
    ∀ (k i : Nat) (s : Shared), i + k = n → St i s → SetX prog w s.heap S ((xs.take i).foldl addS []) →
      (∀ s', Moved (S :: wr) G s s' → SetX prog w s'.heap S (xs.foldl addS []) → R (.ok (.ret .none)) s') → codeAny (model prog w) A (.builtin "set.update.loop" ⟨[.ref S, .ref I], []⟩) R s := by
  have hw : S ∉ wr := fun h => hS (W.sub _ h)
  have sub : ∀ b ∈ wr, b ∈ S :: wr := fun b hb => List.mem_cons_of_mem _ hb
  intro k
  induction k with
  | zero =>
    intro i s hk st hX hR
    have e : i = n := by omega
    subst e
    refine codeAny_builtin F.entry_set_update_loop ?_
    rw [Around.under_plainId F.plain_set_update_loop _]
    show wpAny _ A.in1 (pyNext (.ref I) >>= _) _ _ s
    refine wpAny_bind (W.done s _ _ st fun s' hm => ?_)
    show wpAny _ A.in1 (ret Value.none) _ _ s'
    rw [List.take_of_length_le (by omega)] at hX
    exact wpAny_pure (hR s' (hm.mono sub) (hX.at fun o e => hm.heap S o hw e))
  | succ k ih =>
    intro i s hk st hX hR
    have hi : i < n := by omega
    refine codeAny_builtin F.entry_set_update_loop ?_
    rw [Around.under_plainId F.plain_set_update_loop _]
    show wpAny _ A.in1 (pyNext (.ref I) >>= _) _ _ s
    refine wpAny_bind (W.item i s _ _ hi st fun v s' hP st' hm => ?_)
    obtain ⟨t, rfl⟩ := hv i v hP
    have hX' : SetX prog w s'.heap S ((xs.take i).foldl addS []) := hX.at fun o e => hm.heap S o hw e
    show wpAny _ A.in1 (holding [Value.str (xs.getD i Str.empty) t] (setAdd S (.str (xs.getD i Str.empty) t)) >>= _) _ _ s'
    refine wpAny_bind (wpAny_holding ?_)
    unfold setAdd
    refine wpAny_holding (wpAny_bind ((PySem.strKind prog w).pyHash (k := xs.getD i Str.empty) (is_str _ _) ?_))
    have hl := folds_len (xs.take i) []
    have ht : (xs.take i).length = i := by rw [List.length_take]; omega
    rw [ht, List.length_nil] at hl
    refine put_x (s := { s' with toks := s'.toks + 1 }) hX' (by omega) fun b h' sb X2 => ?_
    have X3 : SetX prog w h' S ((xs.take (i + 1)).foldl addS []) := by
      have e : xs.take (i + 1) = xs.take i ++ [xs.getD i Str.empty] := by
        rw [List.take_succ, List.getElem?_eq_getElem (by omega), List.getD_eq_getElem?_getD, List.getElem?_eq_getElem (by omega)]
        rfl
      rw [e, List.foldl_append]
      exact X2
    refine wpAny_pure ⟨plainId_quiet F.plain_set_update_loop _, ih (i + 1) _ (by omega) (W.frame _ s' _ _ st' (Nat.le_succ _) fun b hb o e => ?_) X3 fun s2 m2 Y => ?_⟩
    · rw [sb.2 b fun z => hS (z ▸ hb)]; exact e
    · refine hR s2 (Moved.trans W.gtrans ((hm.mono sub).then_heap (Nat.le_succ _) fun b o hb e => ?_) m2) Y
      rw [sb.2 b fun z => hb (z ▸ List.mem_cons_self)]; exact e
end
section
variable {prog : Program} {w : World} {A : Around} {E : Value → Shared → Prop} {s : Shared}
/-- a new set -/
abbrev newS (w : World) : Obj := { cls := .type "set", dict := none, data := .set #[] 0 (.fresh 0 0 (!w.params.followText "set-order")) }
theorem newS_ok {h : Heap} {S : Addr} (e : h.get? S = some (newS w)) : SetX prog w h S [] :=
  ⟨(#[], 0, .fresh 0 0 (!w.params.followText "set-order")), e, TxOk.nil rfl, List.nodup_nil, List.Pairwise.nil, by
    show _ ∨ (!w.params.followText "set-order") = true
    cases w.params.followText "set-order"
    · exact .inr rfl
    · exact .inl rfl⟩
/-- what is walked: a list or a tuple -/
structure Src (prog : Program) (w : World) (T : String) (l : Addr) (items : Array Value) (IO : Obj) : Prop where
  s1 : isSubtype (.type T) (.type "set") = pure false
  s2 : isSubtype (.type T) (.type "frozenset") = pure false
  s3 : (Value.type T == Value.type "dict") = false
  it : ∀ (A : Around) (E : Value → Shared → Prop) (s : Shared) (Q : Value → Shared → Prop), (∃ o n, s.heap.get? l = some o ∧ o.cls = .type T ∧ o.data = .seq items n) → Q (.ref s.heap.objs.size) { s with heap := s.heap.push IO } → wpAny (model prog w) A (pyIter (.ref l)) Q E s
  wk : ∀ (A : Around) (I : Addr), A.handled = none → l ≠ I → ∃ (St : Nat → Heap → Prop), Walks prog w A I [I, l] [I] items.size (fun j v => items[j]? = some v) St ∧ ∀ h : Heap, h.get? I = some IO → (∃ o n, h.get? l = some o ∧ o.cls = .type T ∧ o.data = .seq items n) → St 0 h
theorem set_of {T : String} {l : Addr} {items : Array Value} {xs : List Str} {Q : Value → Shared → Prop} {IO : Obj} (C : Src prog w T l items IO) (hf : IO.isFreed = false)
    (hh : A.handled = none) (hl : ∃ o n, s.heap.get? l = some o ∧ o.cls = .type T ∧ o.data = .seq items n) (hi : StrsAre items.toList xs) (hn : xs.length + 1 < scanBound)
    (h : ∀ (h' : Heap) (tk : Nat), SetX prog w h' s.heap.objs.size (xs.foldl addS []) → (∀ b o, s.heap.get? b = some o → h'.get? b = some o) → Q (.ref s.heap.objs.size) { s with heap := h', toks := tk }) :
    wpAny (model prog w) A (call (.type "set") [.ref l]) Q E s := by
  obtain ⟨ol, nl, hol, hcl, hdl⟩ := hl
  obtain ⟨c, tl, hmro⟩ := PySem.F.called_set.mro
  have hmade := PySem.F.called_set.made
  have hsub := PySem.F.called_set.sub
  refine wpAny_call (codeAny_of_tree ?_)
  show wpAny _ _ (callAny (.type "set") _) _ _ _
  refine wpAny_pure ⟨Code.quiet_builtin _ (by decide +kernel), codeAny_builtin PySem.F.entry_type_call ?_⟩
  rw [Around.under_plain (weight_type_call_type "set" [.ref l] []) rfl]
  have h1 := PySem.F.called_set.notType
  have h2 := PySem.F.called_set.canCreate
  have hct := PySem.F.typeCall_set_1 (.ref l)
  repeat (any_goals (first | assumption | wp_step))
  refine codeAny_mono (code_set_led1 (.ref l) (E := E) (Q₁ := fun obj s₁ => obj = .ref s.heap.objs.size ∧ s₁ = { s with heap := s.heap.push (newS w) }) ⟨rfl, rfl⟩) fun r s₁ hr => ?_
  cases r with
  | error e => exact hr
  | ok fl =>
   cases fl with
   | ret obj =>
    obtain ⟨rfl, rfl⟩ := hr
    have hS : (s.heap.push (newS w)).get? s.heap.objs.size = some (newS w) := Heap.get?_push_size _ rfl
    have hT : Shared.TypeIs { s with heap := s.heap.push (newS w) } (.ref s.heap.objs.size) "set" := ⟨_, hS, rfl⟩
    have hli := PySem.F.called_set.init.lookup
    have hbi := PySem.F.called_set.init.bind (.ref s.heap.objs.size)
    repeat (any_goals (first | assumption | wp_step))
    refine codeAny_mono (codeAny_call_builtin (R := wants (fun r s₂ => r = .none ∧ ∃ h' tk, s₂ = { s with heap := h', toks := tk } ∧ SetX prog w h' s.heap.objs.size (xs.foldl addS []) ∧ ∀ b o, s.heap.get? b = some o → h'.get? b = some o) E)
      PySem.F.called_set.init.plain PySem.F.entry_set_init (check_set_init_1 hT ?_)) fun r₂ s₂ hr₂ => ?_
    · obtain ⟨oc, od, ot, os⟩ := ol
      simp only at hcl hdl
      subst hcl; subst hdl
      have hol' : (s.heap.push (newS w)).get? l = some { cls := .type T, dict := od, data := .seq items nl, slots := os } := Heap.get?_push_of_some _ hol
      have q1 := C.s1
      have q2 := C.s2
      have q3 := C.s3
      unfold Builtin.«set.__init__» noKeywords Builtin.Frozenset.updateFrom
      generalize hPI : pyIter = PI
      wp_walk
      subst hPI
      refine C.it _ _ _ _ ⟨_, _, hol', rfl, rfl⟩ ?_
      refine wpAny_bind (wpAny_runValue ?_)
      have hlS : l < s.heap.objs.size := Heap.lt_size hol
      have hz1 : (s.heap.push (newS w)).objs.size = s.heap.objs.size + 1 := Heap.size_push ..
      have hne : l ≠ (s.heap.push (newS w)).objs.size := by rw [hz1]; exact Nat.ne_of_lt (Nat.lt_succ_of_lt hlS)
      have hSf : s.heap.objs.size ∉ [(s.heap.push (newS w)).objs.size, l] := by
        rw [hz1]
        simp only [List.mem_cons, List.not_mem_nil, or_false, not_or]
        exact ⟨Nat.ne_of_lt (Nat.lt_succ_self _), Nat.ne_of_gt hlS⟩
      have hx : xs.length = items.size := by rw [← StrsAre.len_eq hi, Array.length_toList]
      obtain ⟨St, W, hst⟩ := C.wk A.in1.in1.in1 _ (by simp [hh]) hne
      have ho2 : ((s.heap.push (newS w)).push IO).get? l = some { cls := .type T, dict := od, data := .seq items nl, slots := os } := Heap.get?_push_of_some _ hol'
      refine fill W.toS s.heap.objs.size hSf xs hx (by rw [← hx]; exact hn) (fun i v hv => SS.strs_at hi i v (by rw [Array.getElem?_toList]; exact hv)) items.size 0 _ (Nat.zero_add _) (hst _ (Heap.get?_push_size _ hf) ⟨_, _, ho2, rfl, rfl⟩) (newS_ok (Heap.get?_push_of_some _ hS)) fun s' hm hX => ?_
      obtain ⟨h', g2, d', tk', os'⟩ := s'
      have eg : g2 = s.gens := hm.gens
      have ed : d' = s.drawn := hm.drawn
      have eo : os' = s.os := hm.os
      subst eg ed eo
      show wpAny _ _ _ _ _ _
      refine wpAny_pure ?_
      show wpAny _ _ (ret Value.none) _ _ _
      refine wpAny_pure ⟨rfl, h', tk', rfl, hX, fun b o e => hm.heap b o ?_ (Heap.get?_push_of_some _ (Heap.get?_push_of_some _ e))⟩
      have hb0 := Heap.lt_size e
      simp only [List.mem_cons, List.not_mem_nil, or_false, not_or]
      rw [hz1]
      exact ⟨Nat.ne_of_lt hb0, Nat.ne_of_lt (Nat.lt_succ_of_lt hb0)⟩
    · cases r₂ with
      | error e => exact hr₂
      | ok fl₂ =>
       cases fl₂ with
       | ret r =>
        obtain ⟨rfl, h', tk, rfl, hX, hk⟩ := hr₂
        repeat (any_goals (first | assumption | wp_step))
        exact h _ _ hX hk
       | _ => exact hr₂.elim
   | _ => exact hr.elim
theorem src_tuple (l : Addr) (items : Array Value) : Src prog w "tuple" l items { cls := .type "tuple_iterator", data := .fields #[.ref l, .int 0 0] } where
  s1 := PySem.F.sub_tuple_set
  s2 := PySem.F.sub_tuple_frozenset
  s3 := by decide
  it := fun A E s Q ⟨o, n, h1, h2, h3⟩ hQ => wpAny_pyIter_tuple ⟨o, h1, h2, n, h3⟩ hQ
  wk := fun A I hh hne => ⟨_, Walks.tuple hh _ l hne items, fun h hi ⟨o, n, h1, h2, h3⟩ => ⟨⟨_, hi, rfl, rfl⟩, ⟨o, h1, h2, n, h3⟩⟩⟩
theorem src_list (l : Addr) (items : Array Value) : Src prog w "list" l items { cls := .type "list_iterator", data := .fields #[.ref l, .int 0 0] } where
  s1 := PySem.F.sub_list_set
  s2 := PySem.F.sub_list_frozenset
  s3 := by decide
  it := fun A E s Q ⟨o, n, h1, h2, h3⟩ hQ => wpAny_pyIter_list ⟨o, h1, h2, n, h3⟩ hQ
  wk := fun A I hh hne => ⟨_, Walks.list hh _ l hne items, fun h hi ⟨o, n, h1, h2, h3⟩ => ⟨⟨_, hi, rfl, rfl⟩, ⟨o, h1, h2, n, h3⟩⟩⟩
end
end TXS

set_option Elab.async false
set_option linter.all false
set_option autoImplicit false
set_option maxRecDepth 100000
set_option maxHeartbeats 4000000
/-! sorted(..) of texts from any source; dict(a tuple of pairs); len(set(ints)) -/
namespace TXS
open PySem PySem.Spec PyProof.Rows L2 PySem.Froz
section
variable {prog : Program} {w : World} {A : Around} {E : Value → Shared → Prop} {s : Shared}
theorem nodup_perm {α : Type} : ∀ (l m : List α), l.Nodup → (∀ x ∈ l, x ∈ m) → l.length = m.length → m.Perm l
  | [], m, _, _, hl => by
    cases m with
    | nil => exact .nil
    | cons _ _ => cases hl
  | x :: r, m, nd, hs, hl => by
    obtain ⟨a, b, rfl⟩ := List.append_of_mem (hs x List.mem_cons_self)
    obtain ⟨n1, n2⟩ := List.nodup_cons.mp nd
    have p : (a ++ x :: b).Perm (x :: (a ++ b)) := List.perm_middle
    refine p.trans (List.Perm.cons x (nodup_perm r (a ++ b) n2 (fun y hy => ?_) ?_))
    · rcases List.mem_cons.mp (p.mem_iff.mp (hs y (List.mem_cons_of_mem _ hy))) with z | z
      · exact absurd (z ▸ hy) n1
      · exact z
    · have := p.length_eq
      simp only [List.length_cons] at hl this
      omega
/-- the items of a source are gathered: vs with Pv -/
def Gathers (prog : Program) (w : World) (s : Shared) (v : Value) (Pv : List Value → Prop) : Prop :=
  ∀ (A : Around) (E : Value → Shared → Prop) (Q : List Value → Shared → Prop), A.handled = none → (∀ s' vs, (∀ b o, s.heap.get? b = some o → s'.heap.get? b = some o) → s.heap.objs.size ≤ s'.heap.objs.size → s'.gens = s.gens → s'.os = s.os → Pv vs → Q vs s') →
    wpAny (model prog w) A (collect v) Q E s
theorem gathers_tup {t : Addr} {vs : List Value} (hl : IsTup s.heap t vs.toArray) (hz : vs.length ≤ sizeLine) : Gathers prog w s (.ref t) (· = vs) := by
  intro A E Q hh h
  obtain ⟨o, ho, hc, n, hd⟩ := id hl
  unfold collect
  refine wpAny_bind (wpAny_runValue (codeAny_builtin entry_proto_collect' ?_))
  show wpAny _ _ (do again (.builtin "list.__iadd__" ⟨[← newList [], .ref t], []⟩)) _ _ s
  refine wpAny_bind (wpAny_newList (wpAny_pure ⟨Code.quiet_builtin _ (by decide +kernel), codeAny_builtin entry_list_iadd' ?_⟩))
  show wpAny _ _ (Builtin.List.listExtendWith (.ref s.heap.objs.size) (.ref t) (.ref s.heap.objs.size)) _ _ { s with heap := s.heap.push (seqObj "list" #[] 0) }
  unfold Builtin.List.listExtendWith
  have ho' : (s.heap.push (seqObj "list" #[] 0)).get? t = some o := Heap.get?_push_of_some _ ho
  refine wpAny_bind (wpAny_typeOf (T := "tuple") ⟨o, ho', hc⟩ ?_)
  have e1 : (Value.type "tuple" == Value.type "tuple") = true := by rfl
  rw [if_pos (by rw [e1]; simp)]
  refine wpAny_bind (listItems_at ho' hd ?_)
  refine wpAny_bind (listItems_at (xs := #[]) (n := 0) (Heap.get?_push_size _ rfl) rfl ?_)
  rw [if_neg (by simp)]
  refine wpAny_bind (listUpdate_at (xs := #[]) (n := 0) (Heap.get?_push_size _ rfl) rfl ?_ (Nat.zero_le _) (by show (#[] ++ vs.toArray).size ≤ sizeLine + 1; simp only [Array.size_append, List.size_toArray, List.length_nil]; omega))
  refine wpAny_pure ?_
  show wpAny (model prog w) A (do
      let o ← load s.heap.objs.size
      match o.data with
      | .seq xs _ => pure xs.toList
      | _ => unsupported "internal:collect") Q E { s with heap := (s.heap.push (seqObj "list" #[] 0)).update s.heap.objs.size (Obj.mapSeq (· ++ vs.toArray)) }
  refine wpAny_bind (wpAny_load (get?_update_seq (Heap.get?_push_size _ rfl) _) ?_)
  show wpAny _ _ (pure ((#[] : Array Value) ++ vs.toArray).toList) Q E _
  rw [show ((#[] : Array Value) ++ vs.toArray).toList = vs by simp]
  refine wpAny_pure (h _ _ (fun b u e => ?_) ?_ rfl rfl rfl)
  · rw [Heap.get?_update_ne _ _ _ _ (Nat.ne_of_lt (Heap.lt_size e))]
    exact Heap.get?_push_of_some _ e
  · rw [Heap.size_update, size_push']
    exact Nat.le_succ _
theorem gathers_set {a : Addr} {l : List Str} (R : SetX prog w s.heap a l) (hb : l.length < scanBound) : Gathers prog w s (.ref a) (fun vs => ∃ ss, StrsAre vs ss ∧ ss.Perm l) := by
  intro A E Q hh h
  obtain ⟨⟨es, ep, t⟩, ho, F, nd, r, hl⟩ := R
  have hsz : es.size = l.length := F.sz
  refine collect_set hh ⟨_, ho, rfl, rfl⟩ F.fit (by rw [hsz]; exact hb) r hl fun s' out k z g o pm => h s' out k z g o ?_
  have el := F.el
  -- each entry's value is a text
  have str1 : ∀ (k : Str) (v : Value), (PySem.strKind prog w).is k v = true → ∃ t, v = .str k t := fun k v hk => by
    have hk : Value.isStrOf k v = true := hk
    unfold Value.isStrOf at hk
    split at hk
    · have e := eq_of_beq hk
      exact ⟨_, by rw [e]⟩
    · cases hk
  have one : ∀ v ∈ out, ∃ x t, v = Value.str x t := fun v hv => by
    obtain ⟨e, he, q⟩ := List.mem_map.mp (pm.mem_iff.mp hv)
    obtain ⟨⟨k, hk, _⟩, _⟩ := F.el e he
    obtain ⟨t, e2⟩ := str1 k _ hk
    exact ⟨k, t, by rw [← q]; exact e2⟩
  refine ⟨out.map strOf, strsAre_map out one, ?_⟩
  refine nodup_perm l _ nd (fun k hk => ?_) ?_
  · obtain ⟨e, he, q⟩ := (F.mem k).mp hk
    obtain ⟨t, e2⟩ := str1 k _ q
    exact List.mem_map.mpr ⟨e.2, pm.mem_iff.mpr (List.mem_map.mpr ⟨e, he, rfl⟩), by rw [e2] <;> rfl⟩
  · rw [List.length_map, pm.length_eq, List.length_map, Array.length_toList]
    exact hsz.symm
/-- sorted(..) of texts -/
theorem sorted_src {v : Value} {Q : Value → Shared → Prop} {Pv : List Value → Prop} {ss : List Str} (C : Gathers prog w s v Pv) (hP : ∀ vs, Pv vs → ∃ ss', StrsAre vs ss' ∧ ss'.Perm ss) (h64 : ss.length < 64) (hh : A.handled = none)
    (h : ∀ s' p (out : Array Value) (c : Nat) ss', (∀ b o, s.heap.get? b = some o → s'.heap.get? b = some o) → s'.gens = s.gens → s'.os = s.os → s.heap.objs.size ≤ p → s'.heap.get? p = some (seqObj "list" out c) → StrsAre out.toList ss' → ss'.Perm ss → sortedS ss' = true → Q (.ref p) s') :
    wpAny (model prog w) A (call (.builtin "sorted") [v]) Q E s := by
  refine Calls.call_function_entry kind_sorted plain_sorted entry_sorted (args_sorted1 _) ?_
  unfold Builtin.«sorted»
  refine wpAny_bind (m := checkCount "sorted" 1 1 _) (wpAny_pure ?_)
  refine wpAny_bind (C A.in1 _ _ hh fun s1 vs k1 hz g1 o1 pv => ?_)
  obtain ⟨ss1, hS, pm⟩ := hP vs pv
  have hlen : vs.length < 64 := by rw [StrsAre.len_eq hS, pm.length_eq]; exact h64
  refine wpAny_bind (wpAny_newList ?_ (by rw [sizeLine_eq]; omega))
  have hoL : (s1.heap.push (seqObj "list" vs.toArray 0)).get? s1.heap.objs.size = some (seqObj "list" vs.toArray 0) := Heap.get?_push_size _ rfl
  refine wpAny_bind (wpAny_holding (wpAny_call_entry slot_list_sort ⟨_, hoL, rfl⟩ entry_list_sort
    (list_sort_treeK PyProof.Rows.strKind_oneLt hoL hS.keysOf (fun v₁ v₂ rest e => keyKind_strs (by rw [← e]; exact hS)) hlen fun st' a1 a2 => ⟨_, rfl, ?_⟩) (args_list_sort _)))
  obtain ⟨ss', b1, b2, b3⟩ := sorted_out_str hS a1 a2
  obtain ⟨c, hc⟩ := sortedHeap_at (vs := vs) (out := (arrOf st').map (·.2)) hoL
  refine wpAny_pure ⟨_, rfl, h _ s1.heap.objs.size _ c ss' (fun b u e => ?_) g1 o1 hz hc b1 (b2.trans pm) b3⟩
  have q := k1 b u e
  have lt := Heap.lt_size q
  show (sortedHeap (s1.heap.push (seqObj "list" vs.toArray 0)) s1.heap.objs.size vs _).get? b = some u
  rw [sortedHeap_old (Nat.ne_of_lt lt) (by rw [size_push']; exact Nat.lt_succ_of_lt lt)]
  exact Heap.get?_push_of_some _ q
end
section
/-- texts in order -/
def leS (x y : Str) : Prop := ¬ y.cps.toList < x.cps.toList
theorem leS_trans {x y z : Str} (a : leS x y) (b : leS y z) : leS x z := List.le_trans (α := Nat) a b
theorem leS_antisymm {x y : Str} (a : leS x y) (b : leS y x) : x = y := by
  have e := List.le_antisymm (α := Nat) a b
  obtain ⟨⟨l⟩⟩ := x
  obtain ⟨⟨m⟩⟩ := y
  have e : l = m := e
  rw [e]
theorem leS_total (x y : Str) : leS x y ∨ leS y x := List.le_total (α := Nat) x.cps.toList y.cps.toList
theorem rise_pw : ∀ (r : List Str) (p : Str), risingS p r = true → (p :: r).Pairwise leS
  | [], p, _ => List.pairwise_singleton _ _
  | x :: r, p, h => by
    have h : (!ltCps x.cps.toList p.cps.toList && risingS x r) = true := h
    obtain ⟨h1, h2⟩ := Bool.and_eq_true_iff.mp h
    rw [ltCps_eq, Bool.not_eq_true', decide_eq_false_iff_not] at h1
    have ih := rise_pw r x h2
    refine List.pairwise_cons.mpr ⟨fun y hy => ?_, ih⟩
    rcases List.mem_cons.mp hy with z | z
    · rw [z]; exact h1
    · exact leS_trans h1 ((List.pairwise_cons.mp ih).1 y z)
theorem sorted_pw : ∀ (l : List Str), sortedS l = true → l.Pairwise leS
  | [], _ => List.Pairwise.nil
  | x :: r, h => rise_pw r x h
/-- put in its place -/
def insS (x : Str) : List Str → List Str
  | [] => [x]
  | y :: r => match Mi.llt y.cps.toList x.cps.toList with
    | true => y :: insS x r
    | false => x :: y :: r
def ssort : List Str → List Str
  | [] => []
  | x :: r => insS x (ssort r)
theorem insS_perm (x : Str) : ∀ l : List Str, (insS x l).Perm (x :: l)
  | [] => .refl _
  | y :: r => by
    unfold insS
    cases Mi.llt y.cps.toList x.cps.toList with
    | true => exact (List.Perm.cons y (insS_perm x r)).trans (List.Perm.swap x y r)
    | false => exact .refl _
theorem ssort_perm : ∀ l : List Str, (ssort l).Perm l
  | [] => .refl _
  | x :: r => (insS_perm x (ssort r)).trans (List.Perm.cons x (ssort_perm r))
theorem insS_pw (x : Str) : ∀ l : List Str, l.Pairwise leS → (insS x l).Pairwise leS
  | [], _ => List.pairwise_singleton _ _
  | y :: r, h => by
    obtain ⟨h1, h2⟩ := List.pairwise_cons.mp h
    unfold insS
    cases e : Mi.llt y.cps.toList x.cps.toList with
    | true =>
      rw [Mi.llt_eq, decide_eq_true_iff] at e
      have yx : leS y x := fun z => List.lt_irrefl _ (List.lt_trans z e)
      refine List.pairwise_cons.mpr ⟨fun z hz => ?_, insS_pw x r h2⟩
      rcases List.mem_cons.mp ((insS_perm x r).mem_iff.mp hz) with q | q
      · rw [q]; exact yx
      · exact h1 z q
    | false =>
      rw [Mi.llt_eq, decide_eq_false_iff_not] at e
      refine List.pairwise_cons.mpr ⟨fun z hz => ?_, h⟩
      rcases List.mem_cons.mp hz with q | q
      · rw [q]; exact e
      · exact leS_trans e (h1 z q)
theorem ssort_pw : ∀ l : List Str, (ssort l).Pairwise leS
  | [] => List.Pairwise.nil
  | x :: r => insS_pw x _ (ssort_pw r)
/-- there is one sorted list alone -/
theorem sorted_one {ys l : List Str} (p : ys.Perm l) (h : sortedS ys = true) : ys = ssort l :=
  List.Perm.eq_of_pairwise (fun _ _ _ _ a b => leS_antisymm a b) (sorted_pw ys h) (ssort_pw l) (p.trans (ssort_perm l).symm)
end
end TXS
namespace TXS
open PySem PySem.Spec PyProof.Rows L2 PySem.Froz
section
variable {X : Cx}
def SetTO (P : Program) (w : World) (a : Addr) (l : List Str) : HO := .ext fun h => SetX P w h a l
theorem setT_new {w : World} {P : Program} {H : Hp} {h : Heap} {a : Addr} {l : List Str} (R : SetX P w h a l) : ObjOk P w H h a (SetTO P w a l) :=
  let ⟨D, e, _⟩ := id R; ⟨R, ⟨_, e⟩, fun _ _ p k => SetX.at p k⟩
theorem setT_get {pins : List (Addr × Obj)} {σ : L2.St} {H : Hp} {s : Shared} {a : Addr} {l : List Str} (I : Inv X pins σ H s) (ha : H a = some (SetTO X.prog X.w a l)) : SetX X.prog X.w s.heap a l := (I.hok a _ ha).1
/-- a new list behind whatever was drawn -/
theorem fin_lst {pins : List (Addr × Obj)} {σ : L2.St} {H : Hp} {s s' : Shared} {p : Addr} {out : Array Value} {c : Nat} {xs : List V} {Q : VK} (I : Inv X pins σ H s) (k : ∀ b o, s.heap.get? b = some o → s'.heap.get? b = some o) (g : s'.gens = s.gens) (o : s'.os = s.os)
    (hp : s.heap.objs.size ≤ p) (hg : s'.heap.get? p = some (seqObj "list" out c)) (rv : Vals xs out.toList) (hz : xs.length ≤ sizeLine) (q : Q (.ref p) (upd H p (.lst xs))) : EP X pins σ Q (.ref p) s' := by
  have hn : H p = none := I.hok.fresh hp
  have J : Inv X pins σ (upd H p (.lst xs)) { s with heap := s'.heap, gens := s'.gens, drawn := s'.drawn, toks := s'.toks } :=
    I.call (ch := []) (Un.laid k hp hn) (I.hok.laid k hp ⟨hz, out.toList, c, rv, hg⟩) (by rw [g]; exact I.bare) (fun _ z => nomatch z)
  have e : s' = { s with heap := s'.heap, gens := s'.gens, drawn := s'.drawn, toks := s'.toks } := by
    cases s'
    cases s
    cases o
    rfl
  rw [e]
  exact ⟨.ref p, _, J, rfl, q⟩
theorem small64' {n : Nat} (h : n < 64) : n ≤ sizeLine := by rw [sizeLine_eq]; omega
/-- sorted(a tuple of texts) -/
theorem cr_sortTup (hc : X.calm = true) : CallR X (.builtin "sorted") (fun vs H Q => ∃ (a : Addr) (xs : List Str), vs = [V.ref a] ∧ SqT X.K H a (xs.map V.str) ∧ xs.length < 64 ∧ ∀ p, H p = none → Q (.ref p) (upd H p (.lst ((ssort xs).map V.str)))) := by
  intro pins s σ H vs us Q I r h
  obtain ⟨a, xs, rfl, hs, h64, q⟩ := h
  obtain ⟨its, rv, ht, _⟩ := I.tuple hs
  have hl := rv.length
  rw [List.length_map] at hl
  rw [Vals.ref1 r]
  refine sorted_src (gathers_tup ht (small64' (by omega))) (fun vs e => ⟨xs, by rw [e]; exact rv.strs, .refl _⟩) h64 (I.ok.hd hc) fun s' p out c ss' k g o hp hg hS pm so => ?_
  have e := sorted_one pm so
  subst e
  refine fin_lst I k g o hp hg (vals_of_strs hS) ?_ (q p (I.hok.fresh hp))
  rw [List.length_map, pm.length_eq]
  exact small64' h64
/-- sorted(a list of texts), the list told -/
theorem cr_sortLst : CallR X (.builtin "sorted") (fun vs H Q => ∃ (a : Addr) (xs : List Str), vs = [V.ref a] ∧ SqL X.K H a (xs.map V.str) ∧ xs.length < 64 ∧ ∀ p, H p = none → Q (.ref p) (upd H p (.lst ((ssort xs).map V.str)))) := by
  intro pins s σ H vs us Q I r h
  obtain ⟨a, xs, rfl, hs, h64, q⟩ := h
  exact cr_sortedS pins s σ H _ us Q I r ⟨a, xs, rfl, hs, h64, fun ys p pm so hp => by rw [sorted_one pm so]; exact q p hp⟩
/-- set(..) of texts -/
theorem cr_setT (hc : X.calm = true) : CallR X (.type "set") (fun vs H Q => ∃ (a : Addr) (xs : List Str), vs = [V.ref a] ∧ (SqL X.K H a (xs.map V.str) ∨ SqT X.K H a (xs.map V.str)) ∧ xs.length < 64 ∧ ∀ p, H p = none → Q (.ref p) (upd H p (SetTO X.prog X.w p (xs.foldl addS [])))) := by
  intro pins s σ H vs us Q I r h
  obtain ⟨a, xs, rfl, hs, h64, q⟩ := h
  rw [Vals.ref1 r]
  have fin : ∀ (h' : Heap) (tk : Nat), SetX X.prog X.w h' s.heap.objs.size (xs.foldl addS []) → (∀ b o, s.heap.get? b = some o → h'.get? b = some o) → EP X pins σ Q (.ref s.heap.objs.size) { s with heap := h', toks := tk } := fun h' tk hX k =>
    ⟨.ref s.heap.objs.size, _, I.laid (t' := tk) k (Nat.le_refl _) (setT_new hX), rfl, q _ (I.hok.fresh (Nat.le_refl _))⟩
  have sb : xs.length + 1 < scanBound := by unfold scanBound; omega
  rcases hs with hs | hs
  · obtain ⟨its, rv, pl, _⟩ := I.list hs
    obtain ⟨o, n, ho, hcl, hd, hdat⟩ := pl
    exact set_of (src_list a its.toArray) rfl (I.ok.hd hc) ⟨o, n, ho, hcl, hdat⟩ rv.strs sb fin
  · obtain ⟨its, rv, ht, _⟩ := I.tuple hs
    obtain ⟨o, ho, hcl, n, hdat⟩ := ht
    exact set_of (src_tuple a its.toArray) rfl (I.ok.hd hc) ⟨o, n, ho, hcl, hdat⟩ rv.strs sb fin
/-- sorted(a set of texts) -/
theorem cr_sortSet (hc : X.calm = true) : CallR X (.builtin "sorted") (fun vs H Q => ∃ (a : Addr) (l : List Str), vs = [V.ref a] ∧ H a = some (SetTO X.prog X.w a l) ∧ l.length < 64 ∧ ∀ p, H p = none → Q (.ref p) (upd H p (.lst ((ssort l).map V.str)))) := by
  intro pins s σ H vs us Q I r h
  obtain ⟨a, l, rfl, ha, h64, q⟩ := h
  rw [Vals.ref1 r]
  refine sorted_src (gathers_set (setT_get I ha) (by unfold scanBound; omega)) (fun vs e => e) h64 (I.ok.hd hc) fun s' p out c ss' k g o hp hg hS pm so => ?_
  have e := sorted_one pm so
  subst e
  refine fin_lst I k g o hp hg (vals_of_strs hS) ?_ (q p (I.hok.fresh hp))
  rw [List.length_map, pm.length_eq]
  exact small64' h64
theorem pairs_of2 {pins : List (Addr × Obj)} {σ : L2.St} {H : Hp} {s : Shared} (I : Inv X pins σ H s) : ∀ {ps : List Addr} {kvs : List (Key × V)}, Paired (fun p kv => SqT X.K H p [kV kv.1, kv.2]) ps kvs →
    ∃ (prs : List (Key × Value)) (us : List Value), KV kvs prs ∧ prs.length = ps.length ∧ us.length = ps.length ∧ ∀ (j : Nat) (q : Key × Value) (u : Value), prs[j]? = some q → us[j]? = some u → ∃ b, ps[j]? = some b ∧ IsTup s.heap b #[u, q.2] ∧ keyIs q.1 u = true
  | _, _, .nil => ⟨[], [], .nil, rfl, rfl, fun j q u e => by simp at e⟩
  | _, _, .cons (a := p) (b := kv) h t => by
    obtain ⟨prs, us, r, h1, h2, hp⟩ := pairs_of2 I t
    obtain ⟨its, rv, ht, _⟩ := I.tuple h
    obtain ⟨u, y, ei, ru, ry⟩ := vals2 rv
    subst ei
    refine ⟨(kv.1, y) :: prs, u :: us, .cons ⟨rfl, ry⟩ r, by simp [h1], by simp [h2], fun j q u' e e' => ?_⟩
    cases j with
    | zero =>
      obtain rfl : (kv.1, y) = q := Option.some.inj e
      obtain rfl : u = u' := Option.some.inj e'
      exact ⟨p, rfl, ht, kV_is (P := X.prog) (w := X.w) ru⟩
    | succ j =>
      obtain ⟨b, e1, e2, e3⟩ := hp j q u' (by simpa using e) (by simpa using e')
      exact ⟨b, by simpa using e1, e2, e3⟩
/-- dict(a tuple of pairs) -/
theorem call_dictT (hc : X.calm = true) : CallR X (.type "dict") (fun xs H Q => ∃ (a : Addr) (ps : List Addr) (kvs : List (Key × V)), xs = [.ref a] ∧ Mi.SqD X.K H a (ps.map V.ref) ∧ Paired (fun p kv => SqT X.K H p [kV kv.1, kv.2]) ps kvs ∧
    ∀ p, H p = none → Q (.ref p) (upd H p (.dK (mergeK [] kvs)))) := by
  intro pins s σ H xs us Q I r q
  obtain ⟨a, ps, kvs, rfl, hq, hp, q⟩ := q
  rw [Vals.ref1 r]
  obtain ⟨its, rv, o, n, ho, hcl, hd, hdat, hz⟩ : ∃ its, Vals (ps.map V.ref) its ∧ ∃ (o : Obj) (n : Nat), s.heap.get? a = some o ∧ o.cls = .type "tuple" ∧ o.dict = none ∧ o.data = .seq its.toArray n ∧ its.length ≤ sizeLine := by
    rcases hq with ⟨o, h, hd⟩ | ⟨o, its, n, h1, h2, h3, h4, h5, h6⟩
    · obtain ⟨e, hz, its, rv, o', e', hcl, n, hdat⟩ := I.hok a _ h
      rw [e] at e'
      cases e'
      exact ⟨its, rv, o, n, e, hcl, hd, hdat, by rw [← rv.length]; exact hz⟩
    · exact ⟨its.toList, h6, o, n, I.kIn _ _ h1, h2, h3, h4, by simpa using h5⟩
  have ei := refs_at rv
  subst ei
  obtain ⟨prs, us, rel, h1, h2, hpr⟩ := pairs_of2 I hp
  rw [List.length_map] at hz
  have hzl : (us.zip (prs.map (·.2))).length = ps.length := by rw [List.length_zip, List.length_map, h1, h2, Nat.min_self]
  have at2 : ∀ j k v, (us.zip (prs.map (·.2)))[j]? = some (k, v) → ∃ q' : Key × Value, prs[j]? = some q' ∧ us[j]? = some k ∧ q'.2 = v := fun j k v e => by
    rw [List.getElem?_zip_eq_some, List.getElem?_map] at e
    obtain ⟨e1, e2⟩ := e
    cases e3 : prs[j]? with
    | none => rw [e3] at e2; cases e2
    | some q' => rw [e3] at e2; exact ⟨q', e3, e1, Option.some.inj e2⟩
  have hm : (s.heap.objs.size == sysModules) = false := beq_eq_false_iff_ne.mpr (Nat.ne_of_gt I.big)
  have hlen : (mergeK [] kvs).length ≤ sizeLine := by
    refine Nat.le_trans (length_mergeK kvs []) ?_
    rw [List.length_nil, Nat.zero_add, rel.length, h1]
    exact hz
  refine PySem.call_dict_pairs (knd := mixKind X.prog X.w) (kvs := prs) (PairArg.tuple a ((ps.map Value.ref).toArray) (fun j => ps.getD j 0) (us.zip (prs.map (·.2)))) (I.ok.hd hc) ⟨⟨o, n, ho, hcl, hd, hdat⟩, ?_, fun j k v e => ?_⟩ ⟨by rw [hzl, h1], fun i key v e => ?_⟩ (by rw [hzl]; exact hz) fun h' tk hd' k => ?_
  · rw [hzl]
    simp
  · obtain ⟨q', e1, e2, e3⟩ := at2 j k v e
    obtain ⟨b, f1, f2, f3⟩ := hpr j q' k e1 e2
    have fb : ps.getD j 0 = b := by rw [List.getD_eq_getElem?_getD, f1] <;> rfl
    refine ⟨?_, .inl ?_⟩
    · show (List.map Value.ref ps).toArray[j]? = some (Value.ref (ps.getD j 0))
      rw [fb]
      simp [f1]
    · show s.heap.IsTuple (ps.getD j 0) #[k, v]
      rw [fb, ← e3]
      exact f2
  · obtain ⟨q', e1, e2, e3⟩ := at2 i key v e
    obtain ⟨b, f1, f2, f3⟩ := hpr i q' key e1 e2
    exact ⟨q'.1, by rw [e1, ← e3], f3⟩
  · refine ⟨.ref s.heap.objs.size, _, I.laid (t' := tk) (fun b u e => k b u (by simp) e) (Nat.le_refl _) (show ObjOk X.prog X.w _ _ _ (.dK (mergeK [] kvs)) from ⟨hlen, hm, PySem.merged [] prs, KV.merge rel .nil, hd'⟩), rfl, q _ (I.hok.fresh (Nat.le_refl _))⟩
end
end TXS
namespace TXS
open PySem PySem.Spec PyProof.Rows L2 PySem.Froz
section
variable {X : Cx}
/-- sorted(a list of at most one) -/
theorem cr_sort1 : CallR X (.builtin "sorted") (fun vs H Q => ∃ (a : Addr) (xs : List V), vs = [V.ref a] ∧ SqL X.K H a xs ∧ xs.length ≤ 1 ∧ ∀ p, H p = none → Q (.ref p) (upd H p (.lst xs))) := by
  intro pins s σ H vs us Q I r h
  obtain ⟨a, xs, rfl, hs, h1, q⟩ := h
  obtain ⟨its, rv, hl, hz⟩ := I.list hs
  rw [Vals.ref1 r]
  have hlen := rv.length
  refine SrtO.sorted_ord (ltv := fun _ _ => false) ⟨fun _ _ h => (by cases h), fun _ _ _ _ _ => rfl⟩ hl.isList (by rw [← hlen]; exact hz) (fun h2 => absurd h2 (by omega)) fun out _ hb => ?_
  have e : out = its := by
    have pm := hb.perm
    cases its with
    | nil => exact pm.eq_nil
    | cons v r =>
      cases r with
      | nil => exact List.perm_singleton.mp pm
      | cons _ _ => simp at hlen; omega
  subst e
  obtain ⟨c, hc⟩ := sortedAll_at s.heap out out.toArray
  exact ⟨.ref _, _, I.laid (t' := s.toks) (fun _ _ => sortedAll_old) (Nat.le_succ _) (show ObjOk X.prog X.w _ _ _ (.lst xs) from ⟨hz, out, c, rv, hc⟩), rfl, q _ (I.hok.fresh (Nat.le_succ _))⟩
/-- len(set(ints)) -/
def tLenSetJ (K : PySem.W.Frag) (ta : TE) : TE := fun σ H Q => ta σ H fun x H1 => ∃ (l : Addr) (ns : List Int), x = V.ref l ∧ SqL K H1 l (ns.map V.int) ∧ ns.length < 64 ∧ Q (.int (PyProof.Rows.firstMet (fun i => ns.getD i 0) ns.length).length) H1
theorem pe_lenSetJ {a : Expr} {ta : TE} {p p2 q pos : Pos} (hc : X.calm = true) (hg : Gl X "len") (hm : X.mg "len" = none) (hg2 : Gl X "set") (hm2 : X.mg "set" = none) (ha : PE X a ta)
    (na : starEach [a] X.env = (false, eval a X.env) :: starEach [] X.env := by rfl) : PE X (.Call (.Name "len" p) [.Call (.Name "set" p2) [a] [] q] [] pos) (tLenSetJ X.K ta) := by
  refine ⟨fun pins s σ H Q I h => Call_ (ld_blt I hg hm PySem.boot_len ?_)⟩
  refine PyProof.Rows.callWith_builtin1 (PyProof.Rows.args_cons ?_ rfl) rfl rfl
  refine Call_ (ld_blt I hg2 hm2 PyProof.Rows.boot_set ?_)
  refine PyProof.Rows.callWith_type1 (PyProof.Rows.args_cons (thn (ha.run pins s σ H _ I h) fun v s1 ⟨x, H1, I1, r1, q1⟩ => PyProof.Rows.args_nil ?_) na) na rfl
  obtain ⟨l, ns, rfl, hq, h1, q1⟩ := q1
  cases r1
  obtain ⟨its, r, pl, hz⟩ := I1.list hq
  have hl : its.toArray.size = ns.length := by rw [List.size_toArray, ← r.length, List.length_map]
  refine call_set_list (I1.ok.hd hc) pl.isList (ns := ns) (by simpa using r.ints) (by unfold scanBound; omega) fun h' tk hS hk => ?_
  rw [hl] at hS
  refine PyProof.Rows.args_nil ?_
  have hle := PyProof.Rows.firstMet_length_le (fun i => ns.getD i 0) ns.length
  obtain ⟨o, es, ep, t, ho, hex, hd, _, _, _, hf, hn⟩ := hS
  have I2 : Inv X pins σ H1 { s1 with heap := h', toks := tk } := I1.kept fun b o e => hk b o (Heap.lt_size e) e
  exact call_len_set ho hex hd hf (by rw [hn] <;> omega) ⟨.int ((PyProof.Rows.firstMet (fun i => ns.getD i 0) ns.length).length : Nat), H1, I2.tok _, ⟨_, by rw [hn]⟩, q1⟩
end
end TXS

set_option Elab.async false
set_option linter.all false
set_option autoImplicit false
set_option maxRecDepth 100000
set_option maxHeartbeats 4000000
namespace Mi
open PySem PySem.Spec L2 TXS PyProof.Rows
def strsOf : List Val → Option (List Str)
  | [] => some []
  | v :: r => match v with
    | .str x => (match strsOf r with | some xs => some (x :: xs) | none => none)
    | _ => none
theorem strsOf_ok {K : PySem.W.Frag} {H : Hp} {ρ : Nat → Addr} {n : Nat} : ∀ {xs : List Val} {vs : List V} {ss : List Str}, RVs K H ρ n xs vs → strsOf xs = some ss → vs = ss.map V.str
  | _, _, ss, .nil, h => by cases h; rfl
  | x :: xs, _, ss, .cons r t, h => by
    cases x with
    | str z =>
      have h : (match strsOf xs with | some xs => some (z :: xs) | none => none) = some ss := h
      cases e : strsOf xs with
      | none => rw [e] at h; cases h
      | some rs =>
        rw [e] at h
        cases h
        cases r
        rw [strsOf_ok t e]
        rfl
    | _ => cases h
def insI (x : Int) : List Int → List Int
  | [] => [x]
  | y :: r => match decide (y < x) with
    | true => y :: insI x r
    | false => x :: y :: r
def isort : List Int → List Int
  | [] => []
  | x :: r => insI x (isort r)
theorem insI_perm (x : Int) : ∀ l : List Int, (insI x l).Perm (x :: l)
  | [] => .refl _
  | y :: r => by
    unfold insI
    cases decide (y < x) with
    | true => exact (List.Perm.cons y (insI_perm x r)).trans (List.Perm.swap x y r)
    | false => exact .refl _
theorem isort_perm : ∀ l : List Int, (isort l).Perm l
  | [] => .refl _
  | x :: r => (insI_perm x (isort r)).trans (List.Perm.cons x (isort_perm r))
theorem insI_pw (x : Int) : ∀ l : List Int, l.Pairwise (· ≤ ·) → (insI x l).Pairwise (· ≤ ·)
  | [], _ => List.pairwise_singleton _ _
  | y :: r, h => by
    obtain ⟨h1, h2⟩ := List.pairwise_cons.mp h
    unfold insI
    cases e : decide (y < x) with
    | true =>
      rw [decide_eq_true_iff] at e
      refine List.pairwise_cons.mpr ⟨fun z hz => ?_, insI_pw x r h2⟩
      rcases List.mem_cons.mp ((insI_perm x r).mem_iff.mp hz) with q | q
      · omega
      · exact h1 z q
    | false =>
      rw [decide_eq_false_iff_not] at e
      refine List.pairwise_cons.mpr ⟨fun z hz => ?_, h⟩
      rcases List.mem_cons.mp hz with q | q
      · omega
      · have := h1 z q; omega
theorem isort_pw : ∀ l : List Int, (isort l).Pairwise (· ≤ ·)
  | [] => List.Pairwise.nil
  | x :: r => insI_pw x _ (isort_pw r)
theorem isort_one {ys l : List Int} (p : ys.Perm l) (h : ys.Pairwise (· ≤ ·)) : ys = isort l :=
  List.Perm.eq_of_pairwise (fun _ _ _ _ a b => Int.le_antisymm a b) h (isort_pw l) (p.trans (isort_perm l).symm)
/-- sorted(..) -/
def bSorted : List Val → MH → RE Val := fun vs m => match vs with
  | [v] => (match itemsOf m v with
    | some xs => (match strsOf xs with
      | some ss => (match Nat.blt ss.length 64 with | true => mk (.lst ((ssort ss).map .str)) m | false => .fail)
      | none => (match v with
        | .tup _ => .fail
        | _ => (match intsOf xs with
          | some ns => mk (.lst ((isort ns).map .int)) m
          | none => (match Nat.ble xs.length 1 with | true => mk (.lst xs) m | false => .fail))))
    | none => .fail)
  | _ => .fail
section
variable {cn : CN} {X : Cx} {W : WX}
theorem rvs_strs {K : PySem.W.Frag} {H : Hp} {ρ : Nat → Addr} {n : Nat} : ∀ l : List Str, RVs K H ρ n (l.map .str) (l.map V.str) := RVs.strs
theorem rvs_ints {K : PySem.W.Frag} {H : Hp} {ρ : Nat → Addr} {n : Nat} : ∀ l : List Int, RVs K H ρ n (l.map .int) (l.map V.int)
  | [] => .nil
  | x :: r => .cons (.int x) (rvs_ints r)
theorem mc_sorted (hc : X.calm = true) : CallR X (.builtin "sorted") (rC cn X.K bSorted) := by
  intro pins s σ H xs us Q I r ⟨vs, m, ρ, w, rs, q⟩
  unfold bSorted at q
  split at q
  · rename_i v
    obtain ⟨x, rfl, r1⟩ := rs.one
    cases eo : itemsOf m v with
    | none => rw [eo] at q; exact q.elim
    | some ys =>
      rw [eo] at q
      obtain ⟨p, zs, rfl, r2, hq⟩ := itemsOf_ok w r1 eo
      dsimp only at q
      cases es : strsOf ys with
      | some ss =>
        rw [es] at q
        dsimp only at q
        cases eb : Nat.blt ss.length 64 with
        | false => rw [eb] at q; exact q.elim
        | true =>
          rw [eb] at q
          have h64 : ss.length < 64 := Nat.le_of_ble_eq_true eb
          have e := strsOf_ok r2 es
          subst e
          rcases hq with ⟨h, _⟩ | ⟨h, _⟩
          · exact cr_sortLst pins s σ H _ us Q I r ⟨p, ss, rfl, h, h64, fun l hl => Run.mkLst q w (rvs_strs _) hl⟩
          · exact cr_sortTup hc pins s σ H _ us Q I r ⟨p, ss, rfl, h, h64, fun l hl => Run.mkLst q w (rvs_strs _) hl⟩
      | none =>
        rw [es] at q
        dsimp only at q
        have hL : SqL X.K H p zs := by
          rcases hq with ⟨h, _⟩ | ⟨_, e⟩
          · exact h
          · subst e; exact q.elim
        have q : Run cn X.K RV (match intsOf ys with
          | some ns => mk (.lst ((isort ns).map .int)) m
          | none => (match Nat.ble ys.length 1 with | true => mk (.lst ys) m | false => .fail)) ρ H m.n Q (fun _ _ _ => False) := by
          cases v with
          | tup _ => exact q.elim
          | _ => exact q
        cases ei : intsOf ys with
        | some ns =>
          rw [ei] at q
          have e := intsOf_ok r2 ei
          subst e
          exact cr_sortedI pins s σ H _ us Q I r ⟨p, ns, rfl, hL, fun ns' l pm pw hl => by rw [isort_one pm pw]; exact Run.mkLst q w (rvs_ints _) hl⟩
        | none =>
          rw [ei] at q
          dsimp only at q
          cases eb : Nat.ble ys.length 1 with
          | false => rw [eb] at q; exact q.elim
          | true =>
            rw [eb] at q
            exact cr_sort1 pins s σ H _ us Q I r ⟨p, zs, rfl, hL, by rw [← r2.length]; exact Nat.le_of_ble_eq_true eb, fun l hl => Run.mkLst q w r2 hl⟩
  · exact q.elim
/-- len(set(..)), sorted(set(..)) -/
def lenSet : Val → MH → RE Val := fun v m => match v with
  | .loc _ => (match itemsOf m v with
    | some xs => (match intsOf xs with
      | some ns => (match Nat.blt ns.length 64 with | true => .ok (.int (firstMet (fun i => ns.getD i 0) ns.length).length) m | false => .fail)
      | none => .fail)
    | none => .fail)
  | _ => .fail
theorem me_lenSet {a : Expr} {f : E} {p p2 q pos : Pos} (hc : X.calm = true) (hg : Gl X "len") (hm : X.mg "len" = none) (hg2 : Gl X "set") (hm2 : X.mg "set" = none) (ha : PE X a (TE' cn X.K W f))
    (na : starEach [a] X.env = (false, eval a X.env) :: starEach [] X.env := by rfl) : PE X (.Call (.Name "len" p) [.Call (.Name "set" p2) [a] [] q] [] pos) (TE' cn X.K W (eUn lenSet f)) := by
  refine pe_imp (pe_lenSetJ hc hg hm hg2 hm2 ha na) fun σ H Q ⟨sl, m, ρ, w, r⟩ => ?_
  refine TM.bind w r fun x H1 ρ1 m1 u w1 e1 r1 q => ?_
  have q := Run.nE (W' := fun _ _ _ => True) q
  unfold lenSet at q
  split at q
  · cases eo : itemsOf m1 _ with
    | none => rw [eo] at q; exact q.elim
    | some ys =>
      rw [eo] at q
      obtain ⟨p, zs, rfl, r2, hq⟩ := itemsOf_ok w1.h r1 eo
      dsimp only at q
      cases ei : intsOf ys with
      | none => rw [ei] at q; exact q.elim
      | some ns =>
        rw [ei] at q
        dsimp only at q
        cases eb : Nat.blt ns.length 64 with
        | false => rw [eb] at q; exact q.elim
        | true =>
          rw [eb] at q
          have e := intsOf_ok r2 ei
          subst e
          rcases hq with ⟨h, _⟩ | ⟨_, e⟩
          · exact ⟨p, ns, rfl, h, Nat.le_of_ble_eq_true eb, Run.val q w1.h (.int _)⟩
          · cases e
  · exact q.elim
def sortSet : Val → MH → RE Val := fun v m => match itemsOf m (wk v) with
  | some xs => (match strsOf xs with
    | some ss => (match Nat.blt ss.length 64 with | true => mk (.lst ((ssort (ss.foldl addS [])).map .str)) m | false => .fail)
    | none => .fail)
  | none => .fail
theorem me_sortSet {a : Expr} {f : E} {p p2 q pos : Pos} (hc : X.calm = true) (hg : Gl X "sorted") (hm : X.mg "sorted" = none) (hg2 : Gl X "set") (hm2 : X.mg "set" = none) (hv : bootBuiltins "sorted" = some (.builtin "sorted")) (hv2 : bootBuiltins "set" = some (.type "set")) (ha : PE X a (TE' cn X.K W f))
    (na : starEach [a] X.env = (false, eval a X.env) :: starEach [] X.env := by rfl) (nb : starEach [.Call (.Name "set" p2) [a] [] q] X.env = (false, eval (.Call (.Name "set" p2) [a] [] q) X.env) :: starEach [] X.env := by rfl) :
    PE X (.Call (.Name "sorted" p) [.Call (.Name "set" p2) [a] [] q] [] pos) (TE' cn X.K W (eUn sortSet f)) := by
  refine pe_imp (pe_callB (cr_sortSet hc) hg hm hv (pa_cons (pe_callTy (cr_setT hc) hg2 hm2 hv2 (pa_cons ha pa_nil na) (by decide) (by decide) na rfl) pa_nil nb) (by decide) (by decide) nb rfl) fun σ H Q ⟨sl, m, ρ, w, r⟩ => ?_
  refine TM.bind w r fun x H1 ρ1 m1 u w1 e1 r1 q => ?_
  have q := Run.nE (W' := fun _ _ _ => False) q
  unfold sortSet at q
  cases eo : itemsOf m1 (wk u) with
  | none => rw [eo] at q; exact q.elim
  | some ys =>
    rw [eo] at q
    obtain ⟨p, zs, rfl, r2, hq⟩ := itemsOf_ok w1.h r1.wk eo
    dsimp only at q
    cases es : strsOf ys with
    | none => rw [es] at q; exact q.elim
    | some ss =>
      rw [es] at q
      dsimp only at q
      cases eb : Nat.blt ss.length 64 with
      | false => rw [eb] at q; exact q.elim
      | true =>
        rw [eb] at q
        have h64 : ss.length < 64 := Nat.le_of_ble_eq_true eb
        have e := strsOf_ok r2 es
        subst e
        refine ⟨p, ss, rfl, hq.imp (·.1) (·.1), h64, fun l hl => ⟨l, ss.foldl addS [], rfl, upd_same, ?_, fun l2 hl2 => ?_⟩⟩
        · have := folds_len ss []
          simp only [List.length_nil, Nat.zero_add] at this
          omega
        · have w2 := w1.h.tupl (ho := SetTO X.prog X.w l (ss.foldl addS [])) hl
          have q2 := Run.back (Ext.tupl (K := X.K) (ρ := ρ1) (n := m1.n) (ho := SetTO X.prog X.w l (ss.foldl addS [])) hl) q
          exact Run.mkLst q2 w2 (rvs_strs _) hl2
/-- dict(a tuple of pairs) -/
def pairK (v : Val) : Option (Key × Val) := match wk v with
  | .tup [k, x] => (match keyOf k with | some kk => some (kk, x) | none => none)
  | _ => none
def pairsK : List Val → Option (List (Key × Val))
  | [] => some []
  | v :: r => match pairK v with
    | some p => (match pairsK r with | some ps => some (p :: ps) | none => none)
    | none => none
def bDict : List Val → MH → RE Val := fun vs m => match vs with
  | [.dtp xs] => (match pairsK xs with
    | some ps => mk (.dic (ps.foldl (fun acc p => kput acc p.1 p.2) [])) m
    | none => .fail)
  | _ => .fail
/-- a built-in whose arguments are taken as they are -/
def eBi0 (op : List Val → MH → RE Val) (f : EA) : E := fun sl m => (f sl m).bind fun vs m1 => nE (op vs m1)
theorem me_ty0 {T : String} {op : List Val → MH → RE Val} {x : Str} {p pos : Pos} {e : Expr} {es : List Expr} {f : EA} (hc : CallR X (.type T) (rC cn X.K op)) (hg : Gl X x) (hm : X.mg x = none) (hv : bootBuiltins x = some (.type T)) (ha : PA X (e :: es) (TA' cn X.K W f)) (hn : x ≠ "__name__" := by decide) (hdb : (x == ("__debug__" : Str)) = false := by decide)
    (he : starEach (e :: es) X.env = (false, eval e X.env) :: starEach es X.env := by rfl) (hpl : (backTo pos (starEach es X.env)).any (·.1) = false := by rfl) : PE X (.Call (.Name x p) (e :: es) [] pos) (TE' cn X.K W (eBi0 op f)) := by
  refine pe_imp (pe_callTy hc hg hm hv ha hn hdb he hpl) fun σ H Q ⟨sl, m, ρ, w, r⟩ => ?_
  refine TM.bind w r fun x H1 ρ1 m1 u w1 e1 r1 q => ?_
  exact ⟨u, m1, ρ1, w1.h, r1, q.nE⟩
theorem keyOf_rv {K : PySem.W.Frag} {H : Hp} {ρ : Nat → Addr} {n : Nat} {v : Val} {x : V} {k : Key} (r : RV K H ρ n v x) (h : keyOf v = some k) : x = kV k := by
  cases v with
  | int i => cases h; cases r; rfl
  | str z => cases h; cases r; rfl
  | _ => cases h
theorem pairsK_ok {K : PySem.W.Frag} {H : Hp} {ρ : Nat → Addr} {n : Nat} : ∀ {xs : List Val} {vs : List V} {ps : List (Key × Val)}, RVs K H ρ n xs vs → pairsK xs = some ps →
    ∃ (as : List Addr) (kvs : List (Key × V)), vs = as.map V.ref ∧ Paired (fun p kv => SqT K H p [kV kv.1, kv.2]) as kvs ∧ RKs K H ρ n ps kvs
  | _, _, ps, .nil, h => by cases h; exact ⟨[], [], rfl, .nil, rfl, .nil⟩
  | x :: xs, _, ps, .cons (v := v) (vs := vs) r t, h => by
    have h : (match pairK x with | some p => (match pairsK xs with | some ps => some (p :: ps) | none => none) | none => none) = some ps := h
    cases e1 : pairK x with
    | none => rw [e1] at h; cases h
    | some p =>
      rw [e1] at h
      dsimp only at h
      cases e2 : pairsK xs with
      | none => rw [e2] at h; cases h
      | some qs =>
        rw [e2] at h
        cases h
        obtain ⟨as, kvs, rfl, hp, hk⟩ := pairsK_ok t e2
        have r := r.wk
        unfold pairK at e1
        generalize wk x = y at e1 r
        split at e1
        · rename_i k z
          cases ek : keyOf k with
          | none => rw [ek] at e1; cases e1
          | some kk =>
            rw [ek] at e1
            cases e1
            obtain ⟨a, ws, rfl, h1, rs⟩ := r.tupL
            obtain ⟨x1, x2, rfl, r1, r2⟩ := rs.two
            have := keyOf_rv r1 ek
            subst this
            exact ⟨a :: as, (kk, x2) :: kvs, rfl, .cons h1 hp, by simp [hk.1], .cons r2 hk.2⟩
        · cases e1
theorem RKs.folds {K : PySem.W.Frag} {H : Hp} {ρ : Nat → Addr} {n : Nat} : ∀ {ps : List (Key × Val)} {kvs : List (Key × V)} {acc : List (Key × Val)} {bcc : List (Key × V)}, RKs K H ρ n ps kvs → RKs K H ρ n acc bcc → RKs K H ρ n (ps.foldl (fun acc p => kput acc p.1 p.2) acc) (mergeK bcc kvs)
  | [], kvs, acc, bcc, h, h0 => by
    cases kvs with
    | nil => exact h0
    | cons _ _ => cases h.1
  | p :: ps, kvs, acc, bcc, h, h0 => by
    cases kvs with
    | nil => cases h.1
    | cons q kvs =>
      obtain ⟨h1, h2⟩ := h
      simp only [List.map_cons, List.cons.injEq] at h1
      cases h2 with
      | cons r1 r2 =>
        have h3 := RKs.put (k := p.1) r1 h0
        rw [show putK bcc p.1 q.2 = putK bcc q.1 q.2 by rw [h1.1]] at h3
        exact RKs.folds (ps := ps) (kvs := kvs) ⟨h1.2, r2⟩ h3
theorem mc_dict (hc : X.calm = true) : CallR X (.type "dict") (rC cn X.K bDict) := by
  intro pins s σ H xs us Q I r ⟨vs, m, ρ, w, rs, q⟩
  unfold bDict at q
  split at q
  · rename_i ys
    obtain ⟨x, rfl, r1⟩ := rs.one
    cases r1 with
    | dtp h1 r2 =>
      cases ep : pairsK ys with
      | none => rw [ep] at q; exact q.elim
      | some ps =>
        rw [ep] at q
        obtain ⟨as, kvs, rfl, hp, hk⟩ := pairsK_ok r2 ep
        refine call_dictT hc pins s σ H _ us Q I r ⟨_, as, kvs, rfl, h1, hp, fun l hl => ?_⟩
        have hf := RKs.folds hk (show RKs X.K H ρ m.n [] [] from ⟨rfl, .nil⟩)
        exact q.mk w hl ⟨_, upd_same, hf.ext (.new hl)⟩
  · exact q.elim
/-- in, not in: None isn't among a dict's keys -/
def isDicAt (m : MH) (b : Val) : Bool := match b with
  | .loc i => (match m.get i with | some (.dic _) => true | _ => false)
  | _ => false
def oIn2 : Val → Val → MH → RE Val := fun a b m => match isNon a && isDicAt m b with
  | true => .ok (.bl false) m
  | false => oIn a b m
def oNotIn2 : Val → Val → MH → RE Val := fun a b m => match isNon a && isDicAt m b with
  | true => .ok (.bl true) m
  | false => oNotIn a b m
theorem non_dic {K : PySem.W.Frag} {H : Hp} {ρ : Nat → Addr} {m : MH} {a b : Val} {x y : V} (w : RH cn K m H ρ) (ra : RV K H ρ m.n a x) (rb : RV K H ρ m.n b y) (h : (isNon a && isDicAt m b) = true) : x = .non ∧ ∃ p kvs, y = .ref p ∧ Rd H p (.dK kvs) := by
  obtain ⟨h1, h2⟩ := Bool.and_eq_true_iff.mp h
  cases a with
  | non =>
    cases ra
    refine ⟨rfl, ?_⟩
    unfold isDicAt at h2
    cases b with
    | loc l =>
      obtain ⟨rfl, hl⟩ := rb.locL
      dsimp only at h2
      cases eo : m.get l with
      | none => rw [eo] at h2; cases h2
      | some ob =>
        obtain ⟨_, ro⟩ := w.obj l ob eo
        rw [eo] at h2
        cases ob with
        | dic kvs => obtain ⟨gs, k1, _⟩ := ro; exact ⟨_, gs, rfl, .inl k1⟩
        | _ => cases h2
    | _ => cases h2
  | _ => cases h1
theorem m_in2 (hu : X.A.units + 200 < cLine) : OpR X (compareOp .In) (rM cn X.K oIn2) := by
  intro pins s σ H x y v u Q I rx ry ⟨a, b, m, ρ, w, ra, rb, q⟩
  unfold oIn2 at q
  cases e : isNon a && isDicAt m b with
  | false => rw [e] at q; exact m_in hu pins s σ H x y v u Q I rx ry ⟨a, b, m, ρ, w, ra, rb, q⟩
  | true =>
    rw [e] at q
    obtain ⟨rfl, p, kvs, rfl, hd⟩ := non_dic w ra rb e
    cases rx
    cases ry
    exact d_inNone I hd fun s' I' => ⟨.bl false, H, I', rfl, Run.val q w (.bl _)⟩
theorem m_notin2 (hu : X.A.units + 200 < cLine) : OpR X (compareOp .NotIn) (rM cn X.K oNotIn2) := by
  intro pins s σ H x y v u Q I rx ry ⟨a, b, m, ρ, w, ra, rb, q⟩
  unfold oNotIn2 at q
  cases e : isNon a && isDicAt m b with
  | false => rw [e] at q; exact m_notin hu pins s σ H x y v u Q I rx ry ⟨a, b, m, ρ, w, ra, rb, q⟩
  | true =>
    rw [e] at q
    obtain ⟨rfl, p, kvs, rfl, hd⟩ := non_dic w ra rb e
    cases rx
    cases ry
    exact d_notInNone I hd fun s' I' => ⟨.bl true, H, I', rfl, Run.val q w (.bl _)⟩
/-- a < b <= c -/
def eChain (o o' : Val → Val → MH → RE Val) (f g h : E) : E := fun sl m => (f sl m).bind fun a m1 => (g sl m1).bind fun b m2 => (nE (o (wk a) (wk b) m2)).bind fun z m3 => match z with
  | .bl true => (h sl m3).bind fun c m4 => nE (o' (wk b) (wk c) m4)
  | .bl false => .ok (.bl false) m3
  | _ => .fail
theorem me_chain {op op' : CmpOp} {o o' : Val → Val → MH → RE Val} {a b c : Expr} {f g h : E} {pos : Pos} (ho : OpR X (compareOp op) (rM cn X.K o)) (ho' : OpR X (compareOp op') (rM cn X.K o')) (ha : PE X a (TE' cn X.K W f)) (hb : PE X b (TE' cn X.K W g)) (hc : PE X c (TE' cn X.K W h))
    (hm : lastMarks [op, op'] [b, c] = false := by with_unfolding_all rfl) : PE X (.Compare a [op, op'] [b, c] pos) (TE' cn X.K W (eChain o o' f g h)) := by
  refine pe_imp (pe_chain ho ho' ha hb hc hm) fun σ H Q ⟨sl, m, ρ, w, r⟩ => ?_
  refine TM.bind w r fun x H1 ρ1 m1 u w1 e1 r1 q => ?_
  refine TM.bind w1 q fun y H2 ρ2 m2 v w2 e2 r2 q => ?_
  refine ⟨wk u, wk v, m2, ρ2, w2.h, (r1.ext e2).wk, r2.wk, Run.bindC q fun z H3 ρ3 m3 z' rh3 e3 r3 q3 => ?_⟩
  have q3 := Run.back e3 q3
  cases r3 with
  | bl k =>
    refine ⟨k, rfl, ?_⟩
    cases k with
    | false =>
      rw [if_neg Bool.false_ne_true]
      exact Run.val q3 rh3 (.bl _)
    | true =>
      rw [if_pos rfl]
      refine TM.bind (w2.ext e3 rh3) q3 fun t H4 ρ4 m4 t' w4 e4 r4 q4 => ?_
      exact ⟨wk v, wk t', m4, ρ4, w4.h, ((r2.ext e3).ext e4).wk, r4.wk, q4.nE⟩
  | _ => exact q3.elim
/-- sep.join(texts) -/
def sJoin : BM := fun v vs m => match v, vs with
  | .str a, [y] => (match itemsOf m (wk y) with
    | some xs => (match strsOf xs with
      | some ss => (match Nat.ble ((ss.map (·.length)).sum + ss.length * a.length) 16777216 with
        | true => .ok (.str (Mi.strOf (TL.joinL a.cps.toList (ss.map fun x => x.cps.toList)))) m
        | false => .fail)
      | none => .fail)
    | none => .fail)
  | _, _ => .fail
theorem join_str (a : Str) (ss : List Str) : Txt.join a ss = Mi.strOf (TL.joinL a.cps.toList (ss.map fun x => x.cps.toList)) := by
  have h := TL.tl_join a ss
  rw [TL.join_eq, ← Mi.strOf_toList (Str.join a ss)]
  exact congrArg Mi.strOf h
theorem m_join : MtR X "str.join" (rB cn X.K sJoin) := by
  refine MtR.imp mt_join fun x xs H Q ⟨v, vs, m, ρ, w, rv, rvs, q⟩ => ?_
  unfold sJoin at q
  split at q
  · rename_i a y
    cases rv
    obtain ⟨y', rfl, r1⟩ := rvs.one
    cases eo : itemsOf m (wk y) with
    | none => rw [eo] at q; exact q.elim
    | some ys =>
      rw [eo] at q
      obtain ⟨p, zs, rfl, r2, hq⟩ := itemsOf_ok w r1.wk eo
      dsimp only at q
      cases es : strsOf ys with
      | none => rw [es] at q; exact q.elim
      | some ss =>
        rw [es] at q
        dsimp only at q
        cases eb : Nat.ble ((ss.map (·.length)).sum + ss.length * a.length) 16777216 with
        | false => rw [eb] at q; exact q.elim
        | true =>
          rw [eb] at q
          have e := strsOf_ok r2 es
          subst e
          exact ⟨a, p, ss, rfl, rfl, hq.imp (·.1) (·.1), Nat.le_of_ble_eq_true eb, by rw [join_str]; exact Run.val q w (.str _)⟩
  · exact q.elim
end
end Mi

set_option Elab.async false
set_option linter.all false
set_option autoImplicit false
set_option maxRecDepth 100000
set_option maxHeartbeats 2000000
/-! texts renamed: a run over other words is the same run, as long as words are only compared -/
namespace Mi
open PySem L2
section
variable (π : Str → Str) (N : Int)
mutual
def tV : Val → Val
  | .str x => .str (π x)
  | .tup xs => .tup (tVs xs)
  | .dtp xs => .dtp (tVs xs)
  | .klst xs => .klst (tVs xs)
  | .ty t => (match t with | .other => .int N | t => .ty t)
  | .non => .non
  | .bl b => .bl b
  | .int i => .int i
  | .loc n => .loc n
def tVs : List Val → List Val
  | [] => []
  | v :: r => tV v :: tVs r
end
def tF (fs : List (Str × Val)) : List (Str × Val) := fs.map fun p => (p.1, tV π N p.2)
def tO : Ob → Ob
  | .lst xs => .lst (tVs π N xs)
  | .rol xs => .rol (tVs π N xs)
  | .dic kvs => .dic (kvs.map fun p => (p.1, tV π N p.2))
  | .ins c fs => .ins c (tF π N fs)
def tT : Tr → Tr
  | .nil => .nil
  | .node v l r => .node (v.map (tO π N)) (tT l) (tT r)
def tM (m : MH) : MH := ⟨m.n, tT π N m.t⟩
def tX (e : Exc) : Exc := ⟨e.cls, tF π N e.fs⟩
def tSl : Sl → Sl
  | .no => .no
  | .v x => .v (tV π N x)
  | .ex e => .ex (tX π N e)
def tS (sl : Slots) : Slots := sl.map (tSl π N)
def tR {α : Type} (k : α → α) : RE α → RE α
  | .ok a m => .ok (k a) (tM π N m)
  | .err e m => .err (tX π N e) (tM π N m)
  | .fail => .fail
def tRS : RS → RS
  | .nx sl m => .nx (tS π N sl) (tM π N m)
  | .rt v m => .rt (tV π N v) (tM π N m)
  | .bk sl m => .bk (tS π N sl) (tM π N m)
  | .ct sl m => .ct (tS π N sl) (tM π N m)
  | .err e sl m => .err (tX π N e) (tS π N sl) (tM π N m)
  | .fail => .fail
end
/-- where something is said, it is that -/
def Le {α : Type} (r r' : RE α) : Prop := r = .fail ∨ r' = r
def LeS (r r' : RS) : Prop := r = .fail ∨ r' = r
section
variable {π : Str → Str} {N : Int}
theorem tVs_map (xs : List Val) : tVs π N xs = xs.map (tV π N) := by
  induction xs with
  | nil => rfl
  | cons x r ih => rw [tVs, ih]; rfl
theorem tVs_length (xs : List Val) : (tVs π N xs).length = xs.length := by rw [tVs_map, List.length_map]
theorem tVs_get (xs : List Val) (i : Nat) : (tVs π N xs)[i]? = (xs[i]?).map (tV π N) := by rw [tVs_map, List.getElem?_map]
theorem tVs_append (xs ys : List Val) : tVs π N (xs ++ ys) = tVs π N xs ++ tVs π N ys := by rw [tVs_map, tVs_map, tVs_map, List.map_append]
theorem tVs_reverse (xs : List Val) : tVs π N xs.reverse = (tVs π N xs).reverse := by rw [tVs_map, tVs_map, List.map_reverse]
theorem tVs_dropLast (xs : List Val) : tVs π N xs.dropLast = (tVs π N xs).dropLast := by rw [tVs_map, tVs_map, List.dropLast_eq_take, List.dropLast_eq_take, List.map_take, List.length_map]
theorem tT_get : ∀ (t : Tr) (i : Nat), (tT π N t).get i = (t.get i).map (tO π N)
  | .nil, i => rfl
  | .node v l r, i => by
    rw [tT, get_node, get_node, tT_get l, tT_get r]
    split
    · rfl
    · split <;> rfl
theorem tT_put : ∀ (f : Nat) (t : Tr) (i : Nat) (o : Ob), tT π N (Tr.put f t i o) = Tr.put f (tT π N t) i (tO π N o)
  | 0, t, i, o => by cases t <;> rfl
  | f + 1, .nil, i, o => by
    have h1 := tT_put f .nil (i / 2) o
    have h2 := tT_put f .nil (i / 2 - 1) o
    show tT π N (match Nat.beq i 0 with | true => .node (some o) .nil .nil | false => match Nat.beq (i % 2) 1 with | true => .node none (Tr.put f .nil (i / 2) o) .nil | false => .node none .nil (Tr.put f .nil (i / 2 - 1) o)) =
      (match Nat.beq i 0 with | true => .node (some (tO π N o)) .nil .nil | false => match Nat.beq (i % 2) 1 with | true => .node none (Tr.put f .nil (i / 2) (tO π N o)) .nil | false => .node none .nil (Tr.put f .nil (i / 2 - 1) (tO π N o)))
    cases Nat.beq i 0 with
    | true => rfl
    | false =>
      cases Nat.beq (i % 2) 1 with
      | true => show Tr.node none (tT π N (Tr.put f .nil (i / 2) o)) .nil = _; rw [h1]; rfl
      | false => show Tr.node none .nil (tT π N (Tr.put f .nil (i / 2 - 1) o)) = _; rw [h2]; rfl
  | f + 1, .node v l r, i, o => by
    have h1 := tT_put f l (i / 2) o
    have h2 := tT_put f r (i / 2 - 1) o
    show tT π N (match Nat.beq i 0 with | true => .node (some o) l r | false => match Nat.beq (i % 2) 1 with | true => .node v (Tr.put f l (i / 2) o) r | false => .node v l (Tr.put f r (i / 2 - 1) o)) =
      (match Nat.beq i 0 with | true => .node (some (tO π N o)) (tT π N l) (tT π N r) | false => match Nat.beq (i % 2) 1 with | true => .node (v.map (tO π N)) (Tr.put f (tT π N l) (i / 2) (tO π N o)) (tT π N r) | false => .node (v.map (tO π N)) (tT π N l) (Tr.put f (tT π N r) (i / 2 - 1) (tO π N o)))
    cases Nat.beq i 0 with
    | true => rfl
    | false =>
      cases Nat.beq (i % 2) 1 with
      | true => show Tr.node (v.map (tO π N)) (tT π N (Tr.put f l (i / 2) o)) (tT π N r) = _; rw [h1]
      | false => show Tr.node (v.map (tO π N)) (tT π N l) (tT π N (Tr.put f r (i / 2 - 1) o)) = _; rw [h2]
theorem tM_get (m : MH) (i : Nat) : (tM π N m).get i = (m.get i).map (tO π N) := tT_get m.t i
theorem tM_put (m : MH) (i : Nat) (o : Ob) : tM π N (m.put i o) = (tM π N m).put i (tO π N o) := by
  unfold MH.put tM
  rw [tT_put]
theorem tM_add (m : MH) (o : Ob) : tM π N (m.add o) = (tM π N m).add (tO π N o) := by
  unfold MH.add tM
  rw [tT_put]
theorem tS_get (sl : Slots) (i : Nat) : (tS π N sl)[i]? = (sl[i]?).map (tSl π N) := List.getElem?_map
theorem tS_set (sl : Slots) (i : Nat) (x : Sl) : tS π N (sl.set i x) = (tS π N sl).set i (tSl π N x) := List.map_set
theorem tV_wk (v : Val) : tV π N (wk v) = wk (tV π N v) := by
  cases v with
  | ty t => cases t <;> rfl
  | _ => rfl
theorem tVs_wk (xs : List Val) : tVs π N (xs.map wk) = (tVs π N xs).map wk := by
  rw [tVs_map, tVs_map, List.map_map, List.map_map]
  exact List.map_congr_left fun v _ => tV_wk v
theorem Le.rfl {α : Type} {r : RE α} : Le r r := .inr (Eq.refl _)
theorem Le.fail {α : Type} {r : RE α} : Le (.fail) r := .inl (Eq.refl _)
theorem Le.bind {α β : Type} {k : α → α} {k2 : β → β} {r r' : RE α} {f f' : α → MH → RE β} (hr : Le (tR π N k r) r') (hf : ∀ a m, Le (tR π N k2 (f a m)) (f' (k a) (tM π N m))) : Le (tR π N k2 (r.bind f)) (r'.bind f') := by
  rcases hr with h | h
  · cases r with
    | ok a m => cases h
    | err e m => cases h
    | fail => exact .inl (Eq.refl _)
  · subst h
    cases r with
    | ok a m => exact hf a m
    | err e m => exact .inr (Eq.refl _)
    | fail => exact .inl (Eq.refl _)
theorem Le.to {α : Type} {k : α → α} {r r' : RE α} {sl : Slots} {f f' : α → MH → RS} (hr : Le (tR π N k r) r') (hf : ∀ a m, LeS (tRS π N (f a m)) (f' (k a) (tM π N m))) : LeS (tRS π N (r.to sl f)) (r'.to (tS π N sl) f') := by
  rcases hr with h | h
  · cases r with
    | ok a m => cases h
    | err e m => cases h
    | fail => exact .inl (Eq.refl _)
  · subst h
    cases r with
    | ok a m => exact hf a m
    | err e m => exact .inr (Eq.refl _)
    | fail => exact .inl (Eq.refl _)
theorem Le.nE {α : Type} {k : α → α} {r r' : RE α} (hr : Le (tR π N k r) r') : Le (tR π N k (nE r)) (nE r') := by
  rcases hr with h | h
  · cases r with
    | ok a m => cases h
    | err e m => cases h
    | fail => exact .inl (Eq.refl _)
  · subst h
    cases r <;> first | exact .inr (Eq.refl _) | exact .inl (Eq.refl _)
theorem Le.mk {o : Ob} {m : MH} : Le (tR π N (tV π N) (Mi.mk o m)) (Mi.mk (tO π N o) (tM π N m)) := by
  unfold Mi.mk
  show Le _ (match Nat.ble m.n lim with | true => _ | false => _)
  cases Nat.ble m.n lim with
  | true =>
    refine .inr ?_
    show RE.ok (Val.loc m.n) ((tM π N m).add (tO π N o)) = .ok (.loc m.n) (tM π N (m.add o))
    rw [tM_add]
  | false => exact .inl (Eq.refl _)
end
/-! ### the parts: the renamed run f says what f' says (f': over the short words, f: over the long ones) -/
section
variable (π : Str → Str) (N : Int)
def Rn (f' f : E) : Prop := ∀ sl m, Le (tR π N (tV π N) (f' sl m)) (f (tS π N sl) (tM π N m))
def RnA (f' f : EA) : Prop := ∀ sl m, Le (tR π N (tVs π N) (f' sl m)) (f (tS π N sl) (tM π N m))
def RnT (f' f : ET) : Prop := ∀ sl m, Le (tR π N id (f' sl m)) (f (tS π N sl) (tM π N m))
def RnX (f' f : EX) : Prop := ∀ sl m, Le (tR π N (tX π N) (f' sl m)) (f (tS π N sl) (tM π N m))
def RnS (f' f : S) : Prop := ∀ sl m, LeS (tRS π N (f' sl m)) (f (tS π N sl) (tM π N m))
def RnG (g' g : G) : Prop := ∀ v sl sl' m, g' v sl m = some sl' → g (tV π N v) (tS π N sl) (tM π N m) = some (tS π N sl')
def RnGs (g' g : Gs) : Prop := ∀ vs sl sl' m, g' vs sl m = some sl' → g (tVs π N vs) (tS π N sl) (tM π N m) = some (tS π N sl')
def Op2 (o' o : Val → Val → MH → RE Val) : Prop := ∀ a b m, Le (tR π N (tV π N) (o' a b m)) (o (tV π N a) (tV π N b) (tM π N m))
def Op1 (o' o : Val → MH → RE Val) : Prop := ∀ a m, Le (tR π N (tV π N) (o' a m)) (o (tV π N a) (tM π N m))
def OpB (o' o : List Val → MH → RE Val) : Prop := ∀ vs m, Le (tR π N (tV π N) (o' vs m)) (o (tVs π N vs) (tM π N m))
def OpM (o' o : BM) : Prop := ∀ v vs m, Le (tR π N (tV π N) (o' v vs m)) (o (tV π N v) (tVs π N vs) (tM π N m))
def RnF (φ' φ : FM) : Prop := ∀ vs m, Le (tR π N (tV π N) (φ' vs m)) (φ (tVs π N vs) (tM π N m))
def tI : ItM → ItM
  | .vals xs => .vals (tVs π N xs)
  | i => i
def RnI (f' f : EI) : Prop := ∀ sl m, Le (tR π N (tI π N) (f' sl m)) (f (tS π N sl) (tM π N m))
end
section
variable {π : Str → Str} {N : Int}
theorem rn_var (i : Nat) : Rn π N (eVar i) (eVar i) := fun sl m => by
  unfold eVar
  rw [tS_get]
  cases sl[i]? with
  | none => exact .inl (Eq.refl _)
  | some x => cases x <;> first | exact .inr (Eq.refl _) | exact .inl (Eq.refl _)
theorem rn_c {v : Val} (h : tV π N v = v) : Rn π N (eC v) (eC v) := fun sl m => .inr (by show RE.ok v _ = .ok (tV π N v) _; rw [h])
theorem rn_bin {o' o : Val → Val → MH → RE Val} {f' f g' g : E} (ho : Op2 π N o' o) (hf : Rn π N f' f) (hg : Rn π N g' g) : Rn π N (eBin o' f' g') (eBin o f g) := fun sl m =>
  Le.bind (hf sl m) fun a m1 => Le.bind (hg sl m1) fun b m2 => Le.nE (by have h := ho (wk a) (wk b) m2; rw [tV_wk, tV_wk] at h; exact h)
theorem rn_un {o' o : Val → MH → RE Val} {f' f : E} (ho : Op1 π N o' o) (hf : Rn π N f' f) : Rn π N (eUn o' f') (eUn o f) := fun sl m => Le.bind (hf sl m) fun a m1 => Le.nE (ho a m1)
theorem rn_nil : RnA π N aNil aNil := fun sl m => .inr (Eq.refl _)
theorem rn_cons {f' f : E} {g' g : EA} (hf : Rn π N f' f) (hg : RnA π N g' g) : RnA π N (aCons f' g') (aCons f g) := fun sl m => Le.bind (hf sl m) fun a m1 => Le.bind (hg sl m1) fun b m2 => .inr (Eq.refl _)
theorem small_tVs (xs : List Val) : small (tVs π N xs) = small xs := by unfold small; rw [tVs_length]
theorem rn_tup {f' f : EA} (hf : RnA π N f' f) : Rn π N (eTup f') (eTup f) := fun sl m => Le.bind (hf sl m) fun a m1 => by
  rw [small_tVs]
  cases small a with
  | true => exact .inr (Eq.refl _)
  | false => exact .inl (Eq.refl _)
theorem rn_lst {f' f : EA} (hf : RnA π N f' f) : Rn π N (eLst f') (eLst f) := fun sl m => Le.bind (hf sl m) fun a m1 => by
  rw [small_tVs]
  cases small a with
  | true => exact Le.mk (o := .lst a)
  | false => exact .inl (Eq.refl _)
theorem rn_not {f' f : E} (hf : Rn π N f' f) : Rn π N (eNot f') (eNot f) := fun sl m => Le.bind (hf sl m) fun a m1 => by
  cases a <;> first | exact .inr (Eq.refl _) | exact .inl (Eq.refl _)
theorem rn_bl {f' f : E} (hf : Rn π N f' f) : RnT π N (tBl f') (tBl f) := fun sl m => Le.bind (hf sl m) fun a m1 => by
  cases a <;> first | exact .inr (Eq.refl _) | exact .inl (Eq.refl _)
/-- truth of a bool alone -/
def tTruB (f : E) : ET := fun sl m => (f sl m).bind fun v m1 => match v with | .bl b => .ok b m1 | _ => .fail
theorem rn_tru {f' f : E} (hf : Rn π N f' f) : RnT π N (tTruB f') (tTru f) := fun sl m => Le.bind (hf sl m) fun a m1 => by
  cases a <;> first | exact .inr (Eq.refl _) | exact .inl (Eq.refl _)
theorem rn_tand {f' f g' g : ET} (hf : RnT π N f' f) (hg : RnT π N g' g) : RnT π N (tAnd' f' g') (tAnd' f g) := fun sl m => Le.bind (hf sl m) fun a m1 => by
  cases a with
  | true => exact hg sl m1
  | false => exact .inr (Eq.refl _)
theorem rn_tor {f' f g' g : ET} (hf : RnT π N f' f) (hg : RnT π N g' g) : RnT π N (tOr' f' g') (tOr' f g) := fun sl m => Le.bind (hf sl m) fun a m1 => by
  cases a with
  | false => exact hg sl m1
  | true => exact .inr (Eq.refl _)
theorem rn_tnot {f' f : ET} (hf : RnT π N f' f) : RnT π N (tNot' f') (tNot' f) := fun sl m => Le.bind (hf sl m) fun a m1 => .inr (Eq.refl _)
theorem rn_tys : RnT π N tYs tYs := fun sl m => .inr (Eq.refl _)
theorem rn_or {f' f g' g : E} (hf : Rn π N f' f) (hg : Rn π N g' g) : Rn π N (eOr f' g') (eOr f g) := fun sl m => Le.bind (hf sl m) fun a m1 => by
  cases a with
  | bl b =>
    cases b with
    | false => exact hg sl m1
    | true => exact .inr (Eq.refl _)
  | _ => exact .inl (Eq.refl _)
theorem rn_and {f' f g' g : E} (hf : Rn π N f' f) (hg : Rn π N g' g) : Rn π N (eAnd f' g') (eAnd f g) := fun sl m => Le.bind (hf sl m) fun a m1 => by
  cases a with
  | bl b =>
    cases b with
    | true => exact hg sl m1
    | false => exact .inr (Eq.refl _)
  | _ => exact .inl (Eq.refl _)
theorem rn_if {c' c : ET} {f' f g' g : E} (hc : RnT π N c' c) (hf : Rn π N f' f) (hg : Rn π N g' g) : Rn π N (eIf c' f' g') (eIf c f g) := fun sl m => Le.bind (hc sl m) fun a m1 => by
  cases a with
  | true => exact hf sl m1
  | false => exact hg sl m1
theorem rn_bi {o' o : List Val → MH → RE Val} {f' f : EA} (ho : OpB π N o' o) (hf : RnA π N f' f) : Rn π N (eBi o' f') (eBi o f) := fun sl m => Le.bind (hf sl m) fun a m1 => Le.nE (by have h := ho (a.map wk) m1; rw [tVs_wk] at h; exact h)
theorem rn_call {n : Nat} {φ' φ : FM} {dv : List Val} {f' f : EA} (hφ : RnF π N φ' φ) (hd : tVs π N dv = dv) (hf : RnA π N f' f) : Rn π N (eCall n φ' dv f') (eCall n φ dv f) := fun sl m => Le.bind (hf sl m) fun a m1 => by
  unfold app
  have e : (tVs π N a ++ dv) = tVs π N (a ++ dv) := by rw [tVs_append, hd]
  rw [e, tVs_length]
  cases Nat.beq (a ++ dv).length n with
  | true => exact hφ _ m1
  | false => exact .inl (Eq.refl _)
theorem tF_look (fs : List (Str × Val)) (f : Str) : flook (tF π N fs) f = (flook fs f).map (tV π N) := by
  induction fs with
  | nil => rfl
  | cons p r ih =>
    obtain ⟨g, v⟩ := p
    show flook ((g, tV π N v) :: tF π N r) f = _
    unfold flook
    cases beqS f g with
    | true => rfl
    | false => exact ih
theorem tF_put (fs : List (Str × Val)) (f : Str) (v : Val) : tF π N (fput f v fs) = fput f (tV π N v) (tF π N fs) := by
  induction fs with
  | nil => rfl
  | cons p r ih =>
    obtain ⟨g, x⟩ := p
    show tF π N (match beqS g f with | true => (g, v) :: r | false => (g, x) :: fput f v r) = (match beqS g f with | true => (g, tV π N v) :: tF π N r | false => (g, tV π N x) :: fput f (tV π N v) (tF π N r))
    cases beqS g f with
    | true => rfl
    | false => rw [← ih]; rfl
theorem Le.recv {c : Nat} {x : Str} {a : Val} {m : MH} : Le (tR π N id (Mi.recv c x a m)) (Mi.recv c x (tV π N a) (tM π N m)) := by
  cases a with
  | loc l =>
    unfold Mi.recv
    dsimp only [tV]
    rw [tM_get]
    cases m.get l with
    | none => exact .inl (Eq.refl _)
    | some o =>
      cases o with
      | ins c' fs =>
        dsimp only [Option.map, tO]
        cases Nat.beq c' c with
        | false => exact .inl (Eq.refl _)
        | true =>
          dsimp only
          rw [tF_look]
          cases flook fs x with
          | none => exact .inr (Eq.refl _)
          | some v => exact .inl (Eq.refl _)
      | _ => exact .inl (Eq.refl _)
  | _ => exact .inl (Eq.refl _)
theorem rn_meth {n c : Nat} {x : Str} {φ' φ : FM} {dv : List Val} {o' o : E} {f' f : EA} (hφ : RnF π N φ' φ) (hd : tVs π N dv = dv) (ho : Rn π N o' o) (hf : RnA π N f' f) : Rn π N (eMeth n c x φ' dv o' f') (eMeth n c x φ dv o f) := fun sl m =>
  Le.bind (ho sl m) fun a m1 => Le.bind (k := id) (Le.nE Le.recv) fun l m2 => Le.bind (hf sl m2) fun vs m3 => by
    unfold app
    have e : (Val.loc l :: (tVs π N vs ++ dv)) = tVs π N (.loc l :: (vs ++ dv)) := by
      show _ = Val.loc l :: tVs π N (vs ++ dv)
      rw [tVs_append, hd]
    show Le _ (match Nat.beq (Val.loc l :: (tVs π N vs ++ dv)).length n with | true => φ (Val.loc l :: (tVs π N vs ++ dv)) _ | false => _)
    rw [e, tVs_length]
    cases Nat.beq (Val.loc l :: (vs ++ dv)).length n with
    | true => exact hφ _ m3
    | false => exact .inl (Eq.refl _)
theorem rn_make {n c : Nat} {φ' φ : FM} {dv : List Val} {f' f : EA} (hφ : RnF π N φ' φ) (hd : tVs π N dv = dv) (hf : RnA π N f' f) : Rn π N (eMake n c φ' dv f') (eMake n c φ dv f) := fun sl m => Le.bind (hf sl m) fun vs m1 => by
  show Le _ (match Nat.ble m1.n lim with | true => _ | false => _)
  cases Nat.ble m1.n lim with
  | false => exact .inl (Eq.refl _)
  | true =>
    refine Le.nE (Le.bind (k := tV π N) ?_ fun v m2 => ?_)
    · unfold app
      have e : (Val.loc m1.n :: (tVs π N vs ++ dv)) = tVs π N (.loc m1.n :: (vs ++ dv)) := by
        show _ = Val.loc m1.n :: tVs π N (vs ++ dv)
        rw [tVs_append, hd]
      show Le _ (match Nat.beq (Val.loc m1.n :: (tVs π N vs ++ dv)).length n with | true => φ (Val.loc m1.n :: (tVs π N vs ++ dv)) ((tM π N m1).add (tO π N (.ins c []))) | false => _)
      rw [e, tVs_length, ← tM_add]
      cases Nat.beq (Val.loc m1.n :: (vs ++ dv)).length n with
      | true => exact hφ _ _
      | false => exact .inl (Eq.refl _)
    · unfold mkEnd
      cases v <;> first | exact .inr (Eq.refl _) | exact .inl (Eq.refl _)
/-! statements -/
theorem rn_next : RnS π N sNext sNext := fun sl m => .inr (Eq.refl _)
theorem rn_break : RnS π N sBreak sBreak := fun sl m => .inr (Eq.refl _)
theorem rn_seq {f' f g' g : S} (hf : RnS π N f' f) (hg : RnS π N g' g) : RnS π N (sSeq f' g') (sSeq f g) := fun sl m => by
  unfold sSeq
  rcases hf sl m with h | h
  · cases e : f' sl m with
    | fail => exact .inl (Eq.refl _)
    | _ => rw [e] at h; cases h
  · rw [h]
    cases f' sl m with
    | nx sl' m' => exact hg sl' m'
    | fail => exact .inl (Eq.refl _)
    | _ => exact .inr (Eq.refl _)
theorem rn_drop {f' f : E} (hf : Rn π N f' f) : RnS π N (sDrop f') (sDrop f) := fun sl m => Le.to (hf sl m) fun a m1 => .inr (Eq.refl _)
theorem rn_ret {f' f : E} (hf : Rn π N f' f) : RnS π N (sRet f') (sRet f) := fun sl m => Le.to (hf sl m) fun a m1 => .inr (Eq.refl _)
theorem rn_sif {c' c : ET} {f' f g' g : S} (hc : RnT π N c' c) (hf : RnS π N f' f) (hg : RnS π N g' g) : RnS π N (sIf c' f' g') (sIf c f g) := fun sl m => Le.to (hc sl m) fun a m1 => by
  cases a with
  | true => exact hf sl m1
  | false => exact hg sl m1
theorem rn_set {i : Nat} {f' f : E} (hf : Rn π N f' f) : RnS π N (sSet i f') (sSet i f) := fun sl m => Le.to (hf sl m) fun a m1 => .inr (by
  show RS.nx ((tS π N sl).set i (.v (tV π N a))) _ = .nx (tS π N (sl.set i (.v a))) _
  rw [tS_set]
  rfl)
theorem rn_nm {i : Nat} : RnG π N (gNm i) (gNm i) := fun v sl sl' m h => by
  have h : some (sl.set i (.v v)) = some sl' := h
  cases h
  show some ((tS π N sl).set i (.v (tV π N v))) = _
  rw [tS_set]
  rfl
theorem rn_gnil : RnGs π N gsNil gsNil := fun vs sl sl' m h => by
  cases vs with
  | nil => cases h; rfl
  | cons _ _ => cases h
theorem rn_gcons {g' g : G} {h' h : Gs} (hg : RnG π N g' g) (hh : RnGs π N h' h) : RnGs π N (gsCons g' h') (gsCons g h) := fun vs sl sl' m e => by
  cases vs with
  | nil => cases e
  | cons v r =>
    have e : (match g' v sl m with | some s1 => h' r s1 m | none => none) = some sl' := e
    show (match g (tV π N v) (tS π N sl) (tM π N m) with | some s1 => h (tVs π N r) s1 (tM π N m) | none => none) = _
    cases e1 : g' v sl m with
    | none => rw [e1] at e; cases e
    | some s1 =>
      rw [e1] at e
      rw [hg v sl s1 m e1]
      exact hh r s1 sl' m e
theorem rn_gtp {n : Nat} {h' h : Gs} (hh : RnGs π N h' h) : RnG π N (gTp n h') (gTp n h) := fun v sl sl' m e => by
  have e : (match wk v with | .tup xs => (match Nat.beq xs.length n with | true => h' xs sl m | false => none) | _ => none) = some sl' := e
  show (match wk (tV π N v) with | .tup xs => (match Nat.beq xs.length n with | true => h xs (tS π N sl) (tM π N m) | false => none) | _ => none) = _
  rw [← tV_wk]
  cases ev : wk v with
  | tup xs =>
    rw [ev] at e
    dsimp only [tV] at e ⊢
    rw [tVs_length]
    cases en : Nat.beq xs.length n with
    | false => rw [en] at e; cases e
    | true => rw [en] at e; exact hh xs sl sl' m e
  | _ => rw [ev] at e; cases e
theorem rn_asg {f' f : E} {g' g : G} (hf : Rn π N f' f) (hg : RnG π N g' g) : RnS π N (sAsg f' g') (sAsg f g) := fun sl m => Le.to (hf sl m) fun a m1 => by
  cases e : g' a sl m1 with
  | none => exact .inl (Eq.refl _)
  | some sl' => rw [hg a sl sl' m1 e]; exact .inr (Eq.refl _)
theorem rn_aug {i : Nat} {o' o : Val → Val → MH → RE Val} {f' f : E} (ho : Op2 π N o' o) (hf : Rn π N f' f) : RnS π N (sAug i o' f') (sAug i o f) := fun sl m => by
  unfold sAug
  rw [tS_get]
  cases sl[i]? with
  | none => exact .inl (Eq.refl _)
  | some x =>
    cases x with
    | v x =>
      exact Le.to (hf sl m) fun y m1 => Le.to (Le.nE (ho x y m1)) fun z m2 => .inr (by
        show RS.nx ((tS π N sl).set i (.v (tV π N z))) _ = .nx (tS π N (sl.set i (.v z))) _
        rw [tS_set]
        rfl)
    | _ => exact .inl (Eq.refl _)
theorem LeS.turn {r r' : RS} {go' go : S} (hr : LeS (tRS π N r) r') (hg : RnS π N go' go) : LeS (tRS π N (r.turn go')) (r'.turn go) := by
  rcases hr with h | h
  · cases r with
    | fail => exact .inl (Eq.refl _)
    | _ => cases h
  · subst h
    cases r with
    | nx sl m => exact hg sl m
    | ct sl m => exact hg sl m
    | _ => first | exact .inr (Eq.refl _) | exact .inl (Eq.refl _)
theorem rn_while {c' c : ET} {f' f : S} (hc : RnT π N c' c) (hf : RnS π N f' f) : ∀ n : Nat, RnS π N (sWhile n c' f') (sWhile n c f)
  | 0 => fun sl m => .inl (Eq.refl _)
  | n + 1 => fun sl m => by
    have ih := rn_while hc hf n
    show LeS (tRS π N ((c' sl m).to sl fun b m1 => match b with | true => (f' sl m1).turn (sWhile n c' f') | false => .nx sl m1)) ((c (tS π N sl) (tM π N m)).to (tS π N sl) fun b m1 => match b with | true => (f (tS π N sl) m1).turn (sWhile n c f) | false => .nx (tS π N sl) m1)
    refine Le.to (hc sl m) fun b m1 => ?_
    cases b with
    | true => exact LeS.turn (hf sl m1) ih
    | false => exact .inr (Eq.refl _)
/-! operations -/
theorem op_getF {cs : List Nat} {f : Str} : Op1 π N (getF cs f) (getF cs f) := fun a m => by
  cases a with
  | loc l =>
    unfold getF
    dsimp only [tV]
    rw [tM_get]
    cases m.get l with
    | none => exact .inl (Eq.refl _)
    | some o =>
      cases o with
      | ins c fs =>
        dsimp only [Option.map, tO]
        cases cs.any (Nat.beq c) with
        | false => exact .inl (Eq.refl _)
        | true =>
          dsimp only
          rw [tF_look]
          cases flook fs f with
          | none => exact .inl (Eq.refl _)
          | some v => exact .inr (Eq.refl _)
      | _ => exact .inl (Eq.refl _)
  | _ => exact .inl (Eq.refl _)
theorem op_neg : Op1 π N oNeg oNeg := fun a m => by cases a <;> first | exact .inr (Eq.refl _) | exact .inl (Eq.refl _)
/-- ints alone -/
def onI (o : Int → Int → Val) : Val → Val → MH → RE Val := fun a b m => match a, b with
  | .int i, .int j => .ok (o i j) m
  | _, _ => .fail
theorem op_I {o : Int → Int → Val} {o2 : Val → Val → MH → RE Val} (h : ∀ i j m, o2 (.int i) (.int j) m = .ok (o i j) m) (hv : ∀ i j, tV π N (o i j) = o i j) : Op2 π N (onI o) o2 := fun a b m => by
  cases a with
  | int i =>
    cases b with
    | int j =>
      refine .inr ?_
      show o2 (.int i) (.int j) _ = .ok (tV π N (o i j)) _
      rw [h, hv]
    | _ => exact .inl (Eq.refl _)
  | _ => exact .inl (Eq.refl _)
/-- ints added, lists joined -/
def oAddR : Val → Val → MH → RE Val := fun a b m => match a, b with
  | .int i, .int j => .ok (.int (i + j)) m
  | .loc i, .loc j => (match m.get i with
    | some (.lst xs) => (match m.get j with
      | some (.lst ys) => (match Nat.ble (xs.length + ys.length) 1000000 with | true => mk (.lst (xs ++ ys)) m | false => .fail)
      | _ => .fail)
    | _ => .fail)
  | _, _ => .fail
theorem op_add : Op2 π N oAddR oAdd := fun a b m => by
  cases a with
  | int i => cases b <;> first | exact .inr (Eq.refl _) | exact .inl (Eq.refl _)
  | loc i =>
    cases b with
    | loc j =>
      unfold oAddR oAdd
      dsimp only [tV]
      rw [tM_get, tM_get]
      cases m.get i with
      | none => exact .inl (Eq.refl _)
      | some o =>
        cases o with
        | lst xs =>
          cases m.get j with
          | none => exact .inl (Eq.refl _)
          | some o2 =>
            cases o2 with
            | lst ys =>
              dsimp only [Option.map, tO]
              rw [tVs_length, tVs_length]
              cases Nat.ble (xs.length + ys.length) 1000000 with
              | true =>
                dsimp only
                rw [← tVs_append]
                exact Le.mk (o := .lst (xs ++ ys))
              | false => exact .inl (Eq.refl _)
            | _ => exact .inl (Eq.refl _)
        | _ => exact .inl (Eq.refl _)
    | _ => exact .inl (Eq.refl _)
  | _ => exact .inl (Eq.refl _)
theorem atI_tVs (xs : List Val) (i : Int) : atI (tVs π N xs) i = (atI xs i).map (tV π N) := by
  unfold atI
  rw [tVs_length]
  cases ixN xs.length i with
  | none => rfl
  | some j => exact tVs_get xs j
theorem le_ixL {xs : List Val} {b : Val} {m : MH} : Le (tR π N (tV π N) (ixL xs b m)) (ixL (tVs π N xs) (tV π N b) (tM π N m)) := by
  cases b with
  | int i =>
    unfold ixL
    dsimp only [tV]
    rw [atI_tVs]
    cases atI xs i with
    | none => exact .inl (Eq.refl _)
    | some v => exact .inr (Eq.refl _)
  | _ => exact .inl (Eq.refl _)
/-- in a tuple or a list -/
def oIxR : Val → Val → MH → RE Val := fun a b m => match a with
  | .tup xs => ixL xs b m
  | .loc l => (match m.get l with
    | some (.lst xs) => ixL xs b m
    | _ => .fail)
  | _ => .fail
theorem op_ix : Op2 π N oIxR oIx := fun a b m => by
  cases a with
  | tup xs => exact le_ixL
  | loc l =>
    unfold oIxR oIx
    dsimp only [tV]
    rw [tM_get]
    cases m.get l with
    | none => exact .inl (Eq.refl _)
    | some o =>
      cases o with
      | lst xs => exact le_ixL
      | _ => exact .inl (Eq.refl _)
  | _ => exact .inl (Eq.refl _)
theorem op_is : Op2 π N oIs oIs := fun a b m => by
  cases b with
  | non => cases a with
    | ty t => cases t <;> exact .inr (Eq.refl _)
    | _ => exact .inr (Eq.refl _)
  | _ => exact .inl (Eq.refl _)
theorem op_isnot : Op2 π N oIsNot oIsNot := fun a b m => by
  cases b with
  | non => cases a with
    | ty t => cases t <;> exact .inr (Eq.refl _)
    | _ => exact .inr (Eq.refl _)
  | _ => exact .inl (Eq.refl _)
/-- == of a text, an int or None and such -/
def smp : Val → Bool
  | .str _ => true | .int _ => true | .non => true | _ => false
def oEqR : Val → Val → MH → RE Val := fun a b m => match smp a && smp b with | true => oEq a b m | false => .fail
def oNeR : Val → Val → MH → RE Val := fun a b m => match smp a && smp b with | true => oNe a b m | false => .fail
theorem op_eq (hπ : ∀ x y, beqS (π x) (π y) = beqS x y) : Op2 π N oEqR oEq := fun a b m => by
  unfold oEqR
  cases e : smp a && smp b with
  | false => exact .inl (Eq.refl _)
  | true =>
    obtain ⟨h1, h2⟩ := Bool.and_eq_true_iff.mp e
    cases a <;> first | (cases h1; done) | skip
    all_goals cases b <;> first | (cases h2; done) | exact .inr (Eq.refl _) | skip
    rename_i x y
    refine .inr ?_
    show RE.ok (Val.bl (beqS (π x) (π y))) _ = .ok (.bl (beqS x y)) _
    rw [hπ]
theorem op_ne (hπ : ∀ x y, beqS (π x) (π y) = beqS x y) : Op2 π N oNeR oNe := fun a b m => by
  unfold oNeR
  cases e : smp a && smp b with
  | false => exact .inl (Eq.refl _)
  | true =>
    obtain ⟨h1, h2⟩ := Bool.and_eq_true_iff.mp e
    cases a <;> first | (cases h1; done) | skip
    all_goals cases b <;> first | (cases h2; done) | exact .inr (Eq.refl _) | skip
    rename_i x y
    refine .inr ?_
    show RE.ok (Val.bl (!(beqS (π x) (π y)))) _ = .ok (.bl (!(beqS x y))) _
    rw [hπ]
theorem flat_tV {v : Val} (h : flat v = true) : flat (tV π N v) = true := by cases v <;> first | rfl | cases h
theorem eqF_tV (hπ : ∀ x y, beqS (π x) (π y) = beqS x y) {a b : Val} (ha : flat a = true) (hb : flat b = true) : eqF (tV π N a) (tV π N b) = eqF a b := by
  cases a <;> first | (cases ha; done) | skip
  all_goals cases b <;> first | (cases hb; done) | rfl | exact hπ _ _
theorem any_tV (hπ : ∀ x y, beqS (π x) (π y) = beqS x y) {a : Val} (ha : flat a = true) : ∀ {xs : List Val}, xs.all flat = true → ((tVs π N xs).all flat = true ∧ (tVs π N xs).any (fun y => eqF y (tV π N a)) = xs.any fun y => eqF y a)
  | [], _ => ⟨rfl, rfl⟩
  | x :: r, h => by
    rw [List.all_cons, Bool.and_eq_true_iff] at h
    obtain ⟨h1, h2⟩ := any_tV hπ ha h.2
    refine ⟨?_, ?_⟩
    · rw [tVs, List.all_cons, flat_tV h.1, h1]; rfl
    · rw [tVs, List.any_cons, List.any_cons, h2, eqF_tV hπ h.1 ha]
/-- among the items of a tuple or list -/
def inR (m : MH) (a b : Val) : Option Bool := match b with
  | .tup ys => (match flat a && ys.all flat with | true => some (ys.any fun y => eqF y a) | false => none)
  | .loc l => (match m.get l with
    | some (.lst ys) => (match flat a && ys.all flat with | true => some (ys.any fun y => eqF y a) | false => none)
    | _ => none)
  | _ => none
theorem inR_ok (hπ : ∀ x y, beqS (π x) (π y) = beqS x y) {m : MH} {a b : Val} {k : Bool} (h : inR m a b = some k) : (isNon (tV π N a) && isDicAt (tM π N m) (tV π N b)) = false ∧ pyIn (tM π N m) (tV π N a) (tV π N b) = some k := by
  cases b with
  | tup ys =>
    unfold inR at h
    dsimp only at h
    cases e : flat a && ys.all flat with
    | false => rw [e] at h; cases h
    | true =>
      rw [e] at h
      obtain ⟨h1, h2⟩ := Bool.and_eq_true_iff.mp e
      obtain ⟨g1, g2⟩ := any_tV (π := π) (N := N) hπ h1 h2
      refine ⟨Bool.and_false _, ?_⟩
      unfold pyIn
      dsimp only [tV]
      rw [flat_tV h1, g1, g2]
      exact h
  | loc l =>
    unfold inR at h
    dsimp only at h
    cases eo : m.get l with
    | none => rw [eo] at h; cases h
    | some o =>
      rw [eo] at h
      cases o with
      | lst ys =>
        dsimp only at h
        cases e : flat a && ys.all flat with
        | false => rw [e] at h; cases h
        | true =>
          rw [e] at h
          obtain ⟨h1, h2⟩ := Bool.and_eq_true_iff.mp e
          obtain ⟨g1, g2⟩ := any_tV (π := π) (N := N) hπ h1 h2
          have eg : (tM π N m).get l = some (.lst (tVs π N ys)) := by rw [tM_get, eo]; rfl
          refine ⟨?_, ?_⟩
          · unfold isDicAt
            dsimp only [tV]
            rw [eg]
            exact Bool.and_false _
          · unfold pyIn
            dsimp only [tV]
            rw [eg]
            dsimp only
            rw [flat_tV h1, g1, g2]
            exact h
      | _ => cases h
  | _ => cases h
def oInR : Val → Val → MH → RE Val := fun a b m => match inR m a b with | some k => .ok (.bl k) m | none => .fail
def oNotInR : Val → Val → MH → RE Val := fun a b m => match inR m a b with | some k => .ok (.bl (!k)) m | none => .fail
theorem op_in (hπ : ∀ x y, beqS (π x) (π y) = beqS x y) : Op2 π N oInR oIn2 := fun a b m => by
  unfold oInR
  cases e : inR m a b with
  | none => exact .inl (Eq.refl _)
  | some k =>
    obtain ⟨h1, h2⟩ := inR_ok (π := π) (N := N) hπ e
    refine .inr ?_
    unfold oIn2 oIn
    rw [h1, h2]
    rfl
theorem op_notin (hπ : ∀ x y, beqS (π x) (π y) = beqS x y) : Op2 π N oNotInR oNotIn2 := fun a b m => by
  unfold oNotInR
  cases e : inR m a b with
  | none => exact .inl (Eq.refl _)
  | some k =>
    obtain ⟨h1, h2⟩ := inR_ok (π := π) (N := N) hπ e
    refine .inr ?_
    unfold oNotIn2 oNotIn
    rw [h1, h2]
    rfl
/-- len of a list or tuple -/
def bLenR : List Val → MH → RE Val := fun vs m => match vs with
  | [.loc l] => (match m.get l with
    | some (.lst xs) => .ok (.int xs.length) m
    | _ => .fail)
  | [.tup xs] => .ok (.int xs.length) m
  | _ => .fail
theorem op_len : OpB π N bLenR bLen := fun vs m => by
  cases vs with
  | nil => exact .inl (Eq.refl _)
  | cons v r =>
    cases r with
    | cons _ _ => cases v <;> exact .inl (Eq.refl _)
    | nil =>
      cases v with
      | loc l =>
        unfold bLenR bLen
        dsimp only [tVs, tV]
        rw [tM_get]
        cases m.get l with
        | none => exact .inl (Eq.refl _)
        | some o =>
          cases o with
          | lst xs => refine .inr ?_; dsimp only [Option.map, tO, tR, tV]; rw [tVs_length]
          | _ => exact .inl (Eq.refl _)
      | tup xs => refine .inr ?_; unfold bLenR bLen; dsimp only [tVs, tV, tR]; rw [tVs_length]
      | _ => exact .inl (Eq.refl _)
theorem op_max : OpB π N bMax bMax := fun vs m => by
  unfold bMax
  split
  · exact .inr (Eq.refl _)
  · exact .inl (Eq.refl _)
/-- list(a list or tuple), tuple(..) -/
def itR (m : MH) (v : Val) : Option (List Val) := match v with
  | .tup xs => some xs
  | .loc l => (match m.get l with
    | some (.lst xs) => some xs
    | _ => none)
  | _ => none
theorem itR_ok {m : MH} {v : Val} {xs : List Val} (h : itR m v = some xs) : itemsOf (tM π N m) (tV π N v) = some (tVs π N xs) := by
  cases v with
  | tup ys => cases h; rfl
  | loc l =>
    unfold itR at h
    unfold itemsOf
    dsimp only [tV] at h ⊢
    rw [tM_get]
    cases eo : m.get l with
    | none => rw [eo] at h; cases h
    | some o =>
      rw [eo] at h
      cases o with
      | lst ys => cases h; rfl
      | _ => cases h
  | _ => cases h
def bListR : List Val → MH → RE Val := fun vs m => match vs with
  | [v] => (match itR m v with | some xs => mk (.lst xs) m | none => .fail)
  | _ => .fail
theorem op_list : OpB π N bListR bList := fun vs m => by
  unfold bListR
  split
  · rename_i v
    cases e : itR m v with
    | none => exact .inl (Eq.refl _)
    | some xs =>
      unfold bList
      dsimp only [tVs]
      rw [itR_ok e]
      exact Le.mk (o := .lst xs)
  · exact .inl (Eq.refl _)
def bTupleR : List Val → MH → RE Val := fun vs m => match vs with
  | [v] => (match v with
    | .loc _ => (match itR m v with | some xs => .ok (.dtp xs) m | none => .fail)
    | _ => .fail)
  | _ => .fail
theorem op_tuple : OpB π N bTupleR bTuple := fun vs m => by
  unfold bTupleR
  split
  · rename_i v
    cases v with
    | loc l =>
      dsimp only
      cases e : itR m (.loc l) with
      | none => exact .inl (Eq.refl _)
      | some xs =>
        unfold bTuple
        dsimp only [tVs, tV]
        have h := itR_ok (π := π) (N := N) e
        dsimp only [tV] at h
        rw [h]
        exact .inr (Eq.refl _)
    | _ => exact .inl (Eq.refl _)
  · exact .inl (Eq.refl _)
/-! methods of lists -/
theorem isL_tV {v : Val} {m : MH} : isL (tV π N v) (tM π N m) = isL v m := by
  cases v with
  | loc l =>
    unfold isL
    dsimp only [tV]
    rw [tM_get]
    cases m.get l with
    | none => rfl
    | some o => cases o <;> rfl
  | ty t => cases t <;> rfl
  | _ => rfl
theorem rn_bm {o' o : BM} {f' f : E} {g' g : EA} (ho : OpM π N o' o) (hf : Rn π N f' f) (hg : RnA π N g' g) : Rn π N (eBm isL o' f' g') (eBm isL o f g) := fun sl m => Le.bind (hf sl m) fun v m1 => by
  rw [isL_tV]
  cases isL v m1 with
  | false => exact .inl (Eq.refl _)
  | true => exact Le.bind (hg sl m1) fun vs m2 => Le.nE (ho v vs m2)
theorem le_put {l : Nat} {o : Ob} {m : MH} {v : Val} (hv : tV π N v = v) : Le (tR π N (tV π N) (.ok v (m.put l o))) (.ok v ((tM π N m).put l (tO π N o))) := .inr (by
  show RE.ok v _ = .ok (tV π N v) (tM π N (m.put l o))
  rw [tM_put, hv])
theorem op_append : OpM π N lAppend lAppend := fun v vs m => by
  cases v with
  | loc l =>
    cases vs with
    | nil => exact .inl (Eq.refl _)
    | cons y r =>
      cases r with
      | cons _ _ => exact .inl (Eq.refl _)
      | nil =>
        unfold lAppend
        dsimp only [tV, tVs]
        rw [tM_get]
        cases m.get l with
        | none => exact .inl (Eq.refl _)
        | some o =>
          cases o with
          | lst xs =>
            dsimp only [Option.map, tO]
            rw [small_tVs]
            cases small xs with
            | false => exact .inl (Eq.refl _)
            | true =>
              dsimp only
              have e : tVs π N xs ++ [tV π N y] = tVs π N (xs ++ [y]) := by rw [tVs_append]; rfl
              rw [e]
              exact le_put (o := .lst (xs ++ [y])) rfl
          | _ => exact .inl (Eq.refl _)
  | _ => exact .inl (Eq.refl _)
theorem op_pop : OpM π N lPop lPop := fun v vs m => by
  cases v with
  | loc l =>
    cases vs with
    | cons _ _ => exact .inl (Eq.refl _)
    | nil =>
      unfold lPop
      dsimp only [tV, tVs]
      rw [tM_get]
      cases m.get l with
      | none => exact .inl (Eq.refl _)
      | some o =>
        cases o with
        | lst xs =>
          dsimp only [Option.map, tO]
          rw [tVs_length, tVs_get]
          cases xs[xs.length - 1]? with
          | none => exact .inl (Eq.refl _)
          | some y =>
            dsimp only [Option.map]
            refine .inr ?_
            show RE.ok (tV π N y) _ = .ok (tV π N y) (tM π N (m.put l (.lst xs.dropLast)))
            rw [tM_put, tO, tVs_dropLast]
        | _ => exact .inl (Eq.refl _)
  | _ => exact .inl (Eq.refl _)
/-- a list grows by a list or tuple -/
def lExtR : BM := fun v vs m => match v, vs with
  | .loc l, [y] => (match itR m (wk y) with
    | some ys => (match m.get l with
      | some (.lst xs) => (match small xs && small ys with
        | true => .ok .non (m.put l (.lst (xs ++ ys)))
        | false => .fail)
      | _ => .fail)
    | none => .fail)
  | _, _ => .fail
theorem op_extend : OpM π N lExtR lExtend2 := fun v vs m => by
  cases v with
  | loc l =>
    cases vs with
    | nil => exact .inl (Eq.refl _)
    | cons y r =>
      cases r with
      | cons _ _ => exact .inl (Eq.refl _)
      | nil =>
        unfold lExtR
        dsimp only
        cases ey : itR m (wk y) with
        | none => exact .inl (Eq.refl _)
        | some ys =>
          dsimp only
          cases el : m.get l with
          | none => exact .inl (Eq.refl _)
          | some o =>
            cases o with
            | lst xs =>
              dsimp only
              cases es : small xs && small ys with
              | false => exact .inl (Eq.refl _)
              | true =>
                have gl : (tM π N m).get l = some (.lst (tVs π N xs)) := by rw [tM_get, el]; rfl
                have fin : (match small (tVs π N xs) && small (tVs π N ys) with | true => RE.ok Val.non ((tM π N m).put l (.lst (tVs π N xs ++ tVs π N ys))) | false => .fail) = tR π N (tV π N) (.ok .non (m.put l (.lst (xs ++ ys)))) := by
                  rw [small_tVs, small_tVs, es]
                  show RE.ok Val.non _ = .ok Val.non (tM π N (m.put l (.lst (xs ++ ys))))
                  rw [tM_put, tO, tVs_append]
                refine .inr ?_
                unfold lExtend2
                dsimp only [tVs, List.map, tV]
                rw [← tV_wk]
                cases ew : wk y with
                | tup zs =>
                  rw [ew] at ey
                  cases ey
                  dsimp only [tV]
                  rw [gl]
                  exact fin
                | loc k =>
                  rw [ew] at ey
                  unfold itR at ey
                  dsimp only at ey
                  cases ek : m.get k with
                  | none => rw [ek] at ey; cases ey
                  | some o2 =>
                    rw [ek] at ey
                    cases o2 with
                    | lst zs =>
                      cases ey
                      have gk : (tM π N m).get k = some (.lst (tVs π N ys)) := by rw [tM_get, ek]; rfl
                      dsimp only [tV]
                      unfold lExtend
                      dsimp only
                      rw [gl, gk]
                      exact fin
                    | _ => cases ey
                | _ => rw [ew] at ey; cases ey
            | _ => exact .inl (Eq.refl _)
  | _ => exact .inl (Eq.refl _)
/-! fields -/
theorem tF_length (fs : List (Str × Val)) : (tF π N fs).length = fs.length := List.length_map _
theorem le_oFld {cs : List Nat} {f : Str} {a v : Val} {m : MH} : Le (tR π N id (oFld cs f a v m)) (oFld cs f (tV π N a) (tV π N v) (tM π N m)) := by
  cases a with
  | loc l =>
    unfold oFld
    dsimp only [tV]
    rw [tM_get]
    cases m.get l with
    | none => exact .inl (Eq.refl _)
    | some o =>
      cases o with
      | ins c fs =>
        dsimp only [Option.map, tO]
        cases cs.any (Nat.beq c) with
        | false => exact .inl (Eq.refl _)
        | true =>
          dsimp only
          rw [tF_length]
          cases Nat.blt fs.length 1000 with
          | false => exact .inl (Eq.refl _)
          | true =>
            refine .inr ?_
            show RE.ok () _ = .ok () (tM π N (m.put l (.ins c (fput f v fs))))
            rw [tM_put, tO, tF_put]
      | _ => exact .inl (Eq.refl _)
  | ty t => cases t <;> exact .inl (Eq.refl _)
  | _ => exact .inl (Eq.refl _)
theorem rn_fld {cs : List Nat} {x : Str} {o' o f' f : E} (ho : Rn π N o' o) (hf : Rn π N f' f) : RnS π N (sFld cs x o' f') (sFld cs x o f) := fun sl m =>
  Le.to (hf sl m) fun v m1 => Le.to (ho sl m1) fun a m2 => Le.to (k := id) (Le.nE le_oFld) fun _ m3 => .inr (Eq.refl _)
theorem le_fldEnd {x : Str} {l c : Nat} {z : Val} {m : MH} : Le (tR π N id (fldEnd x l c z m)) (fldEnd x l c (tV π N z) (tM π N m)) := by
  unfold fldEnd
  rw [tM_get]
  cases m.get l with
  | none => exact .inl (Eq.refl _)
  | some o =>
    cases o with
    | ins c' fs =>
      dsimp only [Option.map, tO]
      rw [tF_length]
      cases Nat.beq c' c && Nat.blt fs.length 1000 with
      | false => exact .inl (Eq.refl _)
      | true =>
        refine .inr ?_
        show RE.ok () _ = .ok () (tM π N (m.put l (.ins c (fput x z fs))))
        rw [tM_put, tO, tF_put]
    | _ => exact .inl (Eq.refl _)
theorem rn_fldaug {cs : List Nat} {x : Str} {o' o f' f : E} {p' p : Val → Val → MH → RE Val} (ho : Rn π N o' o) (hp : Op2 π N p' p) (hf : Rn π N f' f) : RnS π N (sFldAug cs x o' p' f') (sFldAug cs x o p f) := fun sl m => Le.to (ho sl m) fun a m1 => by
  cases a with
  | loc l =>
    unfold fldAug
    dsimp only [tV]
    rw [tM_get]
    cases m1.get l with
    | none => exact .inl (Eq.refl _)
    | some ob =>
      cases ob with
      | ins c fs =>
        dsimp only [Option.map, tO]
        cases cs.any (Nat.beq c) with
        | false => exact .inl (Eq.refl _)
        | true =>
          dsimp only
          rw [tF_look]
          cases flook fs x with
          | none => exact .inl (Eq.refl _)
          | some z => exact Le.to (hf sl m1) fun y m3 => Le.to (Le.nE (hp z y m3)) fun z' m4 => Le.to (k := id) (Le.nE le_fldEnd) fun _ m5 => .inr (Eq.refl _)
      | _ => exact .inl (Eq.refl _)
  | ty t => cases t <;> exact .inl (Eq.refl _)
  | _ => exact .inl (Eq.refl _)
/-! comprehensions -/
/-- over a list or tuple -/
def iSeqR (f : E) : EI := fun sl m => (f sl m).bind fun v m1 => match wk v with
  | .loc l => (match m1.get l with
    | some (.lst _) => .ok (.lst l) m1
    | _ => .fail)
  | .tup xs => .ok (.vals xs) m1
  | _ => .fail
theorem rn_iseq {f' f : E} (hf : Rn π N f' f) : RnI π N (iSeqR f') (iSeq f) := fun sl m => Le.bind (hf sl m) fun v m1 => by
  rw [← tV_wk]
  cases wk v with
  | loc l =>
    dsimp only [tV]
    rw [tM_get]
    cases m1.get l with
    | none => exact .inl (Eq.refl _)
    | some o =>
      cases o with
      | lst xs => exact .inr (Eq.refl _)
      | _ => exact .inl (Eq.refl _)
  | tup xs => exact .inr (Eq.refl _)
  | ty t => exact .inl (Eq.refl _)
  | _ => exact .inl (Eq.refl _)
/-- the iterators that are renamed: of lists and values -/
def itOk : ItM → Bool
  | .lst _ => true | .vals _ => true | _ => false
theorem next_tI {it : ItM} (h : itOk it = true) {m : MH} {i : Nat} {r : Option Val} (e : it.next m i = some r) : (tI π N it).next (tM π N m) i = some (r.map (tV π N)) := by
  cases it with
  | lst l =>
    unfold ItM.next at e
    unfold tI ItM.next
    dsimp only at e ⊢
    rw [tM_get]
    cases eo : m.get l with
    | none => rw [eo] at e; cases e
    | some o =>
      rw [eo] at e
      cases o with
      | lst xs => cases e; dsimp only [Option.map, tO]; rw [tVs_get]; rfl
      | rol xs => cases e; dsimp only [Option.map, tO]; rw [tVs_get]; rfl
      | _ => cases e
  | vals xs =>
    unfold ItM.next at e
    cases e
    unfold tI ItM.next
    dsimp only
    rw [tVs_get]
  | _ => cases h
theorem wipe_tS (sl : Slots) : ∀ vs : List Nat, tS π N (wipeM sl vs) = wipeM (tS π N sl) vs
  | [] => rfl
  | v :: vs => by
    unfold wipeM
    rw [tS_set, wipe_tS sl vs]
    rfl
theorem rn_walk {it : ItM} (hi : itOk it = true) {g' g : G} {t' t : ET} {f' f : E} (hg : RnG π N g' g) (ht : RnT π N t' t) (hf : Rn π N f' f) (sl : Slots) : ∀ (n i : Nat) (r : List Val) (m : MH),
    Le (tR π N (tVs π N) (walkGo it sl g' t' (bdOne f') n i r m)) (walkGo (tI π N it) (tS π N sl) g t (bdOne f) n i (tVs π N r) (tM π N m))
  | 0, i, r, m => .inl (Eq.refl _)
  | n + 1, i, r, m => by
    have ih := rn_walk hi hg ht hf sl n (i + 1)
    show Le (tR π N (tVs π N) (match it.next m i with
      | some (some v) => (match g' v sl m with
        | some sl2 => (nE (t' sl2 m)).bind fun b m2 => (match b with
          | true => bdOne f' sl2 r m2
          | false => .ok r m2).bind fun r' m3 => walkGo it sl g' t' (bdOne f') n (i + 1) r' m3
        | none => .fail)
      | some none => .ok r m
      | none => .fail)) (match (tI π N it).next (tM π N m) i with
      | some (some v) => (match g v (tS π N sl) (tM π N m) with
        | some sl2 => (nE (t sl2 (tM π N m))).bind fun b m2 => (match b with
          | true => bdOne f sl2 (tVs π N r) m2
          | false => .ok (tVs π N r) m2).bind fun r' m3 => walkGo (tI π N it) (tS π N sl) g t (bdOne f) n (i + 1) r' m3
        | none => .fail)
      | some none => .ok (tVs π N r) (tM π N m)
      | none => .fail)
    cases e : it.next m i with
    | none => exact .inl (Eq.refl _)
    | some o =>
      rw [next_tI hi e]
      cases o with
      | none => exact .inr (Eq.refl _)
      | some v =>
        dsimp only [Option.map]
        cases e2 : g' v sl m with
        | none => exact .inl (Eq.refl _)
        | some sl2 =>
          rw [hg v sl sl2 m e2]
          refine Le.bind (Le.nE (ht sl2 m)) fun b m2 => Le.bind (k := tVs π N) ?_ ih
          cases b with
          | false => exact .inr (Eq.refl _)
          | true =>
            refine Le.bind (k := tV π N) (Le.nE (hf sl2 m2)) fun y m3 => ?_
            rw [tVs_length]
            cases Nat.blt r.length 1000000 with
            | true => exact .inr (Eq.refl _)
            | false => exact .inl (Eq.refl _)
/-- .. -/
def eLcR (n : Nat) (fi : EI) (g : G) (t : ET) (f : E) (vs : List Nat) : E := fun sl m => (fi sl m).bind fun it m1 => match itOk it with
  | true => (walkGo it (wipeM sl vs) g t (bdOne f) n 0 [] m1).bind fun r m2 => mk (.lst r.reverse) m2
  | false => .fail
theorem rn_lc {n : Nat} {fi' fi : EI} {g' g : G} {t' t : ET} {f' f : E} {vs : List Nat} (hi : RnI π N fi' fi) (hg : RnG π N g' g) (ht : RnT π N t' t) (hf : Rn π N f' f) : Rn π N (eLcR n fi' g' t' f' vs) (eLc n fi g t f vs) := fun sl m => Le.bind (hi sl m) fun it m1 => by
  cases e : itOk it with
  | false => exact .inl (Eq.refl _)
  | true =>
    dsimp only
    rw [← wipe_tS]
    refine Le.bind (rn_walk e hg ht hf (wipeM sl vs) n 0 [] m1) fun r m2 => ?_
    rw [← tVs_reverse]
    exact Le.mk (o := .lst r.reverse)
/-! exceptions -/
def okI : Val → Bool
  | .int i => Nat.blt i.natAbs.log2 1920
  | _ => false
def xMkR (c : Nat) (fs : List Str) (f : EA) : EX := fun sl m => (f sl m).bind fun vs m1 => match vs.all okI with
  | true => (match fieldsOf fs vs [] with
    | some gs => .ok ⟨c, gs⟩ m1
    | none => .fail)
  | false => .fail
theorem okI_tV {v : Val} (h : okI v = true) : tV π N v = v ∧ okX v = true := by
  cases v with
  | int i => exact ⟨rfl, h⟩
  | _ => cases h
theorem okI_all : ∀ {vs : List Val}, vs.all okI = true → tVs π N vs = vs ∧ vs.all okX = true
  | [], _ => ⟨rfl, rfl⟩
  | v :: r, h => by
    rw [List.all_cons, Bool.and_eq_true_iff] at h
    obtain ⟨h1, h2⟩ := okI_all h.2
    obtain ⟨h3, h4⟩ := okI_tV (π := π) (N := N) h.1
    refine ⟨by rw [tVs, h3, h1], by rw [List.all_cons, h4, h2]; rfl⟩
theorem fieldsOf_t : ∀ (fs : List Str) (vs : List Val) (acc gs : List (Str × Val)), vs.all okI = true → tF π N acc = acc → fieldsOf fs vs acc = some gs → tF π N gs = gs
  | [], [], acc, gs, _, h, e => by cases e; exact h
  | f :: fs, v :: vs, acc, gs, h, ha, e => by
    rw [List.all_cons, Bool.and_eq_true_iff] at h
    refine fieldsOf_t fs vs ((f, v) :: acc) gs h.2 ?_ e
    show (f, tV π N v) :: tF π N acc = _
    rw [(okI_tV h.1).1, ha]
  | [], _ :: _, _, _, _, _, e => by cases e
  | _ :: _, [], _, _, _, _, e => by cases e
theorem rn_xmk {c : Nat} {fs : List Str} {f' f : EA} (hf : RnA π N f' f) : RnX π N (xMkR c fs f') (xMk c fs f) := fun sl m => Le.bind (hf sl m) fun vs m1 => by
  cases e : vs.all okI with
  | false => exact .inl (Eq.refl _)
  | true =>
    obtain ⟨h1, h2⟩ := okI_all (π := π) (N := N) e
    rw [h1, h2]
    dsimp only
    cases eg : fieldsOf fs vs [] with
    | none => exact .inl (Eq.refl _)
    | some gs =>
      refine .inr ?_
      show RE.ok (Exc.mk c gs) _ = .ok ⟨c, tF π N gs⟩ _
      rw [fieldsOf_t fs vs [] gs e rfl eg]
theorem rn_xmk0 {c : Nat} : RnX π N (xMk0 c) (xMk0 c) := fun sl m => .inr (Eq.refl _)
theorem rn_raise {f' f : EX} (hf : RnX π N f' f) : RnS π N (sRaise f') (sRaise f) := fun sl m => Le.to (hf sl m) fun e m1 => .inr (Eq.refl _)
/-! defs -/
theorem tS_slots0 (n : Nat) (as : List Val) : slots0 n (tVs π N as) = tS π N (slots0 n as) := by
  unfold slots0 tS
  rw [tVs_length, tVs_map, List.map_append, List.map_map, List.map_map, List.map_replicate]
  rfl
theorem rn_fn {n : Nat} {b' b : S} (h : RnS π N b' b) : RnF π N (fnM n b') (fnM n b) := fun vs m => by
  unfold fnM
  rw [tS_slots0]
  rcases h (slots0 n vs) m with e | e
  · cases eb : b' (slots0 n vs) m with
    | fail => exact .inl (Eq.refl _)
    | _ => rw [eb] at e; cases e
  · rw [e]
    cases b' (slots0 n vs) m <;> first | exact .inr (Eq.refl _) | exact .inl (Eq.refl _)
theorem rn_failF {φ : FM} : RnF π N (fun _ _ => .fail) φ := fun vs m => .inl (Eq.refl _)
end
end Mi

set_option Elab.async false
set_option linter.all false
set_option autoImplicit false
set_option maxRecDepth 100000
set_option maxHeartbeats 2000000
/-! text * int -/
namespace Mi
open PySem PySem.Spec L2
def repS (x : Str) (n : Int) : Str := ⟨(List.replicate n.toNat x.cps).foldl (· ++ ·) #[]⟩
def oMul2 : Val → Val → MH → RE Val := fun a b m => match a with
  | .str x => (match b with
    | .int n => (match Nat.ble 1 x.length && Nat.ble x.length 1000 && decide (2 ≤ n) && decide (n ≤ 1000) && Nat.ble (repS x n).length 1000000 with
      | true => .ok (.str (repS x n)) m
      | false => .fail)
    | _ => .fail)
  | _ => oMul a b m
theorem m_mul2 {cn : CN} {X : Cx} : OpR X (binaryOp .Mult) (rM cn X.K oMul2) := by
  intro pins s σ H x y v u Q I rx ry ⟨a, b, m, ρ, w, ra, rb, q⟩
  cases a with
  | str i =>
    cases b with
    | int n =>
      cases ra; cases rb
      unfold oMul2 at q
      dsimp only at q
      cases z : Nat.ble 1 i.length && Nat.ble i.length 1000 && decide (2 ≤ n) && decide (n ≤ 1000) && Nat.ble (repS i n).length 1000000 with
      | false => rw [z] at q; exact q.elim
      | true =>
        rw [z] at q
        simp only [Bool.and_eq_true, decide_eq_true_eq] at z
        obtain ⟨⟨⟨⟨z1, z2⟩, z3⟩, z4⟩, z5⟩ := z
        have z1 := Nat.le_of_ble_eq_true z1
        have z2 := Nat.le_of_ble_eq_true z2
        have z5 := Nat.le_of_ble_eq_true z5
        obtain ⟨t, rfl⟩ := rx
        obtain ⟨t', rfl⟩ := ry
        have e1 : (decide (n < -(2 ^ 63 : Int)) || decide (n ≥ 2 ^ 63)) = false := by
          rw [decide_eq_false (by omega), decide_eq_false (by omega)]; rfl
        have e2 : ¬ n < 1 := by omega
        have e3 : ¬ ((n == 1 || i.length == 0) = true) := by
          rw [Bool.or_eq_true]
          intro h
          rcases h with h | h
          · have := eq_of_beq h; omega
          · have := eq_of_beq h; omega
        refine PySem.P.mul_str e1 (fun _ _ => ?_) (fun _ _ => ?_) ?_
        · have : (1000 : Int) ≤ (2 ^ 63 - 1) / n := by
            refine (Int.le_ediv_iff_mul_le (by omega)).mpr ?_
            omega
          omega
        · have : i.length * n.toNat ≤ 1000 * 1000 := Nat.mul_le_mul z2 (by omega)
          unfold Builtin.Str.tooLong
          simp only [decide_eq_false_iff_not]
          rw [sizeLine_eq]
          omega
        · rw [if_neg e2, if_neg e3]
          refine ⟨?_, ⟨.str (repS i n), H, I.tok _, ⟨_, rfl⟩, q.val w (.str _)⟩⟩
          show (repS i n).length ≤ sizeLine
          rw [sizeLine_eq]
          omega
    | _ => exact q.elim
  | _ => exact m_mul pins s σ H x y v u Q I rx ry ⟨_, b, m, ρ, w, ra, rb, q⟩
end Mi

set_option Elab.async false
set_option linter.all false
set_option autoImplicit false
set_option maxRecDepth 100000
set_option maxHeartbeats 0
namespace Hd
open PySem PySem.Spec PyProof.Rows L2 Mi
def top (i : Nat) : Stmt := PySem.Challenge.pw_openrows_k00_words_and_names.main.body.getD i (.Pass ⟨0, 0, 0, 0⟩)
def s_0 : Str := ⟨#[]⟩
theorem q_0 : (Str.ofString "" : Str) = s_0 := by decide +kernel
def s_1 : Str := ⟨#[100, 101, 102]⟩
theorem q_1 : (Str.ofString "def" : Str) = s_1 := by decide +kernel
def s_2 : Str := ⟨#[102, 110]⟩
theorem q_2 : (Str.ofString "fn" : Str) = s_2 := by decide +kernel
def s_3 : Str := ⟨#[102, 105, 120]⟩
theorem q_3 : (Str.ofString "fix" : Str) = s_3 := by decide +kernel
def s_4 : Str := ⟨#[108, 101, 116]⟩
theorem q_4 : (Str.ofString "let" : Str) = s_4 := by decide +kernel
def s_5 : Str := ⟨#[105, 110]⟩
theorem q_5 : (Str.ofString "in" : Str) = s_5 := by decide +kernel
def s_6 : Str := ⟨#[109, 97, 116, 99, 104]⟩
theorem q_6 : (Str.ofString "match" : Str) = s_6 := by decide +kernel
def s_7 : Str := ⟨#[101, 108, 115, 101]⟩
theorem q_7 : (Str.ofString "else" : Str) = s_7 := by decide +kernel
def s_8 : Str := ⟨#[119, 105, 116, 104]⟩
theorem q_8 : (Str.ofString "with" : Str) = s_8 := by decide +kernel
def s_9 : Str := ⟨#[119, 105, 100, 101]⟩
theorem q_9 : (Str.ofString "wide" : Str) = s_9 := by decide +kernel
def s_10 : Str := ⟨#[119, 104, 101, 114, 101]⟩
theorem q_10 : (Str.ofString "where" : Str) = s_10 := by decide +kernel
def s_11 : Str := ⟨#[97, 98, 99, 100, 101, 102, 103, 104, 105, 106, 107, 108, 109, 110, 111, 112, 113, 114, 115, 116, 117, 118, 119, 120, 121, 122]⟩
theorem q_11 : (Str.ofString "abcdefghijklmnopqrstuvwxyz" : Str) = s_11 := by decide +kernel
def s_12 : Str := ⟨#[48, 49, 50, 51, 52, 53, 54, 55, 56, 57]⟩
theorem q_12 : (Str.ofString "0123456789" : Str) = s_12 := by decide +kernel
def s_13 : Str := ⟨#[65, 66, 67, 68, 69, 70, 71, 72, 73, 74, 75, 76, 77, 78, 79, 80, 81, 82, 83, 84, 85, 86, 87, 88, 89, 90]⟩
theorem q_13 : (Str.ofString "ABCDEFGHIJKLMNOPQRSTUVWXYZ" : Str) = s_13 := by decide +kernel
def s_14 : Str := ⟨#[45]⟩
theorem q_14 : (Str.ofString "-" : Str) = s_14 := by decide +kernel
def s_15 : Str := ⟨#[48]⟩
theorem q_15 : (Str.ofString "0" : Str) = s_15 := by decide +kernel
def s_16 : Str := ⟨#[105, 110, 116]⟩
theorem q_16 : (Str.ofString "int" : Str) = s_16 := by decide +kernel
def s_17 : Str := ⟨#[110, 97, 109, 101]⟩
theorem q_17 : (Str.ofString "name" : Str) = s_17 := by decide +kernel
def s_18 : Str := ⟨#[99, 97, 108, 108]⟩
theorem q_18 : (Str.ofString "call" : Str) = s_18 := by decide +kernel
def s_19 : Str := ⟨#[108, 101, 115, 115]⟩
theorem q_19 : (Str.ofString "less" : Str) = s_19 := by decide +kernel
def s_20 : Str := ⟨#[111, 112]⟩
theorem q_20 : (Str.ofString "op" : Str) = s_20 := by decide +kernel
def s_21 : Str := ⟨#[114, 101, 99, 111, 114, 100]⟩
theorem q_21 : (Str.ofString "record" : Str) = s_21 := by decide +kernel
def s_22 : Str := ⟨#[103, 114, 111, 119]⟩
theorem q_22 : (Str.ofString "grow" : Str) = s_22 := by decide +kernel
def s_23 : Str := ⟨#[103, 101, 116]⟩
theorem q_23 : (Str.ofString "get" : Str) = s_23 := by decide +kernel
def s_24 : Str := ⟨#[99, 117, 116]⟩
theorem q_24 : (Str.ofString "cut" : Str) = s_24 := by decide +kernel
def s_25 : Str := ⟨#[112, 117, 116]⟩
theorem q_25 : (Str.ofString "put" : Str) = s_25 := by decide +kernel
def s_26 : Str := ⟨#[116, 97, 103]⟩
theorem q_26 : (Str.ofString "tag" : Str) = s_26 := by decide +kernel
def s_27 : Str := ⟨#[32]⟩
theorem q_27 : (Str.ofString " " : Str) = s_27 := by decide +kernel
def s_28 : Str := ⟨#[119, 111, 114, 100, 115]⟩
theorem q_28 : (Str.ofString "words" : Str) = s_28 := by decide +kernel
def s_29 : Str := ⟨#[108, 105, 110, 101]⟩
theorem q_29 : (Str.ofString "line" : Str) = s_29 := by decide +kernel
def s_30 : Str := ⟨#[112, 108, 97, 99, 101]⟩
theorem q_30 : (Str.ofString "place" : Str) = s_30 := by decide +kernel
def s_31 : Str := ⟨#[119, 111, 114, 100]⟩
theorem q_31 : (Str.ofString "word" : Str) = s_31 := by decide +kernel
def s_32 : Str := ⟨#[114, 101, 102, 117, 115, 101]⟩
theorem q_32 : (Str.ofString "refuse" : Str) = s_32 := by decide +kernel
def s_33 : Str := ⟨#[97, 104, 101, 97, 100]⟩
theorem q_33 : (Str.ofString "ahead" : Str) = s_33 := by decide +kernel
def s_34 : Str := ⟨#[116, 97, 107, 101]⟩
theorem q_34 : (Str.ofString "take" : Str) = s_34 := by decide +kernel
def s_35 : Str := ⟨#[107, 110, 111, 119, 110]⟩
theorem q_35 : (Str.ofString "known" : Str) = s_35 := by decide +kernel
def s_36 : Str := ⟨#[100, 101, 101, 112]⟩
theorem q_36 : (Str.ofString "deep" : Str) = s_36 := by decide +kernel
def s_37 : Str := ⟨#[95, 102, 110]⟩
theorem q_37 : (Str.ofString "_fn" : Str) = s_37 := by decide +kernel
def s_38 : Str := ⟨#[95, 102, 105, 120]⟩
theorem q_38 : (Str.ofString "_fix" : Str) = s_38 := by decide +kernel
def s_39 : Str := ⟨#[95, 108, 101, 116]⟩
theorem q_39 : (Str.ofString "_let" : Str) = s_39 := by decide +kernel
def s_40 : Str := ⟨#[95, 109, 97, 116, 99, 104]⟩
theorem q_40 : (Str.ofString "_match" : Str) = s_40 := by decide +kernel
def s_41 : Str := ⟨#[95, 108, 101, 115, 115]⟩
theorem q_41 : (Str.ofString "_less" : Str) = s_41 := by decide +kernel
def s_42 : Str := ⟨#[101, 120, 112, 114, 101, 115, 115, 105, 111, 110]⟩
theorem q_42 : (Str.ofString "expression" : Str) = s_42 := by decide +kernel
def s_43 : Str := ⟨#[106, 117, 115, 116]⟩
theorem q_43 : (Str.ofString "just" : Str) = s_43 := by decide +kernel
def s_44 : Str := ⟨#[116, 97, 107, 101, 95, 110, 97, 109, 101]⟩
theorem q_44 : (Str.ofString "take_name" : Str) = s_44 := by decide +kernel
def s_45 : Str := ⟨#[61, 62]⟩
theorem q_45 : (Str.ofString "=>" : Str) = s_45 := by decide +kernel
def s_46 : Str := ⟨#[95, 119, 105, 116, 104, 105, 110]⟩
theorem q_46 : (Str.ofString "_within" : Str) = s_46 := by decide +kernel
def s_47 : Str := ⟨#[61]⟩
theorem q_47 : (Str.ofString "=" : Str) = s_47 := by decide +kernel
def s_48 : Str := ⟨#[123]⟩
theorem q_48 : (Str.ofString "{" : Str) = s_48 := by decide +kernel
def s_49 : Str := ⟨#[116, 97, 107, 101, 95, 116, 97, 103]⟩
theorem q_49 : (Str.ofString "take_tag" : Str) = s_49 := by decide +kernel
def s_50 : Str := ⟨#[59]⟩
theorem q_50 : (Str.ofString ";" : Str) = s_50 := by decide +kernel
def s_51 : Str := ⟨#[116, 97, 107, 101, 115]⟩
theorem q_51 : (Str.ofString "takes" : Str) = s_51 := by decide +kernel
def s_52 : Str := ⟨#[125]⟩
theorem q_52 : (Str.ofString "}" : Str) = s_52 := by decide +kernel
def s_53 : Str := ⟨#[95, 115, 117, 109]⟩
theorem q_53 : (Str.ofString "_sum" : Str) = s_53 := by decide +kernel
def s_54 : Str := ⟨#[60]⟩
theorem q_54 : (Str.ofString "<" : Str) = s_54 := by decide +kernel
def s_55 : Str := ⟨#[95, 112, 114, 111, 100, 117, 99, 116]⟩
theorem q_55 : (Str.ofString "_product" : Str) = s_55 := by decide +kernel
def s_56 : Str := ⟨#[43]⟩
theorem q_56 : (Str.ofString "+" : Str) = s_56 := by decide +kernel
def s_57 : Str := ⟨#[95, 99, 97, 108, 108]⟩
theorem q_57 : (Str.ofString "_call" : Str) = s_57 := by decide +kernel
def s_58 : Str := ⟨#[42]⟩
theorem q_58 : (Str.ofString "*" : Str) = s_58 := by decide +kernel
def s_59 : Str := ⟨#[95, 112, 111, 115, 116]⟩
theorem q_59 : (Str.ofString "_post" : Str) = s_59 := by decide +kernel
def s_60 : Str := ⟨#[95, 98, 101, 103, 105, 110, 115]⟩
theorem q_60 : (Str.ofString "_begins" : Str) = s_60 := by decide +kernel
def s_61 : Str := ⟨#[40]⟩
theorem q_61 : (Str.ofString "(" : Str) = s_61 := by decide +kernel
def s_62 : Str := ⟨#[95, 97, 116, 111, 109]⟩
theorem q_62 : (Str.ofString "_atom" : Str) = s_62 := by decide +kernel
def s_63 : Str := ⟨#[46]⟩
theorem q_63 : (Str.ofString "." : Str) = s_63 := by decide +kernel
def s_64 : Str := ⟨#[92]⟩
theorem q_64 : (Str.ofString "\\" : Str) = s_64 := by decide +kernel
def s_65 : Str := ⟨#[116, 97, 107, 101, 95, 110, 117, 109, 98, 101, 114]⟩
theorem q_65 : (Str.ofString "take_number" : Str) = s_65 := by decide +kernel
def s_66 : Str := ⟨#[41]⟩
theorem q_66 : (Str.ofString ")" : Str) = s_66 := by decide +kernel
def s_67 : Str := ⟨#[95, 114, 101, 99, 111, 114, 100]⟩
theorem q_67 : (Str.ofString "_record" : Str) = s_67 := by decide +kernel
def s_68 : Str := ⟨#[44]⟩
theorem q_68 : (Str.ofString "," : Str) = s_68 := by decide +kernel
def s_69 : Str := ⟨#[124]⟩
theorem q_69 : (Str.ofString "|" : Str) = s_69 := by decide +kernel
def s_70 : Str := ⟨#[101, 110, 100]⟩
theorem q_70 : (Str.ofString "end" : Str) = s_70 := by decide +kernel
def s_71 : Str := ⟨#[97, 98, 99, 120, 121, 122]⟩
theorem q_71 : (Str.ofString "abcxyz" : Str) = s_71 := by decide +kernel
def s_72 : Str := ⟨#[65, 66, 88, 89, 90]⟩
theorem q_72 : (Str.ofString "ABXYZ" : Str) = s_72 := by decide +kernel
def s_73 : Str := ⟨#[48, 49, 50, 51, 55, 56, 57]⟩
theorem q_73 : (Str.ofString "0123789" : Str) = s_73 := by decide +kernel
def s_74 : Str := ⟨#[45, 95, 46]⟩
theorem q_74 : (Str.ofString "-_." : Str) = s_74 := by decide +kernel
def s_75 : Str := ⟨#[105, 110, 100, 101, 120]⟩
theorem q_75 : (Str.ofString "index" : Str) = s_75 := by decide +kernel
def s_76 : Str := ⟨#[97]⟩
theorem q_76 : (Str.ofString "a" : Str) = s_76 := by decide +kernel
def s_77 : Str := ⟨#[45, 53]⟩
theorem q_77 : (Str.ofString "-5" : Str) = s_77 := by decide +kernel
def s_78 : Str := ⟨#[45, 48]⟩
theorem q_78 : (Str.ofString "-0" : Str) = s_78 := by decide +kernel
def s_79 : Str := ⟨#[48, 48]⟩
theorem q_79 : (Str.ofString "00" : Str) = s_79 := by decide +kernel
def s_80 : Str := ⟨#[65, 98, 49]⟩
theorem q_80 : (Str.ofString "Ab1" : Str) = s_80 := by decide +kernel
def s_81 : Str := ⟨#[57, 57, 57, 57, 57, 57, 57, 57, 57, 57, 57, 57]⟩
theorem q_81 : (Str.ofString "999999999999" : Str) = s_81 := by decide +kernel
def s_82 : Str := ⟨#[49, 48, 48, 48, 48, 48, 48, 48, 48, 48, 48, 48, 48]⟩
theorem q_82 : (Str.ofString "1000000000000" : Str) = s_82 := by decide +kernel
def s_83 : Str := ⟨#[97, 98, 99, 100, 101, 102, 103, 104, 105, 106, 107, 108, 109, 110, 111, 112, 113, 114, 115, 116, 117, 118, 119, 120, 121, 122, 48, 49, 50, 51, 52, 53, 54, 55, 56, 57]⟩
theorem q_83 : (Str.ofString "abcdefghijklmnopqrstuvwxyz0123456789" : Str) = s_83 := by decide +kernel
def s_84 : Str := ⟨#[97, 98, 99, 100, 101, 102, 103, 104, 105, 106, 107, 108, 109, 110, 111, 112, 113, 114, 115, 116, 117, 118, 119, 120, 121, 122, 65, 66, 67, 68, 69, 70, 71, 72, 73, 74, 75, 76, 77, 78, 79, 80, 81, 82, 83, 84, 85, 86, 87, 88, 89, 90, 48, 49, 50, 51, 52, 53, 54, 55, 56, 57]⟩
theorem q_84 : (Str.ofString "abcdefghijklmnopqrstuvwxyzABCDEFGHIJKLMNOPQRSTUVWXYZ0123456789" : Str) = s_84 := by decide +kernel
def s_85 : Str := ⟨#[102, 110, 32]⟩
theorem q_85 : (Str.ofString "fn " : Str) = s_85 := by decide +kernel
def s_86 : Str := ⟨#[32, 61, 62, 32, 49]⟩
theorem q_86 : (Str.ofString " => 1" : Str) = s_86 := by decide +kernel
def s_87 : Str := ⟨#[123, 32]⟩
theorem q_87 : (Str.ofString "{ " : Str) = s_87 := by decide +kernel
def s_88 : Str := ⟨#[32, 61, 32, 49, 32, 125]⟩
theorem q_88 : (Str.ofString " = 1 }" : Str) = s_88 := by decide +kernel
def s_89 : Str := ⟨#[32, 49]⟩
theorem q_89 : (Str.ofString " 1" : Str) = s_89 := by decide +kernel
def d0 : He.DefD := ⟨("BadText", some "__init__"), "__init__", "BadText.__init__", defArgs (inClass (top 2) 0), defBody (inClass (top 2) 0), defScope (inClass (top 2) 0), [], []⟩
def d1 : He.DefD := ⟨("is_name", none), "is_name", "is_name", defArgs (top 12), defBody (top 12), defScope (top 12), [], []⟩
def d2 : He.DefD := ⟨("is_tag", none), "is_tag", "is_tag", defArgs (top 13), defBody (top 13), defScope (top 13), [], []⟩
def d3 : He.DefD := ⟨("is_number", none), "is_number", "is_number", defArgs (top 14), defBody (top 14), defScope (top 14), [], []⟩
def d4 : He.DefD := ⟨("parts_of", none), "parts_of", "parts_of", defArgs (top 15), defBody (top 15), defScope (top 15), [], []⟩
def d5 : He.DefD := ⟨("size", none), "size", "size", defArgs (top 16), defBody (top 16), defScope (top 16), [], []⟩
def d6 : He.DefD := ⟨("depth", none), "depth", "depth", defArgs (top 17), defBody (top 17), defScope (top 17), [], []⟩
def d7 : He.DefD := ⟨("check_size", none), "check_size", "check_size", defArgs (top 18), defBody (top 18), defScope (top 18), [], []⟩
def d8 : He.DefD := ⟨("Words", some "__init__"), "__init__", "Words.__init__", defArgs (inClass (top 20) 0), defBody (inClass (top 20) 0), defScope (inClass (top 20) 0), [], []⟩
def d9 : He.DefD := ⟨("Words", some "refuse"), "refuse", "Words.refuse", defArgs (inClass (top 20) 1), defBody (inClass (top 20) 1), defScope (inClass (top 20) 1), [], []⟩
def d10 : He.DefD := ⟨("Words", some "ahead"), "ahead", "Words.ahead", defArgs (inClass (top 20) 2), defBody (inClass (top 20) 2), defScope (inClass (top 20) 2), [.int 0], []⟩
def d11 : He.DefD := ⟨("Words", some "take"), "take", "Words.take", defArgs (inClass (top 20) 3), defBody (inClass (top 20) 3), defScope (inClass (top 20) 3), [], []⟩
def d12 : He.DefD := ⟨("Words", some "just"), "just", "Words.just", defArgs (inClass (top 20) 4), defBody (inClass (top 20) 4), defScope (inClass (top 20) 4), [], []⟩
def d13 : He.DefD := ⟨("Words", some "takes"), "takes", "Words.takes", defArgs (inClass (top 20) 5), defBody (inClass (top 20) 5), defScope (inClass (top 20) 5), [], []⟩
def d14 : He.DefD := ⟨("Words", some "take_name"), "take_name", "Words.take_name", defArgs (inClass (top 20) 6), defBody (inClass (top 20) 6), defScope (inClass (top 20) 6), [], []⟩
def d15 : He.DefD := ⟨("Words", some "take_tag"), "take_tag", "Words.take_tag", defArgs (inClass (top 20) 7), defBody (inClass (top 20) 7), defScope (inClass (top 20) 7), [], []⟩
def d16 : He.DefD := ⟨("Words", some "take_number"), "take_number", "Words.take_number", defArgs (inClass (top 20) 8), defBody (inClass (top 20) 8), defScope (inClass (top 20) 8), [], []⟩
def d17 : He.DefD := ⟨("Words", some "end"), "end", "Words.end", defArgs (inClass (top 20) 9), defBody (inClass (top 20) 9), defScope (inClass (top 20) 9), [], []⟩
def d18 : He.DefD := ⟨("Reader", some "__init__"), "__init__", "Reader.__init__", defArgs (inClass (top 23) 0), defBody (inClass (top 23) 0), defScope (inClass (top 23) 0), [], []⟩
def d19 : He.DefD := ⟨("Reader", some "expression"), "expression", "Reader.expression", defArgs (inClass (top 23) 1), defBody (inClass (top 23) 1), defScope (inClass (top 23) 1), [], []⟩
def d20 : He.DefD := ⟨("Reader", some "_within"), "_within", "Reader._within", defArgs (inClass (top 23) 2), defBody (inClass (top 23) 2), defScope (inClass (top 23) 2), [], []⟩
def d21 : He.DefD := ⟨("Reader", some "_fn"), "_fn", "Reader._fn", defArgs (inClass (top 23) 3), defBody (inClass (top 23) 3), defScope (inClass (top 23) 3), [], []⟩
def d22 : He.DefD := ⟨("Reader", some "_fix"), "_fix", "Reader._fix", defArgs (inClass (top 23) 4), defBody (inClass (top 23) 4), defScope (inClass (top 23) 4), [], []⟩
def d23 : He.DefD := ⟨("Reader", some "_let"), "_let", "Reader._let", defArgs (inClass (top 23) 5), defBody (inClass (top 23) 5), defScope (inClass (top 23) 5), [], []⟩
def d24 : He.DefD := ⟨("Reader", some "_match"), "_match", "Reader._match", defArgs (inClass (top 23) 6), defBody (inClass (top 23) 6), defScope (inClass (top 23) 6), [], []⟩
def d25 : He.DefD := ⟨("Reader", some "_less"), "_less", "Reader._less", defArgs (inClass (top 23) 7), defBody (inClass (top 23) 7), defScope (inClass (top 23) 7), [], []⟩
def d26 : He.DefD := ⟨("Reader", some "_sum"), "_sum", "Reader._sum", defArgs (inClass (top 23) 8), defBody (inClass (top 23) 8), defScope (inClass (top 23) 8), [], []⟩
def d27 : He.DefD := ⟨("Reader", some "_product"), "_product", "Reader._product", defArgs (inClass (top 23) 9), defBody (inClass (top 23) 9), defScope (inClass (top 23) 9), [], []⟩
def d28 : He.DefD := ⟨("Reader", some "_call"), "_call", "Reader._call", defArgs (inClass (top 23) 10), defBody (inClass (top 23) 10), defScope (inClass (top 23) 10), [], []⟩
def d29 : He.DefD := ⟨("Reader", some "_begins"), "_begins", "Reader._begins", defArgs (inClass (top 23) 11), defBody (inClass (top 23) 11), defScope (inClass (top 23) 11), [], []⟩
def d30 : He.DefD := ⟨("Reader", some "_post"), "_post", "Reader._post", defArgs (inClass (top 23) 12), defBody (inClass (top 23) 12), defScope (inClass (top 23) 12), [], []⟩
def d31 : He.DefD := ⟨("Reader", some "_atom"), "_atom", "Reader._atom", defArgs (inClass (top 23) 13), defBody (inClass (top 23) 13), defScope (inClass (top 23) 13), [], []⟩
def d32 : He.DefD := ⟨("Reader", some "_record"), "_record", "Reader._record", defArgs (inClass (top 23) 14), defBody (inClass (top 23) 14), defScope (inClass (top 23) 14), [], []⟩
def d33 : He.DefD := ⟨("read_expression", none), "read_expression", "read_expression", defArgs (top 24), defBody (top 24), defScope (top 24), [.adr (He.dflAt ("read_expression", none) 0), .int 1], []⟩
def d34 : He.DefD := ⟨("_law_draw", none), "_law_draw", "_law_draw", defArgs (top 26), defBody (top 26), defScope (top 26), [], []⟩
def d35 : He.DefD := ⟨("_law_tape", none), "_law_tape", "_law_tape", defArgs (top 27), defBody (top 27), defScope (top 27), [], []⟩
def d36 : He.DefD := ⟨("_law_same", none), "_law_same", "_law_same", defArgs (top 28), defBody (top 28), defScope (top 28), [], []⟩
def d37 : He.DefD := ⟨("_law_read", none), "_law_read", "_law_read", defArgs (top 29), defBody (top 29), defScope (top 29), [], []⟩
def d38 : He.DefD := ⟨("law", none), "law", "law", defArgs (top 30), defBody (top 30), defScope (top 30), [], []⟩
def fn : List He.DefD := [d0, d1, d2, d3, d4, d5, d6, d7, d8, d9, d10, d11, d12, d13, d14, d15, d16, d17, d18, d19, d20, d21, d22, d23, d24, d25, d26, d27, d28, d29, d30, d31, d32, d33, d34, d35, d36, d37, d38]
def fa : List He.Fa := [.free "len", .int "NAME_MOST" 12, .glo "RESERVED", .str "SMALL" "abcdefghijklmnopqrstuvwxyz", .free "all", .str "DIGITS" "0123456789", .str "LARGE" "ABCDEFGHIJKLMNOPQRSTUVWXYZ", .free "tuple", .glo "parts_of", .free "max", .glo "size", .int "PLACES_MOST" 400, .glo "depth", .int "DEEP_MOST" 60, .glo "TooLarge", .exc "TooLarge", .cls "Words", .noat "Words" "words", .noat "Words" "line", .noat "Words" "place", .glo "BadText", .noat "BadText" "line", .noat "BadText" "word", .glo "RowError", .meth "Words" "refuse", .meth "Words" "ahead", .glo "is_name", .meth "Words" "take", .glo "is_tag", .glo "is_number", .free "int", .cls "Reader", .noat "Reader" "words", .free "list", .noat "Reader" "known", .noat "Reader" "deep", .meth "Reader" "_fn", .meth "Reader" "_fix", .meth "Reader" "_let", .meth "Reader" "_match", .meth "Reader" "_less", .meth "Reader" "expression", .meth "Words" "just", .meth "Words" "take_name", .meth "Reader" "_within", .meth "Words" "take_tag", .meth "Words" "takes", .meth "Reader" "_sum", .meth "Reader" "_product", .glo "SUMS", .meth "Reader" "_call", .meth "Reader" "_post", .meth "Reader" "_begins", .meth "Reader" "_atom", .meth "Words" "take_number", .meth "Reader" "_record", .mkr "Words", .glo "Words", .mkr "Reader", .glo "Reader", .meth "Words" "end", .glo "check_size", .free "isinstance", .free "bool", .glo "read_expression", .exm "BadText" "BadText" true, .exm "RowError" "BadText" false, .exm "TooLarge" "BadText" false, .glo "_law_tape", .glo "_law_draw", .free "range", .glo "_law_same", .glo "_law_read", .glo "law"]
def fb : List Mi.Fb := [.tup "RESERVED" [.str "def", .str "fn", .str "fix", .str "let", .str "in", .str "match", .str "else", .str "with", .str "wide", .str "where"], .oex "BadText", .ini "BadText", .vin "RowError", .tup "SUMS" [.str "+", .str "-"]]
abbrev R : PySem.W.OpenRow := PySem.W.OpenLaw.row PySem.Challenge.rw_openrows_k00_words_and_names
abbrev hk : PySem.W.Hook := Mi.hookM 5 fa fn fb
def ob (s : PySem.W.SharedT) : Mi.AlM := Mi.obsMG 5 fa fn fb (HandSHeadRun.getT s)
theorem ob_eq (s : PySem.W.SharedT) : ob s = hk.obs s.abs := Mi.obsMG_eq (HandSHeadRun.getT_eq s)
def names0 : List PySem.Str := ["RowError", "BadText", "TooLarge", "RESERVED", "PLACES_MOST", "DEEP_MOST", "NAME_MOST", "SMALL", "LARGE", "DIGITS", "is_name", "is_tag", "is_number", "parts_of", "size", "depth", "check_size", "Words", "SUMS", "Reader", "read_expression", "_law_draw", "_law_tape", "_law_same", "_law_read"]
def names : List PySem.Str := names0
--RUN
theorem run (w : World) : HandSHeadRun.RunEq R (PySem.W.view R.prog [30]) hk ob 20000 names w := by
  intro os
  kernel_rfl
--ENDRUN
def cn : Mi.CN := ⟨fun c => match c with
  | 0 => "RowError"
  | 1 => "BadText"
  | 2 => "TooLarge"
  | 3 => "Words"
  | 4 => "Reader"
  | _ => "",
  none⟩
def c_NAME_MOST : Val := .int 12
def c_RESERVED : Val := .tup [.str s_1, .str s_2, .str s_3, .str s_4, .str s_5, .str s_6, .str s_7, .str s_8, .str s_9, .str s_10]
def c_SMALL : Val := .str s_11
def c_DIGITS : Val := .str s_12
def c_LARGE : Val := .str s_13
def c_PLACES_MOST : Val := .int 400
def c_DEEP_MOST : Val := .int 60
def c_SUMS : Val := .tup [.str s_56, .str s_14]
def pss (i : Nat) : List Str := match i with
  | 0 => ["self", "line", "word"]
  | 1 => ["word"]
  | 2 => ["word"]
  | 3 => ["word"]
  | 4 => ["tree"]
  | 5 => ["tree"]
  | 6 => ["tree"]
  | 7 => ["tree"]
  | 8 => ["self", "text", "line"]
  | 9 => ["self"]
  | 10 => ["self", "far"]
  | 11 => ["self"]
  | 12 => ["self", "word"]
  | 13 => ["self", "word"]
  | 14 => ["self"]
  | 15 => ["self"]
  | 16 => ["self"]
  | 17 => ["self"]
  | 18 => ["self", "words", "known"]
  | 19 => ["self"]
  | 20 => ["self", "names"]
  | 21 => ["self"]
  | 22 => ["self"]
  | 23 => ["self"]
  | 24 => ["self"]
  | 25 => ["self"]
  | 26 => ["self"]
  | 27 => ["self"]
  | 28 => ["self"]
  | 29 => ["self"]
  | 30 => ["self"]
  | 31 => ["self"]
  | 32 => ["self"]
  | 33 => ["text", "known", "line"]
  | 34 => ["tape", "many"]
  | 35 => ["script"]
  | 36 => ["told", "due"]
  | 37 => ["text", "known"]
  | 38 => ["script"]
  | _ => []
structure Fx (K : PySem.W.Frag) (mg : Str → Option Value) (base : Heap) (fds : Nat → FuncData) : Prop where
  X : K.In base
  G : base.Ns mainGlobals mg
  c : Mi.SaysM fa fn fb K
  F : ∀ i d, fn[i]? = some d → FunD K d.name d.qual d.params d.body d.scope (d.dvs K) (d.kws K) (He.fAd K d.at_) (fds i)
section
variable {K : PySem.W.Frag} {mg : Str → Option Value} {base : Heap} {fds : Nat → FuncData}
theorem Fx.f0 (V : Fx K mg base fds) : mg "len" = none := He.free_ok V.X V.G (V.c.d.fact 0 (f := .free "len") rfl)
theorem Fx.gi_NAME_MOST (V : Fx K mg base fds) : ∃ t, mg "NAME_MOST" = some (.int 12 t) := He.int_ok V.X V.G (V.c.d.fact 1 (f := .int "NAME_MOST" 12) rfl)
theorem Fx.g_RESERVED (V : Fx K mg base fds) : mg "RESERVED" = some (.ref (He.ga K "RESERVED")) := He.glo_ok V.X V.G (V.c.d.fact 2 (f := .glo "RESERVED") rfl)
theorem Fx.gi_SMALL (V : Fx K mg base fds) : ∃ t, mg "SMALL" = some (.str "abcdefghijklmnopqrstuvwxyz" t) := He.str_ok V.X V.G (V.c.d.fact 3 (f := .str "SMALL" "abcdefghijklmnopqrstuvwxyz") rfl)
theorem Fx.f4 (V : Fx K mg base fds) : mg "all" = none := He.free_ok V.X V.G (V.c.d.fact 4 (f := .free "all") rfl)
theorem Fx.gi_DIGITS (V : Fx K mg base fds) : ∃ t, mg "DIGITS" = some (.str "0123456789" t) := He.str_ok V.X V.G (V.c.d.fact 5 (f := .str "DIGITS" "0123456789") rfl)
theorem Fx.gi_LARGE (V : Fx K mg base fds) : ∃ t, mg "LARGE" = some (.str "ABCDEFGHIJKLMNOPQRSTUVWXYZ" t) := He.str_ok V.X V.G (V.c.d.fact 6 (f := .str "LARGE" "ABCDEFGHIJKLMNOPQRSTUVWXYZ") rfl)
theorem Fx.f7 (V : Fx K mg base fds) : mg "tuple" = none := He.free_ok V.X V.G (V.c.d.fact 7 (f := .free "tuple") rfl)
theorem Fx.g_parts_of (V : Fx K mg base fds) : mg "parts_of" = some (.ref (He.ga K "parts_of")) := He.glo_ok V.X V.G (V.c.d.fact 8 (f := .glo "parts_of") rfl)
theorem Fx.f9 (V : Fx K mg base fds) : mg "max" = none := He.free_ok V.X V.G (V.c.d.fact 9 (f := .free "max") rfl)
theorem Fx.g_size (V : Fx K mg base fds) : mg "size" = some (.ref (He.ga K "size")) := He.glo_ok V.X V.G (V.c.d.fact 10 (f := .glo "size") rfl)
theorem Fx.gi_PLACES_MOST (V : Fx K mg base fds) : ∃ t, mg "PLACES_MOST" = some (.int 400 t) := He.int_ok V.X V.G (V.c.d.fact 11 (f := .int "PLACES_MOST" 400) rfl)
theorem Fx.g_depth (V : Fx K mg base fds) : mg "depth" = some (.ref (He.ga K "depth")) := He.glo_ok V.X V.G (V.c.d.fact 12 (f := .glo "depth") rfl)
theorem Fx.gi_DEEP_MOST (V : Fx K mg base fds) : ∃ t, mg "DEEP_MOST" = some (.int 60 t) := He.int_ok V.X V.G (V.c.d.fact 13 (f := .int "DEEP_MOST" 60) rfl)
theorem Fx.g_TooLarge (V : Fx K mg base fds) : mg "TooLarge" = some (.ref (He.ga K "TooLarge")) := He.glo_ok V.X V.G (V.c.d.fact 14 (f := .glo "TooLarge") rfl)
theorem Fx.e_TooLarge (V : Fx K mg base fds) : PySem.W.excIn K (He.ga K "TooLarge") He.veBase "ValueError.__new__" = true ∧ PySem.W.keepIn K (.ref (He.ga K "TooLarge")) = true ∧ PySem.W.subIn K (.ref (He.ga K "TooLarge")) (.type "BaseException") = some true ∧ PySem.W.typeIn K (.ref (He.ga K "TooLarge")) = some (.type "type") := He.exc_ok (V.c.d.fact 15 (f := .exc "TooLarge") rfl)
theorem Fx.c_Words (V : Fx K mg base fds) : Cls K (He.ga K "Words") := He.cls_ok (V.c.d.fact 16 (f := .cls "Words") rfl)
theorem Fx.no_Words_words (V : Fx K mg base fds) : NoAttr K (He.ga K "Words") "words" := He.noat_ok (V.c.d.fact 17 (f := .noat "Words" "words") rfl)
theorem Fx.no_Words_line (V : Fx K mg base fds) : NoAttr K (He.ga K "Words") "line" := He.noat_ok (V.c.d.fact 18 (f := .noat "Words" "line") rfl)
theorem Fx.no_Words_place (V : Fx K mg base fds) : NoAttr K (He.ga K "Words") "place" := He.noat_ok (V.c.d.fact 19 (f := .noat "Words" "place") rfl)
theorem Fx.g_BadText (V : Fx K mg base fds) : mg "BadText" = some (.ref (He.ga K "BadText")) := He.glo_ok V.X V.G (V.c.d.fact 20 (f := .glo "BadText") rfl)
theorem Fx.no_BadText_line (V : Fx K mg base fds) : NoAttr K (He.ga K "BadText") "line" := He.noat_ok (V.c.d.fact 21 (f := .noat "BadText" "line") rfl)
theorem Fx.no_BadText_word (V : Fx K mg base fds) : NoAttr K (He.ga K "BadText") "word" := He.noat_ok (V.c.d.fact 22 (f := .noat "BadText" "word") rfl)
theorem Fx.g_RowError (V : Fx K mg base fds) : mg "RowError" = some (.ref (He.ga K "RowError")) := He.glo_ok V.X V.G (V.c.d.fact 23 (f := .glo "RowError") rfl)
theorem Fx.m_Words_refuse (V : Fx K mg base fds) : Meth K (He.ga K "Words") "refuse" (He.ma K (He.ga K "Words") "refuse") := He.meth_ok (V.c.d.fact 24 (f := .meth "Words" "refuse") rfl)
theorem Fx.m_Words_ahead (V : Fx K mg base fds) : Meth K (He.ga K "Words") "ahead" (He.ma K (He.ga K "Words") "ahead") := He.meth_ok (V.c.d.fact 25 (f := .meth "Words" "ahead") rfl)
theorem Fx.g_is_name (V : Fx K mg base fds) : mg "is_name" = some (.ref (He.ga K "is_name")) := He.glo_ok V.X V.G (V.c.d.fact 26 (f := .glo "is_name") rfl)
theorem Fx.m_Words_take (V : Fx K mg base fds) : Meth K (He.ga K "Words") "take" (He.ma K (He.ga K "Words") "take") := He.meth_ok (V.c.d.fact 27 (f := .meth "Words" "take") rfl)
theorem Fx.g_is_tag (V : Fx K mg base fds) : mg "is_tag" = some (.ref (He.ga K "is_tag")) := He.glo_ok V.X V.G (V.c.d.fact 28 (f := .glo "is_tag") rfl)
theorem Fx.g_is_number (V : Fx K mg base fds) : mg "is_number" = some (.ref (He.ga K "is_number")) := He.glo_ok V.X V.G (V.c.d.fact 29 (f := .glo "is_number") rfl)
theorem Fx.f30 (V : Fx K mg base fds) : mg "int" = none := He.free_ok V.X V.G (V.c.d.fact 30 (f := .free "int") rfl)
theorem Fx.c_Reader (V : Fx K mg base fds) : Cls K (He.ga K "Reader") := He.cls_ok (V.c.d.fact 31 (f := .cls "Reader") rfl)
theorem Fx.no_Reader_words (V : Fx K mg base fds) : NoAttr K (He.ga K "Reader") "words" := He.noat_ok (V.c.d.fact 32 (f := .noat "Reader" "words") rfl)
theorem Fx.f33 (V : Fx K mg base fds) : mg "list" = none := He.free_ok V.X V.G (V.c.d.fact 33 (f := .free "list") rfl)
theorem Fx.no_Reader_known (V : Fx K mg base fds) : NoAttr K (He.ga K "Reader") "known" := He.noat_ok (V.c.d.fact 34 (f := .noat "Reader" "known") rfl)
theorem Fx.no_Reader_deep (V : Fx K mg base fds) : NoAttr K (He.ga K "Reader") "deep" := He.noat_ok (V.c.d.fact 35 (f := .noat "Reader" "deep") rfl)
theorem Fx.m_Reader__fn (V : Fx K mg base fds) : Meth K (He.ga K "Reader") "_fn" (He.ma K (He.ga K "Reader") "_fn") := He.meth_ok (V.c.d.fact 36 (f := .meth "Reader" "_fn") rfl)
theorem Fx.m_Reader__fix (V : Fx K mg base fds) : Meth K (He.ga K "Reader") "_fix" (He.ma K (He.ga K "Reader") "_fix") := He.meth_ok (V.c.d.fact 37 (f := .meth "Reader" "_fix") rfl)
theorem Fx.m_Reader__let (V : Fx K mg base fds) : Meth K (He.ga K "Reader") "_let" (He.ma K (He.ga K "Reader") "_let") := He.meth_ok (V.c.d.fact 38 (f := .meth "Reader" "_let") rfl)
theorem Fx.m_Reader__match (V : Fx K mg base fds) : Meth K (He.ga K "Reader") "_match" (He.ma K (He.ga K "Reader") "_match") := He.meth_ok (V.c.d.fact 39 (f := .meth "Reader" "_match") rfl)
theorem Fx.m_Reader__less (V : Fx K mg base fds) : Meth K (He.ga K "Reader") "_less" (He.ma K (He.ga K "Reader") "_less") := He.meth_ok (V.c.d.fact 40 (f := .meth "Reader" "_less") rfl)
theorem Fx.m_Reader_expression (V : Fx K mg base fds) : Meth K (He.ga K "Reader") "expression" (He.ma K (He.ga K "Reader") "expression") := He.meth_ok (V.c.d.fact 41 (f := .meth "Reader" "expression") rfl)
theorem Fx.m_Words_just (V : Fx K mg base fds) : Meth K (He.ga K "Words") "just" (He.ma K (He.ga K "Words") "just") := He.meth_ok (V.c.d.fact 42 (f := .meth "Words" "just") rfl)
theorem Fx.m_Words_take_name (V : Fx K mg base fds) : Meth K (He.ga K "Words") "take_name" (He.ma K (He.ga K "Words") "take_name") := He.meth_ok (V.c.d.fact 43 (f := .meth "Words" "take_name") rfl)
theorem Fx.m_Reader__within (V : Fx K mg base fds) : Meth K (He.ga K "Reader") "_within" (He.ma K (He.ga K "Reader") "_within") := He.meth_ok (V.c.d.fact 44 (f := .meth "Reader" "_within") rfl)
theorem Fx.m_Words_take_tag (V : Fx K mg base fds) : Meth K (He.ga K "Words") "take_tag" (He.ma K (He.ga K "Words") "take_tag") := He.meth_ok (V.c.d.fact 45 (f := .meth "Words" "take_tag") rfl)
theorem Fx.m_Words_takes (V : Fx K mg base fds) : Meth K (He.ga K "Words") "takes" (He.ma K (He.ga K "Words") "takes") := He.meth_ok (V.c.d.fact 46 (f := .meth "Words" "takes") rfl)
theorem Fx.m_Reader__sum (V : Fx K mg base fds) : Meth K (He.ga K "Reader") "_sum" (He.ma K (He.ga K "Reader") "_sum") := He.meth_ok (V.c.d.fact 47 (f := .meth "Reader" "_sum") rfl)
theorem Fx.m_Reader__product (V : Fx K mg base fds) : Meth K (He.ga K "Reader") "_product" (He.ma K (He.ga K "Reader") "_product") := He.meth_ok (V.c.d.fact 48 (f := .meth "Reader" "_product") rfl)
theorem Fx.g_SUMS (V : Fx K mg base fds) : mg "SUMS" = some (.ref (He.ga K "SUMS")) := He.glo_ok V.X V.G (V.c.d.fact 49 (f := .glo "SUMS") rfl)
theorem Fx.m_Reader__call (V : Fx K mg base fds) : Meth K (He.ga K "Reader") "_call" (He.ma K (He.ga K "Reader") "_call") := He.meth_ok (V.c.d.fact 50 (f := .meth "Reader" "_call") rfl)
theorem Fx.m_Reader__post (V : Fx K mg base fds) : Meth K (He.ga K "Reader") "_post" (He.ma K (He.ga K "Reader") "_post") := He.meth_ok (V.c.d.fact 51 (f := .meth "Reader" "_post") rfl)
theorem Fx.m_Reader__begins (V : Fx K mg base fds) : Meth K (He.ga K "Reader") "_begins" (He.ma K (He.ga K "Reader") "_begins") := He.meth_ok (V.c.d.fact 52 (f := .meth "Reader" "_begins") rfl)
theorem Fx.m_Reader__atom (V : Fx K mg base fds) : Meth K (He.ga K "Reader") "_atom" (He.ma K (He.ga K "Reader") "_atom") := He.meth_ok (V.c.d.fact 53 (f := .meth "Reader" "_atom") rfl)
theorem Fx.m_Words_take_number (V : Fx K mg base fds) : Meth K (He.ga K "Words") "take_number" (He.ma K (He.ga K "Words") "take_number") := He.meth_ok (V.c.d.fact 54 (f := .meth "Words" "take_number") rfl)
theorem Fx.m_Reader__record (V : Fx K mg base fds) : Meth K (He.ga K "Reader") "_record" (He.ma K (He.ga K "Reader") "_record") := He.meth_ok (V.c.d.fact 55 (f := .meth "Reader" "_record") rfl)
theorem Fx.mk_Words (V : Fx K mg base fds) : Mk K (He.ga K "Words") (He.ma K (He.ga K "Words") "__init__") := He.mkr_ok (V.c.d.fact 56 (f := .mkr "Words") rfl)
theorem Fx.g_Words (V : Fx K mg base fds) : mg "Words" = some (.ref (He.ga K "Words")) := He.glo_ok V.X V.G (V.c.d.fact 57 (f := .glo "Words") rfl)
theorem Fx.mk_Reader (V : Fx K mg base fds) : Mk K (He.ga K "Reader") (He.ma K (He.ga K "Reader") "__init__") := He.mkr_ok (V.c.d.fact 58 (f := .mkr "Reader") rfl)
theorem Fx.g_Reader (V : Fx K mg base fds) : mg "Reader" = some (.ref (He.ga K "Reader")) := He.glo_ok V.X V.G (V.c.d.fact 59 (f := .glo "Reader") rfl)
theorem Fx.m_Words_end (V : Fx K mg base fds) : Meth K (He.ga K "Words") "end" (He.ma K (He.ga K "Words") "end") := He.meth_ok (V.c.d.fact 60 (f := .meth "Words" "end") rfl)
theorem Fx.g_check_size (V : Fx K mg base fds) : mg "check_size" = some (.ref (He.ga K "check_size")) := He.glo_ok V.X V.G (V.c.d.fact 61 (f := .glo "check_size") rfl)
theorem Fx.f62 (V : Fx K mg base fds) : mg "isinstance" = none := He.free_ok V.X V.G (V.c.d.fact 62 (f := .free "isinstance") rfl)
theorem Fx.f63 (V : Fx K mg base fds) : mg "bool" = none := He.free_ok V.X V.G (V.c.d.fact 63 (f := .free "bool") rfl)
theorem Fx.g_read_expression (V : Fx K mg base fds) : mg "read_expression" = some (.ref (He.ga K "read_expression")) := He.glo_ok V.X V.G (V.c.d.fact 64 (f := .glo "read_expression") rfl)
theorem Fx.x_BadText_BadText (V : Fx K mg base fds) : PySem.W.exmOne K (.ref (He.ga K "BadText")) (.ref (He.ga K "BadText")) = some true := He.exm_ok (V.c.d.fact 65 (f := .exm "BadText" "BadText" true) rfl)
theorem Fx.x_RowError_BadText (V : Fx K mg base fds) : PySem.W.exmOne K (.ref (He.ga K "RowError")) (.ref (He.ga K "BadText")) = some false := He.exm_ok (V.c.d.fact 66 (f := .exm "RowError" "BadText" false) rfl)
theorem Fx.x_TooLarge_BadText (V : Fx K mg base fds) : PySem.W.exmOne K (.ref (He.ga K "TooLarge")) (.ref (He.ga K "BadText")) = some false := He.exm_ok (V.c.d.fact 67 (f := .exm "TooLarge" "BadText" false) rfl)
theorem Fx.g__law_tape (V : Fx K mg base fds) : mg "_law_tape" = some (.ref (He.ga K "_law_tape")) := He.glo_ok V.X V.G (V.c.d.fact 68 (f := .glo "_law_tape") rfl)
theorem Fx.g__law_draw (V : Fx K mg base fds) : mg "_law_draw" = some (.ref (He.ga K "_law_draw")) := He.glo_ok V.X V.G (V.c.d.fact 69 (f := .glo "_law_draw") rfl)
theorem Fx.f70 (V : Fx K mg base fds) : mg "range" = none := He.free_ok V.X V.G (V.c.d.fact 70 (f := .free "range") rfl)
theorem Fx.g__law_same (V : Fx K mg base fds) : mg "_law_same" = some (.ref (He.ga K "_law_same")) := He.glo_ok V.X V.G (V.c.d.fact 71 (f := .glo "_law_same") rfl)
theorem Fx.g__law_read (V : Fx K mg base fds) : mg "_law_read" = some (.ref (He.ga K "_law_read")) := He.glo_ok V.X V.G (V.c.d.fact 72 (f := .glo "_law_read") rfl)
theorem Fx.g_law (V : Fx K mg base fds) : mg "law" = some (.ref (He.ga K "law")) := He.glo_ok V.X V.G (V.c.d.fact 73 (f := .glo "law") rfl)
theorem Fx.w_RESERVED (V : Fx K mg base fds) : ∀ (H : Hp) (ρ : Nat → Addr) (n : Nat), RV K H ρ n c_RESERVED (.ref (He.ga K "RESERVED")) := fun H ρ n => .tup (He.tupB_ok (V.c.b 0 (f := .tup "RESERVED" [.str "def", .str "fn", .str "fix", .str "let", .str "in", .str "match", .str "else", .str "with", .str "wide", .str "where"]) rfl) H) (by show RVs K H ρ n [.str s_1, .str s_2, .str s_3, .str s_4, .str s_5, .str s_6, .str s_7, .str s_8, .str s_9, .str s_10] _; rw [← q_1, ← q_2, ← q_3, ← q_4, ← q_5, ← q_6, ← q_7, ← q_8, ← q_9, ← q_10]; exact .cons (.str _) (.cons (.str _) (.cons (.str _) (.cons (.str _) (.cons (.str _) (.cons (.str _) (.cons (.str _) (.cons (.str _) (.cons (.str _) (.cons (.str _) (.nil)))))))))))
theorem Fx.oex_BadText (V : Fx K mg base fds) : OexC K (He.ga K "BadText") := oexB_ok (V.c.b 1 (f := .oex "BadText") rfl)
theorem Fx.ini_BadText (V : Fx K mg base fds) : PySem.W.findIn K (.ref (He.ga K "BadText")) "__init__" = some (some (.ref (He.ma K (He.ga K "BadText") "__init__"))) ∧ PySem.W.typeIn K (.ref (He.ma K (He.ga K "BadText") "__init__")) = some (.type "function") := Mi.ini_ok (V.c.b 2 (f := .ini "BadText") rfl)
theorem Fx.vin_RowError (V : Fx K mg base fds) : ClX.CRead K (He.ga K "RowError") (.type "type") ∧ PySem.W.findCls K (.ref (He.ga K "RowError")) (.type "type") "__init__" = some (.val (.builtin "ValueError.__init__")) := vinB_ok (V.c.b 3 (f := .vin "RowError") rfl)
theorem Fx.w_SUMS (V : Fx K mg base fds) : ∀ (H : Hp) (ρ : Nat → Addr) (n : Nat), RV K H ρ n c_SUMS (.ref (He.ga K "SUMS")) := fun H ρ n => .tup (He.tupB_ok (V.c.b 4 (f := .tup "SUMS" [.str "+", .str "-"]) rfl) H) (by show RVs K H ρ n [.str s_56, .str s_14] _; rw [← q_56, ← q_14]; exact .cons (.str _) (.cons (.str _) (.nil)))
theorem w_SMALL (K : PySem.W.Frag) (H : Hp) (ρ : Nat → Addr) (n : Nat) : RV K H ρ n c_SMALL (.str "abcdefghijklmnopqrstuvwxyz") := by show RV K H ρ n (.str s_11) _; rw [← q_11]; exact .str _
theorem w_DIGITS (K : PySem.W.Frag) (H : Hp) (ρ : Nat → Addr) (n : Nat) : RV K H ρ n c_DIGITS (.str "0123456789") := by show RV K H ρ n (.str s_12) _; rw [← q_12]; exact .str _
theorem w_LARGE (K : PySem.W.Frag) (H : Hp) (ρ : Nat → Addr) (n : Nat) : RV K H ρ n c_LARGE (.str "ABCDEFGHIJKLMNOPQRSTUVWXYZ") := by show RV K H ρ n (.str s_13) _; rw [← q_13]; exact .str _
theorem Fx.fld_Words_words (V : Fx K mg base fds) : Fld cn K [3] "words" := fun c h => by
  have h := any_mem h
  simp only [List.mem_cons, List.not_mem_nil, or_false] at h
  rcases h with rfl
  · exact ⟨V.c_Words, V.no_Words_words⟩
theorem Fx.fld_Words_line (V : Fx K mg base fds) : Fld cn K [3] "line" := fun c h => by
  have h := any_mem h
  simp only [List.mem_cons, List.not_mem_nil, or_false] at h
  rcases h with rfl
  · exact ⟨V.c_Words, V.no_Words_line⟩
theorem Fx.fld_Words_place (V : Fx K mg base fds) : Fld cn K [3] "place" := fun c h => by
  have h := any_mem h
  simp only [List.mem_cons, List.not_mem_nil, or_false] at h
  rcases h with rfl
  · exact ⟨V.c_Words, V.no_Words_place⟩
theorem Fx.fld_Reader_words (V : Fx K mg base fds) : Fld cn K [4] "words" := fun c h => by
  have h := any_mem h
  simp only [List.mem_cons, List.not_mem_nil, or_false] at h
  rcases h with rfl
  · exact ⟨V.c_Reader, V.no_Reader_words⟩
theorem Fx.fld_Reader_known (V : Fx K mg base fds) : Fld cn K [4] "known" := fun c h => by
  have h := any_mem h
  simp only [List.mem_cons, List.not_mem_nil, or_false] at h
  rcases h with rfl
  · exact ⟨V.c_Reader, V.no_Reader_known⟩
theorem Fx.fld_Reader_deep (V : Fx K mg base fds) : Fld cn K [4] "deep" := fun c h => by
  have h := any_mem h
  simp only [List.mem_cons, List.not_mem_nil, or_false] at h
  rcases h with rfl
  · exact ⟨V.c_Reader, V.no_Reader_deep⟩
theorem Fx.ey_BadText (V : Fx K mg base fds) : ∀ k, [1].any (Nat.beq k) = true → PySem.W.exmOne K (.ref (He.ga K (cn k))) (.ref (He.ga K "BadText")) = some true := fun k h => by
  have h := any_mem h
  simp only [List.mem_cons, List.not_mem_nil, or_false] at h
  rcases h with rfl
  · exact V.x_BadText_BadText
theorem Fx.en_BadText (V : Fx K mg base fds) : ∀ k, [0, 2].any (Nat.beq k) = true → PySem.W.exmOne K (.ref (He.ga K (cn k))) (.ref (He.ga K "BadText")) = some false := fun k h => by
  have h := any_mem h
  simp only [List.mem_cons, List.not_mem_nil, or_false] at h
  rcases h with rfl | rfl
  · exact V.x_RowError_BadText
  · exact V.x_TooLarge_BadText
theorem Fx.b_1_1 (V : Fx K mg base fds) : BindD K (fds 1) (pss 1) [] := .none ((V.F 1 d1 rfl).bindsN fun _ _ _ _ _ _ us hl => match us, hl with | [_], _ => rfl)
theorem Fx.b_2_1 (V : Fx K mg base fds) : BindD K (fds 2) (pss 2) [] := .none ((V.F 2 d2 rfl).bindsN fun _ _ _ _ _ _ us hl => match us, hl with | [_], _ => rfl)
theorem Fx.b_3_1 (V : Fx K mg base fds) : BindD K (fds 3) (pss 3) [] := .none ((V.F 3 d3 rfl).bindsN fun _ _ _ _ _ _ us hl => match us, hl with | [_], _ => rfl)
theorem Fx.b_4_1 (V : Fx K mg base fds) : BindD K (fds 4) (pss 4) [] := .none ((V.F 4 d4 rfl).bindsN fun _ _ _ _ _ _ us hl => match us, hl with | [_], _ => rfl)
theorem Fx.b_5_1 (V : Fx K mg base fds) : BindD K (fds 5) (pss 5) [] := .none ((V.F 5 d5 rfl).bindsN fun _ _ _ _ _ _ us hl => match us, hl with | [_], _ => rfl)
theorem Fx.b_6_1 (V : Fx K mg base fds) : BindD K (fds 6) (pss 6) [] := .none ((V.F 6 d6 rfl).bindsN fun _ _ _ _ _ _ us hl => match us, hl with | [_], _ => rfl)
theorem Fx.b_7_1 (V : Fx K mg base fds) : BindD K (fds 7) (pss 7) [] := .none ((V.F 7 d7 rfl).bindsN fun _ _ _ _ _ _ us hl => match us, hl with | [_], _ => rfl)
theorem Fx.b_8_3 (V : Fx K mg base fds) : BindD K (fds 8) (pss 8) [] := .none ((V.F 8 d8 rfl).bindsN fun _ _ _ _ _ _ us hl => match us, hl with | [_, _, _], _ => rfl)
theorem Fx.b_9_1 (V : Fx K mg base fds) : BindD K (fds 9) (pss 9) [] := .none ((V.F 9 d9 rfl).bindsN fun _ _ _ _ _ _ us hl => match us, hl with | [_], _ => rfl)
theorem Fx.b_10_1 (V : Fx K mg base fds) : BindD K (fds 10) (pss 10) [.int 0] := .some ((V.F 10 d10 rfl).binds1 1 0 (List.cons_ne_nil _ _) rfl fun T kV doc pm an cdv ct us its h1 h2 => match us, its, h1, h2 with | [_], [_], _, _ => ⟨_, rfl, rfl⟩) (fun H ρ n => .cons (.int _) (.nil))
theorem Fx.b_10_2 (V : Fx K mg base fds) : BindD K (fds 10) (pss 10) [] := .some ((V.F 10 d10 rfl).binds1 2 1 (List.cons_ne_nil _ _) rfl fun T kV doc pm an cdv ct us its h1 h2 => match us, its, h1, h2 with | [_, _], [_], _, _ => ⟨_, rfl, rfl⟩) (fun H ρ n => .nil)
theorem Fx.b_11_1 (V : Fx K mg base fds) : BindD K (fds 11) (pss 11) [] := .none ((V.F 11 d11 rfl).bindsN fun _ _ _ _ _ _ us hl => match us, hl with | [_], _ => rfl)
theorem Fx.b_12_2 (V : Fx K mg base fds) : BindD K (fds 12) (pss 12) [] := .none ((V.F 12 d12 rfl).bindsN fun _ _ _ _ _ _ us hl => match us, hl with | [_, _], _ => rfl)
theorem Fx.b_13_2 (V : Fx K mg base fds) : BindD K (fds 13) (pss 13) [] := .none ((V.F 13 d13 rfl).bindsN fun _ _ _ _ _ _ us hl => match us, hl with | [_, _], _ => rfl)
theorem Fx.b_14_1 (V : Fx K mg base fds) : BindD K (fds 14) (pss 14) [] := .none ((V.F 14 d14 rfl).bindsN fun _ _ _ _ _ _ us hl => match us, hl with | [_], _ => rfl)
theorem Fx.b_15_1 (V : Fx K mg base fds) : BindD K (fds 15) (pss 15) [] := .none ((V.F 15 d15 rfl).bindsN fun _ _ _ _ _ _ us hl => match us, hl with | [_], _ => rfl)
theorem Fx.b_16_1 (V : Fx K mg base fds) : BindD K (fds 16) (pss 16) [] := .none ((V.F 16 d16 rfl).bindsN fun _ _ _ _ _ _ us hl => match us, hl with | [_], _ => rfl)
theorem Fx.b_17_1 (V : Fx K mg base fds) : BindD K (fds 17) (pss 17) [] := .none ((V.F 17 d17 rfl).bindsN fun _ _ _ _ _ _ us hl => match us, hl with | [_], _ => rfl)
theorem Fx.b_18_3 (V : Fx K mg base fds) : BindD K (fds 18) (pss 18) [] := .none ((V.F 18 d18 rfl).bindsN fun _ _ _ _ _ _ us hl => match us, hl with | [_, _, _], _ => rfl)
theorem Fx.b_19_1 (V : Fx K mg base fds) : BindD K (fds 19) (pss 19) [] := .none ((V.F 19 d19 rfl).bindsN fun _ _ _ _ _ _ us hl => match us, hl with | [_], _ => rfl)
theorem Fx.b_20_2 (V : Fx K mg base fds) : BindD K (fds 20) (pss 20) [] := .none ((V.F 20 d20 rfl).bindsN fun _ _ _ _ _ _ us hl => match us, hl with | [_, _], _ => rfl)
theorem Fx.b_21_1 (V : Fx K mg base fds) : BindD K (fds 21) (pss 21) [] := .none ((V.F 21 d21 rfl).bindsN fun _ _ _ _ _ _ us hl => match us, hl with | [_], _ => rfl)
theorem Fx.b_22_1 (V : Fx K mg base fds) : BindD K (fds 22) (pss 22) [] := .none ((V.F 22 d22 rfl).bindsN fun _ _ _ _ _ _ us hl => match us, hl with | [_], _ => rfl)
theorem Fx.b_23_1 (V : Fx K mg base fds) : BindD K (fds 23) (pss 23) [] := .none ((V.F 23 d23 rfl).bindsN fun _ _ _ _ _ _ us hl => match us, hl with | [_], _ => rfl)
theorem Fx.b_24_1 (V : Fx K mg base fds) : BindD K (fds 24) (pss 24) [] := .none ((V.F 24 d24 rfl).bindsN fun _ _ _ _ _ _ us hl => match us, hl with | [_], _ => rfl)
theorem Fx.b_25_1 (V : Fx K mg base fds) : BindD K (fds 25) (pss 25) [] := .none ((V.F 25 d25 rfl).bindsN fun _ _ _ _ _ _ us hl => match us, hl with | [_], _ => rfl)
theorem Fx.b_26_1 (V : Fx K mg base fds) : BindD K (fds 26) (pss 26) [] := .none ((V.F 26 d26 rfl).bindsN fun _ _ _ _ _ _ us hl => match us, hl with | [_], _ => rfl)
theorem Fx.b_27_1 (V : Fx K mg base fds) : BindD K (fds 27) (pss 27) [] := .none ((V.F 27 d27 rfl).bindsN fun _ _ _ _ _ _ us hl => match us, hl with | [_], _ => rfl)
theorem Fx.b_28_1 (V : Fx K mg base fds) : BindD K (fds 28) (pss 28) [] := .none ((V.F 28 d28 rfl).bindsN fun _ _ _ _ _ _ us hl => match us, hl with | [_], _ => rfl)
theorem Fx.b_29_1 (V : Fx K mg base fds) : BindD K (fds 29) (pss 29) [] := .none ((V.F 29 d29 rfl).bindsN fun _ _ _ _ _ _ us hl => match us, hl with | [_], _ => rfl)
theorem Fx.b_30_1 (V : Fx K mg base fds) : BindD K (fds 30) (pss 30) [] := .none ((V.F 30 d30 rfl).bindsN fun _ _ _ _ _ _ us hl => match us, hl with | [_], _ => rfl)
theorem Fx.b_31_1 (V : Fx K mg base fds) : BindD K (fds 31) (pss 31) [] := .none ((V.F 31 d31 rfl).bindsN fun _ _ _ _ _ _ us hl => match us, hl with | [_], _ => rfl)
theorem Fx.b_32_1 (V : Fx K mg base fds) : BindD K (fds 32) (pss 32) [] := .none ((V.F 32 d32 rfl).bindsN fun _ _ _ _ _ _ us hl => match us, hl with | [_], _ => rfl)
theorem Fx.b_33_2 (V : Fx K mg base fds) : BindD K (fds 33) (pss 33) [.int 1] := .some ((V.F 33 d33 rfl).binds1 2 1 (List.cons_ne_nil _ _) rfl fun T kV doc pm an cdv ct us its h1 h2 => match us, its, h1, h2 with | [_, _], [_, _], _, _ => ⟨_, rfl, rfl⟩) (fun H ρ n => .cons (.int _) (.nil))
theorem Fx.b_34_2 (V : Fx K mg base fds) : BindD K (fds 34) (pss 34) [] := .none ((V.F 34 d34 rfl).bindsN fun _ _ _ _ _ _ us hl => match us, hl with | [_, _], _ => rfl)
theorem Fx.b_35_1 (V : Fx K mg base fds) : BindD K (fds 35) (pss 35) [] := .none ((V.F 35 d35 rfl).bindsN fun _ _ _ _ _ _ us hl => match us, hl with | [_], _ => rfl)
theorem Fx.b_36_2 (V : Fx K mg base fds) : BindD K (fds 36) (pss 36) [] := .none ((V.F 36 d36 rfl).bindsN fun _ _ _ _ _ _ us hl => match us, hl with | [_, _], _ => rfl)
theorem Fx.b_37_2 (V : Fx K mg base fds) : BindD K (fds 37) (pss 37) [] := .none ((V.F 37 d37 rfl).bindsN fun _ _ _ _ _ _ us hl => match us, hl with | [_, _], _ => rfl)
theorem Fx.b_38_1 (V : Fx K mg base fds) : BindD K (fds 38) (pss 38) [] := .none ((V.F 38 d38 rfl).bindsN fun _ _ _ _ _ _ us hl => match us, hl with | [_], _ => rfl)
end
theorem sc0 : FnScope ["self", "line", "word"] (pss 0) (defScope (inClass (top 2) 0)) := ⟨rfl, rfl, rfl, by decide +kernel, rfl, by decide +kernel, by decide +kernel⟩
section
variable {P : Program} {w : World} {K : PySem.W.Frag} {mg : Str → Option Value} {base : Heap} {fds : Nat → FuncData}
theorem Fx.bx_BadText (V : Fx K mg base fds) : Binds K (fds 0) (pss 0) [] := (V.F 0 d0 rfl).bindsN fun _ _ _ _ _ _ us hl => match us, hl with | [_, _, _], _ => rfl
theorem Fx.okx_BadText (V : Fx K mg base fds) : FnOk P w K mg base (L2.CX P w) 1 (He.ma K (He.ga K "BadText") "__init__") (fds 0) (pss 0) (spX2 K (He.ga K "BadText") "line" "word") := by
  refine (V.F 0 d0 rfl).ok sc0 (fun vs H Q E h => ?_) (fun cdv A outer s H vs Q E hr h => ⟨tX2 K (fun σ H Q => tJs [tC (.str "line "), tFmt (tVar 1), tC (.str ", word "), tFmt (tVar 2)] Str.empty σ H fun out H1 => Q (.str out) H1) "line" "word", ?_, x2_pure V.oex_BadText V.no_BadText_line V.no_BadText_word (te_js (by simp only [List.forall_mem_cons]; exact ⟨ts_c (by decide +kernel), ts_fmt (i := 0) (by decide), ts_c (by decide +kernel), ts_fmt (i := 1) (by decide), by simp⟩) (by decide)) rfl h⟩)
  · obtain ⟨a, x, y, rfl, _⟩ := h
    rfl
  · exact pss_cons (ps_expr (pe_oveinit rfl V.g_RowError V.vin_RowError.1 V.vin_RowError.2 (pa_cons (pe_var (i := 0) rfl (.inl rfl)) (pa_cons (pe_joined (.cons (pe_str) (.cons (pe_fmt (pe_var (i := 1) rfl (.inl rfl))) (.cons (pe_str) (.cons (pe_fmt (pe_var (i := 2) rfl (.inl rfl))) (.nil)))))) pa_nil)))) (pss_cons (ps_ost (pe_var (i := 0) rfl (.inl rfl)) (pe_var (i := 1) rfl (.inl rfl))) (pss_one (ps_ost (pe_var (i := 0) rfl (.inl rfl)) (pe_var (i := 2) rfl (.inl rfl)))))
end
def N1 : List Str := ["word", "sign"]
theorem sc1 : FnScope N1 (pss 1) (defScope (top 12)) := ⟨rfl, rfl, rfl, by decide +kernel, rfl, by decide +kernel, by decide +kernel⟩
def b1 (T T1 : Tbl) : S := sSeq (sIf (tOr' (tBl (eBin oEq (eVar 0) (eC (.str s_0)))) (tOr' (tBl (eBin oGt (eBi bLen (aCons (eVar 0) (aNil))) (eC c_NAME_MOST))) (tBl (eBin oIn2 (eVar 0) (eC c_RESERVED))))) (sRet (eC (.bl false))) (sNext)) (sRet (eAnd (eBin oIn2 (eBin oIx (eVar 0) (eC (.int 0))) (eC c_SMALL)) (eBi bAll (aCons (eLc 200000 (iSeq (eVar 0)) (gNm 1) (tYs) (eBin oIn2 (eVar 1) (eBin oAdd (eC c_SMALL) (eC c_DIGITS))) [1]) (aNil)))))
abbrev X1 (P : Program) (w : World) (K : PySem.W.Frag) (mg : Str → Option Value) (base : Heap) (f : Addr) (cdv : Value) (A : Around) (outer : List PySem.Env) (s : Shared) (H : Hp) (E : XK) : Cx := cxOf (L2.CX P w) P w K mg base N1 "is_name" (defScope (top 12)) f cdv A outer s H E
theorem wk1 {P : Program} {w : World} {K : PySem.W.Frag} {mg : Str → Option Value} {base : Heap} {fds : Nat → FuncData} (V : Fx K mg base fds) {n : Nat} {T T1 : Tbl} (I : Ok P w K mg base fn pss fds cn (n + 2) T) (I1 : Ok P w K mg base fn pss fds cn (n + 1) T1) {f : Addr} {cdv : Value} {A : Around} {outer : List PySem.Env} {s : Shared} {H : Hp} {E : XK}
    (hr : Room (n + 2) (A.deeper (PyProof.Rows.envOfC "is_name" (defScope (top 12)) s.heap.objs.size f cdv))) {W : WX} (tk : Takes (X1 P w K mg base f cdv A outer s H E) W)
    (hp : PassesOwn (model P w) (X1 P w K mg base f cdv A outer s H E).A (X1 P w K mg base f cdv A outer s H E).env (X1 P w K mg base f cdv A outer s H E).xe) :
    PSs (X1 P w K mg base f cdv A outer s H E) (defBody (top 12)) (TS' cn K W (b1 T T1)) := by
  have hu := un200 hr
  have hu1 := un1 hr
  have hN : N1.Nodup := sc1.nd
  have hr2 : Room 2 (A.deeper (PyProof.Rows.envOfC "is_name" (defScope (top 12)) s.heap.objs.size f cdv)) := hr.mono (by omega)
  obtain ⟨t_DIGITS, h_DIGITS⟩ := V.gi_DIGITS
  obtain ⟨t_NAME_MOST, h_NAME_MOST⟩ := V.gi_NAME_MOST
  obtain ⟨t_SMALL, h_SMALL⟩ := V.gi_SMALL
  exact mss_cons (ms_if ((mw_or (mt_cmp (m_eq hu) (me_var (i := 0) rfl (.inl rfl)) (me_str q_0)) (mw_or (mt_cmp (m_gt) (me_bi (mc_len) (by rfl) V.f0 (by kernel_rfl) (ma_cons (me_var (i := 0) rfl (.inl rfl)) (ma_nil))) (me_glob (v := c_NAME_MOST) (z := .int 12) (by rfl) h_NAME_MOST ⟨_, rfl⟩ (fun H ρ n => .int _))) (mw_or1 (mt_cmp (m_in2 hu) (me_var (i := 0) rfl (.inl rfl)) (me_glob (v := c_RESERVED) (z := .ref (He.ga K "RESERVED")) (by rfl) V.g_RESERVED rfl (fun H ρ n => V.w_RESERVED H ρ n)))))).pt) (mss_one (ms_ret (me_bl))) (mss_nil)) (mss_one (ms_ret (me_and (me_cmp (m_in2 hu) (me_ix (m_ix hu) (me_var (i := 0) rfl (.inl rfl)) (me_int) (fun _ _ => by rfl)) (me_glob (v := c_SMALL) (z := .str "abcdefghijklmnopqrstuvwxyz") (by rfl) h_SMALL ⟨_, rfl⟩ (fun H ρ n => w_SMALL _ _ _ _))) (me_one (me_bi (mc_all rfl) (by rfl) V.f4 (by kernel_rfl) (ma_cons (me_lc rfl hN (mi_seq (me_var (i := 0) rfl (.inl rfl))) (own := [("sign", 1)]) (blkB_ok (by kernel_rfl)) (by decide) (fun _ _ _ _ _ => mg_name (i := 1) hN rfl (.inl rfl)) (fun _ _ _ _ _ => mts_nil) (fun _ _ _ _ _ => me_cmp (m_in2 hu) (me_var (i := 1) rfl (.inl rfl)) (me_op m_add (me_glob (v := c_SMALL) (z := .str "abcdefghijklmnopqrstuvwxyz") (by rfl) h_SMALL ⟨_, rfl⟩ (fun H ρ n => w_SMALL _ _ _ _)) (me_glob (v := c_DIGITS) (z := .str "0123456789") (by rfl) h_DIGITS ⟨_, rfl⟩ (fun H ρ n => w_DIGITS _ _ _ _))))) (ma_nil)))))))
def N2 : List Str := ["word", "sign"]
theorem sc2 : FnScope N2 (pss 2) (defScope (top 13)) := ⟨rfl, rfl, rfl, by decide +kernel, rfl, by decide +kernel, by decide +kernel⟩
def b2 (T T1 : Tbl) : S := sSeq (sIf (tOr' (tBl (eBin oEq (eVar 0) (eC (.str s_0)))) (tBl (eBin oGt (eBi bLen (aCons (eVar 0) (aNil))) (eC c_NAME_MOST)))) (sRet (eC (.bl false))) (sNext)) (sRet (eAnd (eBin oIn2 (eBin oIx (eVar 0) (eC (.int 0))) (eC c_LARGE)) (eBi bAll (aCons (eLc 200000 (iSeq (eVar 0)) (gNm 1) (tYs) (eBin oIn2 (eVar 1) (eBin oAdd (eBin oAdd (eC c_SMALL) (eC c_LARGE)) (eC c_DIGITS))) [1]) (aNil)))))
abbrev X2 (P : Program) (w : World) (K : PySem.W.Frag) (mg : Str → Option Value) (base : Heap) (f : Addr) (cdv : Value) (A : Around) (outer : List PySem.Env) (s : Shared) (H : Hp) (E : XK) : Cx := cxOf (L2.CX P w) P w K mg base N2 "is_tag" (defScope (top 13)) f cdv A outer s H E
theorem wk2 {P : Program} {w : World} {K : PySem.W.Frag} {mg : Str → Option Value} {base : Heap} {fds : Nat → FuncData} (V : Fx K mg base fds) {n : Nat} {T T1 : Tbl} (I : Ok P w K mg base fn pss fds cn (n + 2) T) (I1 : Ok P w K mg base fn pss fds cn (n + 1) T1) {f : Addr} {cdv : Value} {A : Around} {outer : List PySem.Env} {s : Shared} {H : Hp} {E : XK}
    (hr : Room (n + 2) (A.deeper (PyProof.Rows.envOfC "is_tag" (defScope (top 13)) s.heap.objs.size f cdv))) {W : WX} (tk : Takes (X2 P w K mg base f cdv A outer s H E) W)
    (hp : PassesOwn (model P w) (X2 P w K mg base f cdv A outer s H E).A (X2 P w K mg base f cdv A outer s H E).env (X2 P w K mg base f cdv A outer s H E).xe) :
    PSs (X2 P w K mg base f cdv A outer s H E) (defBody (top 13)) (TS' cn K W (b2 T T1)) := by
  have hu := un200 hr
  have hu1 := un1 hr
  have hN : N2.Nodup := sc2.nd
  have hr2 : Room 2 (A.deeper (PyProof.Rows.envOfC "is_tag" (defScope (top 13)) s.heap.objs.size f cdv)) := hr.mono (by omega)
  obtain ⟨t_DIGITS, h_DIGITS⟩ := V.gi_DIGITS
  obtain ⟨t_LARGE, h_LARGE⟩ := V.gi_LARGE
  obtain ⟨t_NAME_MOST, h_NAME_MOST⟩ := V.gi_NAME_MOST
  obtain ⟨t_SMALL, h_SMALL⟩ := V.gi_SMALL
  exact mss_cons (ms_if ((mw_or (mt_cmp (m_eq hu) (me_var (i := 0) rfl (.inl rfl)) (me_str q_0)) (mw_or1 (mt_cmp (m_gt) (me_bi (mc_len) (by rfl) V.f0 (by kernel_rfl) (ma_cons (me_var (i := 0) rfl (.inl rfl)) (ma_nil))) (me_glob (v := c_NAME_MOST) (z := .int 12) (by rfl) h_NAME_MOST ⟨_, rfl⟩ (fun H ρ n => .int _))))).pt) (mss_one (ms_ret (me_bl))) (mss_nil)) (mss_one (ms_ret (me_and (me_cmp (m_in2 hu) (me_ix (m_ix hu) (me_var (i := 0) rfl (.inl rfl)) (me_int) (fun _ _ => by rfl)) (me_glob (v := c_LARGE) (z := .str "ABCDEFGHIJKLMNOPQRSTUVWXYZ") (by rfl) h_LARGE ⟨_, rfl⟩ (fun H ρ n => w_LARGE _ _ _ _))) (me_one (me_bi (mc_all rfl) (by rfl) V.f4 (by kernel_rfl) (ma_cons (me_lc rfl hN (mi_seq (me_var (i := 0) rfl (.inl rfl))) (own := [("sign", 1)]) (blkB_ok (by kernel_rfl)) (by decide) (fun _ _ _ _ _ => mg_name (i := 1) hN rfl (.inl rfl)) (fun _ _ _ _ _ => mts_nil) (fun _ _ _ _ _ => me_cmp (m_in2 hu) (me_var (i := 1) rfl (.inl rfl)) (me_op m_add (me_op m_add (me_glob (v := c_SMALL) (z := .str "abcdefghijklmnopqrstuvwxyz") (by rfl) h_SMALL ⟨_, rfl⟩ (fun H ρ n => w_SMALL _ _ _ _)) (me_glob (v := c_LARGE) (z := .str "ABCDEFGHIJKLMNOPQRSTUVWXYZ") (by rfl) h_LARGE ⟨_, rfl⟩ (fun H ρ n => w_LARGE _ _ _ _))) (me_glob (v := c_DIGITS) (z := .str "0123456789") (by rfl) h_DIGITS ⟨_, rfl⟩ (fun H ρ n => w_DIGITS _ _ _ _))))) (ma_nil)))))))
def N3 : List Str := ["word", "digits", "sign"]
theorem sc3 : FnScope N3 (pss 3) (defScope (top 14)) := ⟨rfl, rfl, rfl, by decide +kernel, rfl, by decide +kernel, by decide +kernel⟩
def b3 (T T1 : Tbl) : S := sSeq (sSet 1 (eIf (tBl (eBin oEq (eSl (eVar 0) (pNone) (pSome (eC (.int 1)))) (eC (.str s_14)))) (eSl (eVar 0) (pSome (eC (.int 1))) (pNone)) (eVar 0))) (sSeq (sIf (tOr' (tBl (eBin oEq (eVar 1) (eC (.str s_0)))) (tOr' (tBl (eBin oGt (eBi bLen (aCons (eVar 1) (aNil))) (eC c_NAME_MOST))) (tNot' (tTru (eBi bAll (aCons (eLc 200000 (iSeq (eVar 1)) (gNm 2) (tYs) (eBin oIn2 (eVar 2) (eC c_DIGITS)) [2]) (aNil))))))) (sRet (eC (.bl false))) (sNext)) (sRet (eOr (eBin oEq (eVar 0) (eC (.str s_15))) (eBin oNe (eBin oIx (eVar 1) (eC (.int 0))) (eC (.str s_15))))))
abbrev X3 (P : Program) (w : World) (K : PySem.W.Frag) (mg : Str → Option Value) (base : Heap) (f : Addr) (cdv : Value) (A : Around) (outer : List PySem.Env) (s : Shared) (H : Hp) (E : XK) : Cx := cxOf (L2.CX P w) P w K mg base N3 "is_number" (defScope (top 14)) f cdv A outer s H E
theorem wk3 {P : Program} {w : World} {K : PySem.W.Frag} {mg : Str → Option Value} {base : Heap} {fds : Nat → FuncData} (V : Fx K mg base fds) {n : Nat} {T T1 : Tbl} (I : Ok P w K mg base fn pss fds cn (n + 2) T) (I1 : Ok P w K mg base fn pss fds cn (n + 1) T1) {f : Addr} {cdv : Value} {A : Around} {outer : List PySem.Env} {s : Shared} {H : Hp} {E : XK}
    (hr : Room (n + 2) (A.deeper (PyProof.Rows.envOfC "is_number" (defScope (top 14)) s.heap.objs.size f cdv))) {W : WX} (tk : Takes (X3 P w K mg base f cdv A outer s H E) W)
    (hp : PassesOwn (model P w) (X3 P w K mg base f cdv A outer s H E).A (X3 P w K mg base f cdv A outer s H E).env (X3 P w K mg base f cdv A outer s H E).xe) :
    PSs (X3 P w K mg base f cdv A outer s H E) (defBody (top 14)) (TS' cn K W (b3 T T1)) := by
  have hu := un200 hr
  have hu1 := un1 hr
  have hN : N3.Nodup := sc3.nd
  have hr2 : Room 2 (A.deeper (PyProof.Rows.envOfC "is_number" (defScope (top 14)) s.heap.objs.size f cdv)) := hr.mono (by omega)
  obtain ⟨t_DIGITS, h_DIGITS⟩ := V.gi_DIGITS
  obtain ⟨t_NAME_MOST, h_NAME_MOST⟩ := V.gi_NAME_MOST
  exact mss_cons (ms_set (i := 1) hN rfl (.inl rfl) (me_if (mt_cmp (m_eq hu) (me_sl (me_var (i := 0) rfl (.inl rfl)) (mo_none) (mo_some (me_int))) (me_str q_14)) (me_sl (me_var (i := 0) rfl (.inl rfl)) (mo_some (me_int)) (mo_none)) (me_var (i := 0) rfl (.inl rfl)))) (mss_cons (ms_if ((mw_or (mt_cmp (m_eq hu) (me_var (i := 1) rfl (.inl rfl)) (me_str q_0)) (mw_or (mt_cmp (m_gt) (me_bi (mc_len) (by rfl) V.f0 (by kernel_rfl) (ma_cons (me_var (i := 1) rfl (.inl rfl)) (ma_nil))) (me_glob (v := c_NAME_MOST) (z := .int 12) (by rfl) h_NAME_MOST ⟨_, rfl⟩ (fun H ρ n => .int _))) (mw_or1 (mt_not (mt_tru (me_bi (mc_all rfl) (by rfl) V.f4 (by kernel_rfl) (ma_cons (me_lc rfl hN (mi_seq (me_var (i := 1) rfl (.inl rfl))) (own := [("sign", 2)]) (blkB_ok (by kernel_rfl)) (by decide) (fun _ _ _ _ _ => mg_name (i := 2) hN rfl (.inl rfl)) (fun _ _ _ _ _ => mts_nil) (fun _ _ _ _ _ => me_cmp (m_in2 hu) (me_var (i := 2) rfl (.inl rfl)) (me_glob (v := c_DIGITS) (z := .str "0123456789") (by rfl) h_DIGITS ⟨_, rfl⟩ (fun H ρ n => w_DIGITS _ _ _ _)))) (ma_nil)))))))).pt) (mss_one (ms_ret (me_bl))) (mss_nil)) (mss_one (ms_ret (me_or (me_cmp (m_eq hu) (me_var (i := 0) rfl (.inl rfl)) (me_str q_15)) (me_one (me_cmp (m_ne hu) (me_ix (m_ix hu) (me_var (i := 1) rfl (.inl rfl)) (me_int) (fun _ _ => by rfl)) (me_str q_15)))))))
def N4 : List Str := ["tree", "kind", "label", "value", "arms", "tag", "name", "body"]
theorem sc4 : FnScope N4 (pss 4) (defScope (top 15)) := ⟨rfl, rfl, rfl, by decide +kernel, rfl, by decide +kernel, by decide +kernel⟩
def b4 (T T1 : Tbl) : S := sSeq (sSet 1 (eBin oIx (eVar 0) (eC (.int 0)))) (sSeq (sIf (tBl (eBin oIn2 (eVar 1) (eTup (aCons (eC (.str s_16)) (aCons (eC (.str s_17)) (aNil)))))) (sRet (eTup (aNil))) (sNext)) (sSeq (sIf (tBl (eBin oEq (eVar 1) (eC (.str s_2)))) (sRet (eTup (aCons (eBin oIx (eVar 0) (eC (.int 2))) (aNil)))) (sNext)) (sSeq (sIf (tBl (eBin oEq (eVar 1) (eC (.str s_3)))) (sRet (eTup (aCons (eBin oIx (eVar 0) (eC (.int 3))) (aNil)))) (sNext)) (sSeq (sIf (tBl (eBin oEq (eVar 1) (eC (.str s_4)))) (sRet (eTup (aCons (eBin oIx (eVar 0) (eC (.int 2))) (aCons (eBin oIx (eVar 0) (eC (.int 3))) (aNil))))) (sNext)) (sSeq (sIf (tBl (eBin oIn2 (eVar 1) (eTup (aCons (eC (.str s_18)) (aCons (eC (.str s_19)) (aNil)))))) (sRet (eTup (aCons (eBin oIx (eVar 0) (eC (.int 1))) (aCons (eBin oIx (eVar 0) (eC (.int 2))) (aNil))))) (sNext)) (sSeq (sIf (tBl (eBin oEq (eVar 1) (eC (.str s_20)))) (sRet (eTup (aCons (eBin oIx (eVar 0) (eC (.int 2))) (aCons (eBin oIx (eVar 0) (eC (.int 3))) (aNil))))) (sNext)) (sSeq (sIf (tBl (eBin oEq (eVar 1) (eC (.str s_21)))) (sRet (eBi bTuple (aCons (eLc 200000 (iSeq (eBin oIx (eVar 0) (eC (.int 1)))) (gTp 2 (gsCons (gNm 2) (gsCons (gNm 3) (gsNil)))) (tYs) (eVar 3) [2, 3]) (aNil)))) (sNext)) (sSeq (sIf (tBl (eBin oEq (eVar 1) (eC (.str s_22)))) (sRet (eTup (aCons (eBin oIx (eVar 0) (eC (.int 2))) (aCons (eBin oIx (eVar 0) (eC (.int 3))) (aNil))))) (sNext)) (sSeq (sIf (tBl (eBin oIn2 (eVar 1) (eTup (aCons (eC (.str s_23)) (aCons (eC (.str s_24)) (aNil)))))) (sRet (eTup (aCons (eBin oIx (eVar 0) (eC (.int 1))) (aNil)))) (sNext)) (sSeq (sIf (tBl (eBin oEq (eVar 1) (eC (.str s_25)))) (sRet (eTup (aCons (eBin oIx (eVar 0) (eC (.int 1))) (aCons (eBin oIx (eVar 0) (eC (.int 3))) (aNil))))) (sNext)) (sSeq (sIf (tBl (eBin oIn2 (eVar 1) (eTup (aCons (eC (.str s_26)) (aCons (eC (.str s_9)) (aNil)))))) (sRet (eTup (aCons (eBin oIx (eVar 0) (eC (.int 2))) (aNil)))) (sNext)) (sSeq (sSet 4 (eBi bTuple (aCons (eLc 200000 (iSeq (eBin oIx (eVar 0) (eC (.int 2)))) (gTp 3 (gsCons (gNm 5) (gsCons (gNm 6) (gsCons (gNm 7) (gsNil))))) (tYs) (eVar 7) [5, 6, 7]) (aNil)))) (sRet (eBin oAdd (eBin oAdd (eTup (aCons (eBin oIx (eVar 0) (eC (.int 1))) (aNil))) (eVar 4)) (eIf (tBl (eBin oIs (eBin oIx (eVar 0) (eC (.int 3))) (eC .non))) (eTup (aNil)) (eTup (aCons (eBin oIx (eBin oIx (eVar 0) (eC (.int 3))) (eC (.int 1))) (aNil))))))))))))))))))
abbrev X4 (P : Program) (w : World) (K : PySem.W.Frag) (mg : Str → Option Value) (base : Heap) (f : Addr) (cdv : Value) (A : Around) (outer : List PySem.Env) (s : Shared) (H : Hp) (E : XK) : Cx := cxOf (L2.CX P w) P w K mg base N4 "parts_of" (defScope (top 15)) f cdv A outer s H E
theorem wk4 {P : Program} {w : World} {K : PySem.W.Frag} {mg : Str → Option Value} {base : Heap} {fds : Nat → FuncData} (V : Fx K mg base fds) {n : Nat} {T T1 : Tbl} (I : Ok P w K mg base fn pss fds cn (n + 2) T) (I1 : Ok P w K mg base fn pss fds cn (n + 1) T1) {f : Addr} {cdv : Value} {A : Around} {outer : List PySem.Env} {s : Shared} {H : Hp} {E : XK}
    (hr : Room (n + 2) (A.deeper (PyProof.Rows.envOfC "parts_of" (defScope (top 15)) s.heap.objs.size f cdv))) {W : WX} (tk : Takes (X4 P w K mg base f cdv A outer s H E) W)
    (hp : PassesOwn (model P w) (X4 P w K mg base f cdv A outer s H E).A (X4 P w K mg base f cdv A outer s H E).env (X4 P w K mg base f cdv A outer s H E).xe) :
    PSs (X4 P w K mg base f cdv A outer s H E) (defBody (top 15)) (TS' cn K W (b4 T T1)) := by
  have hu := un200 hr
  have hu1 := un1 hr
  have hN : N4.Nodup := sc4.nd
  have hr2 : Room 2 (A.deeper (PyProof.Rows.envOfC "parts_of" (defScope (top 15)) s.heap.objs.size f cdv)) := hr.mono (by omega)
  exact mss_cons (ms_set (i := 1) hN rfl (.inl rfl) (me_ix (m_ix hu) (me_var (i := 0) rfl (.inl rfl)) (me_int) (fun _ _ => by rfl))) (mss_cons (ms_if (mt_cmp (m_in2 hu) (me_var (i := 1) rfl (.inl rfl)) (me_tup (ma_cons (me_str q_16) (ma_cons (me_str q_17) (ma_nil))))) (mss_one (ms_ret (me_tup (ma_nil)))) (mss_nil)) (mss_cons (ms_if (mt_cmp (m_eq hu) (me_var (i := 1) rfl (.inl rfl)) (me_str q_2)) (mss_one (ms_ret (me_tup (ma_cons (me_ix (m_ix hu) (me_var (i := 0) rfl (.inl rfl)) (me_int) (fun _ _ => by rfl)) (ma_nil))))) (mss_nil)) (mss_cons (ms_if (mt_cmp (m_eq hu) (me_var (i := 1) rfl (.inl rfl)) (me_str q_3)) (mss_one (ms_ret (me_tup (ma_cons (me_ix (m_ix hu) (me_var (i := 0) rfl (.inl rfl)) (me_int) (fun _ _ => by rfl)) (ma_nil))))) (mss_nil)) (mss_cons (ms_if (mt_cmp (m_eq hu) (me_var (i := 1) rfl (.inl rfl)) (me_str q_4)) (mss_one (ms_ret (me_tup (ma_cons (me_ix (m_ix hu) (me_var (i := 0) rfl (.inl rfl)) (me_int) (fun _ _ => by rfl)) (ma_cons (me_ix (m_ix hu) (me_var (i := 0) rfl (.inl rfl)) (me_int) (fun _ _ => by rfl)) (ma_nil)))))) (mss_nil)) (mss_cons (ms_if (mt_cmp (m_in2 hu) (me_var (i := 1) rfl (.inl rfl)) (me_tup (ma_cons (me_str q_18) (ma_cons (me_str q_19) (ma_nil))))) (mss_one (ms_ret (me_tup (ma_cons (me_ix (m_ix hu) (me_var (i := 0) rfl (.inl rfl)) (me_int) (fun _ _ => by rfl)) (ma_cons (me_ix (m_ix hu) (me_var (i := 0) rfl (.inl rfl)) (me_int) (fun _ _ => by rfl)) (ma_nil)))))) (mss_nil)) (mss_cons (ms_if (mt_cmp (m_eq hu) (me_var (i := 1) rfl (.inl rfl)) (me_str q_20)) (mss_one (ms_ret (me_tup (ma_cons (me_ix (m_ix hu) (me_var (i := 0) rfl (.inl rfl)) (me_int) (fun _ _ => by rfl)) (ma_cons (me_ix (m_ix hu) (me_var (i := 0) rfl (.inl rfl)) (me_int) (fun _ _ => by rfl)) (ma_nil)))))) (mss_nil)) (mss_cons (ms_if (mt_cmp (m_eq hu) (me_var (i := 1) rfl (.inl rfl)) (me_str q_21)) (mss_one (ms_ret (me_ty (mc_tuple) (by rfl) V.f7 (by kernel_rfl) (ma_cons (me_lc rfl hN (mi_seq (me_ix (m_ix hu) (me_var (i := 0) rfl (.inl rfl)) (me_int) (fun _ _ => by rfl))) (own := [("label", 2), ("value", 3)]) (blkB_ok (by kernel_rfl)) (by decide) (fun _ _ _ _ _ => mg_tup rfl (mgs_cons (mg_name (i := 2) hN rfl (.inl rfl)) (mgs_cons (mg_name (i := 3) hN rfl (.inl rfl)) (mgs_nil)))) (fun _ _ _ _ _ => mts_nil) (fun _ _ _ _ _ => me_var (i := 3) rfl (.inl rfl))) (ma_nil))))) (mss_nil)) (mss_cons (ms_if (mt_cmp (m_eq hu) (me_var (i := 1) rfl (.inl rfl)) (me_str q_22)) (mss_one (ms_ret (me_tup (ma_cons (me_ix (m_ix hu) (me_var (i := 0) rfl (.inl rfl)) (me_int) (fun _ _ => by rfl)) (ma_cons (me_ix (m_ix hu) (me_var (i := 0) rfl (.inl rfl)) (me_int) (fun _ _ => by rfl)) (ma_nil)))))) (mss_nil)) (mss_cons (ms_if (mt_cmp (m_in2 hu) (me_var (i := 1) rfl (.inl rfl)) (me_tup (ma_cons (me_str q_23) (ma_cons (me_str q_24) (ma_nil))))) (mss_one (ms_ret (me_tup (ma_cons (me_ix (m_ix hu) (me_var (i := 0) rfl (.inl rfl)) (me_int) (fun _ _ => by rfl)) (ma_nil))))) (mss_nil)) (mss_cons (ms_if (mt_cmp (m_eq hu) (me_var (i := 1) rfl (.inl rfl)) (me_str q_25)) (mss_one (ms_ret (me_tup (ma_cons (me_ix (m_ix hu) (me_var (i := 0) rfl (.inl rfl)) (me_int) (fun _ _ => by rfl)) (ma_cons (me_ix (m_ix hu) (me_var (i := 0) rfl (.inl rfl)) (me_int) (fun _ _ => by rfl)) (ma_nil)))))) (mss_nil)) (mss_cons (ms_if (mt_cmp (m_in2 hu) (me_var (i := 1) rfl (.inl rfl)) (me_tup (ma_cons (me_str q_26) (ma_cons (me_str q_9) (ma_nil))))) (mss_one (ms_ret (me_tup (ma_cons (me_ix (m_ix hu) (me_var (i := 0) rfl (.inl rfl)) (me_int) (fun _ _ => by rfl)) (ma_nil))))) (mss_nil)) (mss_cons (ms_set (i := 4) hN rfl (.inl rfl) (me_ty (mc_tuple) (by rfl) V.f7 (by kernel_rfl) (ma_cons (me_lc rfl hN (mi_seq (me_ix (m_ix hu) (me_var (i := 0) rfl (.inl rfl)) (me_int) (fun _ _ => by rfl))) (own := [("tag", 5), ("name", 6), ("body", 7)]) (blkB_ok (by kernel_rfl)) (by decide) (fun _ _ _ _ _ => mg_tup rfl (mgs_cons (mg_name (i := 5) hN rfl (.inl rfl)) (mgs_cons (mg_name (i := 6) hN rfl (.inl rfl)) (mgs_cons (mg_name (i := 7) hN rfl (.inl rfl)) (mgs_nil))))) (fun _ _ _ _ _ => mts_nil) (fun _ _ _ _ _ => me_var (i := 7) rfl (.inl rfl))) (ma_nil)))) (mss_one (ms_ret (me_op m_add (me_op m_add (me_tup (ma_cons (me_ix (m_ix hu) (me_var (i := 0) rfl (.inl rfl)) (me_int) (fun _ _ => by rfl)) (ma_nil))) (me_var (i := 4) rfl (.inl rfl))) (me_if (mt_cmp (m_is) (me_ix (m_ix hu) (me_var (i := 0) rfl (.inl rfl)) (me_int) (fun _ _ => by rfl)) (me_non)) (me_tup (ma_nil)) (me_tup (ma_cons (me_ix (m_ix hu) (me_ix (m_ix hu) (me_var (i := 0) rfl (.inl rfl)) (me_int) (fun _ _ => by rfl)) (me_int) (fun _ _ => by rfl)) (ma_nil)))))))))))))))))))
def N5 : List Str := ["tree", "many", "waiting", "one"]
theorem sc5 : FnScope N5 (pss 5) (defScope (top 16)) := ⟨rfl, rfl, rfl, by decide +kernel, rfl, by decide +kernel, by decide +kernel⟩
def b5 (T T1 : Tbl) : S := sSeq (sSet 1 (eC (.int 0))) (sSeq (sSet 2 (eLst (aCons (eVar 0) (aNil)))) (sSeq (sWhile 200000 (tBl (eBin oGt (eBi bLen (aCons (eVar 2) (aNil))) (eC (.int 0)))) (sSeq (sSet 3 (eBm isL lPop (eVar 2) aNil)) (sSeq (sAug 1 oIAdd (eC (.int 1))) (sDrop (eBm isL lExtend2 (eVar 2) (aCons (eCall 1 (T 4) [] (aCons (eVar 3) (aNil))) (aNil))))))) (sRet (eVar 1))))
abbrev X5 (P : Program) (w : World) (K : PySem.W.Frag) (mg : Str → Option Value) (base : Heap) (f : Addr) (cdv : Value) (A : Around) (outer : List PySem.Env) (s : Shared) (H : Hp) (E : XK) : Cx := cxOf (L2.CX P w) P w K mg base N5 "size" (defScope (top 16)) f cdv A outer s H E
theorem wk5 {P : Program} {w : World} {K : PySem.W.Frag} {mg : Str → Option Value} {base : Heap} {fds : Nat → FuncData} (V : Fx K mg base fds) {n : Nat} {T T1 : Tbl} (I : Ok P w K mg base fn pss fds cn (n + 2) T) (I1 : Ok P w K mg base fn pss fds cn (n + 1) T1) {f : Addr} {cdv : Value} {A : Around} {outer : List PySem.Env} {s : Shared} {H : Hp} {E : XK}
    (hr : Room (n + 2) (A.deeper (PyProof.Rows.envOfC "size" (defScope (top 16)) s.heap.objs.size f cdv))) {W : WX} (tk : Takes (X5 P w K mg base f cdv A outer s H E) W)
    (hp : PassesOwn (model P w) (X5 P w K mg base f cdv A outer s H E).A (X5 P w K mg base f cdv A outer s H E).env (X5 P w K mg base f cdv A outer s H E).xe) :
    PSs (X5 P w K mg base f cdv A outer s H E) (defBody (top 16)) (TS' cn K W (b5 T T1)) := by
  have hu := un200 hr
  have hu1 := un1 hr
  have hN : N5.Nodup := sc5.nd
  have hr2 : Room 2 (A.deeper (PyProof.Rows.envOfC "size" (defScope (top 16)) s.heap.objs.size f cdv)) := hr.mono (by omega)
  exact mss_cons (ms_set (i := 1) hN rfl (.inl rfl) (me_int)) (mss_cons (ms_set (i := 2) hN rfl (.inl rfl) (me_lst (ma_cons (me_var (i := 0) rfl (.inl rfl)) (ma_nil)))) (mss_cons (ms_while (n := 200000) hp (mt_cmp (m_gt) (me_bi (mc_len) (by rfl) V.f0 (by kernel_rfl) (ma_cons (me_var (i := 2) rfl (.inl rfl)) (ma_nil))) (me_int)) (mss_cons (ms_set (i := 3) hN rfl (.inl rfl) (me_bm0 ck_list F.plainAttrs_list F.slot_list_pop F.type_list_pop (m_pop) (me_var (i := 2) rfl (.inl rfl)))) (mss_cons (ms_aug (j := 1) hN rfl (.inl rfl) (me_int) m_iadd) (mss_one (ms_expr (me_bm ck_list F.plainAttrs_list F.slot_list_extend F.type_list_extend (m_extend2) (me_var (i := 2) rfl (.inl rfl)) (ma_cons (me_call (I 4 d4 rfl) hr (by rfl) V.g_parts_of (V.F 4 d4 rfl).kp V.b_4_1 tk (ma_cons (me_var (i := 3) rfl (.inl rfl)) (ma_nil))) (ma_nil)))))))) (mss_one (ms_ret (me_var (i := 1) rfl (.inl rfl))))))
def N6 : List Str := ["tree", "deepest", "waiting", "one", "deep", "part"]
theorem sc6 : FnScope N6 (pss 6) (defScope (top 17)) := ⟨rfl, rfl, rfl, by decide +kernel, rfl, by decide +kernel, by decide +kernel⟩
def b6 (T T1 : Tbl) : S := sSeq (sSet 1 (eC (.int 0))) (sSeq (sSet 2 (eLst (aCons (eTup (aCons (eVar 0) (aCons (eC (.int 1)) (aNil)))) (aNil)))) (sSeq (sWhile 200000 (tBl (eBin oGt (eBi bLen (aCons (eVar 2) (aNil))) (eC (.int 0)))) (sSeq (sAsg (eBm isL lPop (eVar 2) aNil) (gTp 2 (gsCons (gNm 3) (gsCons (gNm 4) (gsNil))))) (sSeq (sSet 1 (eBi bMax (aCons (eVar 1) (aCons (eVar 4) (aNil))))) (sDrop (eBm isL lExtend2 (eVar 2) (aCons (eLc 200000 (iSeq (eCall 1 (T 4) [] (aCons (eVar 3) (aNil)))) (gNm 5) (tYs) (eTup (aCons (eVar 5) (aCons (eBin oAdd (eVar 4) (eC (.int 1))) (aNil)))) [5]) (aNil))))))) (sRet (eVar 1))))
abbrev X6 (P : Program) (w : World) (K : PySem.W.Frag) (mg : Str → Option Value) (base : Heap) (f : Addr) (cdv : Value) (A : Around) (outer : List PySem.Env) (s : Shared) (H : Hp) (E : XK) : Cx := cxOf (L2.CX P w) P w K mg base N6 "depth" (defScope (top 17)) f cdv A outer s H E
theorem wk6 {P : Program} {w : World} {K : PySem.W.Frag} {mg : Str → Option Value} {base : Heap} {fds : Nat → FuncData} (V : Fx K mg base fds) {n : Nat} {T T1 : Tbl} (I : Ok P w K mg base fn pss fds cn (n + 2) T) (I1 : Ok P w K mg base fn pss fds cn (n + 1) T1) {f : Addr} {cdv : Value} {A : Around} {outer : List PySem.Env} {s : Shared} {H : Hp} {E : XK}
    (hr : Room (n + 2) (A.deeper (PyProof.Rows.envOfC "depth" (defScope (top 17)) s.heap.objs.size f cdv))) {W : WX} (tk : Takes (X6 P w K mg base f cdv A outer s H E) W)
    (hp : PassesOwn (model P w) (X6 P w K mg base f cdv A outer s H E).A (X6 P w K mg base f cdv A outer s H E).env (X6 P w K mg base f cdv A outer s H E).xe) :
    PSs (X6 P w K mg base f cdv A outer s H E) (defBody (top 17)) (TS' cn K W (b6 T T1)) := by
  have hu := un200 hr
  have hu1 := un1 hr
  have hN : N6.Nodup := sc6.nd
  have hr2 : Room 2 (A.deeper (PyProof.Rows.envOfC "depth" (defScope (top 17)) s.heap.objs.size f cdv)) := hr.mono (by omega)
  exact mss_cons (ms_set (i := 1) hN rfl (.inl rfl) (me_int)) (mss_cons (ms_set (i := 2) hN rfl (.inl rfl) (me_lst (ma_cons (me_tup (ma_cons (me_var (i := 0) rfl (.inl rfl)) (ma_cons (me_int) (ma_nil)))) (ma_nil)))) (mss_cons (ms_while (n := 200000) hp (mt_cmp (m_gt) (me_bi (mc_len) (by rfl) V.f0 (by kernel_rfl) (ma_cons (me_var (i := 2) rfl (.inl rfl)) (ma_nil))) (me_int)) (mss_cons (ms_asg (me_bm0 ck_list F.plainAttrs_list F.slot_list_pop F.type_list_pop (m_pop) (me_var (i := 2) rfl (.inl rfl))) (mg_tup rfl (mgs_cons (mg_name (i := 3) hN rfl (.inl rfl)) (mgs_cons (mg_name (i := 4) hN rfl (.inr rfl)) (mgs_nil))))) (mss_cons (ms_set (i := 1) hN rfl (.inl rfl) (me_bi (mc_max rfl) (by rfl) V.f9 (by kernel_rfl) (ma_cons (me_var (i := 1) rfl (.inl rfl)) (ma_cons (me_var (i := 4) rfl (.inr (.inl rfl))) (ma_nil))))) (mss_one (ms_expr (me_bm ck_list F.plainAttrs_list F.slot_list_extend F.type_list_extend (m_extend2) (me_var (i := 2) rfl (.inl rfl)) (ma_cons (me_lc rfl hN (mi_seq (me_call (I 4 d4 rfl) hr (by rfl) V.g_parts_of (V.F 4 d4 rfl).kp V.b_4_1 tk (ma_cons (me_var (i := 3) rfl (.inl rfl)) (ma_nil)))) (own := [("part", 5)]) (blkB_ok (by kernel_rfl)) (by decide) (fun _ _ _ _ _ => mg_name (i := 5) hN rfl (.inl rfl)) (fun _ _ _ _ _ => mts_nil) (fun _ _ _ _ _ => me_tup (ma_cons (me_var (i := 5) rfl (.inl rfl)) (ma_cons (me_op m_add (me_var (i := 4) rfl (.inr (.inl rfl))) (me_int)) (ma_nil))))) (ma_nil)))))))) (mss_one (ms_ret (me_var (i := 1) rfl (.inl rfl))))))
def N7 : List Str := ["tree"]
theorem sc7 : FnScope N7 (pss 7) (defScope (top 18)) := ⟨rfl, rfl, rfl, by decide +kernel, rfl, by decide +kernel, by decide +kernel⟩
def b7 (T T1 : Tbl) : S := sIf (tOr' (tBl (eBin oGt (eCall 1 (T 5) [] (aCons (eVar 0) (aNil))) (eC c_PLACES_MOST))) (tBl (eBin oGt (eCall 1 (T 6) [] (aCons (eVar 0) (aNil))) (eC c_DEEP_MOST)))) (sRaise (xMk0 2)) (sNext)
abbrev X7 (P : Program) (w : World) (K : PySem.W.Frag) (mg : Str → Option Value) (base : Heap) (f : Addr) (cdv : Value) (A : Around) (outer : List PySem.Env) (s : Shared) (H : Hp) (E : XK) : Cx := cxOf (L2.CX P w) P w K mg base N7 "check_size" (defScope (top 18)) f cdv A outer s H E
theorem wk7 {P : Program} {w : World} {K : PySem.W.Frag} {mg : Str → Option Value} {base : Heap} {fds : Nat → FuncData} (V : Fx K mg base fds) {n : Nat} {T T1 : Tbl} (I : Ok P w K mg base fn pss fds cn (n + 2) T) (I1 : Ok P w K mg base fn pss fds cn (n + 1) T1) {f : Addr} {cdv : Value} {A : Around} {outer : List PySem.Env} {s : Shared} {H : Hp} {E : XK}
    (hr : Room (n + 2) (A.deeper (PyProof.Rows.envOfC "check_size" (defScope (top 18)) s.heap.objs.size f cdv))) {W : WX} (tk : Takes (X7 P w K mg base f cdv A outer s H E) W)
    (hp : PassesOwn (model P w) (X7 P w K mg base f cdv A outer s H E).A (X7 P w K mg base f cdv A outer s H E).env (X7 P w K mg base f cdv A outer s H E).xe) :
    PSs (X7 P w K mg base f cdv A outer s H E) (defBody (top 18)) (TS' cn K W (b7 T T1)) := by
  have hu := un200 hr
  have hu1 := un1 hr
  have hN : N7.Nodup := sc7.nd
  have hr2 : Room 2 (A.deeper (PyProof.Rows.envOfC "check_size" (defScope (top 18)) s.heap.objs.size f cdv)) := hr.mono (by omega)
  obtain ⟨t_DEEP_MOST, h_DEEP_MOST⟩ := V.gi_DEEP_MOST
  obtain ⟨t_PLACES_MOST, h_PLACES_MOST⟩ := V.gi_PLACES_MOST
  exact mss_one (ms_if ((mw_or (mt_cmp (m_gt) (me_call (I 5 d5 rfl) hr (by rfl) V.g_size (V.F 5 d5 rfl).kp V.b_5_1 tk (ma_cons (me_var (i := 0) rfl (.inl rfl)) (ma_nil))) (me_glob (v := c_PLACES_MOST) (z := .int 400) (by rfl) h_PLACES_MOST ⟨_, rfl⟩ (fun H ρ n => .int _))) (mw_or1 (mt_cmp (m_gt) (me_call (I 6 d6 rfl) hr (by rfl) V.g_depth (V.F 6 d6 rfl).kp V.b_6_1 tk (ma_cons (me_var (i := 0) rfl (.inl rfl)) (ma_nil))) (me_glob (v := c_DEEP_MOST) (z := .int 60) (by rfl) h_DEEP_MOST ⟨_, rfl⟩ (fun H ρ n => .int _))))).pt) (mss_one (ms_raise rfl tk (mx_own0 (c := 2) PySem.F.excBase_ValueError V.e_TooLarge.1 V.g_TooLarge V.e_TooLarge.2.1 (raises_own V.e_TooLarge.2.2.1 V.e_TooLarge.2.2.2) (by rfl)))) (mss_nil))
def N8 : List Str := ["self", "text", "line"]
theorem sc8 : FnScope N8 (pss 8) (defScope (inClass (top 20) 0)) := ⟨rfl, rfl, rfl, by decide +kernel, rfl, by decide +kernel, by decide +kernel⟩
def b8 (T T1 : Tbl) : S := sSeq (sFld [3] s_28 (eVar 0) (eIf (tBl (eBin oNe (eVar 1) (eC (.str s_0)))) (eBm isS sSplit (eVar 1) (aCons (eC (.str s_27)) (aNil))) (eLst (aNil)))) (sSeq (sFld [3] s_29 (eVar 0) (eVar 2)) (sFld [3] s_30 (eVar 0) (eC (.int 0))))
abbrev X8 (P : Program) (w : World) (K : PySem.W.Frag) (mg : Str → Option Value) (base : Heap) (f : Addr) (cdv : Value) (A : Around) (outer : List PySem.Env) (s : Shared) (H : Hp) (E : XK) : Cx := cxOf (L2.CX P w) P w K mg base N8 "Words.__init__" (defScope (inClass (top 20) 0)) f cdv A outer s H E
theorem wk8 {P : Program} {w : World} {K : PySem.W.Frag} {mg : Str → Option Value} {base : Heap} {fds : Nat → FuncData} (V : Fx K mg base fds) {n : Nat} {T T1 : Tbl} (I : Ok P w K mg base fn pss fds cn (n + 2) T) (I1 : Ok P w K mg base fn pss fds cn (n + 1) T1) {f : Addr} {cdv : Value} {A : Around} {outer : List PySem.Env} {s : Shared} {H : Hp} {E : XK}
    (hr : Room (n + 2) (A.deeper (PyProof.Rows.envOfC "Words.__init__" (defScope (inClass (top 20) 0)) s.heap.objs.size f cdv))) {W : WX} (tk : Takes (X8 P w K mg base f cdv A outer s H E) W)
    (hp : PassesOwn (model P w) (X8 P w K mg base f cdv A outer s H E).A (X8 P w K mg base f cdv A outer s H E).env (X8 P w K mg base f cdv A outer s H E).xe) :
    PSs (X8 P w K mg base f cdv A outer s H E) (defBody (inClass (top 20) 0)) (TS' cn K W (b8 T T1)) := by
  have hu := un200 hr
  have hu1 := un1 hr
  have hN : N8.Nodup := sc8.nd
  have hr2 : Room 2 (A.deeper (PyProof.Rows.envOfC "Words.__init__" (defScope (inClass (top 20) 0)) s.heap.objs.size f cdv)) := hr.mono (by omega)
  exact mss_cons (ms_fld q_28 V.fld_Words_words (me_var (i := 0) rfl (.inl rfl)) (me_if (mt_cmp (m_ne hu) (me_var (i := 1) rfl (.inl rfl)) (me_str q_0)) (me_bm ck_str F.plainAttrs_str F.slot_str_split F.type_str_split (m_split) (me_var (i := 1) rfl (.inl rfl)) (ma_cons (me_str q_27) (ma_nil))) (me_lst (ma_nil)))) (mss_cons (ms_fld q_29 V.fld_Words_line (me_var (i := 0) rfl (.inl rfl)) (me_var (i := 2) rfl (.inl rfl))) (mss_one (ms_fld q_30 V.fld_Words_place (me_var (i := 0) rfl (.inl rfl)) (me_int))))
def N9 : List Str := ["self"]
theorem sc9 : FnScope N9 (pss 9) (defScope (inClass (top 20) 1)) := ⟨rfl, rfl, rfl, by decide +kernel, rfl, by decide +kernel, by decide +kernel⟩
def b9 (T T1 : Tbl) : S := sRaise (xMk 1 [s_29, s_31] (aCons (eUn (getF [3] s_29) (eVar 0)) (aCons (eUn (getF [3] s_30) (eVar 0)) (aNil))))
abbrev X9 (P : Program) (w : World) (K : PySem.W.Frag) (mg : Str → Option Value) (base : Heap) (f : Addr) (cdv : Value) (A : Around) (outer : List PySem.Env) (s : Shared) (H : Hp) (E : XK) : Cx := cxOf (L2.CX P w) P w K mg base N9 "Words.refuse" (defScope (inClass (top 20) 1)) f cdv A outer s H E
theorem wk9 {P : Program} {w : World} {K : PySem.W.Frag} {mg : Str → Option Value} {base : Heap} {fds : Nat → FuncData} (V : Fx K mg base fds) {n : Nat} {T T1 : Tbl} (I : Ok P w K mg base fn pss fds cn (n + 2) T) (I1 : Ok P w K mg base fn pss fds cn (n + 1) T1) {f : Addr} {cdv : Value} {A : Around} {outer : List PySem.Env} {s : Shared} {H : Hp} {E : XK}
    (hr : Room (n + 2) (A.deeper (PyProof.Rows.envOfC "Words.refuse" (defScope (inClass (top 20) 1)) s.heap.objs.size f cdv))) {W : WX} (tk : Takes (X9 P w K mg base f cdv A outer s H E) W)
    (hp : PassesOwn (model P w) (X9 P w K mg base f cdv A outer s H E).A (X9 P w K mg base f cdv A outer s H E).env (X9 P w K mg base f cdv A outer s H E).xe) :
    PSs (X9 P w K mg base f cdv A outer s H E) (defBody (inClass (top 20) 1)) (TS' cn K W (b9 T T1)) := by
  have hu := un200 hr
  have hu1 := un1 hr
  have hN : N9.Nodup := sc9.nd
  have hr2 : Room 2 (A.deeper (PyProof.Rows.envOfC "Words.refuse" (defScope (inClass (top 20) 1)) s.heap.objs.size f cdv)) := hr.mono (by omega)
  exact mss_one (ms_raise rfl tk (mx_2 (c := 1) q_29 q_31 V.oex_BadText V.ini_BadText.1 V.ini_BadText.2 V.okx_BadText hr2 V.bx_BadText (by rfl) V.g_BadText (ma_cons (me_fld q_29 V.fld_Words_line (me_var (i := 0) rfl (.inl rfl))) (ma_cons (me_fld q_30 V.fld_Words_place (me_var (i := 0) rfl (.inl rfl))) (ma_nil)))))
def N10 : List Str := ["self", "far", "place"]
theorem sc10 : FnScope N10 (pss 10) (defScope (inClass (top 20) 2)) := ⟨rfl, rfl, rfl, by decide +kernel, rfl, by decide +kernel, by decide +kernel⟩
def b10 (T T1 : Tbl) : S := sSeq (sSet 2 (eBin oAdd (eUn (getF [3] s_30) (eVar 0)) (eVar 1))) (sRet (eIf (tBl (eBin oLt (eVar 2) (eBi bLen (aCons (eUn (getF [3] s_28) (eVar 0)) (aNil))))) (eBin oIx (eUn (getF [3] s_28) (eVar 0)) (eVar 2)) (eC .non)))
abbrev X10 (P : Program) (w : World) (K : PySem.W.Frag) (mg : Str → Option Value) (base : Heap) (f : Addr) (cdv : Value) (A : Around) (outer : List PySem.Env) (s : Shared) (H : Hp) (E : XK) : Cx := cxOf (L2.CX P w) P w K mg base N10 "Words.ahead" (defScope (inClass (top 20) 2)) f cdv A outer s H E
theorem wk10 {P : Program} {w : World} {K : PySem.W.Frag} {mg : Str → Option Value} {base : Heap} {fds : Nat → FuncData} (V : Fx K mg base fds) {n : Nat} {T T1 : Tbl} (I : Ok P w K mg base fn pss fds cn (n + 2) T) (I1 : Ok P w K mg base fn pss fds cn (n + 1) T1) {f : Addr} {cdv : Value} {A : Around} {outer : List PySem.Env} {s : Shared} {H : Hp} {E : XK}
    (hr : Room (n + 2) (A.deeper (PyProof.Rows.envOfC "Words.ahead" (defScope (inClass (top 20) 2)) s.heap.objs.size f cdv))) {W : WX} (tk : Takes (X10 P w K mg base f cdv A outer s H E) W)
    (hp : PassesOwn (model P w) (X10 P w K mg base f cdv A outer s H E).A (X10 P w K mg base f cdv A outer s H E).env (X10 P w K mg base f cdv A outer s H E).xe) :
    PSs (X10 P w K mg base f cdv A outer s H E) (defBody (inClass (top 20) 2)) (TS' cn K W (b10 T T1)) := by
  have hu := un200 hr
  have hu1 := un1 hr
  have hN : N10.Nodup := sc10.nd
  have hr2 : Room 2 (A.deeper (PyProof.Rows.envOfC "Words.ahead" (defScope (inClass (top 20) 2)) s.heap.objs.size f cdv)) := hr.mono (by omega)
  exact mss_cons (ms_set (i := 2) hN rfl (.inl rfl) (me_op m_add (me_fld q_30 V.fld_Words_place (me_var (i := 0) rfl (.inl rfl))) (me_var (i := 1) rfl (.inl rfl)))) (mss_one (ms_ret (me_if (mt_cmp (m_lt) (me_var (i := 2) rfl (.inl rfl)) (me_bi (mc_len) (by rfl) V.f0 (by kernel_rfl) (ma_cons (me_fld q_28 V.fld_Words_words (me_var (i := 0) rfl (.inl rfl))) (ma_nil)))) (me_ix (m_ix hu) (me_fld q_28 V.fld_Words_words (me_var (i := 0) rfl (.inl rfl))) (me_var (i := 2) rfl (.inl rfl)) (fun _ _ => by rfl)) (me_non))))
def N11 : List Str := ["self"]
theorem sc11 : FnScope N11 (pss 11) (defScope (inClass (top 20) 3)) := ⟨rfl, rfl, rfl, by decide +kernel, rfl, by decide +kernel, by decide +kernel⟩
def b11 (T T1 : Tbl) : S := sSeq (sIf (tBl (eBin oEq (eUn (getF [3] s_30) (eVar 0)) (eBi bLen (aCons (eUn (getF [3] s_28) (eVar 0)) (aNil))))) (sDrop (eMeth 1 3 s_32 (T 9) [] (eVar 0) (aNil))) (sNext)) (sSeq (sFldAug [3] s_30 (eVar 0) oIAdd (eC (.int 1))) (sRet (eBin oIx (eUn (getF [3] s_28) (eVar 0)) (eBin oSub (eUn (getF [3] s_30) (eVar 0)) (eC (.int 1))))))
abbrev X11 (P : Program) (w : World) (K : PySem.W.Frag) (mg : Str → Option Value) (base : Heap) (f : Addr) (cdv : Value) (A : Around) (outer : List PySem.Env) (s : Shared) (H : Hp) (E : XK) : Cx := cxOf (L2.CX P w) P w K mg base N11 "Words.take" (defScope (inClass (top 20) 3)) f cdv A outer s H E
theorem wk11 {P : Program} {w : World} {K : PySem.W.Frag} {mg : Str → Option Value} {base : Heap} {fds : Nat → FuncData} (V : Fx K mg base fds) {n : Nat} {T T1 : Tbl} (I : Ok P w K mg base fn pss fds cn (n + 2) T) (I1 : Ok P w K mg base fn pss fds cn (n + 1) T1) {f : Addr} {cdv : Value} {A : Around} {outer : List PySem.Env} {s : Shared} {H : Hp} {E : XK}
    (hr : Room (n + 2) (A.deeper (PyProof.Rows.envOfC "Words.take" (defScope (inClass (top 20) 3)) s.heap.objs.size f cdv))) {W : WX} (tk : Takes (X11 P w K mg base f cdv A outer s H E) W)
    (hp : PassesOwn (model P w) (X11 P w K mg base f cdv A outer s H E).A (X11 P w K mg base f cdv A outer s H E).env (X11 P w K mg base f cdv A outer s H E).xe) :
    PSs (X11 P w K mg base f cdv A outer s H E) (defBody (inClass (top 20) 3)) (TS' cn K W (b11 T T1)) := by
  have hu := un200 hr
  have hu1 := un1 hr
  have hN : N11.Nodup := sc11.nd
  have hr2 : Room 2 (A.deeper (PyProof.Rows.envOfC "Words.take" (defScope (inClass (top 20) 3)) s.heap.objs.size f cdv)) := hr.mono (by omega)
  exact mss_cons (ms_if (mt_cmp (m_eq hu) (me_fld q_30 V.fld_Words_place (me_var (i := 0) rfl (.inl rfl))) (me_bi (mc_len) (by rfl) V.f0 (by kernel_rfl) (ma_cons (me_fld q_28 V.fld_Words_words (me_var (i := 0) rfl (.inl rfl))) (ma_nil)))) (mss_one (ms_expr (me_meth0 (c := 3) q_32 (me_var (i := 0) rfl (.inl rfl)) V.c_Words V.m_Words_refuse (I 9 d9 rfl) hr V.b_9_1 tk))) (mss_nil)) (mss_cons (ms_fldaug q_30 V.fld_Words_place (me_var (i := 0) rfl (.inl rfl)) (me_int) m_iadd) (mss_one (ms_ret (me_ix (m_ix hu) (me_fld q_28 V.fld_Words_words (me_var (i := 0) rfl (.inl rfl))) (me_op m_sub (me_fld q_30 V.fld_Words_place (me_var (i := 0) rfl (.inl rfl))) (me_int)) (fun _ _ => by rfl)))))
def N12 : List Str := ["self", "word"]
theorem sc12 : FnScope N12 (pss 12) (defScope (inClass (top 20) 4)) := ⟨rfl, rfl, rfl, by decide +kernel, rfl, by decide +kernel, by decide +kernel⟩
def b12 (T T1 : Tbl) : S := sSeq (sIf (tBl (eBin oNe (eMeth 2 3 s_33 (T 10) [.int 0] (eVar 0) (aNil)) (eVar 1))) (sDrop (eMeth 1 3 s_32 (T 9) [] (eVar 0) (aNil))) (sNext)) (sFldAug [3] s_30 (eVar 0) oIAdd (eC (.int 1)))
abbrev X12 (P : Program) (w : World) (K : PySem.W.Frag) (mg : Str → Option Value) (base : Heap) (f : Addr) (cdv : Value) (A : Around) (outer : List PySem.Env) (s : Shared) (H : Hp) (E : XK) : Cx := cxOf (L2.CX P w) P w K mg base N12 "Words.just" (defScope (inClass (top 20) 4)) f cdv A outer s H E
theorem wk12 {P : Program} {w : World} {K : PySem.W.Frag} {mg : Str → Option Value} {base : Heap} {fds : Nat → FuncData} (V : Fx K mg base fds) {n : Nat} {T T1 : Tbl} (I : Ok P w K mg base fn pss fds cn (n + 2) T) (I1 : Ok P w K mg base fn pss fds cn (n + 1) T1) {f : Addr} {cdv : Value} {A : Around} {outer : List PySem.Env} {s : Shared} {H : Hp} {E : XK}
    (hr : Room (n + 2) (A.deeper (PyProof.Rows.envOfC "Words.just" (defScope (inClass (top 20) 4)) s.heap.objs.size f cdv))) {W : WX} (tk : Takes (X12 P w K mg base f cdv A outer s H E) W)
    (hp : PassesOwn (model P w) (X12 P w K mg base f cdv A outer s H E).A (X12 P w K mg base f cdv A outer s H E).env (X12 P w K mg base f cdv A outer s H E).xe) :
    PSs (X12 P w K mg base f cdv A outer s H E) (defBody (inClass (top 20) 4)) (TS' cn K W (b12 T T1)) := by
  have hu := un200 hr
  have hu1 := un1 hr
  have hN : N12.Nodup := sc12.nd
  have hr2 : Room 2 (A.deeper (PyProof.Rows.envOfC "Words.just" (defScope (inClass (top 20) 4)) s.heap.objs.size f cdv)) := hr.mono (by omega)
  exact mss_cons (ms_if (mt_cmp (m_ne hu) (me_meth0 (c := 3) q_33 (me_var (i := 0) rfl (.inl rfl)) V.c_Words V.m_Words_ahead (I 10 d10 rfl) hr V.b_10_1 tk) (me_var (i := 1) rfl (.inl rfl))) (mss_one (ms_expr (me_meth0 (c := 3) q_32 (me_var (i := 0) rfl (.inl rfl)) V.c_Words V.m_Words_refuse (I 9 d9 rfl) hr V.b_9_1 tk))) (mss_nil)) (mss_one (ms_fldaug q_30 V.fld_Words_place (me_var (i := 0) rfl (.inl rfl)) (me_int) m_iadd))
def N13 : List Str := ["self", "word"]
theorem sc13 : FnScope N13 (pss 13) (defScope (inClass (top 20) 5)) := ⟨rfl, rfl, rfl, by decide +kernel, rfl, by decide +kernel, by decide +kernel⟩
def b13 (T T1 : Tbl) : S := sSeq (sIf (tBl (eBin oNe (eMeth 2 3 s_33 (T 10) [.int 0] (eVar 0) (aNil)) (eVar 1))) (sRet (eC (.bl false))) (sNext)) (sSeq (sFldAug [3] s_30 (eVar 0) oIAdd (eC (.int 1))) (sRet (eC (.bl true))))
abbrev X13 (P : Program) (w : World) (K : PySem.W.Frag) (mg : Str → Option Value) (base : Heap) (f : Addr) (cdv : Value) (A : Around) (outer : List PySem.Env) (s : Shared) (H : Hp) (E : XK) : Cx := cxOf (L2.CX P w) P w K mg base N13 "Words.takes" (defScope (inClass (top 20) 5)) f cdv A outer s H E
theorem wk13 {P : Program} {w : World} {K : PySem.W.Frag} {mg : Str → Option Value} {base : Heap} {fds : Nat → FuncData} (V : Fx K mg base fds) {n : Nat} {T T1 : Tbl} (I : Ok P w K mg base fn pss fds cn (n + 2) T) (I1 : Ok P w K mg base fn pss fds cn (n + 1) T1) {f : Addr} {cdv : Value} {A : Around} {outer : List PySem.Env} {s : Shared} {H : Hp} {E : XK}
    (hr : Room (n + 2) (A.deeper (PyProof.Rows.envOfC "Words.takes" (defScope (inClass (top 20) 5)) s.heap.objs.size f cdv))) {W : WX} (tk : Takes (X13 P w K mg base f cdv A outer s H E) W)
    (hp : PassesOwn (model P w) (X13 P w K mg base f cdv A outer s H E).A (X13 P w K mg base f cdv A outer s H E).env (X13 P w K mg base f cdv A outer s H E).xe) :
    PSs (X13 P w K mg base f cdv A outer s H E) (defBody (inClass (top 20) 5)) (TS' cn K W (b13 T T1)) := by
  have hu := un200 hr
  have hu1 := un1 hr
  have hN : N13.Nodup := sc13.nd
  have hr2 : Room 2 (A.deeper (PyProof.Rows.envOfC "Words.takes" (defScope (inClass (top 20) 5)) s.heap.objs.size f cdv)) := hr.mono (by omega)
  exact mss_cons (ms_if (mt_cmp (m_ne hu) (me_meth0 (c := 3) q_33 (me_var (i := 0) rfl (.inl rfl)) V.c_Words V.m_Words_ahead (I 10 d10 rfl) hr V.b_10_1 tk) (me_var (i := 1) rfl (.inl rfl))) (mss_one (ms_ret (me_bl))) (mss_nil)) (mss_cons (ms_fldaug q_30 V.fld_Words_place (me_var (i := 0) rfl (.inl rfl)) (me_int) m_iadd) (mss_one (ms_ret (me_bl))))
def N14 : List Str := ["self"]
theorem sc14 : FnScope N14 (pss 14) (defScope (inClass (top 20) 6)) := ⟨rfl, rfl, rfl, by decide +kernel, rfl, by decide +kernel, by decide +kernel⟩
def b14 (T T1 : Tbl) : S := sSeq (sIf (tOr' (tBl (eBin oIs (eMeth 2 3 s_33 (T 10) [.int 0] (eVar 0) (aNil)) (eC .non))) (tNot' (tTru (eCall 1 (T 1) [] (aCons (eMeth 2 3 s_33 (T 10) [.int 0] (eVar 0) (aNil)) (aNil)))))) (sDrop (eMeth 1 3 s_32 (T 9) [] (eVar 0) (aNil))) (sNext)) (sRet (eMeth 1 3 s_34 (T 11) [] (eVar 0) (aNil)))
abbrev X14 (P : Program) (w : World) (K : PySem.W.Frag) (mg : Str → Option Value) (base : Heap) (f : Addr) (cdv : Value) (A : Around) (outer : List PySem.Env) (s : Shared) (H : Hp) (E : XK) : Cx := cxOf (L2.CX P w) P w K mg base N14 "Words.take_name" (defScope (inClass (top 20) 6)) f cdv A outer s H E
theorem wk14 {P : Program} {w : World} {K : PySem.W.Frag} {mg : Str → Option Value} {base : Heap} {fds : Nat → FuncData} (V : Fx K mg base fds) {n : Nat} {T T1 : Tbl} (I : Ok P w K mg base fn pss fds cn (n + 2) T) (I1 : Ok P w K mg base fn pss fds cn (n + 1) T1) {f : Addr} {cdv : Value} {A : Around} {outer : List PySem.Env} {s : Shared} {H : Hp} {E : XK}
    (hr : Room (n + 2) (A.deeper (PyProof.Rows.envOfC "Words.take_name" (defScope (inClass (top 20) 6)) s.heap.objs.size f cdv))) {W : WX} (tk : Takes (X14 P w K mg base f cdv A outer s H E) W)
    (hp : PassesOwn (model P w) (X14 P w K mg base f cdv A outer s H E).A (X14 P w K mg base f cdv A outer s H E).env (X14 P w K mg base f cdv A outer s H E).xe) :
    PSs (X14 P w K mg base f cdv A outer s H E) (defBody (inClass (top 20) 6)) (TS' cn K W (b14 T T1)) := by
  have hu := un200 hr
  have hu1 := un1 hr
  have hN : N14.Nodup := sc14.nd
  have hr2 : Room 2 (A.deeper (PyProof.Rows.envOfC "Words.take_name" (defScope (inClass (top 20) 6)) s.heap.objs.size f cdv)) := hr.mono (by omega)
  exact mss_cons (ms_if ((mw_or (mt_cmp (m_is) (me_meth0 (c := 3) q_33 (me_var (i := 0) rfl (.inl rfl)) V.c_Words V.m_Words_ahead (I 10 d10 rfl) hr V.b_10_1 tk) (me_non)) (mw_or1 (mt_not (mt_tru (me_call (I 1 d1 rfl) hr (by rfl) V.g_is_name (V.F 1 d1 rfl).kp V.b_1_1 tk (ma_cons (me_meth0 (c := 3) q_33 (me_var (i := 0) rfl (.inl rfl)) V.c_Words V.m_Words_ahead (I 10 d10 rfl) hr V.b_10_1 tk) (ma_nil))))))).pt) (mss_one (ms_expr (me_meth0 (c := 3) q_32 (me_var (i := 0) rfl (.inl rfl)) V.c_Words V.m_Words_refuse (I 9 d9 rfl) hr V.b_9_1 tk))) (mss_nil)) (mss_one (ms_ret (me_meth0 (c := 3) q_34 (me_var (i := 0) rfl (.inl rfl)) V.c_Words V.m_Words_take (I 11 d11 rfl) hr V.b_11_1 tk)))
def N15 : List Str := ["self"]
theorem sc15 : FnScope N15 (pss 15) (defScope (inClass (top 20) 7)) := ⟨rfl, rfl, rfl, by decide +kernel, rfl, by decide +kernel, by decide +kernel⟩
def b15 (T T1 : Tbl) : S := sSeq (sIf (tOr' (tBl (eBin oIs (eMeth 2 3 s_33 (T 10) [.int 0] (eVar 0) (aNil)) (eC .non))) (tNot' (tTru (eCall 1 (T 2) [] (aCons (eMeth 2 3 s_33 (T 10) [.int 0] (eVar 0) (aNil)) (aNil)))))) (sDrop (eMeth 1 3 s_32 (T 9) [] (eVar 0) (aNil))) (sNext)) (sRet (eMeth 1 3 s_34 (T 11) [] (eVar 0) (aNil)))
abbrev X15 (P : Program) (w : World) (K : PySem.W.Frag) (mg : Str → Option Value) (base : Heap) (f : Addr) (cdv : Value) (A : Around) (outer : List PySem.Env) (s : Shared) (H : Hp) (E : XK) : Cx := cxOf (L2.CX P w) P w K mg base N15 "Words.take_tag" (defScope (inClass (top 20) 7)) f cdv A outer s H E
theorem wk15 {P : Program} {w : World} {K : PySem.W.Frag} {mg : Str → Option Value} {base : Heap} {fds : Nat → FuncData} (V : Fx K mg base fds) {n : Nat} {T T1 : Tbl} (I : Ok P w K mg base fn pss fds cn (n + 2) T) (I1 : Ok P w K mg base fn pss fds cn (n + 1) T1) {f : Addr} {cdv : Value} {A : Around} {outer : List PySem.Env} {s : Shared} {H : Hp} {E : XK}
    (hr : Room (n + 2) (A.deeper (PyProof.Rows.envOfC "Words.take_tag" (defScope (inClass (top 20) 7)) s.heap.objs.size f cdv))) {W : WX} (tk : Takes (X15 P w K mg base f cdv A outer s H E) W)
    (hp : PassesOwn (model P w) (X15 P w K mg base f cdv A outer s H E).A (X15 P w K mg base f cdv A outer s H E).env (X15 P w K mg base f cdv A outer s H E).xe) :
    PSs (X15 P w K mg base f cdv A outer s H E) (defBody (inClass (top 20) 7)) (TS' cn K W (b15 T T1)) := by
  have hu := un200 hr
  have hu1 := un1 hr
  have hN : N15.Nodup := sc15.nd
  have hr2 : Room 2 (A.deeper (PyProof.Rows.envOfC "Words.take_tag" (defScope (inClass (top 20) 7)) s.heap.objs.size f cdv)) := hr.mono (by omega)
  exact mss_cons (ms_if ((mw_or (mt_cmp (m_is) (me_meth0 (c := 3) q_33 (me_var (i := 0) rfl (.inl rfl)) V.c_Words V.m_Words_ahead (I 10 d10 rfl) hr V.b_10_1 tk) (me_non)) (mw_or1 (mt_not (mt_tru (me_call (I 2 d2 rfl) hr (by rfl) V.g_is_tag (V.F 2 d2 rfl).kp V.b_2_1 tk (ma_cons (me_meth0 (c := 3) q_33 (me_var (i := 0) rfl (.inl rfl)) V.c_Words V.m_Words_ahead (I 10 d10 rfl) hr V.b_10_1 tk) (ma_nil))))))).pt) (mss_one (ms_expr (me_meth0 (c := 3) q_32 (me_var (i := 0) rfl (.inl rfl)) V.c_Words V.m_Words_refuse (I 9 d9 rfl) hr V.b_9_1 tk))) (mss_nil)) (mss_one (ms_ret (me_meth0 (c := 3) q_34 (me_var (i := 0) rfl (.inl rfl)) V.c_Words V.m_Words_take (I 11 d11 rfl) hr V.b_11_1 tk)))
def N16 : List Str := ["self"]
theorem sc16 : FnScope N16 (pss 16) (defScope (inClass (top 20) 8)) := ⟨rfl, rfl, rfl, by decide +kernel, rfl, by decide +kernel, by decide +kernel⟩
def b16 (T T1 : Tbl) : S := sSeq (sIf (tOr' (tBl (eBin oIs (eMeth 2 3 s_33 (T 10) [.int 0] (eVar 0) (aNil)) (eC .non))) (tNot' (tTru (eCall 1 (T 3) [] (aCons (eMeth 2 3 s_33 (T 10) [.int 0] (eVar 0) (aNil)) (aNil)))))) (sDrop (eMeth 1 3 s_32 (T 9) [] (eVar 0) (aNil))) (sNext)) (sRet (eBi bInt (aCons (eMeth 1 3 s_34 (T 11) [] (eVar 0) (aNil)) (aNil))))
abbrev X16 (P : Program) (w : World) (K : PySem.W.Frag) (mg : Str → Option Value) (base : Heap) (f : Addr) (cdv : Value) (A : Around) (outer : List PySem.Env) (s : Shared) (H : Hp) (E : XK) : Cx := cxOf (L2.CX P w) P w K mg base N16 "Words.take_number" (defScope (inClass (top 20) 8)) f cdv A outer s H E
theorem wk16 {P : Program} {w : World} {K : PySem.W.Frag} {mg : Str → Option Value} {base : Heap} {fds : Nat → FuncData} (V : Fx K mg base fds) {n : Nat} {T T1 : Tbl} (I : Ok P w K mg base fn pss fds cn (n + 2) T) (I1 : Ok P w K mg base fn pss fds cn (n + 1) T1) {f : Addr} {cdv : Value} {A : Around} {outer : List PySem.Env} {s : Shared} {H : Hp} {E : XK}
    (hr : Room (n + 2) (A.deeper (PyProof.Rows.envOfC "Words.take_number" (defScope (inClass (top 20) 8)) s.heap.objs.size f cdv))) {W : WX} (tk : Takes (X16 P w K mg base f cdv A outer s H E) W)
    (hp : PassesOwn (model P w) (X16 P w K mg base f cdv A outer s H E).A (X16 P w K mg base f cdv A outer s H E).env (X16 P w K mg base f cdv A outer s H E).xe) :
    PSs (X16 P w K mg base f cdv A outer s H E) (defBody (inClass (top 20) 8)) (TS' cn K W (b16 T T1)) := by
  have hu := un200 hr
  have hu1 := un1 hr
  have hN : N16.Nodup := sc16.nd
  have hr2 : Room 2 (A.deeper (PyProof.Rows.envOfC "Words.take_number" (defScope (inClass (top 20) 8)) s.heap.objs.size f cdv)) := hr.mono (by omega)
  exact mss_cons (ms_if ((mw_or (mt_cmp (m_is) (me_meth0 (c := 3) q_33 (me_var (i := 0) rfl (.inl rfl)) V.c_Words V.m_Words_ahead (I 10 d10 rfl) hr V.b_10_1 tk) (me_non)) (mw_or1 (mt_not (mt_tru (me_call (I 3 d3 rfl) hr (by rfl) V.g_is_number (V.F 3 d3 rfl).kp V.b_3_1 tk (ma_cons (me_meth0 (c := 3) q_33 (me_var (i := 0) rfl (.inl rfl)) V.c_Words V.m_Words_ahead (I 10 d10 rfl) hr V.b_10_1 tk) (ma_nil))))))).pt) (mss_one (ms_expr (me_meth0 (c := 3) q_32 (me_var (i := 0) rfl (.inl rfl)) V.c_Words V.m_Words_refuse (I 9 d9 rfl) hr V.b_9_1 tk))) (mss_nil)) (mss_one (ms_ret (me_ty (mc_int) (by rfl) V.f30 (by kernel_rfl) (ma_cons (me_meth0 (c := 3) q_34 (me_var (i := 0) rfl (.inl rfl)) V.c_Words V.m_Words_take (I 11 d11 rfl) hr V.b_11_1 tk) (ma_nil)))))
def N17 : List Str := ["self"]
theorem sc17 : FnScope N17 (pss 17) (defScope (inClass (top 20) 9)) := ⟨rfl, rfl, rfl, by decide +kernel, rfl, by decide +kernel, by decide +kernel⟩
def b17 (T T1 : Tbl) : S := sIf (tBl (eBin oLt (eUn (getF [3] s_30) (eVar 0)) (eBi bLen (aCons (eUn (getF [3] s_28) (eVar 0)) (aNil))))) (sDrop (eMeth 1 3 s_32 (T 9) [] (eVar 0) (aNil))) (sNext)
abbrev X17 (P : Program) (w : World) (K : PySem.W.Frag) (mg : Str → Option Value) (base : Heap) (f : Addr) (cdv : Value) (A : Around) (outer : List PySem.Env) (s : Shared) (H : Hp) (E : XK) : Cx := cxOf (L2.CX P w) P w K mg base N17 "Words.end" (defScope (inClass (top 20) 9)) f cdv A outer s H E
theorem wk17 {P : Program} {w : World} {K : PySem.W.Frag} {mg : Str → Option Value} {base : Heap} {fds : Nat → FuncData} (V : Fx K mg base fds) {n : Nat} {T T1 : Tbl} (I : Ok P w K mg base fn pss fds cn (n + 2) T) (I1 : Ok P w K mg base fn pss fds cn (n + 1) T1) {f : Addr} {cdv : Value} {A : Around} {outer : List PySem.Env} {s : Shared} {H : Hp} {E : XK}
    (hr : Room (n + 2) (A.deeper (PyProof.Rows.envOfC "Words.end" (defScope (inClass (top 20) 9)) s.heap.objs.size f cdv))) {W : WX} (tk : Takes (X17 P w K mg base f cdv A outer s H E) W)
    (hp : PassesOwn (model P w) (X17 P w K mg base f cdv A outer s H E).A (X17 P w K mg base f cdv A outer s H E).env (X17 P w K mg base f cdv A outer s H E).xe) :
    PSs (X17 P w K mg base f cdv A outer s H E) (defBody (inClass (top 20) 9)) (TS' cn K W (b17 T T1)) := by
  have hu := un200 hr
  have hu1 := un1 hr
  have hN : N17.Nodup := sc17.nd
  have hr2 : Room 2 (A.deeper (PyProof.Rows.envOfC "Words.end" (defScope (inClass (top 20) 9)) s.heap.objs.size f cdv)) := hr.mono (by omega)
  exact mss_one (ms_if (mt_cmp (m_lt) (me_fld q_30 V.fld_Words_place (me_var (i := 0) rfl (.inl rfl))) (me_bi (mc_len) (by rfl) V.f0 (by kernel_rfl) (ma_cons (me_fld q_28 V.fld_Words_words (me_var (i := 0) rfl (.inl rfl))) (ma_nil)))) (mss_one (ms_expr (me_meth0 (c := 3) q_32 (me_var (i := 0) rfl (.inl rfl)) V.c_Words V.m_Words_refuse (I 9 d9 rfl) hr V.b_9_1 tk))) (mss_nil))
def N18 : List Str := ["self", "words", "known"]
theorem sc18 : FnScope N18 (pss 18) (defScope (inClass (top 23) 0)) := ⟨rfl, rfl, rfl, by decide +kernel, rfl, by decide +kernel, by decide +kernel⟩
def b18 (T T1 : Tbl) : S := sSeq (sFld [4] s_28 (eVar 0) (eVar 1)) (sSeq (sFld [4] s_35 (eVar 0) (eBi bList (aCons (eVar 2) (aNil)))) (sFld [4] s_36 (eVar 0) (eC (.int 0))))
abbrev X18 (P : Program) (w : World) (K : PySem.W.Frag) (mg : Str → Option Value) (base : Heap) (f : Addr) (cdv : Value) (A : Around) (outer : List PySem.Env) (s : Shared) (H : Hp) (E : XK) : Cx := cxOf (L2.CX P w) P w K mg base N18 "Reader.__init__" (defScope (inClass (top 23) 0)) f cdv A outer s H E
theorem wk18 {P : Program} {w : World} {K : PySem.W.Frag} {mg : Str → Option Value} {base : Heap} {fds : Nat → FuncData} (V : Fx K mg base fds) {n : Nat} {T T1 : Tbl} (I : Ok P w K mg base fn pss fds cn (n + 2) T) (I1 : Ok P w K mg base fn pss fds cn (n + 1) T1) {f : Addr} {cdv : Value} {A : Around} {outer : List PySem.Env} {s : Shared} {H : Hp} {E : XK}
    (hr : Room (n + 2) (A.deeper (PyProof.Rows.envOfC "Reader.__init__" (defScope (inClass (top 23) 0)) s.heap.objs.size f cdv))) {W : WX} (tk : Takes (X18 P w K mg base f cdv A outer s H E) W)
    (hp : PassesOwn (model P w) (X18 P w K mg base f cdv A outer s H E).A (X18 P w K mg base f cdv A outer s H E).env (X18 P w K mg base f cdv A outer s H E).xe) :
    PSs (X18 P w K mg base f cdv A outer s H E) (defBody (inClass (top 23) 0)) (TS' cn K W (b18 T T1)) := by
  have hu := un200 hr
  have hu1 := un1 hr
  have hN : N18.Nodup := sc18.nd
  have hr2 : Room 2 (A.deeper (PyProof.Rows.envOfC "Reader.__init__" (defScope (inClass (top 23) 0)) s.heap.objs.size f cdv)) := hr.mono (by omega)
  exact mss_cons (ms_fld q_28 V.fld_Reader_words (me_var (i := 0) rfl (.inl rfl)) (me_var (i := 1) rfl (.inl rfl))) (mss_cons (ms_fld q_35 V.fld_Reader_known (me_var (i := 0) rfl (.inl rfl)) (me_ty (mc_list) (by rfl) V.f33 (by kernel_rfl) (ma_cons (me_var (i := 2) rfl (.inl rfl)) (ma_nil)))) (mss_one (ms_fld q_36 V.fld_Reader_deep (me_var (i := 0) rfl (.inl rfl)) (me_int))))
def N19 : List Str := ["self", "ahead", "found"]
theorem sc19 : FnScope N19 (pss 19) (defScope (inClass (top 23) 1)) := ⟨rfl, rfl, rfl, by decide +kernel, rfl, by decide +kernel, by decide +kernel⟩
def b19 (T T1 : Tbl) : S := sSeq (sFldAug [4] s_36 (eVar 0) oIAdd (eC (.int 1))) (sSeq (sIf (tBl (eBin oGt (eUn (getF [4] s_36) (eVar 0)) (eC c_DEEP_MOST))) (sRaise (xMk0 2)) (sNext)) (sSeq (sSet 1 (eMeth 2 3 s_33 (T 10) [.int 0] (eUn (getF [4] s_28) (eVar 0)) (aNil))) (sSeq (sIf (tBl (eBin oEq (eVar 1) (eC (.str s_2)))) (sSet 2 (eMeth 1 4 s_37 (T 21) [] (eVar 0) (aNil))) (sIf (tBl (eBin oEq (eVar 1) (eC (.str s_3)))) (sSet 2 (eMeth 1 4 s_38 (T 22) [] (eVar 0) (aNil))) (sIf (tBl (eBin oEq (eVar 1) (eC (.str s_4)))) (sSet 2 (eMeth 1 4 s_39 (T 23) [] (eVar 0) (aNil))) (sIf (tBl (eBin oEq (eVar 1) (eC (.str s_6)))) (sSet 2 (eMeth 1 4 s_40 (T 24) [] (eVar 0) (aNil))) (sSet 2 (eMeth 1 4 s_41 (T 25) [] (eVar 0) (aNil))))))) (sSeq (sFldAug [4] s_36 (eVar 0) oISub (eC (.int 1))) (sRet (eVar 2))))))
abbrev X19 (P : Program) (w : World) (K : PySem.W.Frag) (mg : Str → Option Value) (base : Heap) (f : Addr) (cdv : Value) (A : Around) (outer : List PySem.Env) (s : Shared) (H : Hp) (E : XK) : Cx := cxOf (L2.CX P w) P w K mg base N19 "Reader.expression" (defScope (inClass (top 23) 1)) f cdv A outer s H E
theorem wk19 {P : Program} {w : World} {K : PySem.W.Frag} {mg : Str → Option Value} {base : Heap} {fds : Nat → FuncData} (V : Fx K mg base fds) {n : Nat} {T T1 : Tbl} (I : Ok P w K mg base fn pss fds cn (n + 2) T) (I1 : Ok P w K mg base fn pss fds cn (n + 1) T1) {f : Addr} {cdv : Value} {A : Around} {outer : List PySem.Env} {s : Shared} {H : Hp} {E : XK}
    (hr : Room (n + 2) (A.deeper (PyProof.Rows.envOfC "Reader.expression" (defScope (inClass (top 23) 1)) s.heap.objs.size f cdv))) {W : WX} (tk : Takes (X19 P w K mg base f cdv A outer s H E) W)
    (hp : PassesOwn (model P w) (X19 P w K mg base f cdv A outer s H E).A (X19 P w K mg base f cdv A outer s H E).env (X19 P w K mg base f cdv A outer s H E).xe) :
    PSs (X19 P w K mg base f cdv A outer s H E) (defBody (inClass (top 23) 1)) (TS' cn K W (b19 T T1)) := by
  have hu := un200 hr
  have hu1 := un1 hr
  have hN : N19.Nodup := sc19.nd
  have hr2 : Room 2 (A.deeper (PyProof.Rows.envOfC "Reader.expression" (defScope (inClass (top 23) 1)) s.heap.objs.size f cdv)) := hr.mono (by omega)
  obtain ⟨t_DEEP_MOST, h_DEEP_MOST⟩ := V.gi_DEEP_MOST
  exact mss_cons (ms_fldaug q_36 V.fld_Reader_deep (me_var (i := 0) rfl (.inl rfl)) (me_int) m_iadd) (mss_cons (ms_if (mt_cmp (m_gt) (me_fld q_36 V.fld_Reader_deep (me_var (i := 0) rfl (.inl rfl))) (me_glob (v := c_DEEP_MOST) (z := .int 60) (by rfl) h_DEEP_MOST ⟨_, rfl⟩ (fun H ρ n => .int _))) (mss_one (ms_raise rfl tk (mx_own0 (c := 2) PySem.F.excBase_ValueError V.e_TooLarge.1 V.g_TooLarge V.e_TooLarge.2.1 (raises_own V.e_TooLarge.2.2.1 V.e_TooLarge.2.2.2) (by rfl)))) (mss_nil)) (mss_cons (ms_set (i := 1) hN rfl (.inl rfl) (me_meth0 (c := 3) q_33 (me_fld q_28 V.fld_Reader_words (me_var (i := 0) rfl (.inl rfl))) V.c_Words V.m_Words_ahead (I 10 d10 rfl) hr V.b_10_1 tk)) (mss_cons (ms_if (mt_cmp (m_eq hu) (me_var (i := 1) rfl (.inl rfl)) (me_str q_2)) (mss_one (ms_set (i := 2) hN rfl (.inl rfl) (me_meth0 (c := 4) q_37 (me_var (i := 0) rfl (.inl rfl)) V.c_Reader V.m_Reader__fn (I 21 d21 rfl) hr V.b_21_1 tk))) (mss_one (ms_if (mt_cmp (m_eq hu) (me_var (i := 1) rfl (.inl rfl)) (me_str q_3)) (mss_one (ms_set (i := 2) hN rfl (.inl rfl) (me_meth0 (c := 4) q_38 (me_var (i := 0) rfl (.inl rfl)) V.c_Reader V.m_Reader__fix (I 22 d22 rfl) hr V.b_22_1 tk))) (mss_one (ms_if (mt_cmp (m_eq hu) (me_var (i := 1) rfl (.inl rfl)) (me_str q_4)) (mss_one (ms_set (i := 2) hN rfl (.inl rfl) (me_meth0 (c := 4) q_39 (me_var (i := 0) rfl (.inl rfl)) V.c_Reader V.m_Reader__let (I 23 d23 rfl) hr V.b_23_1 tk))) (mss_one (ms_if (mt_cmp (m_eq hu) (me_var (i := 1) rfl (.inl rfl)) (me_str q_6)) (mss_one (ms_set (i := 2) hN rfl (.inl rfl) (me_meth0 (c := 4) q_40 (me_var (i := 0) rfl (.inl rfl)) V.c_Reader V.m_Reader__match (I 24 d24 rfl) hr V.b_24_1 tk))) (mss_one (ms_set (i := 2) hN rfl (.inl rfl) (me_meth0 (c := 4) q_41 (me_var (i := 0) rfl (.inl rfl)) V.c_Reader V.m_Reader__less (I 25 d25 rfl) hr V.b_25_1 tk)))))))))) (mss_cons (ms_fldaug q_36 V.fld_Reader_deep (me_var (i := 0) rfl (.inl rfl)) (me_int) m_isub) (mss_one (ms_ret (me_var (i := 2) rfl (.inl rfl))))))))
def N20 : List Str := ["self", "names", "before", "found"]
theorem sc20 : FnScope N20 (pss 20) (defScope (inClass (top 23) 2)) := ⟨rfl, rfl, rfl, by decide +kernel, rfl, by decide +kernel, by decide +kernel⟩
def b20 (T T1 : Tbl) : S := sSeq (sSet 2 (eUn (getF [4] s_35) (eVar 0))) (sSeq (sFld [4] s_35 (eVar 0) (eBin oAdd (eVar 2) (eBi bList (aCons (eVar 1) (aNil))))) (sSeq (sSet 3 (eMeth 1 4 s_42 (T 19) [] (eVar 0) (aNil))) (sSeq (sFld [4] s_35 (eVar 0) (eVar 2)) (sRet (eVar 3)))))
abbrev X20 (P : Program) (w : World) (K : PySem.W.Frag) (mg : Str → Option Value) (base : Heap) (f : Addr) (cdv : Value) (A : Around) (outer : List PySem.Env) (s : Shared) (H : Hp) (E : XK) : Cx := cxOf (L2.CX P w) P w K mg base N20 "Reader._within" (defScope (inClass (top 23) 2)) f cdv A outer s H E
theorem wk20 {P : Program} {w : World} {K : PySem.W.Frag} {mg : Str → Option Value} {base : Heap} {fds : Nat → FuncData} (V : Fx K mg base fds) {n : Nat} {T T1 : Tbl} (I : Ok P w K mg base fn pss fds cn (n + 2) T) (I1 : Ok P w K mg base fn pss fds cn (n + 1) T1) {f : Addr} {cdv : Value} {A : Around} {outer : List PySem.Env} {s : Shared} {H : Hp} {E : XK}
    (hr : Room (n + 2) (A.deeper (PyProof.Rows.envOfC "Reader._within" (defScope (inClass (top 23) 2)) s.heap.objs.size f cdv))) {W : WX} (tk : Takes (X20 P w K mg base f cdv A outer s H E) W)
    (hp : PassesOwn (model P w) (X20 P w K mg base f cdv A outer s H E).A (X20 P w K mg base f cdv A outer s H E).env (X20 P w K mg base f cdv A outer s H E).xe) :
    PSs (X20 P w K mg base f cdv A outer s H E) (defBody (inClass (top 23) 2)) (TS' cn K W (b20 T T1)) := by
  have hu := un200 hr
  have hu1 := un1 hr
  have hN : N20.Nodup := sc20.nd
  have hr2 : Room 2 (A.deeper (PyProof.Rows.envOfC "Reader._within" (defScope (inClass (top 23) 2)) s.heap.objs.size f cdv)) := hr.mono (by omega)
  exact mss_cons (ms_set (i := 2) hN rfl (.inl rfl) (me_fld q_35 V.fld_Reader_known (me_var (i := 0) rfl (.inl rfl)))) (mss_cons (ms_fld q_35 V.fld_Reader_known (me_var (i := 0) rfl (.inl rfl)) (me_op m_add (me_var (i := 2) rfl (.inl rfl)) (me_ty (mc_list) (by rfl) V.f33 (by kernel_rfl) (ma_cons (me_var (i := 1) rfl (.inl rfl)) (ma_nil))))) (mss_cons (ms_set (i := 3) hN rfl (.inl rfl) (me_meth0 (c := 4) q_42 (me_var (i := 0) rfl (.inl rfl)) V.c_Reader V.m_Reader_expression (I 19 d19 rfl) hr V.b_19_1 tk)) (mss_cons (ms_fld q_35 V.fld_Reader_known (me_var (i := 0) rfl (.inl rfl)) (me_var (i := 2) rfl (.inl rfl))) (mss_one (ms_ret (me_var (i := 3) rfl (.inl rfl)))))))
def N21 : List Str := ["self", "name"]
theorem sc21 : FnScope N21 (pss 21) (defScope (inClass (top 23) 3)) := ⟨rfl, rfl, rfl, by decide +kernel, rfl, by decide +kernel, by decide +kernel⟩
def b21 (T T1 : Tbl) : S := sSeq (sDrop (eMeth 2 3 s_43 (T 12) [] (eUn (getF [4] s_28) (eVar 0)) (aCons (eC (.str s_2)) (aNil)))) (sSeq (sSet 1 (eMeth 1 3 s_44 (T 14) [] (eUn (getF [4] s_28) (eVar 0)) (aNil))) (sSeq (sDrop (eMeth 2 3 s_43 (T 12) [] (eUn (getF [4] s_28) (eVar 0)) (aCons (eC (.str s_45)) (aNil)))) (sRet (eTup (aCons (eC (.str s_2)) (aCons (eVar 1) (aCons (eMeth 2 4 s_46 (T 20) [] (eVar 0) (aCons (eLst (aCons (eVar 1) (aNil))) (aNil))) (aNil))))))))
abbrev X21 (P : Program) (w : World) (K : PySem.W.Frag) (mg : Str → Option Value) (base : Heap) (f : Addr) (cdv : Value) (A : Around) (outer : List PySem.Env) (s : Shared) (H : Hp) (E : XK) : Cx := cxOf (L2.CX P w) P w K mg base N21 "Reader._fn" (defScope (inClass (top 23) 3)) f cdv A outer s H E
theorem wk21 {P : Program} {w : World} {K : PySem.W.Frag} {mg : Str → Option Value} {base : Heap} {fds : Nat → FuncData} (V : Fx K mg base fds) {n : Nat} {T T1 : Tbl} (I : Ok P w K mg base fn pss fds cn (n + 2) T) (I1 : Ok P w K mg base fn pss fds cn (n + 1) T1) {f : Addr} {cdv : Value} {A : Around} {outer : List PySem.Env} {s : Shared} {H : Hp} {E : XK}
    (hr : Room (n + 2) (A.deeper (PyProof.Rows.envOfC "Reader._fn" (defScope (inClass (top 23) 3)) s.heap.objs.size f cdv))) {W : WX} (tk : Takes (X21 P w K mg base f cdv A outer s H E) W)
    (hp : PassesOwn (model P w) (X21 P w K mg base f cdv A outer s H E).A (X21 P w K mg base f cdv A outer s H E).env (X21 P w K mg base f cdv A outer s H E).xe) :
    PSs (X21 P w K mg base f cdv A outer s H E) (defBody (inClass (top 23) 3)) (TS' cn K W (b21 T T1)) := by
  have hu := un200 hr
  have hu1 := un1 hr
  have hN : N21.Nodup := sc21.nd
  have hr2 : Room 2 (A.deeper (PyProof.Rows.envOfC "Reader._fn" (defScope (inClass (top 23) 3)) s.heap.objs.size f cdv)) := hr.mono (by omega)
  exact mss_cons (ms_expr (me_meth (c := 3) q_43 (me_fld q_28 V.fld_Reader_words (me_var (i := 0) rfl (.inl rfl))) V.c_Words V.m_Words_just (I 12 d12 rfl) hr V.b_12_2 tk (ma_cons (me_str q_2) (ma_nil)))) (mss_cons (ms_set (i := 1) hN rfl (.inl rfl) (me_meth0 (c := 3) q_44 (me_fld q_28 V.fld_Reader_words (me_var (i := 0) rfl (.inl rfl))) V.c_Words V.m_Words_take_name (I 14 d14 rfl) hr V.b_14_1 tk)) (mss_cons (ms_expr (me_meth (c := 3) q_43 (me_fld q_28 V.fld_Reader_words (me_var (i := 0) rfl (.inl rfl))) V.c_Words V.m_Words_just (I 12 d12 rfl) hr V.b_12_2 tk (ma_cons (me_str q_45) (ma_nil)))) (mss_one (ms_ret (me_tup (ma_cons (me_str q_2) (ma_cons (me_var (i := 1) rfl (.inl rfl)) (ma_cons (me_meth (c := 4) q_46 (me_var (i := 0) rfl (.inl rfl)) V.c_Reader V.m_Reader__within (I 20 d20 rfl) hr V.b_20_2 tk (ma_cons (me_lst (ma_cons (me_var (i := 1) rfl (.inl rfl)) (ma_nil))) (ma_nil))) (ma_nil)))))))))
def N22 : List Str := ["self", "own", "name"]
theorem sc22 : FnScope N22 (pss 22) (defScope (inClass (top 23) 4)) := ⟨rfl, rfl, rfl, by decide +kernel, rfl, by decide +kernel, by decide +kernel⟩
def b22 (T T1 : Tbl) : S := sSeq (sDrop (eMeth 2 3 s_43 (T 12) [] (eUn (getF [4] s_28) (eVar 0)) (aCons (eC (.str s_3)) (aNil)))) (sSeq (sSet 1 (eMeth 1 3 s_44 (T 14) [] (eUn (getF [4] s_28) (eVar 0)) (aNil))) (sSeq (sIf (tBl (eBin oEq (eMeth 2 3 s_33 (T 10) [.int 0] (eUn (getF [4] s_28) (eVar 0)) (aNil)) (eVar 1))) (sDrop (eMeth 1 3 s_32 (T 9) [] (eUn (getF [4] s_28) (eVar 0)) (aNil))) (sNext)) (sSeq (sSet 2 (eMeth 1 3 s_44 (T 14) [] (eUn (getF [4] s_28) (eVar 0)) (aNil))) (sSeq (sDrop (eMeth 2 3 s_43 (T 12) [] (eUn (getF [4] s_28) (eVar 0)) (aCons (eC (.str s_45)) (aNil)))) (sRet (eTup (aCons (eC (.str s_3)) (aCons (eVar 1) (aCons (eVar 2) (aCons (eMeth 2 4 s_46 (T 20) [] (eVar 0) (aCons (eLst (aCons (eVar 1) (aCons (eVar 2) (aNil)))) (aNil))) (aNil)))))))))))
abbrev X22 (P : Program) (w : World) (K : PySem.W.Frag) (mg : Str → Option Value) (base : Heap) (f : Addr) (cdv : Value) (A : Around) (outer : List PySem.Env) (s : Shared) (H : Hp) (E : XK) : Cx := cxOf (L2.CX P w) P w K mg base N22 "Reader._fix" (defScope (inClass (top 23) 4)) f cdv A outer s H E
theorem wk22 {P : Program} {w : World} {K : PySem.W.Frag} {mg : Str → Option Value} {base : Heap} {fds : Nat → FuncData} (V : Fx K mg base fds) {n : Nat} {T T1 : Tbl} (I : Ok P w K mg base fn pss fds cn (n + 2) T) (I1 : Ok P w K mg base fn pss fds cn (n + 1) T1) {f : Addr} {cdv : Value} {A : Around} {outer : List PySem.Env} {s : Shared} {H : Hp} {E : XK}
    (hr : Room (n + 2) (A.deeper (PyProof.Rows.envOfC "Reader._fix" (defScope (inClass (top 23) 4)) s.heap.objs.size f cdv))) {W : WX} (tk : Takes (X22 P w K mg base f cdv A outer s H E) W)
    (hp : PassesOwn (model P w) (X22 P w K mg base f cdv A outer s H E).A (X22 P w K mg base f cdv A outer s H E).env (X22 P w K mg base f cdv A outer s H E).xe) :
    PSs (X22 P w K mg base f cdv A outer s H E) (defBody (inClass (top 23) 4)) (TS' cn K W (b22 T T1)) := by
  have hu := un200 hr
  have hu1 := un1 hr
  have hN : N22.Nodup := sc22.nd
  have hr2 : Room 2 (A.deeper (PyProof.Rows.envOfC "Reader._fix" (defScope (inClass (top 23) 4)) s.heap.objs.size f cdv)) := hr.mono (by omega)
  exact mss_cons (ms_expr (me_meth (c := 3) q_43 (me_fld q_28 V.fld_Reader_words (me_var (i := 0) rfl (.inl rfl))) V.c_Words V.m_Words_just (I 12 d12 rfl) hr V.b_12_2 tk (ma_cons (me_str q_3) (ma_nil)))) (mss_cons (ms_set (i := 1) hN rfl (.inl rfl) (me_meth0 (c := 3) q_44 (me_fld q_28 V.fld_Reader_words (me_var (i := 0) rfl (.inl rfl))) V.c_Words V.m_Words_take_name (I 14 d14 rfl) hr V.b_14_1 tk)) (mss_cons (ms_if (mt_cmp (m_eq hu) (me_meth0 (c := 3) q_33 (me_fld q_28 V.fld_Reader_words (me_var (i := 0) rfl (.inl rfl))) V.c_Words V.m_Words_ahead (I 10 d10 rfl) hr V.b_10_1 tk) (me_var (i := 1) rfl (.inl rfl))) (mss_one (ms_expr (me_meth0 (c := 3) q_32 (me_fld q_28 V.fld_Reader_words (me_var (i := 0) rfl (.inl rfl))) V.c_Words V.m_Words_refuse (I 9 d9 rfl) hr V.b_9_1 tk))) (mss_nil)) (mss_cons (ms_set (i := 2) hN rfl (.inl rfl) (me_meth0 (c := 3) q_44 (me_fld q_28 V.fld_Reader_words (me_var (i := 0) rfl (.inl rfl))) V.c_Words V.m_Words_take_name (I 14 d14 rfl) hr V.b_14_1 tk)) (mss_cons (ms_expr (me_meth (c := 3) q_43 (me_fld q_28 V.fld_Reader_words (me_var (i := 0) rfl (.inl rfl))) V.c_Words V.m_Words_just (I 12 d12 rfl) hr V.b_12_2 tk (ma_cons (me_str q_45) (ma_nil)))) (mss_one (ms_ret (me_tup (ma_cons (me_str q_3) (ma_cons (me_var (i := 1) rfl (.inl rfl)) (ma_cons (me_var (i := 2) rfl (.inl rfl)) (ma_cons (me_meth (c := 4) q_46 (me_var (i := 0) rfl (.inl rfl)) V.c_Reader V.m_Reader__within (I 20 d20 rfl) hr V.b_20_2 tk (ma_cons (me_lst (ma_cons (me_var (i := 1) rfl (.inl rfl)) (ma_cons (me_var (i := 2) rfl (.inl rfl)) (ma_nil)))) (ma_nil))) (ma_nil))))))))))))
def N23 : List Str := ["self", "name", "bound"]
theorem sc23 : FnScope N23 (pss 23) (defScope (inClass (top 23) 5)) := ⟨rfl, rfl, rfl, by decide +kernel, rfl, by decide +kernel, by decide +kernel⟩
def b23 (T T1 : Tbl) : S := sSeq (sDrop (eMeth 2 3 s_43 (T 12) [] (eUn (getF [4] s_28) (eVar 0)) (aCons (eC (.str s_4)) (aNil)))) (sSeq (sSet 1 (eMeth 1 3 s_44 (T 14) [] (eUn (getF [4] s_28) (eVar 0)) (aNil))) (sSeq (sDrop (eMeth 2 3 s_43 (T 12) [] (eUn (getF [4] s_28) (eVar 0)) (aCons (eC (.str s_47)) (aNil)))) (sSeq (sSet 2 (eMeth 1 4 s_42 (T 19) [] (eVar 0) (aNil))) (sSeq (sDrop (eMeth 2 3 s_43 (T 12) [] (eUn (getF [4] s_28) (eVar 0)) (aCons (eC (.str s_5)) (aNil)))) (sRet (eTup (aCons (eC (.str s_4)) (aCons (eVar 1) (aCons (eVar 2) (aCons (eMeth 2 4 s_46 (T 20) [] (eVar 0) (aCons (eLst (aCons (eVar 1) (aNil))) (aNil))) (aNil)))))))))))
abbrev X23 (P : Program) (w : World) (K : PySem.W.Frag) (mg : Str → Option Value) (base : Heap) (f : Addr) (cdv : Value) (A : Around) (outer : List PySem.Env) (s : Shared) (H : Hp) (E : XK) : Cx := cxOf (L2.CX P w) P w K mg base N23 "Reader._let" (defScope (inClass (top 23) 5)) f cdv A outer s H E
theorem wk23 {P : Program} {w : World} {K : PySem.W.Frag} {mg : Str → Option Value} {base : Heap} {fds : Nat → FuncData} (V : Fx K mg base fds) {n : Nat} {T T1 : Tbl} (I : Ok P w K mg base fn pss fds cn (n + 2) T) (I1 : Ok P w K mg base fn pss fds cn (n + 1) T1) {f : Addr} {cdv : Value} {A : Around} {outer : List PySem.Env} {s : Shared} {H : Hp} {E : XK}
    (hr : Room (n + 2) (A.deeper (PyProof.Rows.envOfC "Reader._let" (defScope (inClass (top 23) 5)) s.heap.objs.size f cdv))) {W : WX} (tk : Takes (X23 P w K mg base f cdv A outer s H E) W)
    (hp : PassesOwn (model P w) (X23 P w K mg base f cdv A outer s H E).A (X23 P w K mg base f cdv A outer s H E).env (X23 P w K mg base f cdv A outer s H E).xe) :
    PSs (X23 P w K mg base f cdv A outer s H E) (defBody (inClass (top 23) 5)) (TS' cn K W (b23 T T1)) := by
  have hu := un200 hr
  have hu1 := un1 hr
  have hN : N23.Nodup := sc23.nd
  have hr2 : Room 2 (A.deeper (PyProof.Rows.envOfC "Reader._let" (defScope (inClass (top 23) 5)) s.heap.objs.size f cdv)) := hr.mono (by omega)
  exact mss_cons (ms_expr (me_meth (c := 3) q_43 (me_fld q_28 V.fld_Reader_words (me_var (i := 0) rfl (.inl rfl))) V.c_Words V.m_Words_just (I 12 d12 rfl) hr V.b_12_2 tk (ma_cons (me_str q_4) (ma_nil)))) (mss_cons (ms_set (i := 1) hN rfl (.inl rfl) (me_meth0 (c := 3) q_44 (me_fld q_28 V.fld_Reader_words (me_var (i := 0) rfl (.inl rfl))) V.c_Words V.m_Words_take_name (I 14 d14 rfl) hr V.b_14_1 tk)) (mss_cons (ms_expr (me_meth (c := 3) q_43 (me_fld q_28 V.fld_Reader_words (me_var (i := 0) rfl (.inl rfl))) V.c_Words V.m_Words_just (I 12 d12 rfl) hr V.b_12_2 tk (ma_cons (me_str q_47) (ma_nil)))) (mss_cons (ms_set (i := 2) hN rfl (.inl rfl) (me_meth0 (c := 4) q_42 (me_var (i := 0) rfl (.inl rfl)) V.c_Reader V.m_Reader_expression (I 19 d19 rfl) hr V.b_19_1 tk)) (mss_cons (ms_expr (me_meth (c := 3) q_43 (me_fld q_28 V.fld_Reader_words (me_var (i := 0) rfl (.inl rfl))) V.c_Words V.m_Words_just (I 12 d12 rfl) hr V.b_12_2 tk (ma_cons (me_str q_5) (ma_nil)))) (mss_one (ms_ret (me_tup (ma_cons (me_str q_4) (ma_cons (me_var (i := 1) rfl (.inl rfl)) (ma_cons (me_var (i := 2) rfl (.inl rfl)) (ma_cons (me_meth (c := 4) q_46 (me_var (i := 0) rfl (.inl rfl)) V.c_Reader V.m_Reader__within (I 20 d20 rfl) hr V.b_20_2 tk (ma_cons (me_lst (ma_cons (me_var (i := 1) rfl (.inl rfl)) (ma_nil))) (ma_nil))) (ma_nil))))))))))))
def N24 : List Str := ["self", "inner", "arms", "last", "name", "tag"]
theorem sc24 : FnScope N24 (pss 24) (defScope (inClass (top 23) 6)) := ⟨rfl, rfl, rfl, by decide +kernel, rfl, by decide +kernel, by decide +kernel⟩
def b24 (T T1 : Tbl) : S := sSeq (sDrop (eMeth 2 3 s_43 (T 12) [] (eUn (getF [4] s_28) (eVar 0)) (aCons (eC (.str s_6)) (aNil)))) (sSeq (sSet 1 (eMeth 1 4 s_42 (T 19) [] (eVar 0) (aNil))) (sSeq (sDrop (eMeth 2 3 s_43 (T 12) [] (eUn (getF [4] s_28) (eVar 0)) (aCons (eC (.str s_48)) (aNil)))) (sSeq (sSet 2 (eLst (aNil))) (sSeq (sSet 3 (eC .non)) (sSeq (sWhile 200000 (tBl (eBin oIs (eVar 3) (eC .non))) (sSeq (sIf (tAnd' (tBl (eBin oEq (eMeth 2 3 s_33 (T 10) [.int 0] (eUn (getF [4] s_28) (eVar 0)) (aNil)) (eC (.str s_7)))) (tBl (eBin oGt (eBi bLen (aCons (eVar 2) (aNil))) (eC (.int 0))))) (sSeq (sDrop (eMeth 2 3 s_43 (T 12) [] (eUn (getF [4] s_28) (eVar 0)) (aCons (eC (.str s_7)) (aNil)))) (sSeq (sSet 4 (eMeth 1 3 s_44 (T 14) [] (eUn (getF [4] s_28) (eVar 0)) (aNil))) (sSeq (sDrop (eMeth 2 3 s_43 (T 12) [] (eUn (getF [4] s_28) (eVar 0)) (aCons (eC (.str s_45)) (aNil)))) (sSet 3 (eTup (aCons (eVar 4) (aCons (eMeth 2 4 s_46 (T 20) [] (eVar 0) (aCons (eLst (aCons (eVar 4) (aNil))) (aNil))) (aNil)))))))) (sSeq (sIf (tAnd' (tBl (eBin oGt (eBi bLen (aCons (eVar 2) (aNil))) (eC (.int 0)))) (tAnd' (tBl (eBin oIsNot (eMeth 2 3 s_33 (T 10) [.int 0] (eUn (getF [4] s_28) (eVar 0)) (aNil)) (eC .non))) (tTru (eCall 1 (T 2) [] (aCons (eMeth 2 3 s_33 (T 10) [.int 0] (eUn (getF [4] s_28) (eVar 0)) (aNil)) (aNil)))))) (sIf (tBl (eBin oLe (eMeth 2 3 s_33 (T 10) [.int 0] (eUn (getF [4] s_28) (eVar 0)) (aNil)) (eBin oIx (eBin oIx (eVar 2) (eUn oNeg (eC (.int 1)))) (eC (.int 0))))) (sDrop (eMeth 1 3 s_32 (T 9) [] (eUn (getF [4] s_28) (eVar 0)) (aNil))) (sNext)) (sNext)) (sSeq (sSet 5 (eMeth 1 3 s_49 (T 15) [] (eUn (getF [4] s_28) (eVar 0)) (aNil))) (sSeq (sSet 4 (eMeth 1 3 s_44 (T 14) [] (eUn (getF [4] s_28) (eVar 0)) (aNil))) (sSeq (sDrop (eMeth 2 3 s_43 (T 12) [] (eUn (getF [4] s_28) (eVar 0)) (aCons (eC (.str s_45)) (aNil)))) (sDrop (eBm isL lAppend (eVar 2) (aCons (eTup (aCons (eVar 5) (aCons (eVar 4) (aCons (eMeth 2 4 s_46 (T 20) [] (eVar 0) (aCons (eLst (aCons (eVar 4) (aNil))) (aNil))) (aNil))))) (aNil))))))))) (sIf (tOr' (tBl (eBin oIsNot (eVar 3) (eC .non))) (tNot' (tTru (eMeth 2 3 s_51 (T 13) [] (eUn (getF [4] s_28) (eVar 0)) (aCons (eC (.str s_50)) (aNil)))))) (sBreak) (sNext)))) (sSeq (sDrop (eMeth 2 3 s_43 (T 12) [] (eUn (getF [4] s_28) (eVar 0)) (aCons (eC (.str s_52)) (aNil)))) (sRet (eTup (aCons (eC (.str s_6)) (aCons (eVar 1) (aCons (eBi bTuple (aCons (eVar 2) (aNil))) (aCons (eVar 3) (aNil)))))))))))))
abbrev X24 (P : Program) (w : World) (K : PySem.W.Frag) (mg : Str → Option Value) (base : Heap) (f : Addr) (cdv : Value) (A : Around) (outer : List PySem.Env) (s : Shared) (H : Hp) (E : XK) : Cx := cxOf (L2.CX P w) P w K mg base N24 "Reader._match" (defScope (inClass (top 23) 6)) f cdv A outer s H E
theorem wk24 {P : Program} {w : World} {K : PySem.W.Frag} {mg : Str → Option Value} {base : Heap} {fds : Nat → FuncData} (V : Fx K mg base fds) {n : Nat} {T T1 : Tbl} (I : Ok P w K mg base fn pss fds cn (n + 2) T) (I1 : Ok P w K mg base fn pss fds cn (n + 1) T1) {f : Addr} {cdv : Value} {A : Around} {outer : List PySem.Env} {s : Shared} {H : Hp} {E : XK}
    (hr : Room (n + 2) (A.deeper (PyProof.Rows.envOfC "Reader._match" (defScope (inClass (top 23) 6)) s.heap.objs.size f cdv))) {W : WX} (tk : Takes (X24 P w K mg base f cdv A outer s H E) W)
    (hp : PassesOwn (model P w) (X24 P w K mg base f cdv A outer s H E).A (X24 P w K mg base f cdv A outer s H E).env (X24 P w K mg base f cdv A outer s H E).xe) :
    PSs (X24 P w K mg base f cdv A outer s H E) (defBody (inClass (top 23) 6)) (TS' cn K W (b24 T T1)) := by
  have hu := un200 hr
  have hu1 := un1 hr
  have hN : N24.Nodup := sc24.nd
  have hr2 : Room 2 (A.deeper (PyProof.Rows.envOfC "Reader._match" (defScope (inClass (top 23) 6)) s.heap.objs.size f cdv)) := hr.mono (by omega)
  exact mss_cons (ms_expr (me_meth (c := 3) q_43 (me_fld q_28 V.fld_Reader_words (me_var (i := 0) rfl (.inl rfl))) V.c_Words V.m_Words_just (I 12 d12 rfl) hr V.b_12_2 tk (ma_cons (me_str q_6) (ma_nil)))) (mss_cons (ms_set (i := 1) hN rfl (.inl rfl) (me_meth0 (c := 4) q_42 (me_var (i := 0) rfl (.inl rfl)) V.c_Reader V.m_Reader_expression (I 19 d19 rfl) hr V.b_19_1 tk)) (mss_cons (ms_expr (me_meth (c := 3) q_43 (me_fld q_28 V.fld_Reader_words (me_var (i := 0) rfl (.inl rfl))) V.c_Words V.m_Words_just (I 12 d12 rfl) hr V.b_12_2 tk (ma_cons (me_str q_48) (ma_nil)))) (mss_cons (ms_set (i := 2) hN rfl (.inl rfl) (me_lst (ma_nil))) (mss_cons (ms_set (i := 3) hN rfl (.inl rfl) (me_non)) (mss_cons (ms_while (n := 200000) hp (mt_cmp (m_is) (me_var (i := 3) rfl (.inl rfl)) (me_non)) (mss_cons (ms_if ((mw_and (mt_cmp (m_eq hu) (me_meth0 (c := 3) q_33 (me_fld q_28 V.fld_Reader_words (me_var (i := 0) rfl (.inl rfl))) V.c_Words V.m_Words_ahead (I 10 d10 rfl) hr V.b_10_1 tk) (me_str q_7)) (mw_and1 (mt_cmp (m_gt) (me_bi (mc_len) (by rfl) V.f0 (by kernel_rfl) (ma_cons (me_var (i := 2) rfl (.inl rfl)) (ma_nil))) (me_int)))).pt) (mss_cons (ms_expr (me_meth (c := 3) q_43 (me_fld q_28 V.fld_Reader_words (me_var (i := 0) rfl (.inl rfl))) V.c_Words V.m_Words_just (I 12 d12 rfl) hr V.b_12_2 tk (ma_cons (me_str q_7) (ma_nil)))) (mss_cons (ms_set (i := 4) hN rfl (.inl rfl) (me_meth0 (c := 3) q_44 (me_fld q_28 V.fld_Reader_words (me_var (i := 0) rfl (.inl rfl))) V.c_Words V.m_Words_take_name (I 14 d14 rfl) hr V.b_14_1 tk)) (mss_cons (ms_expr (me_meth (c := 3) q_43 (me_fld q_28 V.fld_Reader_words (me_var (i := 0) rfl (.inl rfl))) V.c_Words V.m_Words_just (I 12 d12 rfl) hr V.b_12_2 tk (ma_cons (me_str q_45) (ma_nil)))) (mss_one (ms_set (i := 3) hN rfl (.inl rfl) (me_tup (ma_cons (me_var (i := 4) rfl (.inl rfl)) (ma_cons (me_meth (c := 4) q_46 (me_var (i := 0) rfl (.inl rfl)) V.c_Reader V.m_Reader__within (I 20 d20 rfl) hr V.b_20_2 tk (ma_cons (me_lst (ma_cons (me_var (i := 4) rfl (.inl rfl)) (ma_nil))) (ma_nil))) (ma_nil))))))))) (mss_cons (ms_if ((mw_and (mt_cmp (m_gt) (me_bi (mc_len) (by rfl) V.f0 (by kernel_rfl) (ma_cons (me_var (i := 2) rfl (.inl rfl)) (ma_nil))) (me_int)) (mw_and (mt_cmp (m_isnot) (me_meth0 (c := 3) q_33 (me_fld q_28 V.fld_Reader_words (me_var (i := 0) rfl (.inl rfl))) V.c_Words V.m_Words_ahead (I 10 d10 rfl) hr V.b_10_1 tk) (me_non)) (mw_and1 (mt_tru (me_call (I 2 d2 rfl) hr (by rfl) V.g_is_tag (V.F 2 d2 rfl).kp V.b_2_1 tk (ma_cons (me_meth0 (c := 3) q_33 (me_fld q_28 V.fld_Reader_words (me_var (i := 0) rfl (.inl rfl))) V.c_Words V.m_Words_ahead (I 10 d10 rfl) hr V.b_10_1 tk) (ma_nil))))))).pt) (mss_one (ms_if (mt_cmp (m_le) (me_meth0 (c := 3) q_33 (me_fld q_28 V.fld_Reader_words (me_var (i := 0) rfl (.inl rfl))) V.c_Words V.m_Words_ahead (I 10 d10 rfl) hr V.b_10_1 tk) (me_ix (m_ix hu) (me_ix (m_ix hu) (me_var (i := 2) rfl (.inl rfl)) (me_un m_neg (me_int)) (fun _ _ => by rfl)) (me_int) (fun _ _ => by rfl))) (mss_one (ms_expr (me_meth0 (c := 3) q_32 (me_fld q_28 V.fld_Reader_words (me_var (i := 0) rfl (.inl rfl))) V.c_Words V.m_Words_refuse (I 9 d9 rfl) hr V.b_9_1 tk))) (mss_nil))) (mss_nil)) (mss_cons (ms_set (i := 5) hN rfl (.inl rfl) (me_meth0 (c := 3) q_49 (me_fld q_28 V.fld_Reader_words (me_var (i := 0) rfl (.inl rfl))) V.c_Words V.m_Words_take_tag (I 15 d15 rfl) hr V.b_15_1 tk)) (mss_cons (ms_set (i := 4) hN rfl (.inl rfl) (me_meth0 (c := 3) q_44 (me_fld q_28 V.fld_Reader_words (me_var (i := 0) rfl (.inl rfl))) V.c_Words V.m_Words_take_name (I 14 d14 rfl) hr V.b_14_1 tk)) (mss_cons (ms_expr (me_meth (c := 3) q_43 (me_fld q_28 V.fld_Reader_words (me_var (i := 0) rfl (.inl rfl))) V.c_Words V.m_Words_just (I 12 d12 rfl) hr V.b_12_2 tk (ma_cons (me_str q_45) (ma_nil)))) (mss_one (ms_expr (me_bm ck_list F.plainAttrs_list F.slot_list_append F.type_list_append (m_append) (me_var (i := 2) rfl (.inl rfl)) (ma_cons (me_tup (ma_cons (me_var (i := 5) rfl (.inl rfl)) (ma_cons (me_var (i := 4) rfl (.inl rfl)) (ma_cons (me_meth (c := 4) q_46 (me_var (i := 0) rfl (.inl rfl)) V.c_Reader V.m_Reader__within (I 20 d20 rfl) hr V.b_20_2 tk (ma_cons (me_lst (ma_cons (me_var (i := 4) rfl (.inl rfl)) (ma_nil))) (ma_nil))) (ma_nil))))) (ma_nil)))))))))) (mss_one (ms_if ((mw_or (mt_cmp (m_isnot) (me_var (i := 3) rfl (.inl rfl)) (me_non)) (mw_or1 (mt_not (mt_tru (me_meth (c := 3) q_51 (me_fld q_28 V.fld_Reader_words (me_var (i := 0) rfl (.inl rfl))) V.c_Words V.m_Words_takes (I 13 d13 rfl) hr V.b_13_2 tk (ma_cons (me_str q_50) (ma_nil))))))).pt) (mss_one (ms_break)) (mss_nil))))) (mss_cons (ms_expr (me_meth (c := 3) q_43 (me_fld q_28 V.fld_Reader_words (me_var (i := 0) rfl (.inl rfl))) V.c_Words V.m_Words_just (I 12 d12 rfl) hr V.b_12_2 tk (ma_cons (me_str q_52) (ma_nil)))) (mss_one (ms_ret (me_tup (ma_cons (me_str q_6) (ma_cons (me_var (i := 1) rfl (.inl rfl)) (ma_cons (me_ty (mc_tuple) (by rfl) V.f7 (by kernel_rfl) (ma_cons (me_var (i := 2) rfl (.inl rfl)) (ma_nil))) (ma_cons (me_var (i := 3) rfl (.inl rfl)) (ma_nil))))))))))))))
def N25 : List Str := ["self", "found"]
theorem sc25 : FnScope N25 (pss 25) (defScope (inClass (top 23) 7)) := ⟨rfl, rfl, rfl, by decide +kernel, rfl, by decide +kernel, by decide +kernel⟩
def b25 (T T1 : Tbl) : S := sSeq (sSet 1 (eMeth 1 4 s_53 (T 26) [] (eVar 0) (aNil))) (sSeq (sIf (tTru (eMeth 2 3 s_51 (T 13) [] (eUn (getF [4] s_28) (eVar 0)) (aCons (eC (.str s_54)) (aNil)))) (sRet (eTup (aCons (eC (.str s_19)) (aCons (eVar 1) (aCons (eMeth 1 4 s_53 (T 26) [] (eVar 0) (aNil)) (aNil)))))) (sNext)) (sRet (eVar 1)))
abbrev X25 (P : Program) (w : World) (K : PySem.W.Frag) (mg : Str → Option Value) (base : Heap) (f : Addr) (cdv : Value) (A : Around) (outer : List PySem.Env) (s : Shared) (H : Hp) (E : XK) : Cx := cxOf (L2.CX P w) P w K mg base N25 "Reader._less" (defScope (inClass (top 23) 7)) f cdv A outer s H E
theorem wk25 {P : Program} {w : World} {K : PySem.W.Frag} {mg : Str → Option Value} {base : Heap} {fds : Nat → FuncData} (V : Fx K mg base fds) {n : Nat} {T T1 : Tbl} (I : Ok P w K mg base fn pss fds cn (n + 2) T) (I1 : Ok P w K mg base fn pss fds cn (n + 1) T1) {f : Addr} {cdv : Value} {A : Around} {outer : List PySem.Env} {s : Shared} {H : Hp} {E : XK}
    (hr : Room (n + 2) (A.deeper (PyProof.Rows.envOfC "Reader._less" (defScope (inClass (top 23) 7)) s.heap.objs.size f cdv))) {W : WX} (tk : Takes (X25 P w K mg base f cdv A outer s H E) W)
    (hp : PassesOwn (model P w) (X25 P w K mg base f cdv A outer s H E).A (X25 P w K mg base f cdv A outer s H E).env (X25 P w K mg base f cdv A outer s H E).xe) :
    PSs (X25 P w K mg base f cdv A outer s H E) (defBody (inClass (top 23) 7)) (TS' cn K W (b25 T T1)) := by
  have hu := un200 hr
  have hu1 := un1 hr
  have hN : N25.Nodup := sc25.nd
  have hr2 : Room 2 (A.deeper (PyProof.Rows.envOfC "Reader._less" (defScope (inClass (top 23) 7)) s.heap.objs.size f cdv)) := hr.mono (by omega)
  exact mss_cons (ms_set (i := 1) hN rfl (.inl rfl) (me_meth0 (c := 4) q_53 (me_var (i := 0) rfl (.inl rfl)) V.c_Reader V.m_Reader__sum (I 26 d26 rfl) hr V.b_26_1 tk)) (mss_cons (ms_if (mt_tru (me_meth (c := 3) q_51 (me_fld q_28 V.fld_Reader_words (me_var (i := 0) rfl (.inl rfl))) V.c_Words V.m_Words_takes (I 13 d13 rfl) hr V.b_13_2 tk (ma_cons (me_str q_54) (ma_nil)))) (mss_one (ms_ret (me_tup (ma_cons (me_str q_19) (ma_cons (me_var (i := 1) rfl (.inl rfl)) (ma_cons (me_meth0 (c := 4) q_53 (me_var (i := 0) rfl (.inl rfl)) V.c_Reader V.m_Reader__sum (I 26 d26 rfl) hr V.b_26_1 tk) (ma_nil))))))) (mss_nil)) (mss_one (ms_ret (me_var (i := 1) rfl (.inl rfl)))))
def N26 : List Str := ["self", "found", "sign"]
theorem sc26 : FnScope N26 (pss 26) (defScope (inClass (top 23) 8)) := ⟨rfl, rfl, rfl, by decide +kernel, rfl, by decide +kernel, by decide +kernel⟩
def b26 (T T1 : Tbl) : S := sSeq (sSet 1 (eMeth 1 4 s_55 (T 27) [] (eVar 0) (aNil))) (sSeq (sWhile 200000 (tBl (eBin oIn2 (eMeth 2 3 s_33 (T 10) [.int 0] (eUn (getF [4] s_28) (eVar 0)) (aNil)) (eC c_SUMS))) (sSeq (sSet 2 (eMeth 1 3 s_34 (T 11) [] (eUn (getF [4] s_28) (eVar 0)) (aNil))) (sSet 1 (eTup (aCons (eC (.str s_20)) (aCons (eVar 2) (aCons (eVar 1) (aCons (eMeth 1 4 s_55 (T 27) [] (eVar 0) (aNil)) (aNil))))))))) (sRet (eVar 1)))
abbrev X26 (P : Program) (w : World) (K : PySem.W.Frag) (mg : Str → Option Value) (base : Heap) (f : Addr) (cdv : Value) (A : Around) (outer : List PySem.Env) (s : Shared) (H : Hp) (E : XK) : Cx := cxOf (L2.CX P w) P w K mg base N26 "Reader._sum" (defScope (inClass (top 23) 8)) f cdv A outer s H E
theorem wk26 {P : Program} {w : World} {K : PySem.W.Frag} {mg : Str → Option Value} {base : Heap} {fds : Nat → FuncData} (V : Fx K mg base fds) {n : Nat} {T T1 : Tbl} (I : Ok P w K mg base fn pss fds cn (n + 2) T) (I1 : Ok P w K mg base fn pss fds cn (n + 1) T1) {f : Addr} {cdv : Value} {A : Around} {outer : List PySem.Env} {s : Shared} {H : Hp} {E : XK}
    (hr : Room (n + 2) (A.deeper (PyProof.Rows.envOfC "Reader._sum" (defScope (inClass (top 23) 8)) s.heap.objs.size f cdv))) {W : WX} (tk : Takes (X26 P w K mg base f cdv A outer s H E) W)
    (hp : PassesOwn (model P w) (X26 P w K mg base f cdv A outer s H E).A (X26 P w K mg base f cdv A outer s H E).env (X26 P w K mg base f cdv A outer s H E).xe) :
    PSs (X26 P w K mg base f cdv A outer s H E) (defBody (inClass (top 23) 8)) (TS' cn K W (b26 T T1)) := by
  have hu := un200 hr
  have hu1 := un1 hr
  have hN : N26.Nodup := sc26.nd
  have hr2 : Room 2 (A.deeper (PyProof.Rows.envOfC "Reader._sum" (defScope (inClass (top 23) 8)) s.heap.objs.size f cdv)) := hr.mono (by omega)
  exact mss_cons (ms_set (i := 1) hN rfl (.inl rfl) (me_meth0 (c := 4) q_55 (me_var (i := 0) rfl (.inl rfl)) V.c_Reader V.m_Reader__product (I 27 d27 rfl) hr V.b_27_1 tk)) (mss_cons (ms_while (n := 200000) hp (mt_cmp (m_in2 hu) (me_meth0 (c := 3) q_33 (me_fld q_28 V.fld_Reader_words (me_var (i := 0) rfl (.inl rfl))) V.c_Words V.m_Words_ahead (I 10 d10 rfl) hr V.b_10_1 tk) (me_glob (v := c_SUMS) (z := .ref (He.ga K "SUMS")) (by rfl) V.g_SUMS rfl (fun H ρ n => V.w_SUMS H ρ n))) (mss_cons (ms_set (i := 2) hN rfl (.inl rfl) (me_meth0 (c := 3) q_34 (me_fld q_28 V.fld_Reader_words (me_var (i := 0) rfl (.inl rfl))) V.c_Words V.m_Words_take (I 11 d11 rfl) hr V.b_11_1 tk)) (mss_one (ms_set (i := 1) hN rfl (.inl rfl) (me_tup (ma_cons (me_str q_20) (ma_cons (me_var (i := 2) rfl (.inl rfl)) (ma_cons (me_var (i := 1) rfl (.inl rfl)) (ma_cons (me_meth0 (c := 4) q_55 (me_var (i := 0) rfl (.inl rfl)) V.c_Reader V.m_Reader__product (I 27 d27 rfl) hr V.b_27_1 tk) (ma_nil)))))))))) (mss_one (ms_ret (me_var (i := 1) rfl (.inl rfl)))))
def N27 : List Str := ["self", "found"]
theorem sc27 : FnScope N27 (pss 27) (defScope (inClass (top 23) 9)) := ⟨rfl, rfl, rfl, by decide +kernel, rfl, by decide +kernel, by decide +kernel⟩
def b27 (T T1 : Tbl) : S := sSeq (sSet 1 (eMeth 1 4 s_57 (T 28) [] (eVar 0) (aNil))) (sSeq (sWhile 200000 (tTru (eMeth 2 3 s_51 (T 13) [] (eUn (getF [4] s_28) (eVar 0)) (aCons (eC (.str s_58)) (aNil)))) (sSet 1 (eTup (aCons (eC (.str s_20)) (aCons (eC (.str s_58)) (aCons (eVar 1) (aCons (eMeth 1 4 s_57 (T 28) [] (eVar 0) (aNil)) (aNil)))))))) (sRet (eVar 1)))
abbrev X27 (P : Program) (w : World) (K : PySem.W.Frag) (mg : Str → Option Value) (base : Heap) (f : Addr) (cdv : Value) (A : Around) (outer : List PySem.Env) (s : Shared) (H : Hp) (E : XK) : Cx := cxOf (L2.CX P w) P w K mg base N27 "Reader._product" (defScope (inClass (top 23) 9)) f cdv A outer s H E
theorem wk27 {P : Program} {w : World} {K : PySem.W.Frag} {mg : Str → Option Value} {base : Heap} {fds : Nat → FuncData} (V : Fx K mg base fds) {n : Nat} {T T1 : Tbl} (I : Ok P w K mg base fn pss fds cn (n + 2) T) (I1 : Ok P w K mg base fn pss fds cn (n + 1) T1) {f : Addr} {cdv : Value} {A : Around} {outer : List PySem.Env} {s : Shared} {H : Hp} {E : XK}
    (hr : Room (n + 2) (A.deeper (PyProof.Rows.envOfC "Reader._product" (defScope (inClass (top 23) 9)) s.heap.objs.size f cdv))) {W : WX} (tk : Takes (X27 P w K mg base f cdv A outer s H E) W)
    (hp : PassesOwn (model P w) (X27 P w K mg base f cdv A outer s H E).A (X27 P w K mg base f cdv A outer s H E).env (X27 P w K mg base f cdv A outer s H E).xe) :
    PSs (X27 P w K mg base f cdv A outer s H E) (defBody (inClass (top 23) 9)) (TS' cn K W (b27 T T1)) := by
  have hu := un200 hr
  have hu1 := un1 hr
  have hN : N27.Nodup := sc27.nd
  have hr2 : Room 2 (A.deeper (PyProof.Rows.envOfC "Reader._product" (defScope (inClass (top 23) 9)) s.heap.objs.size f cdv)) := hr.mono (by omega)
  exact mss_cons (ms_set (i := 1) hN rfl (.inl rfl) (me_meth0 (c := 4) q_57 (me_var (i := 0) rfl (.inl rfl)) V.c_Reader V.m_Reader__call (I 28 d28 rfl) hr V.b_28_1 tk)) (mss_cons (ms_while (n := 200000) hp (mt_tru (me_meth (c := 3) q_51 (me_fld q_28 V.fld_Reader_words (me_var (i := 0) rfl (.inl rfl))) V.c_Words V.m_Words_takes (I 13 d13 rfl) hr V.b_13_2 tk (ma_cons (me_str q_58) (ma_nil)))) (mss_one (ms_set (i := 1) hN rfl (.inl rfl) (me_tup (ma_cons (me_str q_20) (ma_cons (me_str q_58) (ma_cons (me_var (i := 1) rfl (.inl rfl)) (ma_cons (me_meth0 (c := 4) q_57 (me_var (i := 0) rfl (.inl rfl)) V.c_Reader V.m_Reader__call (I 28 d28 rfl) hr V.b_28_1 tk) (ma_nil))))))))) (mss_one (ms_ret (me_var (i := 1) rfl (.inl rfl)))))
def N28 : List Str := ["self", "found"]
theorem sc28 : FnScope N28 (pss 28) (defScope (inClass (top 23) 10)) := ⟨rfl, rfl, rfl, by decide +kernel, rfl, by decide +kernel, by decide +kernel⟩
def b28 (T T1 : Tbl) : S := sSeq (sIf (tAnd' (tBl (eBin oIsNot (eMeth 2 3 s_33 (T 10) [.int 0] (eUn (getF [4] s_28) (eVar 0)) (aNil)) (eC .non))) (tTru (eCall 1 (T 2) [] (aCons (eMeth 2 3 s_33 (T 10) [.int 0] (eUn (getF [4] s_28) (eVar 0)) (aNil)) (aNil))))) (sRet (eTup (aCons (eC (.str s_26)) (aCons (eMeth 1 3 s_49 (T 15) [] (eUn (getF [4] s_28) (eVar 0)) (aNil)) (aCons (eMeth 1 4 s_59 (T 30) [] (eVar 0) (aNil)) (aNil)))))) (sNext)) (sSeq (sIf (tTru (eMeth 2 3 s_51 (T 13) [] (eUn (getF [4] s_28) (eVar 0)) (aCons (eC (.str s_9)) (aNil)))) (sRet (eTup (aCons (eC (.str s_9)) (aCons (eMeth 1 3 s_49 (T 15) [] (eUn (getF [4] s_28) (eVar 0)) (aNil)) (aCons (eMeth 1 4 s_59 (T 30) [] (eVar 0) (aNil)) (aNil)))))) (sNext)) (sSeq (sSet 1 (eMeth 1 4 s_59 (T 30) [] (eVar 0) (aNil))) (sSeq (sWhile 200000 (tTru (eMeth 1 4 s_60 (T 29) [] (eVar 0) (aNil))) (sSet 1 (eTup (aCons (eC (.str s_18)) (aCons (eVar 1) (aCons (eMeth 1 4 s_59 (T 30) [] (eVar 0) (aNil)) (aNil))))))) (sRet (eVar 1)))))
abbrev X28 (P : Program) (w : World) (K : PySem.W.Frag) (mg : Str → Option Value) (base : Heap) (f : Addr) (cdv : Value) (A : Around) (outer : List PySem.Env) (s : Shared) (H : Hp) (E : XK) : Cx := cxOf (L2.CX P w) P w K mg base N28 "Reader._call" (defScope (inClass (top 23) 10)) f cdv A outer s H E
theorem wk28 {P : Program} {w : World} {K : PySem.W.Frag} {mg : Str → Option Value} {base : Heap} {fds : Nat → FuncData} (V : Fx K mg base fds) {n : Nat} {T T1 : Tbl} (I : Ok P w K mg base fn pss fds cn (n + 2) T) (I1 : Ok P w K mg base fn pss fds cn (n + 1) T1) {f : Addr} {cdv : Value} {A : Around} {outer : List PySem.Env} {s : Shared} {H : Hp} {E : XK}
    (hr : Room (n + 2) (A.deeper (PyProof.Rows.envOfC "Reader._call" (defScope (inClass (top 23) 10)) s.heap.objs.size f cdv))) {W : WX} (tk : Takes (X28 P w K mg base f cdv A outer s H E) W)
    (hp : PassesOwn (model P w) (X28 P w K mg base f cdv A outer s H E).A (X28 P w K mg base f cdv A outer s H E).env (X28 P w K mg base f cdv A outer s H E).xe) :
    PSs (X28 P w K mg base f cdv A outer s H E) (defBody (inClass (top 23) 10)) (TS' cn K W (b28 T T1)) := by
  have hu := un200 hr
  have hu1 := un1 hr
  have hN : N28.Nodup := sc28.nd
  have hr2 : Room 2 (A.deeper (PyProof.Rows.envOfC "Reader._call" (defScope (inClass (top 23) 10)) s.heap.objs.size f cdv)) := hr.mono (by omega)
  exact mss_cons (ms_if ((mw_and (mt_cmp (m_isnot) (me_meth0 (c := 3) q_33 (me_fld q_28 V.fld_Reader_words (me_var (i := 0) rfl (.inl rfl))) V.c_Words V.m_Words_ahead (I 10 d10 rfl) hr V.b_10_1 tk) (me_non)) (mw_and1 (mt_tru (me_call (I 2 d2 rfl) hr (by rfl) V.g_is_tag (V.F 2 d2 rfl).kp V.b_2_1 tk (ma_cons (me_meth0 (c := 3) q_33 (me_fld q_28 V.fld_Reader_words (me_var (i := 0) rfl (.inl rfl))) V.c_Words V.m_Words_ahead (I 10 d10 rfl) hr V.b_10_1 tk) (ma_nil)))))).pt) (mss_one (ms_ret (me_tup (ma_cons (me_str q_26) (ma_cons (me_meth0 (c := 3) q_49 (me_fld q_28 V.fld_Reader_words (me_var (i := 0) rfl (.inl rfl))) V.c_Words V.m_Words_take_tag (I 15 d15 rfl) hr V.b_15_1 tk) (ma_cons (me_meth0 (c := 4) q_59 (me_var (i := 0) rfl (.inl rfl)) V.c_Reader V.m_Reader__post (I 30 d30 rfl) hr V.b_30_1 tk) (ma_nil))))))) (mss_nil)) (mss_cons (ms_if (mt_tru (me_meth (c := 3) q_51 (me_fld q_28 V.fld_Reader_words (me_var (i := 0) rfl (.inl rfl))) V.c_Words V.m_Words_takes (I 13 d13 rfl) hr V.b_13_2 tk (ma_cons (me_str q_9) (ma_nil)))) (mss_one (ms_ret (me_tup (ma_cons (me_str q_9) (ma_cons (me_meth0 (c := 3) q_49 (me_fld q_28 V.fld_Reader_words (me_var (i := 0) rfl (.inl rfl))) V.c_Words V.m_Words_take_tag (I 15 d15 rfl) hr V.b_15_1 tk) (ma_cons (me_meth0 (c := 4) q_59 (me_var (i := 0) rfl (.inl rfl)) V.c_Reader V.m_Reader__post (I 30 d30 rfl) hr V.b_30_1 tk) (ma_nil))))))) (mss_nil)) (mss_cons (ms_set (i := 1) hN rfl (.inl rfl) (me_meth0 (c := 4) q_59 (me_var (i := 0) rfl (.inl rfl)) V.c_Reader V.m_Reader__post (I 30 d30 rfl) hr V.b_30_1 tk)) (mss_cons (ms_while (n := 200000) hp (mt_tru (me_meth0 (c := 4) q_60 (me_var (i := 0) rfl (.inl rfl)) V.c_Reader V.m_Reader__begins (I 29 d29 rfl) hr V.b_29_1 tk)) (mss_one (ms_set (i := 1) hN rfl (.inl rfl) (me_tup (ma_cons (me_str q_18) (ma_cons (me_var (i := 1) rfl (.inl rfl)) (ma_cons (me_meth0 (c := 4) q_59 (me_var (i := 0) rfl (.inl rfl)) V.c_Reader V.m_Reader__post (I 30 d30 rfl) hr V.b_30_1 tk) (ma_nil)))))))) (mss_one (ms_ret (me_var (i := 1) rfl (.inl rfl)))))))
def N29 : List Str := ["self", "ahead", "behind"]
theorem sc29 : FnScope N29 (pss 29) (defScope (inClass (top 23) 11)) := ⟨rfl, rfl, rfl, by decide +kernel, rfl, by decide +kernel, by decide +kernel⟩
def b29 (T T1 : Tbl) : S := sSeq (sSet 1 (eMeth 2 3 s_33 (T 10) [.int 0] (eUn (getF [4] s_28) (eVar 0)) (aNil))) (sSeq (sIf (tBl (eBin oIs (eVar 1) (eC .non))) (sRet (eC (.bl false))) (sNext)) (sSeq (sIf (tBl (eBin oEq (eVar 1) (eC (.str s_48)))) (sSeq (sSet 2 (eMeth 2 3 s_33 (T 10) [] (eUn (getF [4] s_28) (eVar 0)) (aCons (eC (.int 1)) (aNil)))) (sRet (eOr (eBin oIs (eVar 2) (eC .non)) (eNot (eCall 1 (T 2) [] (aCons (eVar 2) (aNil))))))) (sNext)) (sRet (eOr (eBin oEq (eVar 1) (eC (.str s_61))) (eOr (eCall 1 (T 1) [] (aCons (eVar 1) (aNil))) (eCall 1 (T 3) [] (aCons (eVar 1) (aNil))))))))
abbrev X29 (P : Program) (w : World) (K : PySem.W.Frag) (mg : Str → Option Value) (base : Heap) (f : Addr) (cdv : Value) (A : Around) (outer : List PySem.Env) (s : Shared) (H : Hp) (E : XK) : Cx := cxOf (L2.CX P w) P w K mg base N29 "Reader._begins" (defScope (inClass (top 23) 11)) f cdv A outer s H E
theorem wk29 {P : Program} {w : World} {K : PySem.W.Frag} {mg : Str → Option Value} {base : Heap} {fds : Nat → FuncData} (V : Fx K mg base fds) {n : Nat} {T T1 : Tbl} (I : Ok P w K mg base fn pss fds cn (n + 2) T) (I1 : Ok P w K mg base fn pss fds cn (n + 1) T1) {f : Addr} {cdv : Value} {A : Around} {outer : List PySem.Env} {s : Shared} {H : Hp} {E : XK}
    (hr : Room (n + 2) (A.deeper (PyProof.Rows.envOfC "Reader._begins" (defScope (inClass (top 23) 11)) s.heap.objs.size f cdv))) {W : WX} (tk : Takes (X29 P w K mg base f cdv A outer s H E) W)
    (hp : PassesOwn (model P w) (X29 P w K mg base f cdv A outer s H E).A (X29 P w K mg base f cdv A outer s H E).env (X29 P w K mg base f cdv A outer s H E).xe) :
    PSs (X29 P w K mg base f cdv A outer s H E) (defBody (inClass (top 23) 11)) (TS' cn K W (b29 T T1)) := by
  have hu := un200 hr
  have hu1 := un1 hr
  have hN : N29.Nodup := sc29.nd
  have hr2 : Room 2 (A.deeper (PyProof.Rows.envOfC "Reader._begins" (defScope (inClass (top 23) 11)) s.heap.objs.size f cdv)) := hr.mono (by omega)
  exact mss_cons (ms_set (i := 1) hN rfl (.inl rfl) (me_meth0 (c := 3) q_33 (me_fld q_28 V.fld_Reader_words (me_var (i := 0) rfl (.inl rfl))) V.c_Words V.m_Words_ahead (I 10 d10 rfl) hr V.b_10_1 tk)) (mss_cons (ms_if (mt_cmp (m_is) (me_var (i := 1) rfl (.inl rfl)) (me_non)) (mss_one (ms_ret (me_bl))) (mss_nil)) (mss_cons (ms_if (mt_cmp (m_eq hu) (me_var (i := 1) rfl (.inl rfl)) (me_str q_48)) (mss_cons (ms_set (i := 2) hN rfl (.inl rfl) (me_meth (c := 3) q_33 (me_fld q_28 V.fld_Reader_words (me_var (i := 0) rfl (.inl rfl))) V.c_Words V.m_Words_ahead (I 10 d10 rfl) hr V.b_10_2 tk (ma_cons (me_int) (ma_nil)))) (mss_one (ms_ret (me_or (me_cmp (m_is) (me_var (i := 2) rfl (.inl rfl)) (me_non)) (me_one (me_not (me_call (I 2 d2 rfl) hr (by rfl) V.g_is_tag (V.F 2 d2 rfl).kp V.b_2_1 tk (ma_cons (me_var (i := 2) rfl (.inl rfl)) (ma_nil))))))))) (mss_nil)) (mss_one (ms_ret (me_or (me_cmp (m_eq hu) (me_var (i := 1) rfl (.inl rfl)) (me_str q_61)) (me_or (me_call (I 1 d1 rfl) hr (by rfl) V.g_is_name (V.F 1 d1 rfl).kp V.b_1_1 tk (ma_cons (me_var (i := 1) rfl (.inl rfl)) (ma_nil))) (me_one (me_call (I 3 d3 rfl) hr (by rfl) V.g_is_number (V.F 3 d3 rfl).kp V.b_3_1 tk (ma_cons (me_var (i := 1) rfl (.inl rfl)) (ma_nil))))))))))
def N30 : List Str := ["self", "found", "sign", "label"]
theorem sc30 : FnScope N30 (pss 30) (defScope (inClass (top 23) 12)) := ⟨rfl, rfl, rfl, by decide +kernel, rfl, by decide +kernel, by decide +kernel⟩
def b30 (T T1 : Tbl) : S := sSeq (sSet 1 (eMeth 1 4 s_62 (T 31) [] (eVar 0) (aNil))) (sSeq (sWhile 200000 (tBl (eBin oIn2 (eMeth 2 3 s_33 (T 10) [.int 0] (eUn (getF [4] s_28) (eVar 0)) (aNil)) (eTup (aCons (eC (.str s_63)) (aCons (eC (.str s_64)) (aNil)))))) (sSeq (sSet 2 (eMeth 1 3 s_34 (T 11) [] (eUn (getF [4] s_28) (eVar 0)) (aNil))) (sSeq (sSet 3 (eMeth 1 3 s_44 (T 14) [] (eUn (getF [4] s_28) (eVar 0)) (aNil))) (sSet 1 (eTup (aCons (eIf (tBl (eBin oEq (eVar 2) (eC (.str s_63)))) (eC (.str s_23)) (eC (.str s_24))) (aCons (eVar 1) (aCons (eVar 3) (aNil))))))))) (sRet (eVar 1)))
abbrev X30 (P : Program) (w : World) (K : PySem.W.Frag) (mg : Str → Option Value) (base : Heap) (f : Addr) (cdv : Value) (A : Around) (outer : List PySem.Env) (s : Shared) (H : Hp) (E : XK) : Cx := cxOf (L2.CX P w) P w K mg base N30 "Reader._post" (defScope (inClass (top 23) 12)) f cdv A outer s H E
theorem wk30 {P : Program} {w : World} {K : PySem.W.Frag} {mg : Str → Option Value} {base : Heap} {fds : Nat → FuncData} (V : Fx K mg base fds) {n : Nat} {T T1 : Tbl} (I : Ok P w K mg base fn pss fds cn (n + 2) T) (I1 : Ok P w K mg base fn pss fds cn (n + 1) T1) {f : Addr} {cdv : Value} {A : Around} {outer : List PySem.Env} {s : Shared} {H : Hp} {E : XK}
    (hr : Room (n + 2) (A.deeper (PyProof.Rows.envOfC "Reader._post" (defScope (inClass (top 23) 12)) s.heap.objs.size f cdv))) {W : WX} (tk : Takes (X30 P w K mg base f cdv A outer s H E) W)
    (hp : PassesOwn (model P w) (X30 P w K mg base f cdv A outer s H E).A (X30 P w K mg base f cdv A outer s H E).env (X30 P w K mg base f cdv A outer s H E).xe) :
    PSs (X30 P w K mg base f cdv A outer s H E) (defBody (inClass (top 23) 12)) (TS' cn K W (b30 T T1)) := by
  have hu := un200 hr
  have hu1 := un1 hr
  have hN : N30.Nodup := sc30.nd
  have hr2 : Room 2 (A.deeper (PyProof.Rows.envOfC "Reader._post" (defScope (inClass (top 23) 12)) s.heap.objs.size f cdv)) := hr.mono (by omega)
  exact mss_cons (ms_set (i := 1) hN rfl (.inl rfl) (me_meth0 (c := 4) q_62 (me_var (i := 0) rfl (.inl rfl)) V.c_Reader V.m_Reader__atom (I 31 d31 rfl) hr V.b_31_1 tk)) (mss_cons (ms_while (n := 200000) hp (mt_cmp (m_in2 hu) (me_meth0 (c := 3) q_33 (me_fld q_28 V.fld_Reader_words (me_var (i := 0) rfl (.inl rfl))) V.c_Words V.m_Words_ahead (I 10 d10 rfl) hr V.b_10_1 tk) (me_tup (ma_cons (me_str q_63) (ma_cons (me_str q_64) (ma_nil))))) (mss_cons (ms_set (i := 2) hN rfl (.inl rfl) (me_meth0 (c := 3) q_34 (me_fld q_28 V.fld_Reader_words (me_var (i := 0) rfl (.inl rfl))) V.c_Words V.m_Words_take (I 11 d11 rfl) hr V.b_11_1 tk)) (mss_cons (ms_set (i := 3) hN rfl (.inl rfl) (me_meth0 (c := 3) q_44 (me_fld q_28 V.fld_Reader_words (me_var (i := 0) rfl (.inl rfl))) V.c_Words V.m_Words_take_name (I 14 d14 rfl) hr V.b_14_1 tk)) (mss_one (ms_set (i := 1) hN rfl (.inl rfl) (me_tup (ma_cons (me_if (mt_cmp (m_eq hu) (me_var (i := 2) rfl (.inl rfl)) (me_str q_63)) (me_str q_23) (me_str q_24)) (ma_cons (me_var (i := 1) rfl (.inl rfl)) (ma_cons (me_var (i := 3) rfl (.inl rfl)) (ma_nil)))))))))) (mss_one (ms_ret (me_var (i := 1) rfl (.inl rfl)))))
def N31 : List Str := ["self", "ahead", "found"]
theorem sc31 : FnScope N31 (pss 31) (defScope (inClass (top 23) 13)) := ⟨rfl, rfl, rfl, by decide +kernel, rfl, by decide +kernel, by decide +kernel⟩
def b31 (T T1 : Tbl) : S := sSeq (sSet 1 (eMeth 2 3 s_33 (T 10) [.int 0] (eUn (getF [4] s_28) (eVar 0)) (aNil))) (sSeq (sIf (tAnd' (tBl (eBin oIsNot (eVar 1) (eC .non))) (tTru (eCall 1 (T 3) [] (aCons (eVar 1) (aNil))))) (sRet (eTup (aCons (eC (.str s_16)) (aCons (eMeth 1 3 s_65 (T 16) [] (eUn (getF [4] s_28) (eVar 0)) (aNil)) (aNil))))) (sNext)) (sSeq (sIf (tBl (eBin oEq (eVar 1) (eC (.str s_61)))) (sSeq (sDrop (eMeth 2 3 s_43 (T 12) [] (eUn (getF [4] s_28) (eVar 0)) (aCons (eC (.str s_61)) (aNil)))) (sSeq (sSet 2 (eMeth 1 4 s_42 (T 19) [] (eVar 0) (aNil))) (sSeq (sDrop (eMeth 2 3 s_43 (T 12) [] (eUn (getF [4] s_28) (eVar 0)) (aCons (eC (.str s_66)) (aNil)))) (sRet (eVar 2))))) (sNext)) (sSeq (sIf (tBl (eBin oEq (eVar 1) (eC (.str s_48)))) (sRet (eMeth 1 4 s_67 (T 32) [] (eVar 0) (aNil))) (sNext)) (sSeq (sIf (tBl (eBin oNotIn2 (eVar 1) (eUn (getF [4] s_35) (eVar 0)))) (sDrop (eMeth 1 3 s_32 (T 9) [] (eUn (getF [4] s_28) (eVar 0)) (aNil))) (sNext)) (sRet (eTup (aCons (eC (.str s_17)) (aCons (eMeth 1 3 s_44 (T 14) [] (eUn (getF [4] s_28) (eVar 0)) (aNil)) (aNil)))))))))
abbrev X31 (P : Program) (w : World) (K : PySem.W.Frag) (mg : Str → Option Value) (base : Heap) (f : Addr) (cdv : Value) (A : Around) (outer : List PySem.Env) (s : Shared) (H : Hp) (E : XK) : Cx := cxOf (L2.CX P w) P w K mg base N31 "Reader._atom" (defScope (inClass (top 23) 13)) f cdv A outer s H E
theorem wk31 {P : Program} {w : World} {K : PySem.W.Frag} {mg : Str → Option Value} {base : Heap} {fds : Nat → FuncData} (V : Fx K mg base fds) {n : Nat} {T T1 : Tbl} (I : Ok P w K mg base fn pss fds cn (n + 2) T) (I1 : Ok P w K mg base fn pss fds cn (n + 1) T1) {f : Addr} {cdv : Value} {A : Around} {outer : List PySem.Env} {s : Shared} {H : Hp} {E : XK}
    (hr : Room (n + 2) (A.deeper (PyProof.Rows.envOfC "Reader._atom" (defScope (inClass (top 23) 13)) s.heap.objs.size f cdv))) {W : WX} (tk : Takes (X31 P w K mg base f cdv A outer s H E) W)
    (hp : PassesOwn (model P w) (X31 P w K mg base f cdv A outer s H E).A (X31 P w K mg base f cdv A outer s H E).env (X31 P w K mg base f cdv A outer s H E).xe) :
    PSs (X31 P w K mg base f cdv A outer s H E) (defBody (inClass (top 23) 13)) (TS' cn K W (b31 T T1)) := by
  have hu := un200 hr
  have hu1 := un1 hr
  have hN : N31.Nodup := sc31.nd
  have hr2 : Room 2 (A.deeper (PyProof.Rows.envOfC "Reader._atom" (defScope (inClass (top 23) 13)) s.heap.objs.size f cdv)) := hr.mono (by omega)
  exact mss_cons (ms_set (i := 1) hN rfl (.inl rfl) (me_meth0 (c := 3) q_33 (me_fld q_28 V.fld_Reader_words (me_var (i := 0) rfl (.inl rfl))) V.c_Words V.m_Words_ahead (I 10 d10 rfl) hr V.b_10_1 tk)) (mss_cons (ms_if ((mw_and (mt_cmp (m_isnot) (me_var (i := 1) rfl (.inl rfl)) (me_non)) (mw_and1 (mt_tru (me_call (I 3 d3 rfl) hr (by rfl) V.g_is_number (V.F 3 d3 rfl).kp V.b_3_1 tk (ma_cons (me_var (i := 1) rfl (.inl rfl)) (ma_nil)))))).pt) (mss_one (ms_ret (me_tup (ma_cons (me_str q_16) (ma_cons (me_meth0 (c := 3) q_65 (me_fld q_28 V.fld_Reader_words (me_var (i := 0) rfl (.inl rfl))) V.c_Words V.m_Words_take_number (I 16 d16 rfl) hr V.b_16_1 tk) (ma_nil)))))) (mss_nil)) (mss_cons (ms_if (mt_cmp (m_eq hu) (me_var (i := 1) rfl (.inl rfl)) (me_str q_61)) (mss_cons (ms_expr (me_meth (c := 3) q_43 (me_fld q_28 V.fld_Reader_words (me_var (i := 0) rfl (.inl rfl))) V.c_Words V.m_Words_just (I 12 d12 rfl) hr V.b_12_2 tk (ma_cons (me_str q_61) (ma_nil)))) (mss_cons (ms_set (i := 2) hN rfl (.inl rfl) (me_meth0 (c := 4) q_42 (me_var (i := 0) rfl (.inl rfl)) V.c_Reader V.m_Reader_expression (I 19 d19 rfl) hr V.b_19_1 tk)) (mss_cons (ms_expr (me_meth (c := 3) q_43 (me_fld q_28 V.fld_Reader_words (me_var (i := 0) rfl (.inl rfl))) V.c_Words V.m_Words_just (I 12 d12 rfl) hr V.b_12_2 tk (ma_cons (me_str q_66) (ma_nil)))) (mss_one (ms_ret (me_var (i := 2) rfl (.inl rfl))))))) (mss_nil)) (mss_cons (ms_if (mt_cmp (m_eq hu) (me_var (i := 1) rfl (.inl rfl)) (me_str q_48)) (mss_one (ms_ret (me_meth0 (c := 4) q_67 (me_var (i := 0) rfl (.inl rfl)) V.c_Reader V.m_Reader__record (I 32 d32 rfl) hr V.b_32_1 tk))) (mss_nil)) (mss_cons (ms_if (mt_cmp (m_notin2 hu) (me_var (i := 1) rfl (.inl rfl)) (me_fld q_35 V.fld_Reader_known (me_var (i := 0) rfl (.inl rfl)))) (mss_one (ms_expr (me_meth0 (c := 3) q_32 (me_fld q_28 V.fld_Reader_words (me_var (i := 0) rfl (.inl rfl))) V.c_Words V.m_Words_refuse (I 9 d9 rfl) hr V.b_9_1 tk))) (mss_nil)) (mss_one (ms_ret (me_tup (ma_cons (me_str q_17) (ma_cons (me_meth0 (c := 3) q_44 (me_fld q_28 V.fld_Reader_words (me_var (i := 0) rfl (.inl rfl))) V.c_Words V.m_Words_take_name (I 14 d14 rfl) hr V.b_14_1 tk) (ma_nil))))))))))
def N32 : List Str := ["self", "inner", "label", "value", "fields"]
theorem sc32 : FnScope N32 (pss 32) (defScope (inClass (top 23) 14)) := ⟨rfl, rfl, rfl, by decide +kernel, rfl, by decide +kernel, by decide +kernel⟩
def b32 (T T1 : Tbl) : S := sSeq (sDrop (eMeth 2 3 s_43 (T 12) [] (eUn (getF [4] s_28) (eVar 0)) (aCons (eC (.str s_48)) (aNil)))) (sSeq (sIf (tTru (eMeth 2 3 s_51 (T 13) [] (eUn (getF [4] s_28) (eVar 0)) (aCons (eC (.str s_52)) (aNil)))) (sRet (eTup (aCons (eC (.str s_21)) (aCons (eTup (aNil)) (aNil))))) (sNext)) (sSeq (sIf (tOr' (tBl (eBin oNe (eMeth 2 3 s_33 (T 10) [] (eUn (getF [4] s_28) (eVar 0)) (aCons (eC (.int 1)) (aNil))) (eC (.str s_47)))) (tNot' (tTru (eCall 1 (T 1) [] (aCons (eMeth 2 3 s_33 (T 10) [.int 0] (eUn (getF [4] s_28) (eVar 0)) (aNil)) (aNil)))))) (sSeq (sSet 1 (eMeth 1 4 s_42 (T 19) [] (eVar 0) (aNil))) (sSeq (sDrop (eMeth 2 3 s_43 (T 12) [] (eUn (getF [4] s_28) (eVar 0)) (aCons (eC (.str s_8)) (aNil)))) (sSeq (sSet 2 (eMeth 1 3 s_44 (T 14) [] (eUn (getF [4] s_28) (eVar 0)) (aNil))) (sSeq (sDrop (eMeth 2 3 s_43 (T 12) [] (eUn (getF [4] s_28) (eVar 0)) (aCons (eC (.str s_47)) (aNil)))) (sSeq (sSet 3 (eMeth 1 4 s_42 (T 19) [] (eVar 0) (aNil))) (sSeq (sDrop (eMeth 2 3 s_43 (T 12) [] (eUn (getF [4] s_28) (eVar 0)) (aCons (eC (.str s_52)) (aNil)))) (sRet (eTup (aCons (eC (.str s_25)) (aCons (eVar 1) (aCons (eVar 2) (aCons (eVar 3) (aNil))))))))))))) (sNext)) (sSeq (sSet 4 (eLst (aNil))) (sSeq (sWhile 200000 (tTru (eC (.bl true))) (sSeq (sIf (tAnd' (tBl (eBin oGt (eBi bLen (aCons (eVar 4) (aNil))) (eC (.int 0)))) (tAnd' (tBl (eBin oIsNot (eMeth 2 3 s_33 (T 10) [.int 0] (eUn (getF [4] s_28) (eVar 0)) (aNil)) (eC .non))) (tTru (eCall 1 (T 1) [] (aCons (eMeth 2 3 s_33 (T 10) [.int 0] (eUn (getF [4] s_28) (eVar 0)) (aNil)) (aNil)))))) (sIf (tBl (eBin oLe (eMeth 2 3 s_33 (T 10) [.int 0] (eUn (getF [4] s_28) (eVar 0)) (aNil)) (eBin oIx (eBin oIx (eVar 4) (eUn oNeg (eC (.int 1)))) (eC (.int 0))))) (sDrop (eMeth 1 3 s_32 (T 9) [] (eUn (getF [4] s_28) (eVar 0)) (aNil))) (sNext)) (sNext)) (sSeq (sSet 2 (eMeth 1 3 s_44 (T 14) [] (eUn (getF [4] s_28) (eVar 0)) (aNil))) (sSeq (sDrop (eMeth 2 3 s_43 (T 12) [] (eUn (getF [4] s_28) (eVar 0)) (aCons (eC (.str s_47)) (aNil)))) (sSeq (sDrop (eBm isL lAppend (eVar 4) (aCons (eTup (aCons (eVar 2) (aCons (eMeth 1 4 s_42 (T 19) [] (eVar 0) (aNil)) (aNil)))) (aNil)))) (sIf (tNot' (tTru (eMeth 2 3 s_51 (T 13) [] (eUn (getF [4] s_28) (eVar 0)) (aCons (eC (.str s_68)) (aNil))))) (sBreak) (sNext))))))) (sSeq (sIf (tAnd' (tBl (eBin oEq (eBi bLen (aCons (eVar 4) (aNil))) (eC (.int 1)))) (tTru (eMeth 2 3 s_51 (T 13) [] (eUn (getF [4] s_28) (eVar 0)) (aCons (eC (.str s_69)) (aNil))))) (sSeq (sSet 1 (eMeth 1 4 s_42 (T 19) [] (eVar 0) (aNil))) (sSeq (sDrop (eMeth 2 3 s_43 (T 12) [] (eUn (getF [4] s_28) (eVar 0)) (aCons (eC (.str s_52)) (aNil)))) (sRet (eTup (aCons (eC (.str s_22)) (aCons (eBin oIx (eBin oIx (eVar 4) (eC (.int 0))) (eC (.int 0))) (aCons (eBin oIx (eBin oIx (eVar 4) (eC (.int 0))) (eC (.int 1))) (aCons (eVar 1) (aNil))))))))) (sNext)) (sSeq (sDrop (eMeth 2 3 s_43 (T 12) [] (eUn (getF [4] s_28) (eVar 0)) (aCons (eC (.str s_52)) (aNil)))) (sRet (eTup (aCons (eC (.str s_21)) (aCons (eBi bTuple (aCons (eVar 4) (aNil))) (aNil)))))))))))
abbrev X32 (P : Program) (w : World) (K : PySem.W.Frag) (mg : Str → Option Value) (base : Heap) (f : Addr) (cdv : Value) (A : Around) (outer : List PySem.Env) (s : Shared) (H : Hp) (E : XK) : Cx := cxOf (L2.CX P w) P w K mg base N32 "Reader._record" (defScope (inClass (top 23) 14)) f cdv A outer s H E
theorem wk32 {P : Program} {w : World} {K : PySem.W.Frag} {mg : Str → Option Value} {base : Heap} {fds : Nat → FuncData} (V : Fx K mg base fds) {n : Nat} {T T1 : Tbl} (I : Ok P w K mg base fn pss fds cn (n + 2) T) (I1 : Ok P w K mg base fn pss fds cn (n + 1) T1) {f : Addr} {cdv : Value} {A : Around} {outer : List PySem.Env} {s : Shared} {H : Hp} {E : XK}
    (hr : Room (n + 2) (A.deeper (PyProof.Rows.envOfC "Reader._record" (defScope (inClass (top 23) 14)) s.heap.objs.size f cdv))) {W : WX} (tk : Takes (X32 P w K mg base f cdv A outer s H E) W)
    (hp : PassesOwn (model P w) (X32 P w K mg base f cdv A outer s H E).A (X32 P w K mg base f cdv A outer s H E).env (X32 P w K mg base f cdv A outer s H E).xe) :
    PSs (X32 P w K mg base f cdv A outer s H E) (defBody (inClass (top 23) 14)) (TS' cn K W (b32 T T1)) := by
  have hu := un200 hr
  have hu1 := un1 hr
  have hN : N32.Nodup := sc32.nd
  have hr2 : Room 2 (A.deeper (PyProof.Rows.envOfC "Reader._record" (defScope (inClass (top 23) 14)) s.heap.objs.size f cdv)) := hr.mono (by omega)
  exact mss_cons (ms_expr (me_meth (c := 3) q_43 (me_fld q_28 V.fld_Reader_words (me_var (i := 0) rfl (.inl rfl))) V.c_Words V.m_Words_just (I 12 d12 rfl) hr V.b_12_2 tk (ma_cons (me_str q_48) (ma_nil)))) (mss_cons (ms_if (mt_tru (me_meth (c := 3) q_51 (me_fld q_28 V.fld_Reader_words (me_var (i := 0) rfl (.inl rfl))) V.c_Words V.m_Words_takes (I 13 d13 rfl) hr V.b_13_2 tk (ma_cons (me_str q_52) (ma_nil)))) (mss_one (ms_ret (me_tup (ma_cons (me_str q_21) (ma_cons (me_tup (ma_nil)) (ma_nil)))))) (mss_nil)) (mss_cons (ms_if ((mw_or (mt_cmp (m_ne hu) (me_meth (c := 3) q_33 (me_fld q_28 V.fld_Reader_words (me_var (i := 0) rfl (.inl rfl))) V.c_Words V.m_Words_ahead (I 10 d10 rfl) hr V.b_10_2 tk (ma_cons (me_int) (ma_nil))) (me_str q_47)) (mw_or1 (mt_not (mt_tru (me_call (I 1 d1 rfl) hr (by rfl) V.g_is_name (V.F 1 d1 rfl).kp V.b_1_1 tk (ma_cons (me_meth0 (c := 3) q_33 (me_fld q_28 V.fld_Reader_words (me_var (i := 0) rfl (.inl rfl))) V.c_Words V.m_Words_ahead (I 10 d10 rfl) hr V.b_10_1 tk) (ma_nil))))))).pt) (mss_cons (ms_set (i := 1) hN rfl (.inl rfl) (me_meth0 (c := 4) q_42 (me_var (i := 0) rfl (.inl rfl)) V.c_Reader V.m_Reader_expression (I 19 d19 rfl) hr V.b_19_1 tk)) (mss_cons (ms_expr (me_meth (c := 3) q_43 (me_fld q_28 V.fld_Reader_words (me_var (i := 0) rfl (.inl rfl))) V.c_Words V.m_Words_just (I 12 d12 rfl) hr V.b_12_2 tk (ma_cons (me_str q_8) (ma_nil)))) (mss_cons (ms_set (i := 2) hN rfl (.inl rfl) (me_meth0 (c := 3) q_44 (me_fld q_28 V.fld_Reader_words (me_var (i := 0) rfl (.inl rfl))) V.c_Words V.m_Words_take_name (I 14 d14 rfl) hr V.b_14_1 tk)) (mss_cons (ms_expr (me_meth (c := 3) q_43 (me_fld q_28 V.fld_Reader_words (me_var (i := 0) rfl (.inl rfl))) V.c_Words V.m_Words_just (I 12 d12 rfl) hr V.b_12_2 tk (ma_cons (me_str q_47) (ma_nil)))) (mss_cons (ms_set (i := 3) hN rfl (.inl rfl) (me_meth0 (c := 4) q_42 (me_var (i := 0) rfl (.inl rfl)) V.c_Reader V.m_Reader_expression (I 19 d19 rfl) hr V.b_19_1 tk)) (mss_cons (ms_expr (me_meth (c := 3) q_43 (me_fld q_28 V.fld_Reader_words (me_var (i := 0) rfl (.inl rfl))) V.c_Words V.m_Words_just (I 12 d12 rfl) hr V.b_12_2 tk (ma_cons (me_str q_52) (ma_nil)))) (mss_one (ms_ret (me_tup (ma_cons (me_str q_25) (ma_cons (me_var (i := 1) rfl (.inl rfl)) (ma_cons (me_var (i := 2) rfl (.inl rfl)) (ma_cons (me_var (i := 3) rfl (.inl rfl)) (ma_nil)))))))))))))) (mss_nil)) (mss_cons (ms_set (i := 4) hN rfl (.inl rfl) (me_lst (ma_nil))) (mss_cons (ms_while (n := 200000) hp (mt_tru (me_bl)) (mss_cons (ms_if ((mw_and (mt_cmp (m_gt) (me_bi (mc_len) (by rfl) V.f0 (by kernel_rfl) (ma_cons (me_var (i := 4) rfl (.inl rfl)) (ma_nil))) (me_int)) (mw_and (mt_cmp (m_isnot) (me_meth0 (c := 3) q_33 (me_fld q_28 V.fld_Reader_words (me_var (i := 0) rfl (.inl rfl))) V.c_Words V.m_Words_ahead (I 10 d10 rfl) hr V.b_10_1 tk) (me_non)) (mw_and1 (mt_tru (me_call (I 1 d1 rfl) hr (by rfl) V.g_is_name (V.F 1 d1 rfl).kp V.b_1_1 tk (ma_cons (me_meth0 (c := 3) q_33 (me_fld q_28 V.fld_Reader_words (me_var (i := 0) rfl (.inl rfl))) V.c_Words V.m_Words_ahead (I 10 d10 rfl) hr V.b_10_1 tk) (ma_nil))))))).pt) (mss_one (ms_if (mt_cmp (m_le) (me_meth0 (c := 3) q_33 (me_fld q_28 V.fld_Reader_words (me_var (i := 0) rfl (.inl rfl))) V.c_Words V.m_Words_ahead (I 10 d10 rfl) hr V.b_10_1 tk) (me_ix (m_ix hu) (me_ix (m_ix hu) (me_var (i := 4) rfl (.inl rfl)) (me_un m_neg (me_int)) (fun _ _ => by rfl)) (me_int) (fun _ _ => by rfl))) (mss_one (ms_expr (me_meth0 (c := 3) q_32 (me_fld q_28 V.fld_Reader_words (me_var (i := 0) rfl (.inl rfl))) V.c_Words V.m_Words_refuse (I 9 d9 rfl) hr V.b_9_1 tk))) (mss_nil))) (mss_nil)) (mss_cons (ms_set (i := 2) hN rfl (.inl rfl) (me_meth0 (c := 3) q_44 (me_fld q_28 V.fld_Reader_words (me_var (i := 0) rfl (.inl rfl))) V.c_Words V.m_Words_take_name (I 14 d14 rfl) hr V.b_14_1 tk)) (mss_cons (ms_expr (me_meth (c := 3) q_43 (me_fld q_28 V.fld_Reader_words (me_var (i := 0) rfl (.inl rfl))) V.c_Words V.m_Words_just (I 12 d12 rfl) hr V.b_12_2 tk (ma_cons (me_str q_47) (ma_nil)))) (mss_cons (ms_expr (me_bm ck_list F.plainAttrs_list F.slot_list_append F.type_list_append (m_append) (me_var (i := 4) rfl (.inl rfl)) (ma_cons (me_tup (ma_cons (me_var (i := 2) rfl (.inl rfl)) (ma_cons (me_meth0 (c := 4) q_42 (me_var (i := 0) rfl (.inl rfl)) V.c_Reader V.m_Reader_expression (I 19 d19 rfl) hr V.b_19_1 tk) (ma_nil)))) (ma_nil)))) (mss_one (ms_if (mt_not (mt_tru (me_meth (c := 3) q_51 (me_fld q_28 V.fld_Reader_words (me_var (i := 0) rfl (.inl rfl))) V.c_Words V.m_Words_takes (I 13 d13 rfl) hr V.b_13_2 tk (ma_cons (me_str q_68) (ma_nil))))) (mss_one (ms_break)) (mss_nil)))))))) (mss_cons (ms_if ((mw_and (mt_cmp (m_eq hu) (me_bi (mc_len) (by rfl) V.f0 (by kernel_rfl) (ma_cons (me_var (i := 4) rfl (.inl rfl)) (ma_nil))) (me_int)) (mw_and1 (mt_tru (me_meth (c := 3) q_51 (me_fld q_28 V.fld_Reader_words (me_var (i := 0) rfl (.inl rfl))) V.c_Words V.m_Words_takes (I 13 d13 rfl) hr V.b_13_2 tk (ma_cons (me_str q_69) (ma_nil)))))).pt) (mss_cons (ms_set (i := 1) hN rfl (.inl rfl) (me_meth0 (c := 4) q_42 (me_var (i := 0) rfl (.inl rfl)) V.c_Reader V.m_Reader_expression (I 19 d19 rfl) hr V.b_19_1 tk)) (mss_cons (ms_expr (me_meth (c := 3) q_43 (me_fld q_28 V.fld_Reader_words (me_var (i := 0) rfl (.inl rfl))) V.c_Words V.m_Words_just (I 12 d12 rfl) hr V.b_12_2 tk (ma_cons (me_str q_52) (ma_nil)))) (mss_one (ms_ret (me_tup (ma_cons (me_str q_22) (ma_cons (me_ix (m_ix hu) (me_ix (m_ix hu) (me_var (i := 4) rfl (.inl rfl)) (me_int) (fun _ _ => by rfl)) (me_int) (fun _ _ => by rfl)) (ma_cons (me_ix (m_ix hu) (me_ix (m_ix hu) (me_var (i := 4) rfl (.inl rfl)) (me_int) (fun _ _ => by rfl)) (me_int) (fun _ _ => by rfl)) (ma_cons (me_var (i := 1) rfl (.inl rfl)) (ma_nil)))))))))) (mss_nil)) (mss_cons (ms_expr (me_meth (c := 3) q_43 (me_fld q_28 V.fld_Reader_words (me_var (i := 0) rfl (.inl rfl))) V.c_Words V.m_Words_just (I 12 d12 rfl) hr V.b_12_2 tk (ma_cons (me_str q_52) (ma_nil)))) (mss_one (ms_ret (me_tup (ma_cons (me_str q_21) (ma_cons (me_ty (mc_tuple) (by rfl) V.f7 (by kernel_rfl) (ma_cons (me_var (i := 4) rfl (.inl rfl)) (ma_nil))) (ma_nil))))))))))))
def N33 : List Str := ["text", "known", "line", "words", "found"]
theorem sc33 : FnScope N33 (pss 33) (defScope (top 24)) := ⟨rfl, rfl, rfl, by decide +kernel, rfl, by decide +kernel, by decide +kernel⟩
def b33 (T T1 : Tbl) : S := sSeq (sSet 3 (eMake 3 3 (T1 8) [] (aCons (eVar 0) (aCons (eVar 2) (aNil))))) (sSeq (sSet 4 (eMeth 1 4 s_42 (T 19) [] (eMake 3 4 (T1 18) [] (aCons (eVar 3) (aCons (eVar 1) (aNil)))) (aNil))) (sSeq (sDrop (eMeth 1 3 s_70 (T 17) [] (eVar 3) (aNil))) (sSeq (sDrop (eCall 1 (T 7) [] (aCons (eVar 4) (aNil)))) (sRet (eVar 4)))))
abbrev X33 (P : Program) (w : World) (K : PySem.W.Frag) (mg : Str → Option Value) (base : Heap) (f : Addr) (cdv : Value) (A : Around) (outer : List PySem.Env) (s : Shared) (H : Hp) (E : XK) : Cx := cxOf (L2.CX P w) P w K mg base N33 "read_expression" (defScope (top 24)) f cdv A outer s H E
theorem wk33 {P : Program} {w : World} {K : PySem.W.Frag} {mg : Str → Option Value} {base : Heap} {fds : Nat → FuncData} (V : Fx K mg base fds) {n : Nat} {T T1 : Tbl} (I : Ok P w K mg base fn pss fds cn (n + 2) T) (I1 : Ok P w K mg base fn pss fds cn (n + 1) T1) {f : Addr} {cdv : Value} {A : Around} {outer : List PySem.Env} {s : Shared} {H : Hp} {E : XK}
    (hr : Room (n + 2) (A.deeper (PyProof.Rows.envOfC "read_expression" (defScope (top 24)) s.heap.objs.size f cdv))) {W : WX} (tk : Takes (X33 P w K mg base f cdv A outer s H E) W)
    (hp : PassesOwn (model P w) (X33 P w K mg base f cdv A outer s H E).A (X33 P w K mg base f cdv A outer s H E).env (X33 P w K mg base f cdv A outer s H E).xe) :
    PSs (X33 P w K mg base f cdv A outer s H E) (defBody (top 24)) (TS' cn K W (b33 T T1)) := by
  have hu := un200 hr
  have hu1 := un1 hr
  have hN : N33.Nodup := sc33.nd
  have hr2 : Room 2 (A.deeper (PyProof.Rows.envOfC "read_expression" (defScope (top 24)) s.heap.objs.size f cdv)) := hr.mono (by omega)
  exact mss_cons (ms_set (i := 3) hN rfl (.inl rfl) (me_make (c := 3) V.mk_Words (I1 8 d8 rfl) hr (by rfl) V.g_Words V.b_8_3 (ma_cons (me_var (i := 0) rfl (.inl rfl)) (ma_cons (me_var (i := 2) rfl (.inl rfl)) (ma_nil))))) (mss_cons (ms_set (i := 4) hN rfl (.inl rfl) (me_meth0 (c := 4) q_42 (me_make (c := 4) V.mk_Reader (I1 18 d18 rfl) hr (by rfl) V.g_Reader V.b_18_3 (ma_cons (me_var (i := 3) rfl (.inl rfl)) (ma_cons (me_var (i := 1) rfl (.inl rfl)) (ma_nil)))) V.c_Reader V.m_Reader_expression (I 19 d19 rfl) hr V.b_19_1 tk)) (mss_cons (ms_expr (me_meth0 (c := 3) q_70 (me_var (i := 3) rfl (.inl rfl)) V.c_Words V.m_Words_end (I 17 d17 rfl) hr V.b_17_1 tk)) (mss_cons (ms_expr (me_call (I 7 d7 rfl) hr (by rfl) V.g_check_size (V.F 7 d7 rfl).kp V.b_7_1 tk (ma_cons (me_var (i := 4) rfl (.inl rfl)) (ma_nil)))) (mss_one (ms_ret (me_var (i := 4) rfl (.inl rfl)))))))
def N34 : List Str := ["tape", "many", "cells", "k", "cell", "digit"]
theorem sc34 : FnScope N34 (pss 34) (defScope (top 26)) := ⟨rfl, rfl, rfl, by decide +kernel, rfl, by decide +kernel, by decide +kernel⟩
def b34 (T T1 : Tbl) : S := sSeq (sIf (tBl (eBin oLt (eBin oIx (eVar 0) (eC (.int 2))) (eVar 1))) (sSeq (sSet 2 (eBin oIx (eVar 0) (eC (.int 0)))) (sSeq (sSet 3 (eBin oIx (eVar 0) (eC (.int 1)))) (sSeq (sSet 4 (eIf (tBl (eBin oLt (eVar 3) (eBi bLen (aCons (eVar 2) (aNil))))) (eBin oIx (eVar 2) (eVar 3)) (eBin oIx (eVar 0) (eC (.int 3))))) (sSeq (sIf (tBl (eBin oLt (eVar 4) (eC (.int 0)))) (sSet 4 (eBin oSub (eBin oMul (eUn oNeg (eC (.int 2))) (eVar 4)) (eC (.int 1)))) (sNext)) (sSeq (sIf (tOr' (tBl (eBin oLt (eVar 4) (eBin oPow (eC (.int 10)) (eC (.int 9))))) (tBl (eBin oGe (eVar 3) (eBi bLen (aCons (eVar 2) (aNil)))))) (sSeq (sSet 4 (eBin oMod (eBi bInt (aCons (eBin oAdd (eBin oAdd (eBin oMul (eVar 4) (eC (.int 48271))) (eBin oMul (eVar 3) (eC (.int 69621)))) (eC (.int 12345))) (aNil))) (eC (.int 2147483647)))) (sSet 4 (eBin oMod (eBi bInt (aCons (eBin oAdd (eBin oAdd (eBin oMul (eVar 4) (eVar 4)) (eBin oMul (eVar 3) (eC (.int 39373)))) (eC (.int 6789))) (aNil))) (eC (.int 2147483629))))) (sNext)) (sSeq (sPut (eVar 0) (eC (.int 1)) (eBin oAdd (eVar 3) (eC (.int 1)))) (sPut (eVar 0) (eC (.int 2)) (eVar 4)))))))) (sNext)) (sSeq (sSet 5 (eBin oMod (eBi bInt (aCons (eBin oIx (eVar 0) (eC (.int 2))) (aNil))) (eVar 1))) (sSeq (sPut (eVar 0) (eC (.int 2)) (eBin oDiv (eBin oIx (eVar 0) (eC (.int 2))) (eVar 1))) (sRet (eVar 5))))
abbrev X34 (P : Program) (w : World) (K : PySem.W.Frag) (mg : Str → Option Value) (base : Heap) (f : Addr) (cdv : Value) (A : Around) (outer : List PySem.Env) (s : Shared) (H : Hp) (E : XK) : Cx := cxOf (L2.CX P w) P w K mg base N34 "_law_draw" (defScope (top 26)) f cdv A outer s H E
theorem wk34 {P : Program} {w : World} {K : PySem.W.Frag} {mg : Str → Option Value} {base : Heap} {fds : Nat → FuncData} (V : Fx K mg base fds) {n : Nat} {T T1 : Tbl} (I : Ok P w K mg base fn pss fds cn (n + 2) T) (I1 : Ok P w K mg base fn pss fds cn (n + 1) T1) {f : Addr} {cdv : Value} {A : Around} {outer : List PySem.Env} {s : Shared} {H : Hp} {E : XK}
    (hr : Room (n + 2) (A.deeper (PyProof.Rows.envOfC "_law_draw" (defScope (top 26)) s.heap.objs.size f cdv))) {W : WX} (tk : Takes (X34 P w K mg base f cdv A outer s H E) W)
    (hp : PassesOwn (model P w) (X34 P w K mg base f cdv A outer s H E).A (X34 P w K mg base f cdv A outer s H E).env (X34 P w K mg base f cdv A outer s H E).xe) :
    PSs (X34 P w K mg base f cdv A outer s H E) (defBody (top 26)) (TS' cn K W (b34 T T1)) := by
  have hu := un200 hr
  have hu1 := un1 hr
  have hN : N34.Nodup := sc34.nd
  have hr2 : Room 2 (A.deeper (PyProof.Rows.envOfC "_law_draw" (defScope (top 26)) s.heap.objs.size f cdv)) := hr.mono (by omega)
  exact mss_cons (ms_if (mt_cmp (m_lt) (me_ix (m_ix hu) (me_var (i := 0) rfl (.inl rfl)) (me_int) (fun _ _ => by rfl)) (me_var (i := 1) rfl (.inl rfl))) (mss_cons (ms_set (i := 2) hN rfl (.inl rfl) (me_ix (m_ix hu) (me_var (i := 0) rfl (.inl rfl)) (me_int) (fun _ _ => by rfl))) (mss_cons (ms_set (i := 3) hN rfl (.inl rfl) (me_ix (m_ix hu) (me_var (i := 0) rfl (.inl rfl)) (me_int) (fun _ _ => by rfl))) (mss_cons (ms_set (i := 4) hN rfl (.inl rfl) (me_if (mt_cmp (m_lt) (me_var (i := 3) rfl (.inl rfl)) (me_bi (mc_len) (by rfl) V.f0 (by kernel_rfl) (ma_cons (me_var (i := 2) rfl (.inl rfl)) (ma_nil)))) (me_ix (m_ix hu) (me_var (i := 2) rfl (.inl rfl)) (me_var (i := 3) rfl (.inl rfl)) (fun _ _ => by rfl)) (me_ix (m_ix hu) (me_var (i := 0) rfl (.inl rfl)) (me_int) (fun _ _ => by rfl)))) (mss_cons (ms_if (mt_cmp (m_lt) (me_var (i := 4) rfl (.inl rfl)) (me_int)) (mss_one (ms_set (i := 4) hN rfl (.inl rfl) (me_op m_sub (me_op m_mul (me_un m_neg (me_int)) (me_var (i := 4) rfl (.inl rfl))) (me_int)))) (mss_nil)) (mss_cons (ms_if ((mw_or (mt_cmp (m_lt) (me_var (i := 4) rfl (.inl rfl)) (me_op m_pow (me_int) (me_int))) (mw_or1 (mt_cmp (m_ge) (me_var (i := 3) rfl (.inl rfl)) (me_bi (mc_len) (by rfl) V.f0 (by kernel_rfl) (ma_cons (me_var (i := 2) rfl (.inl rfl)) (ma_nil)))))).pt) (mss_cons (ms_set (i := 4) hN rfl (.inl rfl) (me_op m_mod (me_ty (mc_int) (by rfl) V.f30 (by kernel_rfl) (ma_cons (me_op m_add (me_op m_add (me_op m_mul (me_var (i := 4) rfl (.inl rfl)) (me_int)) (me_op m_mul (me_var (i := 3) rfl (.inl rfl)) (me_int))) (me_int)) (ma_nil))) (me_int))) (mss_one (ms_set (i := 4) hN rfl (.inl rfl) (me_op m_mod (me_ty (mc_int) (by rfl) V.f30 (by kernel_rfl) (ma_cons (me_op m_add (me_op m_add (me_op m_mul (me_var (i := 4) rfl (.inl rfl)) (me_var (i := 4) rfl (.inl rfl))) (me_op m_mul (me_var (i := 3) rfl (.inl rfl)) (me_int))) (me_int)) (ma_nil))) (me_int))))) (mss_nil)) (mss_cons (ms_put hu1 (me_op m_add (me_var (i := 3) rfl (.inl rfl)) (me_int)) (me_var (i := 0) rfl (.inl rfl)) (me_int)) (mss_one (ms_put hu1 (me_var (i := 4) rfl (.inl rfl)) (me_var (i := 0) rfl (.inl rfl)) (me_int))))))))) (mss_nil)) (mss_cons (ms_set (i := 5) hN rfl (.inl rfl) (me_op m_mod (me_ty (mc_int) (by rfl) V.f30 (by kernel_rfl) (ma_cons (me_ix (m_ix hu) (me_var (i := 0) rfl (.inl rfl)) (me_int) (fun _ _ => by rfl)) (ma_nil))) (me_var (i := 1) rfl (.inl rfl)))) (mss_cons (ms_put hu1 (me_op m_div (me_ix (m_ix hu) (me_var (i := 0) rfl (.inl rfl)) (me_int) (fun _ _ => by rfl)) (me_var (i := 1) rfl (.inl rfl))) (me_var (i := 0) rfl (.inl rfl)) (me_int)) (mss_one (ms_ret (me_var (i := 5) rfl (.inl rfl))))))
def N35 : List Str := ["script", "mix", "cell"]
theorem sc35 : FnScope N35 (pss 35) (defScope (top 27)) := ⟨rfl, rfl, rfl, by decide +kernel, rfl, by decide +kernel, by decide +kernel⟩
def b35 (T T1 : Tbl) : S := sSeq (sSet 1 (eBi bLen (aCons (eVar 0) (aNil)))) (sSeq (sFor 200000 (iSeq (eVar 0)) (gNm 2) (sSet 1 (eBin oMod (eBi bInt (aCons (eBin oAdd (eBin oAdd (eBin oMul (eVar 1) (eC (.int 48271))) (eBin oMul (eVar 2) (eC (.int 16807)))) (eC (.int 7))) (aNil))) (eC (.int 1000000007))))) (sRet (eLst (aCons (eBi bList (aCons (eVar 0) (aNil))) (aCons (eC (.int 0)) (aCons (eC (.int 0)) (aCons (eVar 1) (aNil))))))))
abbrev X35 (P : Program) (w : World) (K : PySem.W.Frag) (mg : Str → Option Value) (base : Heap) (f : Addr) (cdv : Value) (A : Around) (outer : List PySem.Env) (s : Shared) (H : Hp) (E : XK) : Cx := cxOf (L2.CX P w) P w K mg base N35 "_law_tape" (defScope (top 27)) f cdv A outer s H E
theorem wk35 {P : Program} {w : World} {K : PySem.W.Frag} {mg : Str → Option Value} {base : Heap} {fds : Nat → FuncData} (V : Fx K mg base fds) {n : Nat} {T T1 : Tbl} (I : Ok P w K mg base fn pss fds cn (n + 2) T) (I1 : Ok P w K mg base fn pss fds cn (n + 1) T1) {f : Addr} {cdv : Value} {A : Around} {outer : List PySem.Env} {s : Shared} {H : Hp} {E : XK}
    (hr : Room (n + 2) (A.deeper (PyProof.Rows.envOfC "_law_tape" (defScope (top 27)) s.heap.objs.size f cdv))) {W : WX} (tk : Takes (X35 P w K mg base f cdv A outer s H E) W)
    (hp : PassesOwn (model P w) (X35 P w K mg base f cdv A outer s H E).A (X35 P w K mg base f cdv A outer s H E).env (X35 P w K mg base f cdv A outer s H E).xe) :
    PSs (X35 P w K mg base f cdv A outer s H E) (defBody (top 27)) (TS' cn K W (b35 T T1)) := by
  have hu := un200 hr
  have hu1 := un1 hr
  have hN : N35.Nodup := sc35.nd
  have hr2 : Room 2 (A.deeper (PyProof.Rows.envOfC "_law_tape" (defScope (top 27)) s.heap.objs.size f cdv)) := hr.mono (by omega)
  exact mss_cons (ms_set (i := 1) hN rfl (.inl rfl) (me_bi (mc_len) (by rfl) V.f0 (by kernel_rfl) (ma_cons (me_var (i := 0) rfl (.inl rfl)) (ma_nil)))) (mss_cons (ms_for (n := 200000) hp rfl (mi_seq (me_var (i := 0) rfl (.inl rfl))) (mg_name (i := 2) hN rfl (.inl rfl)) (mss_one (ms_set (i := 1) hN rfl (.inl rfl) (me_op m_mod (me_ty (mc_int) (by rfl) V.f30 (by kernel_rfl) (ma_cons (me_op m_add (me_op m_add (me_op m_mul (me_var (i := 1) rfl (.inl rfl)) (me_int)) (me_op m_mul (me_var (i := 2) rfl (.inl rfl)) (me_int))) (me_int)) (ma_nil))) (me_int))))) (mss_one (ms_ret (me_lst (ma_cons (me_ty (mc_list) (by rfl) V.f33 (by kernel_rfl) (ma_cons (me_var (i := 0) rfl (.inl rfl)) (ma_nil))) (ma_cons (me_int) (ma_cons (me_int) (ma_cons (me_var (i := 1) rfl (.inl rfl)) (ma_nil)))))))))
def N36 : List Str := ["told", "due"]
theorem sc36 : FnScope N36 (pss 36) (defScope (top 28)) := ⟨rfl, rfl, rfl, by decide +kernel, rfl, by decide +kernel, by decide +kernel⟩
def b36 (T T1 : Tbl) : S := sRet (eAnd (eBi bIsi (aCons (eVar 0) (aCons (eC (.ty .bool)) (aNil)))) (eBin oEq (eVar 0) (eVar 1)))
abbrev X36 (P : Program) (w : World) (K : PySem.W.Frag) (mg : Str → Option Value) (base : Heap) (f : Addr) (cdv : Value) (A : Around) (outer : List PySem.Env) (s : Shared) (H : Hp) (E : XK) : Cx := cxOf (L2.CX P w) P w K mg base N36 "_law_same" (defScope (top 28)) f cdv A outer s H E
theorem wk36 {P : Program} {w : World} {K : PySem.W.Frag} {mg : Str → Option Value} {base : Heap} {fds : Nat → FuncData} (V : Fx K mg base fds) {n : Nat} {T T1 : Tbl} (I : Ok P w K mg base fn pss fds cn (n + 2) T) (I1 : Ok P w K mg base fn pss fds cn (n + 1) T1) {f : Addr} {cdv : Value} {A : Around} {outer : List PySem.Env} {s : Shared} {H : Hp} {E : XK}
    (hr : Room (n + 2) (A.deeper (PyProof.Rows.envOfC "_law_same" (defScope (top 28)) s.heap.objs.size f cdv))) {W : WX} (tk : Takes (X36 P w K mg base f cdv A outer s H E) W)
    (hp : PassesOwn (model P w) (X36 P w K mg base f cdv A outer s H E).A (X36 P w K mg base f cdv A outer s H E).env (X36 P w K mg base f cdv A outer s H E).xe) :
    PSs (X36 P w K mg base f cdv A outer s H E) (defBody (top 28)) (TS' cn K W (b36 T T1)) := by
  have hu := un200 hr
  have hu1 := un1 hr
  have hN : N36.Nodup := sc36.nd
  have hr2 : Room 2 (A.deeper (PyProof.Rows.envOfC "_law_same" (defScope (top 28)) s.heap.objs.size f cdv)) := hr.mono (by omega)
  exact mss_one (ms_ret (me_and (me_bi (mc_isi) (by rfl) V.f62 (by kernel_rfl) (ma_cons (me_var (i := 0) rfl (.inl rfl)) (ma_cons (me_tyv (t := .bool) (by rfl) (V.f63) (by kernel_rfl)) (ma_nil)))) (me_one (me_cmp (m_eq hu) (me_var (i := 0) rfl (.inl rfl)) (me_var (i := 1) rfl (.inl rfl))))))
def N37 : List Str := ["text", "known"]
theorem sc37 : FnScope N37 (pss 37) (defScope (top 29)) := ⟨rfl, rfl, rfl, by decide +kernel, rfl, by decide +kernel, by decide +kernel⟩
def b37 (T T1 : Tbl) : S := sTry (sRet (eCall 3 (T 33) [.int 1] (aCons (eVar 0) (aCons (eVar 1) (aNil))))) [⟨[1], [0, 2], none, sRet (eC .non)⟩]
abbrev X37 (P : Program) (w : World) (K : PySem.W.Frag) (mg : Str → Option Value) (base : Heap) (f : Addr) (cdv : Value) (A : Around) (outer : List PySem.Env) (s : Shared) (H : Hp) (E : XK) : Cx := cxOf (L2.CX P w) P w K mg base N37 "_law_read" (defScope (top 29)) f cdv A outer s H E
theorem wk37 {P : Program} {w : World} {K : PySem.W.Frag} {mg : Str → Option Value} {base : Heap} {fds : Nat → FuncData} (V : Fx K mg base fds) {n : Nat} {T T1 : Tbl} (I : Ok P w K mg base fn pss fds cn (n + 2) T) (I1 : Ok P w K mg base fn pss fds cn (n + 1) T1) {f : Addr} {cdv : Value} {A : Around} {outer : List PySem.Env} {s : Shared} {H : Hp} {E : XK}
    (hr : Room (n + 2) (A.deeper (PyProof.Rows.envOfC "_law_read" (defScope (top 29)) s.heap.objs.size f cdv))) {W : WX} (tk : Takes (X37 P w K mg base f cdv A outer s H E) W)
    (hp : PassesOwn (model P w) (X37 P w K mg base f cdv A outer s H E).A (X37 P w K mg base f cdv A outer s H E).env (X37 P w K mg base f cdv A outer s H E).xe) :
    PSs (X37 P w K mg base f cdv A outer s H E) (defBody (top 29)) (TS' cn K W (b37 T T1)) := by
  have hu := un200 hr
  have hu1 := un1 hr
  have hN : N37.Nodup := sc37.nd
  have hr2 : Room 2 (A.deeper (PyProof.Rows.envOfC "_law_read" (defScope (top 29)) s.heap.objs.size f cdv)) := hr.mono (by omega)
  exact mss_one (ms_try rfl rfl tk (fun W pn xe tk hp => mss_one (ms_ret (me_call (I 33 d33 rfl) hr (by rfl) V.g_read_expression (V.F 33 d33 rfl).kp V.b_33_2 tk (ma_cons (me_var (i := 0) rfl (.inl rfl)) (ma_cons (me_var (i := 1) rfl (.inl rfl)) (ma_nil)))))) (.cons ⟨by rfl, by decide, .inl V.g_BadText⟩ V.ey_BadText V.en_BadText (fun a oe cls d pn hz hf => mss_one (ms_ret (me_non))) (.nil)))
def N38 : List Str := ["script", "tape", "small", "large", "digits", "word", "k", "more", "words", "plain", "sign", "name", "mixed", "tag", "rest", "number", "told"]
theorem sc38 : FnScope N38 (pss 38) (defScope (top 30)) := ⟨rfl, rfl, rfl, by decide +kernel, rfl, by decide +kernel, by decide +kernel⟩
def b38 (T T1 : Tbl) : S := sSeq (sSet 1 (eCall 1 (T 35) [] (aCons (eVar 0) (aNil)))) (sSeq (sAsg (eTup (aCons (eC (.str s_71)) (aCons (eC (.str s_72)) (aCons (eC (.str s_73)) (aNil))))) (gTp 3 (gsCons (gNm 2) (gsCons (gNm 3) (gsCons (gNm 4) (gsNil)))))) (sSeq (sSet 5 (eBm isS sJoin (eC (.str s_0)) (aCons (eLcX 200000 (iRg1 (aCons (eCall 2 (T 34) [] (aCons (eVar 1) (aCons (eC (.int 14)) (aNil)))) (aNil))) (gNm 6) (tYs) (eBin oIx (eBin oAdd (eBin oAdd (eBin oAdd (eVar 2) (eVar 3)) (eVar 4)) (eC (.str s_74))) (eCall 2 (T 34) [] (aCons (eVar 1) (aCons (eC (.int 21)) (aNil))))) [6]) (aNil)))) (sSeq (sIf (tBl (eBin oEq (eCall 2 (T 34) [] (aCons (eVar 1) (aCons (eC (.int 4)) (aNil)))) (eC (.int 0)))) (sSeq (sSet 7 (eLst (aCons (eC (.str s_16)) (aCons (eC (.str s_75)) (aCons (eBin oMul2 (eC (.str s_76)) (eC (.int 12))) (aCons (eBin oMul2 (eC (.str s_76)) (eC (.int 13))) (aCons (eC (.str s_77)) (aCons (eC (.str s_78)) (aCons (eC (.str s_15)) (aCons (eC (.str s_79)) (aCons (eC (.str s_80)) (aCons (eC (.str s_81)) (aCons (eC (.str s_82)) (aNil)))))))))))))) (sSet 5 (eBin oIx (eBin oAdd (eLst (aCons (eC (.str s_1)) (aCons (eC (.str s_2)) (aCons (eC (.str s_3)) (aCons (eC (.str s_4)) (aCons (eC (.str s_5)) (aCons (eC (.str s_6)) (aCons (eC (.str s_7)) (aCons (eC (.str s_8)) (aCons (eC (.str s_9)) (aCons (eC (.str s_10)) (aNil)))))))))))) (eVar 7)) (eCall 2 (T 34) [] (aCons (eVar 1) (aCons (eC (.int 21)) (aNil))))))) (sNext)) (sSeq (sSet 8 (eLst (aCons (eC (.str s_1)) (aCons (eC (.str s_2)) (aCons (eC (.str s_3)) (aCons (eC (.str s_4)) (aCons (eC (.str s_5)) (aCons (eC (.str s_6)) (aCons (eC (.str s_7)) (aCons (eC (.str s_8)) (aCons (eC (.str s_9)) (aCons (eC (.str s_10)) (aNil))))))))))))) (sSeq (sSet 9 (eBin oNotIn2 (eC (.bl false)) (eLc 200000 (iSeq (eVar 5)) (gNm 10) (tYs) (eBin oIn2 (eVar 10) (eC (.str s_83))) [10]))) (sSeq (sSet 11 (eAnd (eChain oLt oLe (eC (.int 0)) (eBi bLen (aCons (eVar 5) (aNil))) (eC (.int 12))) (eAnd (eVar 9) (eAnd (eBin oIn2 (eBin oIx (eVar 5) (eC (.int 0))) (eC (.str s_11))) (eBin oNotIn2 (eVar 5) (eVar 8)))))) (sSeq (sSet 12 (eBin oNotIn2 (eC (.bl false)) (eLc 200000 (iSeq (eVar 5)) (gNm 10) (tYs) (eBin oIn2 (eVar 10) (eC (.str s_84))) [10]))) (sSeq (sSet 13 (eAnd (eChain oLt oLe (eC (.int 0)) (eBi bLen (aCons (eVar 5) (aNil))) (eC (.int 12))) (eAnd (eVar 12) (eBin oIn2 (eBin oIx (eVar 5) (eC (.int 0))) (eC (.str s_13)))))) (sSeq (sSet 14 (eIf (tBl (eBin oEq (eSl (eVar 5) (pNone) (pSome (eC (.int 1)))) (eC (.str s_14)))) (eSl (eVar 5) (pSome (eC (.int 1))) (pNone)) (eVar 5))) (sSeq (sSet 15 (eAnd (eChain oLt oLe (eC (.int 0)) (eBi bLen (aCons (eVar 14) (aNil))) (eC (.int 12))) (eAnd (eBin oNotIn2 (eC (.bl false)) (eLc 200000 (iSeq (eVar 14)) (gNm 10) (tYs) (eBin oIn2 (eVar 10) (eC (.str s_12))) [10])) (eOr (eBin oEq (eVar 5) (eC (.str s_15))) (eBin oNe (eBin oIx (eVar 14) (eC (.int 0))) (eC (.str s_15))))))) (sSeq (sIf (tOr' (tNot' (tTru (eCall 2 (T 36) [] (aCons (eCall 1 (T 1) [] (aCons (eVar 5) (aNil))) (aCons (eVar 11) (aNil)))))) (tOr' (tNot' (tTru (eCall 2 (T 36) [] (aCons (eCall 1 (T 2) [] (aCons (eVar 5) (aNil))) (aCons (eVar 13) (aNil)))))) (tNot' (tTru (eCall 2 (T 36) [] (aCons (eCall 1 (T 3) [] (aCons (eVar 5) (aNil))) (aCons (eVar 15) (aNil)))))))) (sRet (eC (.bl false))) (sNext)) (sSeq (sSet 16 (eCall 2 (T 37) [] (aCons (eVar 5) (aCons (eIf (tTru (eVar 11)) (eTup (aCons (eVar 5) (aNil))) (eTup (aNil))) (aNil))))) (sSeq (sIf (tBl (eBin oNe (eVar 16) (eIf (tTru (eVar 15)) (eTup (aCons (eC (.str s_16)) (aCons (eBi bInt (aCons (eVar 5) (aNil))) (aNil)))) (eIf (tTru (eVar 11)) (eTup (aCons (eC (.str s_17)) (aCons (eVar 5) (aNil)))) (eC .non))))) (sRet (eC (.bl false))) (sNext)) (sSeq (sIf (tBl (eBin oNe (eCall 2 (T 37) [] (aCons (eBin oAdd (eBin oAdd (eC (.str s_85)) (eVar 5)) (eC (.str s_86))) (aCons (eTup (aNil)) (aNil)))) (eIf (tTru (eVar 11)) (eTup (aCons (eC (.str s_2)) (aCons (eVar 5) (aCons (eTup (aCons (eC (.str s_16)) (aCons (eC (.int 1)) (aNil)))) (aNil))))) (eC .non)))) (sRet (eC (.bl false))) (sNext)) (sSeq (sIf (tBl (eBin oNe (eCall 2 (T 37) [] (aCons (eBin oAdd (eBin oAdd (eC (.str s_87)) (eVar 5)) (eC (.str s_88))) (aCons (eTup (aNil)) (aNil)))) (eIf (tTru (eVar 11)) (eTup (aCons (eC (.str s_21)) (aCons (eTup (aCons (eTup (aCons (eVar 5) (aCons (eTup (aCons (eC (.str s_16)) (aCons (eC (.int 1)) (aNil)))) (aNil)))) (aNil))) (aNil)))) (eC .non)))) (sRet (eC (.bl false))) (sNext)) (sRet (eBin oEq (eCall 2 (T 37) [] (aCons (eBin oAdd (eVar 5) (eC (.str s_89))) (aCons (eTup (aNil)) (aNil)))) (eIf (tTru (eVar 13)) (eTup (aCons (eC (.str s_26)) (aCons (eVar 5) (aCons (eTup (aCons (eC (.str s_16)) (aCons (eC (.int 1)) (aNil)))) (aNil))))) (eIf (tTru (eVar 15)) (eTup (aCons (eC (.str s_18)) (aCons (eTup (aCons (eC (.str s_16)) (aCons (eBi bInt (aCons (eVar 5) (aNil))) (aNil)))) (aCons (eTup (aCons (eC (.str s_16)) (aCons (eC (.int 1)) (aNil)))) (aNil))))) (eC .non))))))))))))))))))))
abbrev X38 (P : Program) (w : World) (K : PySem.W.Frag) (mg : Str → Option Value) (base : Heap) (f : Addr) (cdv : Value) (A : Around) (outer : List PySem.Env) (s : Shared) (H : Hp) (E : XK) : Cx := cxOf (L2.CX P w) P w K mg base N38 "law" (defScope (top 30)) f cdv A outer s H E
theorem wk38 {P : Program} {w : World} {K : PySem.W.Frag} {mg : Str → Option Value} {base : Heap} {fds : Nat → FuncData} (V : Fx K mg base fds) {n : Nat} {T T1 : Tbl} (I : Ok P w K mg base fn pss fds cn (n + 2) T) (I1 : Ok P w K mg base fn pss fds cn (n + 1) T1) {f : Addr} {cdv : Value} {A : Around} {outer : List PySem.Env} {s : Shared} {H : Hp} {E : XK}
    (hr : Room (n + 2) (A.deeper (PyProof.Rows.envOfC "law" (defScope (top 30)) s.heap.objs.size f cdv))) {W : WX} (tk : Takes (X38 P w K mg base f cdv A outer s H E) W)
    (hp : PassesOwn (model P w) (X38 P w K mg base f cdv A outer s H E).A (X38 P w K mg base f cdv A outer s H E).env (X38 P w K mg base f cdv A outer s H E).xe) :
    PSs (X38 P w K mg base f cdv A outer s H E) (defBody (top 30)) (TS' cn K W (b38 T T1)) := by
  have hu := un200 hr
  have hu1 := un1 hr
  have hN : N38.Nodup := sc38.nd
  have hr2 : Room 2 (A.deeper (PyProof.Rows.envOfC "law" (defScope (top 30)) s.heap.objs.size f cdv)) := hr.mono (by omega)
  exact mss_cons (ms_set (i := 1) hN rfl (.inr rfl) (me_call (I 35 d35 rfl) hr (by rfl) V.g__law_tape (V.F 35 d35 rfl).kp V.b_35_1 tk (ma_cons (me_var (i := 0) rfl (.inl rfl)) (ma_nil)))) (mss_cons (ms_asg (me_tup (ma_cons (me_str q_71) (ma_cons (me_str q_72) (ma_cons (me_str q_73) (ma_nil))))) (mg_tup rfl (mgs_cons (mg_name (i := 2) hN rfl (.inr rfl)) (mgs_cons (mg_name (i := 3) hN rfl (.inr rfl)) (mgs_cons (mg_name (i := 4) hN rfl (.inr rfl)) (mgs_nil)))))) (mss_cons (ms_set (i := 5) hN rfl (.inl rfl) (me_bm ck_str F.plainAttrs_str F.slot_str_join F.type_str_join (m_join) (me_str q_0) (ma_cons (me_lcX rfl rfl tk rfl hN (mi_rng1 (by rfl) V.f70 (ma_cons (me_call (I 34 d34 rfl) hr (by rfl) V.g__law_draw (V.F 34 d34 rfl).kp V.b_34_2 tk (ma_cons (me_var (i := 1) rfl (.inr (.inl rfl))) (ma_cons (me_int) (ma_nil)))) (ma_nil))) (own := [("k", 6)]) (blkB_ok (by kernel_rfl)) (by decide) (fun _ _ _ _ _ => mg_name (i := 6) hN rfl (.inl rfl)) (fun _ _ _ _ _ => mts_nil) (fun Wk _ _ _ _ _ xe px => me_ix (m_ix hu) (me_op m_add (me_op m_add (me_op m_add (me_var (i := 2) rfl (.inr (.inl rfl))) (me_var (i := 3) rfl (.inr (.inl rfl)))) (me_var (i := 4) rfl (.inr (.inl rfl)))) (me_str q_74)) (me_callP (I 34 d34 rfl) hr (by rfl) V.g__law_draw (V.F 34 d34 rfl).kp V.b_34_2 px (ma_cons (me_var (i := 1) rfl (.inr (.inl rfl))) (ma_cons (me_int) (ma_nil)))) (fun _ _ => by rfl))) (ma_nil)))) (mss_cons (ms_if (mt_cmp (m_eq hu) (me_call (I 34 d34 rfl) hr (by rfl) V.g__law_draw (V.F 34 d34 rfl).kp V.b_34_2 tk (ma_cons (me_var (i := 1) rfl (.inr (.inl rfl))) (ma_cons (me_int) (ma_nil)))) (me_int)) (mss_cons (ms_set (i := 7) hN rfl (.inl rfl) (me_lst (ma_cons (me_str q_16) (ma_cons (me_str q_75) (ma_cons (me_op m_mul2 (me_str q_76) (me_int)) (ma_cons (me_op m_mul2 (me_str q_76) (me_int)) (ma_cons (me_str q_77) (ma_cons (me_str q_78) (ma_cons (me_str q_15) (ma_cons (me_str q_79) (ma_cons (me_str q_80) (ma_cons (me_str q_81) (ma_cons (me_str q_82) (ma_nil)))))))))))))) (mss_one (ms_set (i := 5) hN rfl (.inl rfl) (me_ix (m_ix hu) (me_op m_add (me_lst (ma_cons (me_str q_1) (ma_cons (me_str q_2) (ma_cons (me_str q_3) (ma_cons (me_str q_4) (ma_cons (me_str q_5) (ma_cons (me_str q_6) (ma_cons (me_str q_7) (ma_cons (me_str q_8) (ma_cons (me_str q_9) (ma_cons (me_str q_10) (ma_nil)))))))))))) (me_var (i := 7) rfl (.inl rfl))) (me_call (I 34 d34 rfl) hr (by rfl) V.g__law_draw (V.F 34 d34 rfl).kp V.b_34_2 tk (ma_cons (me_var (i := 1) rfl (.inr (.inl rfl))) (ma_cons (me_int) (ma_nil)))) (fun _ _ => by rfl))))) (mss_nil)) (mss_cons (ms_set (i := 8) hN rfl (.inl rfl) (me_lst (ma_cons (me_str q_1) (ma_cons (me_str q_2) (ma_cons (me_str q_3) (ma_cons (me_str q_4) (ma_cons (me_str q_5) (ma_cons (me_str q_6) (ma_cons (me_str q_7) (ma_cons (me_str q_8) (ma_cons (me_str q_9) (ma_cons (me_str q_10) (ma_nil))))))))))))) (mss_cons (ms_set (i := 9) hN rfl (.inl rfl) (me_cmp (m_notin2 hu) (me_bl) (me_lc rfl hN (mi_seq (me_var (i := 5) rfl (.inl rfl))) (own := [("sign", 10)]) (blkB_ok (by kernel_rfl)) (by decide) (fun _ _ _ _ _ => mg_name (i := 10) hN rfl (.inl rfl)) (fun _ _ _ _ _ => mts_nil) (fun _ _ _ _ _ => me_cmp (m_in2 hu) (me_var (i := 10) rfl (.inl rfl)) (me_str q_83))))) (mss_cons (ms_set (i := 11) hN rfl (.inl rfl) (me_and (me_chain (m_lt) (m_le) (me_int) (me_bi (mc_len) (by rfl) V.f0 (by kernel_rfl) (ma_cons (me_var (i := 5) rfl (.inl rfl)) (ma_nil))) (me_int)) (me_and (me_var (i := 9) rfl (.inl rfl)) (me_and (me_cmp (m_in2 hu) (me_ix (m_ix hu) (me_var (i := 5) rfl (.inl rfl)) (me_int) (fun _ _ => by rfl)) (me_str q_11)) (me_one (me_cmp (m_notin2 hu) (me_var (i := 5) rfl (.inl rfl)) (me_var (i := 8) rfl (.inl rfl)))))))) (mss_cons (ms_set (i := 12) hN rfl (.inl rfl) (me_cmp (m_notin2 hu) (me_bl) (me_lc rfl hN (mi_seq (me_var (i := 5) rfl (.inl rfl))) (own := [("sign", 10)]) (blkB_ok (by kernel_rfl)) (by decide) (fun _ _ _ _ _ => mg_name (i := 10) hN rfl (.inl rfl)) (fun _ _ _ _ _ => mts_nil) (fun _ _ _ _ _ => me_cmp (m_in2 hu) (me_var (i := 10) rfl (.inl rfl)) (me_str q_84))))) (mss_cons (ms_set (i := 13) hN rfl (.inl rfl) (me_and (me_chain (m_lt) (m_le) (me_int) (me_bi (mc_len) (by rfl) V.f0 (by kernel_rfl) (ma_cons (me_var (i := 5) rfl (.inl rfl)) (ma_nil))) (me_int)) (me_and (me_var (i := 12) rfl (.inl rfl)) (me_one (me_cmp (m_in2 hu) (me_ix (m_ix hu) (me_var (i := 5) rfl (.inl rfl)) (me_int) (fun _ _ => by rfl)) (me_str q_13)))))) (mss_cons (ms_set (i := 14) hN rfl (.inl rfl) (me_if (mt_cmp (m_eq hu) (me_sl (me_var (i := 5) rfl (.inl rfl)) (mo_none) (mo_some (me_int))) (me_str q_14)) (me_sl (me_var (i := 5) rfl (.inl rfl)) (mo_some (me_int)) (mo_none)) (me_var (i := 5) rfl (.inl rfl)))) (mss_cons (ms_set (i := 15) hN rfl (.inl rfl) (me_and (me_chain (m_lt) (m_le) (me_int) (me_bi (mc_len) (by rfl) V.f0 (by kernel_rfl) (ma_cons (me_var (i := 14) rfl (.inl rfl)) (ma_nil))) (me_int)) (me_and (me_cmp (m_notin2 hu) (me_bl) (me_lc rfl hN (mi_seq (me_var (i := 14) rfl (.inl rfl))) (own := [("sign", 10)]) (blkB_ok (by kernel_rfl)) (by decide) (fun _ _ _ _ _ => mg_name (i := 10) hN rfl (.inl rfl)) (fun _ _ _ _ _ => mts_nil) (fun _ _ _ _ _ => me_cmp (m_in2 hu) (me_var (i := 10) rfl (.inl rfl)) (me_str q_12)))) (me_one (me_or (me_cmp (m_eq hu) (me_var (i := 5) rfl (.inl rfl)) (me_str q_15)) (me_one (me_cmp (m_ne hu) (me_ix (m_ix hu) (me_var (i := 14) rfl (.inl rfl)) (me_int) (fun _ _ => by rfl)) (me_str q_15)))))))) (mss_cons (ms_if ((mw_or (mt_not (mt_tru (me_call (I 36 d36 rfl) hr (by rfl) V.g__law_same (V.F 36 d36 rfl).kp V.b_36_2 tk (ma_cons (me_call (I 1 d1 rfl) hr (by rfl) V.g_is_name (V.F 1 d1 rfl).kp V.b_1_1 tk (ma_cons (me_var (i := 5) rfl (.inl rfl)) (ma_nil))) (ma_cons (me_var (i := 11) rfl (.inl rfl)) (ma_nil)))))) (mw_or (mt_not (mt_tru (me_call (I 36 d36 rfl) hr (by rfl) V.g__law_same (V.F 36 d36 rfl).kp V.b_36_2 tk (ma_cons (me_call (I 2 d2 rfl) hr (by rfl) V.g_is_tag (V.F 2 d2 rfl).kp V.b_2_1 tk (ma_cons (me_var (i := 5) rfl (.inl rfl)) (ma_nil))) (ma_cons (me_var (i := 13) rfl (.inl rfl)) (ma_nil)))))) (mw_or1 (mt_not (mt_tru (me_call (I 36 d36 rfl) hr (by rfl) V.g__law_same (V.F 36 d36 rfl).kp V.b_36_2 tk (ma_cons (me_call (I 3 d3 rfl) hr (by rfl) V.g_is_number (V.F 3 d3 rfl).kp V.b_3_1 tk (ma_cons (me_var (i := 5) rfl (.inl rfl)) (ma_nil))) (ma_cons (me_var (i := 15) rfl (.inl rfl)) (ma_nil))))))))).pt) (mss_one (ms_ret (me_bl))) (mss_nil)) (mss_cons (ms_set (i := 16) hN rfl (.inl rfl) (me_call (I 37 d37 rfl) hr (by rfl) V.g__law_read (V.F 37 d37 rfl).kp V.b_37_2 tk (ma_cons (me_var (i := 5) rfl (.inl rfl)) (ma_cons (me_if (mt_tru (me_var (i := 11) rfl (.inl rfl))) (me_tup (ma_cons (me_var (i := 5) rfl (.inl rfl)) (ma_nil))) (me_tup (ma_nil))) (ma_nil))))) (mss_cons (ms_if (mt_cmp (m_ne hu) (me_var (i := 16) rfl (.inl rfl)) (me_if (mt_tru (me_var (i := 15) rfl (.inl rfl))) (me_tup (ma_cons (me_str q_16) (ma_cons (me_ty (mc_int) (by rfl) V.f30 (by kernel_rfl) (ma_cons (me_var (i := 5) rfl (.inl rfl)) (ma_nil))) (ma_nil)))) (me_if (mt_tru (me_var (i := 11) rfl (.inl rfl))) (me_tup (ma_cons (me_str q_17) (ma_cons (me_var (i := 5) rfl (.inl rfl)) (ma_nil)))) (me_non)))) (mss_one (ms_ret (me_bl))) (mss_nil)) (mss_cons (ms_if (mt_cmp (m_ne hu) (me_call (I 37 d37 rfl) hr (by rfl) V.g__law_read (V.F 37 d37 rfl).kp V.b_37_2 tk (ma_cons (me_op m_add (me_op m_add (me_str q_85) (me_var (i := 5) rfl (.inl rfl))) (me_str q_86)) (ma_cons (me_tup (ma_nil)) (ma_nil)))) (me_if (mt_tru (me_var (i := 11) rfl (.inl rfl))) (me_tup (ma_cons (me_str q_2) (ma_cons (me_var (i := 5) rfl (.inl rfl)) (ma_cons (me_tup (ma_cons (me_str q_16) (ma_cons (me_int) (ma_nil)))) (ma_nil))))) (me_non))) (mss_one (ms_ret (me_bl))) (mss_nil)) (mss_cons (ms_if (mt_cmp (m_ne hu) (me_call (I 37 d37 rfl) hr (by rfl) V.g__law_read (V.F 37 d37 rfl).kp V.b_37_2 tk (ma_cons (me_op m_add (me_op m_add (me_str q_87) (me_var (i := 5) rfl (.inl rfl))) (me_str q_88)) (ma_cons (me_tup (ma_nil)) (ma_nil)))) (me_if (mt_tru (me_var (i := 11) rfl (.inl rfl))) (me_tup (ma_cons (me_str q_21) (ma_cons (me_tup (ma_cons (me_tup (ma_cons (me_var (i := 5) rfl (.inl rfl)) (ma_cons (me_tup (ma_cons (me_str q_16) (ma_cons (me_int) (ma_nil)))) (ma_nil)))) (ma_nil))) (ma_nil)))) (me_non))) (mss_one (ms_ret (me_bl))) (mss_nil)) (mss_one (ms_ret (me_cmp (m_eq hu) (me_call (I 37 d37 rfl) hr (by rfl) V.g__law_read (V.F 37 d37 rfl).kp V.b_37_2 tk (ma_cons (me_op m_add (me_var (i := 5) rfl (.inl rfl)) (me_str q_89)) (ma_cons (me_tup (ma_nil)) (ma_nil)))) (me_if (mt_tru (me_var (i := 13) rfl (.inl rfl))) (me_tup (ma_cons (me_str q_26) (ma_cons (me_var (i := 5) rfl (.inl rfl)) (ma_cons (me_tup (ma_cons (me_str q_16) (ma_cons (me_int) (ma_nil)))) (ma_nil))))) (me_if (mt_tru (me_var (i := 15) rfl (.inl rfl))) (me_tup (ma_cons (me_str q_18) (ma_cons (me_tup (ma_cons (me_str q_16) (ma_cons (me_ty (mc_int) (by rfl) V.f30 (by kernel_rfl) (ma_cons (me_var (i := 5) rfl (.inl rfl)) (ma_nil))) (ma_nil)))) (ma_cons (me_tup (ma_cons (me_str q_16) (ma_cons (me_int) (ma_nil)))) (ma_nil))))) (me_non)))))))))))))))))))))
def bodies (T T1 : Tbl) : Tbl := fun i => match i with
  | 1 => isoM (fnM 2 (b1 T T1))
  | 2 => isoM (fnM 2 (b2 T T1))
  | 3 => isoM (fnM 3 (b3 T T1))
  | 4 => fnM 8 (b4 T T1)
  | 5 => fnM 4 (b5 T T1)
  | 6 => fnM 6 (b6 T T1)
  | 7 => fnM 1 (b7 T T1)
  | 8 => fnM 3 (b8 T T1)
  | 9 => fnM 1 (b9 T T1)
  | 10 => fnM 3 (b10 T T1)
  | 11 => fnM 1 (b11 T T1)
  | 12 => fnM 2 (b12 T T1)
  | 13 => fnM 2 (b13 T T1)
  | 14 => fnM 1 (b14 T T1)
  | 15 => fnM 1 (b15 T T1)
  | 16 => fnM 1 (b16 T T1)
  | 17 => fnM 1 (b17 T T1)
  | 18 => fnM 3 (b18 T T1)
  | 19 => fnM 3 (b19 T T1)
  | 20 => fnM 4 (b20 T T1)
  | 21 => fnM 2 (b21 T T1)
  | 22 => fnM 3 (b22 T T1)
  | 23 => fnM 3 (b23 T T1)
  | 24 => fnM 6 (b24 T T1)
  | 25 => fnM 2 (b25 T T1)
  | 26 => fnM 3 (b26 T T1)
  | 27 => fnM 2 (b27 T T1)
  | 28 => fnM 2 (b28 T T1)
  | 29 => fnM 3 (b29 T T1)
  | 30 => fnM 4 (b30 T T1)
  | 31 => fnM 3 (b31 T T1)
  | 32 => fnM 5 (b32 T T1)
  | 33 => fnM 5 (b33 T T1)
  | 34 => fnM 6 (b34 T T1)
  | 35 => fnM 3 (b35 T T1)
  | 36 => fnM 2 (b36 T T1)
  | 37 => isoM (fnM 2 (b37 T T1))
  | 38 => fnM 17 (b38 T T1)
  | _ => fun _ _ => .fail
theorem step {P : Program} {w : World} {K : PySem.W.Frag} {mg : Str → Option Value} {base : Heap} {fds : Nat → FuncData} (V : Fx K mg base fds) (n : Nat) (T T1 : Tbl) (I : Ok P w K mg base fn pss fds cn (n + 2) T) (I1 : Ok P w K mg base fn pss fds cn (n + 1) T1) : Ok P w K mg base fn pss fds cn (n + 3) (bodies T T1) := by
  intro i d h
  match i, h with
  | 0, h => exact fn_none
  | 1, h => cases h; exact FnOk.imp (Mi.fn_ok (V.F 1 d1 rfl) sc1 fun cdv A outer s H E hr W tk hp => wk1 V I I1 hr tk hp) fun _ _ _ _ h => iso_ok h
  | 2, h => cases h; exact FnOk.imp (Mi.fn_ok (V.F 2 d2 rfl) sc2 fun cdv A outer s H E hr W tk hp => wk2 V I I1 hr tk hp) fun _ _ _ _ h => iso_ok h
  | 3, h => cases h; exact FnOk.imp (Mi.fn_ok (V.F 3 d3 rfl) sc3 fun cdv A outer s H E hr W tk hp => wk3 V I I1 hr tk hp) fun _ _ _ _ h => iso_ok h
  | 4, h => cases h; exact Mi.fn_ok (V.F 4 d4 rfl) sc4 fun cdv A outer s H E hr W tk hp => wk4 V I I1 hr tk hp
  | 5, h => cases h; exact Mi.fn_ok (V.F 5 d5 rfl) sc5 fun cdv A outer s H E hr W tk hp => wk5 V I I1 hr tk hp
  | 6, h => cases h; exact Mi.fn_ok (V.F 6 d6 rfl) sc6 fun cdv A outer s H E hr W tk hp => wk6 V I I1 hr tk hp
  | 7, h => cases h; exact Mi.fn_ok (V.F 7 d7 rfl) sc7 fun cdv A outer s H E hr W tk hp => wk7 V I I1 hr tk hp
  | 8, h => cases h; exact Mi.fn_ok (V.F 8 d8 rfl) sc8 fun cdv A outer s H E hr W tk hp => wk8 V I I1 hr tk hp
  | 9, h => cases h; exact Mi.fn_ok (V.F 9 d9 rfl) sc9 fun cdv A outer s H E hr W tk hp => wk9 V I I1 hr tk hp
  | 10, h => cases h; exact Mi.fn_ok (V.F 10 d10 rfl) sc10 fun cdv A outer s H E hr W tk hp => wk10 V I I1 hr tk hp
  | 11, h => cases h; exact Mi.fn_ok (V.F 11 d11 rfl) sc11 fun cdv A outer s H E hr W tk hp => wk11 V I I1 hr tk hp
  | 12, h => cases h; exact Mi.fn_ok (V.F 12 d12 rfl) sc12 fun cdv A outer s H E hr W tk hp => wk12 V I I1 hr tk hp
  | 13, h => cases h; exact Mi.fn_ok (V.F 13 d13 rfl) sc13 fun cdv A outer s H E hr W tk hp => wk13 V I I1 hr tk hp
  | 14, h => cases h; exact Mi.fn_ok (V.F 14 d14 rfl) sc14 fun cdv A outer s H E hr W tk hp => wk14 V I I1 hr tk hp
  | 15, h => cases h; exact Mi.fn_ok (V.F 15 d15 rfl) sc15 fun cdv A outer s H E hr W tk hp => wk15 V I I1 hr tk hp
  | 16, h => cases h; exact Mi.fn_ok (V.F 16 d16 rfl) sc16 fun cdv A outer s H E hr W tk hp => wk16 V I I1 hr tk hp
  | 17, h => cases h; exact Mi.fn_ok (V.F 17 d17 rfl) sc17 fun cdv A outer s H E hr W tk hp => wk17 V I I1 hr tk hp
  | 18, h => cases h; exact Mi.fn_ok (V.F 18 d18 rfl) sc18 fun cdv A outer s H E hr W tk hp => wk18 V I I1 hr tk hp
  | 19, h => cases h; exact Mi.fn_ok (V.F 19 d19 rfl) sc19 fun cdv A outer s H E hr W tk hp => wk19 V I I1 hr tk hp
  | 20, h => cases h; exact Mi.fn_ok (V.F 20 d20 rfl) sc20 fun cdv A outer s H E hr W tk hp => wk20 V I I1 hr tk hp
  | 21, h => cases h; exact Mi.fn_ok (V.F 21 d21 rfl) sc21 fun cdv A outer s H E hr W tk hp => wk21 V I I1 hr tk hp
  | 22, h => cases h; exact Mi.fn_ok (V.F 22 d22 rfl) sc22 fun cdv A outer s H E hr W tk hp => wk22 V I I1 hr tk hp
  | 23, h => cases h; exact Mi.fn_ok (V.F 23 d23 rfl) sc23 fun cdv A outer s H E hr W tk hp => wk23 V I I1 hr tk hp
  | 24, h => cases h; exact Mi.fn_ok (V.F 24 d24 rfl) sc24 fun cdv A outer s H E hr W tk hp => wk24 V I I1 hr tk hp
  | 25, h => cases h; exact Mi.fn_ok (V.F 25 d25 rfl) sc25 fun cdv A outer s H E hr W tk hp => wk25 V I I1 hr tk hp
  | 26, h => cases h; exact Mi.fn_ok (V.F 26 d26 rfl) sc26 fun cdv A outer s H E hr W tk hp => wk26 V I I1 hr tk hp
  | 27, h => cases h; exact Mi.fn_ok (V.F 27 d27 rfl) sc27 fun cdv A outer s H E hr W tk hp => wk27 V I I1 hr tk hp
  | 28, h => cases h; exact Mi.fn_ok (V.F 28 d28 rfl) sc28 fun cdv A outer s H E hr W tk hp => wk28 V I I1 hr tk hp
  | 29, h => cases h; exact Mi.fn_ok (V.F 29 d29 rfl) sc29 fun cdv A outer s H E hr W tk hp => wk29 V I I1 hr tk hp
  | 30, h => cases h; exact Mi.fn_ok (V.F 30 d30 rfl) sc30 fun cdv A outer s H E hr W tk hp => wk30 V I I1 hr tk hp
  | 31, h => cases h; exact Mi.fn_ok (V.F 31 d31 rfl) sc31 fun cdv A outer s H E hr W tk hp => wk31 V I I1 hr tk hp
  | 32, h => cases h; exact Mi.fn_ok (V.F 32 d32 rfl) sc32 fun cdv A outer s H E hr W tk hp => wk32 V I I1 hr tk hp
  | 33, h => cases h; exact Mi.fn_ok (V.F 33 d33 rfl) sc33 fun cdv A outer s H E hr W tk hp => wk33 V I I1 hr tk hp
  | 34, h => cases h; exact Mi.fn_ok (V.F 34 d34 rfl) sc34 fun cdv A outer s H E hr W tk hp => wk34 V I I1 hr tk hp
  | 35, h => cases h; exact Mi.fn_ok (V.F 35 d35 rfl) sc35 fun cdv A outer s H E hr W tk hp => wk35 V I I1 hr tk hp
  | 36, h => cases h; exact Mi.fn_ok (V.F 36 d36 rfl) sc36 fun cdv A outer s H E hr W tk hp => wk36 V I I1 hr tk hp
  | 37, h => cases h; exact FnOk.imp (Mi.fn_ok (V.F 37 d37 rfl) sc37 fun cdv A outer s H E hr W tk hp => wk37 V I I1 hr tk hp) fun _ _ _ _ h => iso_ok h
  | 38, h => cases h; exact Mi.fn_ok (V.F 38 d38 rfl) sc38 fun cdv A outer s H E hr W tk hp => wk38 V I I1 hr tk hp
  | i + 39, h => simp [fn] at h
/-- the law as computed -/
def lawM (ns : List Int) : RE Val := (Lv bodies 30).1 38 [.klst (ns.map .int)] ⟨0, .nil⟩
theorem facts {P : Program} {w : World} {K : PySem.W.Frag} {h : Heap} {mg : Str → Option Value} {f : Addr} (X : K.In h) (G : h.Ns mainGlobals mg) (hfa : mg ("law" : Str) = some (.ref f)) (c : Mi.SaysM fa fn fb K) :
    ∃ fd : FuncData, (∀ (s : Shared) (v : Value), BindsTo s fd ⟨[v], []⟩ [("script", v)]) ∧ ∀ base : Heap, K.In base → base.Ns mainGlobals mg → FnOk P w K mg base (L2.CX P w) 32 f fd ["script"] (spM cn K 1 fun as m => (Lv bodies 30).1 38 as m) := by
  have hF : ∀ i : Nat, ∃ fd, ∀ d, fn[i]? = some d → FunD K d.name d.qual d.params d.body d.scope (d.dvs K) (d.kws K) (He.fAd K d.at_) fd := fun i => by
    cases q : fn[i]? with
    | none => exact ⟨default, fun d h => by cases h⟩
    | some d =>
      obtain ⟨fd, h⟩ := c.d.def_ i q
      exact ⟨fd, fun d' h' => by cases h'; exact h⟩
  obtain ⟨fds, hF⟩ := Classical.axiomOfChoice hF
  have e := hfa.symm.trans (He.glo_ok X G (c.d.fact 73 (f := .glo "law") rfl))
  cases e
  have F := hF 38 d38 rfl
  have b := FunD.bindsA (ps := ["script"]) F fun _ _ _ _ _ _ us hl => match us, hl with | [_], _ => rfl
  refine ⟨fds 38, fun s v => b s [v] rfl, fun base KB GB => ?_⟩
  have V : Fx K mg base fds := ⟨KB, GB, c, hF⟩
  exact (lv_ok P w K mg base fn pss fds cn (bodies := bodies) (fun n T T1 I I1 => step V n T T1 I I1) 30).1 38 d38 rfl
/-- the script, by values -/
theorem script_ok {K : PySem.W.Frag} {H : Hp} {a : Addr} {ns : List Int} (hO : Only H) (hS : SqL K H a (ns.map V.int)) : SqF K H a (ns.map V.int) := by
  rcases hS with (h | ⟨o, h⟩) | h
  · rcases hO a with z | ⟨o, xs, z⟩
    · rw [z] at h; cases h
    · rw [z] at h; cases h
  · exact .inl ⟨o, h⟩
  · exact .inr h
theorem ints_rv {K : PySem.W.Frag} {H : Hp} {ρ : Nat → Addr} {n : Nat} : ∀ ns : List Int, RVs K H ρ n (ns.map .int) (ns.map V.int)
  | [] => .nil
  | x :: r => .cons (.int x) (ints_rv r)
theorem law_sp {K : PySem.W.Frag} (hlaw : ∀ ns : List Int, ns.length ≤ 63 → ∃ m, lawM ns = .ok (.bl true) m) (H : Hp) (a : Addr) (ns : List Int) (hl : ns.length ≤ 63) (hO : Only H) (hS : SqL K H a (ns.map V.int)) :
    spM cn K 1 (fun as m => (Lv bodies 30).1 38 as m) [.ref a] H (fun v _ => v = .bl true) fun _ _ _ => False := by
  obtain ⟨m, e⟩ := hlaw ns hl
  refine ⟨rfl, [.klst (ns.map .int)], ⟨0, .nil⟩, fun _ => 0, ⟨Nat.zero_le _, fun i o q => (by cases q), fun i h => absurd h (Nat.not_lt_zero _), fun i j h => absurd h (Nat.not_lt_zero _)⟩, .cons (.klst (script_ok hO hS) (ints_rv ns)) .nil, ?_⟩
  show Run cn K RV (lawM ns) _ H _ _ _
  rw [e]
  intro H' ρ' x _ _ r
  cases r
  rfl
end Hd

set_option Elab.async false
set_option linter.all false
set_option autoImplicit false
set_option maxRecDepth 100000
set_option maxHeartbeats 0
namespace Hd
open PySem PySem.Spec PyProof.Rows L2 Mi
/-! the reading functions over renamed words -/
def blOf (r : RE Val) : Option Bool := match r with | .ok (.bl b) _ => some b | _ => none
def sp (x : Str) : Bool := x.cps.toList.any (Nat.beq 32)
def noSp (f : FM) : FM := fun vs m => match vs with
  | [.str x] => (match sp x with | true => .fail | false => (match blOf (f [.str x] ⟨0, .nil⟩) with | some b => .ok (.bl b) m | none => .fail))
  | _ => .fail
def txR (rt : Str) (G : E) : E := fun sl m => match (sl[1]? : Option Sl) with
  | some (Sl.v (Val.str x)) => (match beqS x rt with | true => G sl m | false => .fail)
  | _ => .fail
def bIntR (rn : Str) : List Val → MH → RE Val := fun vs m => match vs with
  | [.str x] => (match beqS x rn with
    | true => .ok (.ty .other) m
    | false => (match beqS x ⟨#[49]⟩ with | true => .ok (.int 1) m | false => .fail))
  | _ => .fail
def oGtR := onI fun i j => .bl (decide (j < i))
def oLtR := onI fun i j => .bl (decide (i < j))
def oLeR := onI fun i j => .bl (decide (i ≤ j))
def oSubR := onI fun i j => .int (i - j)
def oIAddR := onI fun i j => .int (i + j)
def oISubR := onI fun i j => .int (i - j)
def F1 : FM := isoM (fnM 2 (b1 (fun _ _ _ => .fail) (fun _ _ _ => .fail)))
def F2 : FM := isoM (fnM 2 (b2 (fun _ _ _ => .fail) (fun _ _ _ => .fail)))
def F3 : FM := isoM (fnM 3 (b3 (fun _ _ _ => .fail) (fun _ _ _ => .fail)))
def CS : List Str := [s_16, s_17, s_2, s_3, s_4, s_18, s_19, s_20, s_21, s_22, s_23, s_24, s_25, s_26, s_9, s_6, s_45, s_54, s_56, s_14, s_58, s_48, s_61, s_63, s_64, s_66, s_52, s_47, s_8, s_68, s_69]
def TX : E := (eIf (tBl (eBin oNe (eVar 1) (eC (.str s_0)))) (eBm isS sSplit (eVar 1) (aCons (eC (.str s_27)) aNil)) (eLst aNil))
/-- what a renaming of words keeps -/
structure Ren (π : Str → Str) (N : Int) (rt rn : Str) : Prop where
  beq : ∀ x y, beqS (π x) (π y) = beqS x y
  con : ∀ (i : Nat) (s : Str), CS[i]? = some s → π s = s
  p1 : RnF π N (noSp F1) F1
  p2 : RnF π N (noSp F2) F2
  p3 : RnF π N (noSp F3) F3
  int : OpB π N (bIntR rn) bInt
  tx : Rn π N (txR rt TX) TX
section
variable {π : Str → Str} {N : Int} {rt rn : Str} {T T1 T' T1' : Tbl}
theorem Ren.cS (h : Ren π N rt rn) (i : Nat) {s : Str} (e : CS[i]? = some s) : tV π N (.str s) = .str s := congrArg Val.str (h.con i s e)
theorem Ren.cT (h : Ren π N rt rn) {xs : List Str} (e : ∀ x ∈ xs, π x = x) : tV π N (.tup (xs.map Val.str)) = .tup (xs.map Val.str) := by
  show Val.tup (tVs π N (xs.map Val.str)) = _
  rw [tVs_map, List.map_map]
  exact congrArg Val.tup (List.map_congr_left fun x hx => congrArg Val.str (e x hx))
theorem op_gtR : Op2 π N oGtR oGt := op_I (fun _ _ _ => rfl) (fun _ _ => rfl)
theorem op_ltR : Op2 π N oLtR oLt := op_I (fun _ _ _ => rfl) (fun _ _ => rfl)
theorem op_leR : Op2 π N oLeR oLe := op_I (fun _ _ _ => rfl) (fun _ _ => rfl)
theorem op_subR : Op2 π N oSubR oSub := op_I (fun _ _ _ => rfl) (fun _ _ => rfl)
theorem op_iaddR : Op2 π N oIAddR oIAdd := op_I (fun _ _ _ => rfl) (fun _ _ => rfl)
theorem op_isubR : Op2 π N oISubR oISub := op_I (fun _ _ _ => rfl) (fun _ _ => rfl)
end
def r4 (rt rn : Str) (T T1 : Tbl) : S := sSeq (sSet 1 (eBin oIxR (eVar 0) (eC (.int 0)))) (sSeq (sIf (tBl (eBin oInR (eVar 1) (eTup (aCons (eC (.str s_16)) (aCons (eC (.str s_17)) aNil))))) (sRet (eTup aNil)) sNext) (sSeq (sIf (tBl (eBin oEqR (eVar 1) (eC (.str s_2)))) (sRet (eTup (aCons (eBin oIxR (eVar 0) (eC (.int 2))) aNil))) sNext) (sSeq (sIf (tBl (eBin oEqR (eVar 1) (eC (.str s_3)))) (sRet (eTup (aCons (eBin oIxR (eVar 0) (eC (.int 3))) aNil))) sNext) (sSeq (sIf (tBl (eBin oEqR (eVar 1) (eC (.str s_4)))) (sRet (eTup (aCons (eBin oIxR (eVar 0) (eC (.int 2))) (aCons (eBin oIxR (eVar 0) (eC (.int 3))) aNil)))) sNext) (sSeq (sIf (tBl (eBin oInR (eVar 1) (eTup (aCons (eC (.str s_18)) (aCons (eC (.str s_19)) aNil))))) (sRet (eTup (aCons (eBin oIxR (eVar 0) (eC (.int 1))) (aCons (eBin oIxR (eVar 0) (eC (.int 2))) aNil)))) sNext) (sSeq (sIf (tBl (eBin oEqR (eVar 1) (eC (.str s_20)))) (sRet (eTup (aCons (eBin oIxR (eVar 0) (eC (.int 2))) (aCons (eBin oIxR (eVar 0) (eC (.int 3))) aNil)))) sNext) (sSeq (sIf (tBl (eBin oEqR (eVar 1) (eC (.str s_21)))) (sRet (eBi bTupleR (aCons (eLcR 200000 (iSeqR (eBin oIxR (eVar 0) (eC (.int 1)))) (gTp 2 (gsCons (gNm 2) (gsCons (gNm 3) gsNil))) tYs (eVar 3) [2, 3]) aNil))) sNext) (sSeq (sIf (tBl (eBin oEqR (eVar 1) (eC (.str s_22)))) (sRet (eTup (aCons (eBin oIxR (eVar 0) (eC (.int 2))) (aCons (eBin oIxR (eVar 0) (eC (.int 3))) aNil)))) sNext) (sSeq (sIf (tBl (eBin oInR (eVar 1) (eTup (aCons (eC (.str s_23)) (aCons (eC (.str s_24)) aNil))))) (sRet (eTup (aCons (eBin oIxR (eVar 0) (eC (.int 1))) aNil))) sNext) (sSeq (sIf (tBl (eBin oEqR (eVar 1) (eC (.str s_25)))) (sRet (eTup (aCons (eBin oIxR (eVar 0) (eC (.int 1))) (aCons (eBin oIxR (eVar 0) (eC (.int 3))) aNil)))) sNext) (sSeq (sIf (tBl (eBin oInR (eVar 1) (eTup (aCons (eC (.str s_26)) (aCons (eC (.str s_9)) aNil))))) (sRet (eTup (aCons (eBin oIxR (eVar 0) (eC (.int 2))) aNil))) sNext) (sSeq (sSet 4 (eBi bTupleR (aCons (eLcR 200000 (iSeqR (eBin oIxR (eVar 0) (eC (.int 2)))) (gTp 3 (gsCons (gNm 5) (gsCons (gNm 6) (gsCons (gNm 7) gsNil)))) tYs (eVar 7) [5, 6, 7]) aNil))) (sRet (eBin oAddR (eBin oAddR (eTup (aCons (eBin oIxR (eVar 0) (eC (.int 1))) aNil)) (eVar 4)) (eIf (tBl (eBin oIs (eBin oIxR (eVar 0) (eC (.int 3))) (eC .non))) (eTup aNil) (eTup (aCons (eBin oIxR (eBin oIxR (eVar 0) (eC (.int 3))) (eC (.int 1))) aNil)))))))))))))))))
def r5 (rt rn : Str) (T T1 : Tbl) : S := sSeq (sSet 1 (eC (.int 0))) (sSeq (sSet 2 (eLst (aCons (eVar 0) aNil))) (sSeq (sWhile 200000 (tBl (eBin oGtR (eBi bLenR (aCons (eVar 2) aNil)) (eC (.int 0)))) (sSeq (sSet 3 (eBm isL lPop (eVar 2) aNil)) (sSeq (sAug 1 oIAddR (eC (.int 1))) (sDrop (eBm isL lExtR (eVar 2) (aCons (eCall 1 (T 4) [] (aCons (eVar 3) aNil)) aNil)))))) (sRet (eVar 1))))
def r6 (rt rn : Str) (T T1 : Tbl) : S := sSeq (sSet 1 (eC (.int 0))) (sSeq (sSet 2 (eLst (aCons (eTup (aCons (eVar 0) (aCons (eC (.int 1)) aNil))) aNil))) (sSeq (sWhile 200000 (tBl (eBin oGtR (eBi bLenR (aCons (eVar 2) aNil)) (eC (.int 0)))) (sSeq (sAsg (eBm isL lPop (eVar 2) aNil) (gTp 2 (gsCons (gNm 3) (gsCons (gNm 4) gsNil)))) (sSeq (sSet 1 (eBi bMax (aCons (eVar 1) (aCons (eVar 4) aNil)))) (sDrop (eBm isL lExtR (eVar 2) (aCons (eLcR 200000 (iSeqR (eCall 1 (T 4) [] (aCons (eVar 3) aNil))) (gNm 5) tYs (eTup (aCons (eVar 5) (aCons (eBin oAddR (eVar 4) (eC (.int 1))) aNil))) [5]) aNil)))))) (sRet (eVar 1))))
def r7 (rt rn : Str) (T T1 : Tbl) : S := sIf (tOr' (tBl (eBin oGtR (eCall 1 (T 5) [] (aCons (eVar 0) aNil)) (eC c_PLACES_MOST))) (tBl (eBin oGtR (eCall 1 (T 6) [] (aCons (eVar 0) aNil)) (eC c_DEEP_MOST)))) (sRaise (xMk0 2)) sNext
def r8 (rt rn : Str) (T T1 : Tbl) : S := sSeq (sFld [3] s_28 (eVar 0) (txR rt (eIf (tBl (eBin oNe (eVar 1) (eC (.str s_0)))) (eBm isS sSplit (eVar 1) (aCons (eC (.str s_27)) aNil)) (eLst aNil)))) (sSeq (sFld [3] s_29 (eVar 0) (eVar 2)) (sFld [3] s_30 (eVar 0) (eC (.int 0))))
def r9 (rt rn : Str) (T T1 : Tbl) : S := sRaise (xMkR 1 [s_29, s_31] (aCons (eUn (getF [3] s_29) (eVar 0)) (aCons (eUn (getF [3] s_30) (eVar 0)) aNil)))
def r10 (rt rn : Str) (T T1 : Tbl) : S := sSeq (sSet 2 (eBin oAddR (eUn (getF [3] s_30) (eVar 0)) (eVar 1))) (sRet (eIf (tBl (eBin oLtR (eVar 2) (eBi bLenR (aCons (eUn (getF [3] s_28) (eVar 0)) aNil)))) (eBin oIxR (eUn (getF [3] s_28) (eVar 0)) (eVar 2)) (eC .non)))
def r11 (rt rn : Str) (T T1 : Tbl) : S := sSeq (sIf (tBl (eBin oEqR (eUn (getF [3] s_30) (eVar 0)) (eBi bLenR (aCons (eUn (getF [3] s_28) (eVar 0)) aNil)))) (sDrop (eMeth 1 3 s_32 (T 9) [] (eVar 0) aNil)) sNext) (sSeq (sFldAug [3] s_30 (eVar 0) oIAddR (eC (.int 1))) (sRet (eBin oIxR (eUn (getF [3] s_28) (eVar 0)) (eBin oSubR (eUn (getF [3] s_30) (eVar 0)) (eC (.int 1))))))
def r12 (rt rn : Str) (T T1 : Tbl) : S := sSeq (sIf (tBl (eBin oNeR (eMeth 2 3 s_33 (T 10) [.int 0] (eVar 0) aNil) (eVar 1))) (sDrop (eMeth 1 3 s_32 (T 9) [] (eVar 0) aNil)) sNext) (sFldAug [3] s_30 (eVar 0) oIAddR (eC (.int 1)))
def r13 (rt rn : Str) (T T1 : Tbl) : S := sSeq (sIf (tBl (eBin oNeR (eMeth 2 3 s_33 (T 10) [.int 0] (eVar 0) aNil) (eVar 1))) (sRet (eC (.bl false))) sNext) (sSeq (sFldAug [3] s_30 (eVar 0) oIAddR (eC (.int 1))) (sRet (eC (.bl true))))
def r14 (rt rn : Str) (T T1 : Tbl) : S := sSeq (sIf (tOr' (tBl (eBin oIs (eMeth 2 3 s_33 (T 10) [.int 0] (eVar 0) aNil) (eC .non))) (tNot' (tTruB (eCall 1 (T 1) [] (aCons (eMeth 2 3 s_33 (T 10) [.int 0] (eVar 0) aNil) aNil))))) (sDrop (eMeth 1 3 s_32 (T 9) [] (eVar 0) aNil)) sNext) (sRet (eMeth 1 3 s_34 (T 11) [] (eVar 0) aNil))
def r15 (rt rn : Str) (T T1 : Tbl) : S := sSeq (sIf (tOr' (tBl (eBin oIs (eMeth 2 3 s_33 (T 10) [.int 0] (eVar 0) aNil) (eC .non))) (tNot' (tTruB (eCall 1 (T 2) [] (aCons (eMeth 2 3 s_33 (T 10) [.int 0] (eVar 0) aNil) aNil))))) (sDrop (eMeth 1 3 s_32 (T 9) [] (eVar 0) aNil)) sNext) (sRet (eMeth 1 3 s_34 (T 11) [] (eVar 0) aNil))
def r16 (rt rn : Str) (T T1 : Tbl) : S := sSeq (sIf (tOr' (tBl (eBin oIs (eMeth 2 3 s_33 (T 10) [.int 0] (eVar 0) aNil) (eC .non))) (tNot' (tTruB (eCall 1 (T 3) [] (aCons (eMeth 2 3 s_33 (T 10) [.int 0] (eVar 0) aNil) aNil))))) (sDrop (eMeth 1 3 s_32 (T 9) [] (eVar 0) aNil)) sNext) (sRet (eBi (bIntR rn) (aCons (eMeth 1 3 s_34 (T 11) [] (eVar 0) aNil) aNil)))
def r17 (rt rn : Str) (T T1 : Tbl) : S := sIf (tBl (eBin oLtR (eUn (getF [3] s_30) (eVar 0)) (eBi bLenR (aCons (eUn (getF [3] s_28) (eVar 0)) aNil)))) (sDrop (eMeth 1 3 s_32 (T 9) [] (eVar 0) aNil)) sNext
def r18 (rt rn : Str) (T T1 : Tbl) : S := sSeq (sFld [4] s_28 (eVar 0) (eVar 1)) (sSeq (sFld [4] s_35 (eVar 0) (eBi bListR (aCons (eVar 2) aNil))) (sFld [4] s_36 (eVar 0) (eC (.int 0))))
def r19 (rt rn : Str) (T T1 : Tbl) : S := sSeq (sFldAug [4] s_36 (eVar 0) oIAddR (eC (.int 1))) (sSeq (sIf (tBl (eBin oGtR (eUn (getF [4] s_36) (eVar 0)) (eC c_DEEP_MOST))) (sRaise (xMk0 2)) sNext) (sSeq (sSet 1 (eMeth 2 3 s_33 (T 10) [.int 0] (eUn (getF [4] s_28) (eVar 0)) aNil)) (sSeq (sIf (tBl (eBin oEqR (eVar 1) (eC (.str s_2)))) (sSet 2 (eMeth 1 4 s_37 (T 21) [] (eVar 0) aNil)) (sIf (tBl (eBin oEqR (eVar 1) (eC (.str s_3)))) (sSet 2 (eMeth 1 4 s_38 (T 22) [] (eVar 0) aNil)) (sIf (tBl (eBin oEqR (eVar 1) (eC (.str s_4)))) (sSet 2 (eMeth 1 4 s_39 (T 23) [] (eVar 0) aNil)) (sIf (tBl (eBin oEqR (eVar 1) (eC (.str s_6)))) (sSet 2 (eMeth 1 4 s_40 (T 24) [] (eVar 0) aNil)) (sSet 2 (eMeth 1 4 s_41 (T 25) [] (eVar 0) aNil)))))) (sSeq (sFldAug [4] s_36 (eVar 0) oISubR (eC (.int 1))) (sRet (eVar 2))))))
def r20 (rt rn : Str) (T T1 : Tbl) : S := sSeq (sSet 2 (eUn (getF [4] s_35) (eVar 0))) (sSeq (sFld [4] s_35 (eVar 0) (eBin oAddR (eVar 2) (eBi bListR (aCons (eVar 1) aNil)))) (sSeq (sSet 3 (eMeth 1 4 s_42 (T 19) [] (eVar 0) aNil)) (sSeq (sFld [4] s_35 (eVar 0) (eVar 2)) (sRet (eVar 3)))))
def r21 (rt rn : Str) (T T1 : Tbl) : S := sSeq (sDrop (eMeth 2 3 s_43 (T 12) [] (eUn (getF [4] s_28) (eVar 0)) (aCons (eC (.str s_2)) aNil))) (sSeq (sSet 1 (eMeth 1 3 s_44 (T 14) [] (eUn (getF [4] s_28) (eVar 0)) aNil)) (sSeq (sDrop (eMeth 2 3 s_43 (T 12) [] (eUn (getF [4] s_28) (eVar 0)) (aCons (eC (.str s_45)) aNil))) (sRet (eTup (aCons (eC (.str s_2)) (aCons (eVar 1) (aCons (eMeth 2 4 s_46 (T 20) [] (eVar 0) (aCons (eLst (aCons (eVar 1) aNil)) aNil)) aNil)))))))
def r25 (rt rn : Str) (T T1 : Tbl) : S := sSeq (sSet 1 (eMeth 1 4 s_53 (T 26) [] (eVar 0) aNil)) (sSeq (sIf (tTruB (eMeth 2 3 s_51 (T 13) [] (eUn (getF [4] s_28) (eVar 0)) (aCons (eC (.str s_54)) aNil))) (sRet (eTup (aCons (eC (.str s_19)) (aCons (eVar 1) (aCons (eMeth 1 4 s_53 (T 26) [] (eVar 0) aNil) aNil))))) sNext) (sRet (eVar 1)))
def r26 (rt rn : Str) (T T1 : Tbl) : S := sSeq (sSet 1 (eMeth 1 4 s_55 (T 27) [] (eVar 0) aNil)) (sSeq (sWhile 200000 (tBl (eBin oInR (eMeth 2 3 s_33 (T 10) [.int 0] (eUn (getF [4] s_28) (eVar 0)) aNil) (eC c_SUMS))) (sSeq (sSet 2 (eMeth 1 3 s_34 (T 11) [] (eUn (getF [4] s_28) (eVar 0)) aNil)) (sSet 1 (eTup (aCons (eC (.str s_20)) (aCons (eVar 2) (aCons (eVar 1) (aCons (eMeth 1 4 s_55 (T 27) [] (eVar 0) aNil) aNil)))))))) (sRet (eVar 1)))
def r27 (rt rn : Str) (T T1 : Tbl) : S := sSeq (sSet 1 (eMeth 1 4 s_57 (T 28) [] (eVar 0) aNil)) (sSeq (sWhile 200000 (tTruB (eMeth 2 3 s_51 (T 13) [] (eUn (getF [4] s_28) (eVar 0)) (aCons (eC (.str s_58)) aNil))) (sSet 1 (eTup (aCons (eC (.str s_20)) (aCons (eC (.str s_58)) (aCons (eVar 1) (aCons (eMeth 1 4 s_57 (T 28) [] (eVar 0) aNil) aNil))))))) (sRet (eVar 1)))
def r28 (rt rn : Str) (T T1 : Tbl) : S := sSeq (sIf (tAnd' (tBl (eBin oIsNot (eMeth 2 3 s_33 (T 10) [.int 0] (eUn (getF [4] s_28) (eVar 0)) aNil) (eC .non))) (tTruB (eCall 1 (T 2) [] (aCons (eMeth 2 3 s_33 (T 10) [.int 0] (eUn (getF [4] s_28) (eVar 0)) aNil) aNil)))) (sRet (eTup (aCons (eC (.str s_26)) (aCons (eMeth 1 3 s_49 (T 15) [] (eUn (getF [4] s_28) (eVar 0)) aNil) (aCons (eMeth 1 4 s_59 (T 30) [] (eVar 0) aNil) aNil))))) sNext) (sSeq (sIf (tTruB (eMeth 2 3 s_51 (T 13) [] (eUn (getF [4] s_28) (eVar 0)) (aCons (eC (.str s_9)) aNil))) (sRet (eTup (aCons (eC (.str s_9)) (aCons (eMeth 1 3 s_49 (T 15) [] (eUn (getF [4] s_28) (eVar 0)) aNil) (aCons (eMeth 1 4 s_59 (T 30) [] (eVar 0) aNil) aNil))))) sNext) (sSeq (sSet 1 (eMeth 1 4 s_59 (T 30) [] (eVar 0) aNil)) (sSeq (sWhile 200000 (tTruB (eMeth 1 4 s_60 (T 29) [] (eVar 0) aNil)) (sSet 1 (eTup (aCons (eC (.str s_18)) (aCons (eVar 1) (aCons (eMeth 1 4 s_59 (T 30) [] (eVar 0) aNil) aNil)))))) (sRet (eVar 1)))))
def r29 (rt rn : Str) (T T1 : Tbl) : S := sSeq (sSet 1 (eMeth 2 3 s_33 (T 10) [.int 0] (eUn (getF [4] s_28) (eVar 0)) aNil)) (sSeq (sIf (tBl (eBin oIs (eVar 1) (eC .non))) (sRet (eC (.bl false))) sNext) (sSeq (sIf (tBl (eBin oEqR (eVar 1) (eC (.str s_48)))) (sSeq (sSet 2 (eMeth 2 3 s_33 (T 10) [] (eUn (getF [4] s_28) (eVar 0)) (aCons (eC (.int 1)) aNil))) (sRet (eOr (eBin oIs (eVar 2) (eC .non)) (eNot (eCall 1 (T 2) [] (aCons (eVar 2) aNil)))))) sNext) (sRet (eOr (eBin oEqR (eVar 1) (eC (.str s_61))) (eOr (eCall 1 (T 1) [] (aCons (eVar 1) aNil)) (eCall 1 (T 3) [] (aCons (eVar 1) aNil)))))))
def r30 (rt rn : Str) (T T1 : Tbl) : S := sSeq (sSet 1 (eMeth 1 4 s_62 (T 31) [] (eVar 0) aNil)) (sSeq (sWhile 200000 (tBl (eBin oInR (eMeth 2 3 s_33 (T 10) [.int 0] (eUn (getF [4] s_28) (eVar 0)) aNil) (eTup (aCons (eC (.str s_63)) (aCons (eC (.str s_64)) aNil))))) (sSeq (sSet 2 (eMeth 1 3 s_34 (T 11) [] (eUn (getF [4] s_28) (eVar 0)) aNil)) (sSeq (sSet 3 (eMeth 1 3 s_44 (T 14) [] (eUn (getF [4] s_28) (eVar 0)) aNil)) (sSet 1 (eTup (aCons (eIf (tBl (eBin oEqR (eVar 2) (eC (.str s_63)))) (eC (.str s_23)) (eC (.str s_24))) (aCons (eVar 1) (aCons (eVar 3) aNil)))))))) (sRet (eVar 1)))
def r31 (rt rn : Str) (T T1 : Tbl) : S := sSeq (sSet 1 (eMeth 2 3 s_33 (T 10) [.int 0] (eUn (getF [4] s_28) (eVar 0)) aNil)) (sSeq (sIf (tAnd' (tBl (eBin oIsNot (eVar 1) (eC .non))) (tTruB (eCall 1 (T 3) [] (aCons (eVar 1) aNil)))) (sRet (eTup (aCons (eC (.str s_16)) (aCons (eMeth 1 3 s_65 (T 16) [] (eUn (getF [4] s_28) (eVar 0)) aNil) aNil)))) sNext) (sSeq (sIf (tBl (eBin oEqR (eVar 1) (eC (.str s_61)))) (sSeq (sDrop (eMeth 2 3 s_43 (T 12) [] (eUn (getF [4] s_28) (eVar 0)) (aCons (eC (.str s_61)) aNil))) (sSeq (sSet 2 (eMeth 1 4 s_42 (T 19) [] (eVar 0) aNil)) (sSeq (sDrop (eMeth 2 3 s_43 (T 12) [] (eUn (getF [4] s_28) (eVar 0)) (aCons (eC (.str s_66)) aNil))) (sRet (eVar 2))))) sNext) (sSeq (sIf (tBl (eBin oEqR (eVar 1) (eC (.str s_48)))) (sRet (eMeth 1 4 s_67 (T 32) [] (eVar 0) aNil)) sNext) (sSeq (sIf (tBl (eBin oNotInR (eVar 1) (eUn (getF [4] s_35) (eVar 0)))) (sDrop (eMeth 1 3 s_32 (T 9) [] (eUn (getF [4] s_28) (eVar 0)) aNil)) sNext) (sRet (eTup (aCons (eC (.str s_17)) (aCons (eMeth 1 3 s_44 (T 14) [] (eUn (getF [4] s_28) (eVar 0)) aNil) aNil))))))))
def r32 (rt rn : Str) (T T1 : Tbl) : S := sSeq (sDrop (eMeth 2 3 s_43 (T 12) [] (eUn (getF [4] s_28) (eVar 0)) (aCons (eC (.str s_48)) aNil))) (sSeq (sIf (tTruB (eMeth 2 3 s_51 (T 13) [] (eUn (getF [4] s_28) (eVar 0)) (aCons (eC (.str s_52)) aNil))) (sRet (eTup (aCons (eC (.str s_21)) (aCons (eTup aNil) aNil)))) sNext) (sSeq (sIf (tOr' (tBl (eBin oNeR (eMeth 2 3 s_33 (T 10) [] (eUn (getF [4] s_28) (eVar 0)) (aCons (eC (.int 1)) aNil)) (eC (.str s_47)))) (tNot' (tTruB (eCall 1 (T 1) [] (aCons (eMeth 2 3 s_33 (T 10) [.int 0] (eUn (getF [4] s_28) (eVar 0)) aNil) aNil))))) (sSeq (sSet 1 (eMeth 1 4 s_42 (T 19) [] (eVar 0) aNil)) (sSeq (sDrop (eMeth 2 3 s_43 (T 12) [] (eUn (getF [4] s_28) (eVar 0)) (aCons (eC (.str s_8)) aNil))) (sSeq (sSet 2 (eMeth 1 3 s_44 (T 14) [] (eUn (getF [4] s_28) (eVar 0)) aNil)) (sSeq (sDrop (eMeth 2 3 s_43 (T 12) [] (eUn (getF [4] s_28) (eVar 0)) (aCons (eC (.str s_47)) aNil))) (sSeq (sSet 3 (eMeth 1 4 s_42 (T 19) [] (eVar 0) aNil)) (sSeq (sDrop (eMeth 2 3 s_43 (T 12) [] (eUn (getF [4] s_28) (eVar 0)) (aCons (eC (.str s_52)) aNil))) (sRet (eTup (aCons (eC (.str s_25)) (aCons (eVar 1) (aCons (eVar 2) (aCons (eVar 3) aNil)))))))))))) sNext) (sSeq (sSet 4 (eLst aNil)) (sSeq (sWhile 200000 (tTruB (eC (.bl true))) (sSeq (sIf (tAnd' (tBl (eBin oGtR (eBi bLenR (aCons (eVar 4) aNil)) (eC (.int 0)))) (tAnd' (tBl (eBin oIsNot (eMeth 2 3 s_33 (T 10) [.int 0] (eUn (getF [4] s_28) (eVar 0)) aNil) (eC .non))) (tTruB (eCall 1 (T 1) [] (aCons (eMeth 2 3 s_33 (T 10) [.int 0] (eUn (getF [4] s_28) (eVar 0)) aNil) aNil))))) (sIf (tBl (eBin oLeR (eMeth 2 3 s_33 (T 10) [.int 0] (eUn (getF [4] s_28) (eVar 0)) aNil) (eBin oIxR (eBin oIxR (eVar 4) (eUn oNeg (eC (.int 1)))) (eC (.int 0))))) (sDrop (eMeth 1 3 s_32 (T 9) [] (eUn (getF [4] s_28) (eVar 0)) aNil)) sNext) sNext) (sSeq (sSet 2 (eMeth 1 3 s_44 (T 14) [] (eUn (getF [4] s_28) (eVar 0)) aNil)) (sSeq (sDrop (eMeth 2 3 s_43 (T 12) [] (eUn (getF [4] s_28) (eVar 0)) (aCons (eC (.str s_47)) aNil))) (sSeq (sDrop (eBm isL lAppend (eVar 4) (aCons (eTup (aCons (eVar 2) (aCons (eMeth 1 4 s_42 (T 19) [] (eVar 0) aNil) aNil))) aNil))) (sIf (tNot' (tTruB (eMeth 2 3 s_51 (T 13) [] (eUn (getF [4] s_28) (eVar 0)) (aCons (eC (.str s_68)) aNil)))) sBreak sNext)))))) (sSeq (sIf (tAnd' (tBl (eBin oEqR (eBi bLenR (aCons (eVar 4) aNil)) (eC (.int 1)))) (tTruB (eMeth 2 3 s_51 (T 13) [] (eUn (getF [4] s_28) (eVar 0)) (aCons (eC (.str s_69)) aNil)))) (sSeq (sSet 1 (eMeth 1 4 s_42 (T 19) [] (eVar 0) aNil)) (sSeq (sDrop (eMeth 2 3 s_43 (T 12) [] (eUn (getF [4] s_28) (eVar 0)) (aCons (eC (.str s_52)) aNil))) (sRet (eTup (aCons (eC (.str s_22)) (aCons (eBin oIxR (eBin oIxR (eVar 4) (eC (.int 0))) (eC (.int 0))) (aCons (eBin oIxR (eBin oIxR (eVar 4) (eC (.int 0))) (eC (.int 1))) (aCons (eVar 1) aNil)))))))) sNext) (sSeq (sDrop (eMeth 2 3 s_43 (T 12) [] (eUn (getF [4] s_28) (eVar 0)) (aCons (eC (.str s_52)) aNil))) (sRet (eTup (aCons (eC (.str s_21)) (aCons (eBi bTupleR (aCons (eVar 4) aNil)) aNil))))))))))
def r33 (rt rn : Str) (T T1 : Tbl) : S := sSeq (sSet 3 (eMake 3 3 (T1 8) [] (aCons (eVar 0) (aCons (eVar 2) aNil)))) (sSeq (sSet 4 (eMeth 1 4 s_42 (T 19) [] (eMake 3 4 (T1 18) [] (aCons (eVar 3) (aCons (eVar 1) aNil))) aNil)) (sSeq (sDrop (eMeth 1 3 s_70 (T 17) [] (eVar 3) aNil)) (sSeq (sDrop (eCall 1 (T 7) [] (aCons (eVar 4) aNil))) (sRet (eVar 4)))))
def bodiesR (rt rn : Str) (T T1 : Tbl) : Tbl := fun i => match i with
  | 1 => noSp F1
  | 2 => noSp F2
  | 3 => noSp F3
  | 4 => fnM 8 (r4 rt rn T T1)
  | 5 => fnM 4 (r5 rt rn T T1)
  | 6 => fnM 6 (r6 rt rn T T1)
  | 7 => fnM 1 (r7 rt rn T T1)
  | 8 => fnM 3 (r8 rt rn T T1)
  | 9 => fnM 1 (r9 rt rn T T1)
  | 10 => fnM 3 (r10 rt rn T T1)
  | 11 => fnM 1 (r11 rt rn T T1)
  | 12 => fnM 2 (r12 rt rn T T1)
  | 13 => fnM 2 (r13 rt rn T T1)
  | 14 => fnM 1 (r14 rt rn T T1)
  | 15 => fnM 1 (r15 rt rn T T1)
  | 16 => fnM 1 (r16 rt rn T T1)
  | 17 => fnM 1 (r17 rt rn T T1)
  | 18 => fnM 3 (r18 rt rn T T1)
  | 19 => fnM 3 (r19 rt rn T T1)
  | 20 => fnM 4 (r20 rt rn T T1)
  | 21 => fnM 2 (r21 rt rn T T1)
  | 25 => fnM 2 (r25 rt rn T T1)
  | 26 => fnM 3 (r26 rt rn T T1)
  | 27 => fnM 2 (r27 rt rn T T1)
  | 28 => fnM 2 (r28 rt rn T T1)
  | 29 => fnM 3 (r29 rt rn T T1)
  | 30 => fnM 4 (r30 rt rn T T1)
  | 31 => fnM 3 (r31 rt rn T T1)
  | 32 => fnM 5 (r32 rt rn T T1)
  | 33 => fnM 5 (r33 rt rn T T1)
  | _ => fun _ _ => .fail
section
variable {π : Str → Str} {N : Int} {rt rn : Str} {T T1 T' T1' : Tbl}
theorem k4 (h : Ren π N rt rn) (hT : ∀ i, RnF π N (T' i) (T i)) (hT1 : ∀ i, RnF π N (T1' i) (T1 i)) : RnS π N (r4 rt rn T' T1') (b4 T T1) := by
  unfold r4 b4
  exact (rn_seq (rn_set (rn_bin op_ix (rn_var 0) (rn_c rfl))) (rn_seq (rn_sif (rn_bl (rn_bin (op_in h.beq) (rn_var 1) (rn_tup (rn_cons (rn_c (h.cS 0 rfl)) (rn_cons (rn_c (h.cS 1 rfl)) rn_nil))))) (rn_ret (rn_tup rn_nil)) rn_next) (rn_seq (rn_sif (rn_bl (rn_bin (op_eq h.beq) (rn_var 1) (rn_c (h.cS 2 rfl)))) (rn_ret (rn_tup (rn_cons (rn_bin op_ix (rn_var 0) (rn_c rfl)) rn_nil))) rn_next) (rn_seq (rn_sif (rn_bl (rn_bin (op_eq h.beq) (rn_var 1) (rn_c (h.cS 3 rfl)))) (rn_ret (rn_tup (rn_cons (rn_bin op_ix (rn_var 0) (rn_c rfl)) rn_nil))) rn_next) (rn_seq (rn_sif (rn_bl (rn_bin (op_eq h.beq) (rn_var 1) (rn_c (h.cS 4 rfl)))) (rn_ret (rn_tup (rn_cons (rn_bin op_ix (rn_var 0) (rn_c rfl)) (rn_cons (rn_bin op_ix (rn_var 0) (rn_c rfl)) rn_nil)))) rn_next) (rn_seq (rn_sif (rn_bl (rn_bin (op_in h.beq) (rn_var 1) (rn_tup (rn_cons (rn_c (h.cS 5 rfl)) (rn_cons (rn_c (h.cS 6 rfl)) rn_nil))))) (rn_ret (rn_tup (rn_cons (rn_bin op_ix (rn_var 0) (rn_c rfl)) (rn_cons (rn_bin op_ix (rn_var 0) (rn_c rfl)) rn_nil)))) rn_next) (rn_seq (rn_sif (rn_bl (rn_bin (op_eq h.beq) (rn_var 1) (rn_c (h.cS 7 rfl)))) (rn_ret (rn_tup (rn_cons (rn_bin op_ix (rn_var 0) (rn_c rfl)) (rn_cons (rn_bin op_ix (rn_var 0) (rn_c rfl)) rn_nil)))) rn_next) (rn_seq (rn_sif (rn_bl (rn_bin (op_eq h.beq) (rn_var 1) (rn_c (h.cS 8 rfl)))) (rn_ret (rn_bi op_tuple (rn_cons (rn_lc (rn_iseq (rn_bin op_ix (rn_var 0) (rn_c rfl))) (rn_gtp (rn_gcons rn_nm (rn_gcons rn_nm rn_gnil))) rn_tys (rn_var 3)) rn_nil))) rn_next) (rn_seq (rn_sif (rn_bl (rn_bin (op_eq h.beq) (rn_var 1) (rn_c (h.cS 9 rfl)))) (rn_ret (rn_tup (rn_cons (rn_bin op_ix (rn_var 0) (rn_c rfl)) (rn_cons (rn_bin op_ix (rn_var 0) (rn_c rfl)) rn_nil)))) rn_next) (rn_seq (rn_sif (rn_bl (rn_bin (op_in h.beq) (rn_var 1) (rn_tup (rn_cons (rn_c (h.cS 10 rfl)) (rn_cons (rn_c (h.cS 11 rfl)) rn_nil))))) (rn_ret (rn_tup (rn_cons (rn_bin op_ix (rn_var 0) (rn_c rfl)) rn_nil))) rn_next) (rn_seq (rn_sif (rn_bl (rn_bin (op_eq h.beq) (rn_var 1) (rn_c (h.cS 12 rfl)))) (rn_ret (rn_tup (rn_cons (rn_bin op_ix (rn_var 0) (rn_c rfl)) (rn_cons (rn_bin op_ix (rn_var 0) (rn_c rfl)) rn_nil)))) rn_next) (rn_seq (rn_sif (rn_bl (rn_bin (op_in h.beq) (rn_var 1) (rn_tup (rn_cons (rn_c (h.cS 13 rfl)) (rn_cons (rn_c (h.cS 14 rfl)) rn_nil))))) (rn_ret (rn_tup (rn_cons (rn_bin op_ix (rn_var 0) (rn_c rfl)) rn_nil))) rn_next) (rn_seq (rn_set (rn_bi op_tuple (rn_cons (rn_lc (rn_iseq (rn_bin op_ix (rn_var 0) (rn_c rfl))) (rn_gtp (rn_gcons rn_nm (rn_gcons rn_nm (rn_gcons rn_nm rn_gnil)))) rn_tys (rn_var 7)) rn_nil))) (rn_ret (rn_bin op_add (rn_bin op_add (rn_tup (rn_cons (rn_bin op_ix (rn_var 0) (rn_c rfl)) rn_nil)) (rn_var 4)) (rn_if (rn_bl (rn_bin op_is (rn_bin op_ix (rn_var 0) (rn_c rfl)) (rn_c rfl))) (rn_tup rn_nil) (rn_tup (rn_cons (rn_bin op_ix (rn_bin op_ix (rn_var 0) (rn_c rfl)) (rn_c rfl)) rn_nil))))))))))))))))))
theorem k5 (h : Ren π N rt rn) (hT : ∀ i, RnF π N (T' i) (T i)) (hT1 : ∀ i, RnF π N (T1' i) (T1 i)) : RnS π N (r5 rt rn T' T1') (b5 T T1) := by
  unfold r5 b5
  exact (rn_seq (rn_set (rn_c rfl)) (rn_seq (rn_set (rn_lst (rn_cons (rn_var 0) rn_nil))) (rn_seq (rn_while (rn_bl (rn_bin op_gtR (rn_bi op_len (rn_cons (rn_var 2) rn_nil)) (rn_c rfl))) (rn_seq (rn_set (rn_bm op_pop (rn_var 2) rn_nil)) (rn_seq (rn_aug op_iaddR (rn_c rfl)) (rn_drop (rn_bm op_extend (rn_var 2) (rn_cons (rn_call (hT 4) rfl (rn_cons (rn_var 3) rn_nil)) rn_nil))))) 200000) (rn_ret (rn_var 1)))))
theorem k6 (h : Ren π N rt rn) (hT : ∀ i, RnF π N (T' i) (T i)) (hT1 : ∀ i, RnF π N (T1' i) (T1 i)) : RnS π N (r6 rt rn T' T1') (b6 T T1) := by
  unfold r6 b6
  exact (rn_seq (rn_set (rn_c rfl)) (rn_seq (rn_set (rn_lst (rn_cons (rn_tup (rn_cons (rn_var 0) (rn_cons (rn_c rfl) rn_nil))) rn_nil))) (rn_seq (rn_while (rn_bl (rn_bin op_gtR (rn_bi op_len (rn_cons (rn_var 2) rn_nil)) (rn_c rfl))) (rn_seq (rn_asg (rn_bm op_pop (rn_var 2) rn_nil) (rn_gtp (rn_gcons rn_nm (rn_gcons rn_nm rn_gnil)))) (rn_seq (rn_set (rn_bi op_max (rn_cons (rn_var 1) (rn_cons (rn_var 4) rn_nil)))) (rn_drop (rn_bm op_extend (rn_var 2) (rn_cons (rn_lc (rn_iseq (rn_call (hT 4) rfl (rn_cons (rn_var 3) rn_nil))) rn_nm rn_tys (rn_tup (rn_cons (rn_var 5) (rn_cons (rn_bin op_add (rn_var 4) (rn_c rfl)) rn_nil)))) rn_nil))))) 200000) (rn_ret (rn_var 1)))))
theorem k7 (h : Ren π N rt rn) (hT : ∀ i, RnF π N (T' i) (T i)) (hT1 : ∀ i, RnF π N (T1' i) (T1 i)) : RnS π N (r7 rt rn T' T1') (b7 T T1) := by
  unfold r7 b7
  exact (rn_sif (rn_tor (rn_bl (rn_bin op_gtR (rn_call (hT 5) rfl (rn_cons (rn_var 0) rn_nil)) (rn_c rfl))) (rn_bl (rn_bin op_gtR (rn_call (hT 6) rfl (rn_cons (rn_var 0) rn_nil)) (rn_c rfl)))) (rn_raise rn_xmk0) rn_next)
theorem k8 (h : Ren π N rt rn) (hT : ∀ i, RnF π N (T' i) (T i)) (hT1 : ∀ i, RnF π N (T1' i) (T1 i)) : RnS π N (r8 rt rn T' T1') (b8 T T1) := by
  unfold r8 b8
  exact (rn_seq (rn_fld (rn_var 0) h.tx) (rn_seq (rn_fld (rn_var 0) (rn_var 2)) (rn_fld (rn_var 0) (rn_c rfl))))
theorem k9 (h : Ren π N rt rn) (hT : ∀ i, RnF π N (T' i) (T i)) (hT1 : ∀ i, RnF π N (T1' i) (T1 i)) : RnS π N (r9 rt rn T' T1') (b9 T T1) := by
  unfold r9 b9
  exact (rn_raise (rn_xmk (rn_cons (rn_un op_getF (rn_var 0)) (rn_cons (rn_un op_getF (rn_var 0)) rn_nil))))
theorem k10 (h : Ren π N rt rn) (hT : ∀ i, RnF π N (T' i) (T i)) (hT1 : ∀ i, RnF π N (T1' i) (T1 i)) : RnS π N (r10 rt rn T' T1') (b10 T T1) := by
  unfold r10 b10
  exact (rn_seq (rn_set (rn_bin op_add (rn_un op_getF (rn_var 0)) (rn_var 1))) (rn_ret (rn_if (rn_bl (rn_bin op_ltR (rn_var 2) (rn_bi op_len (rn_cons (rn_un op_getF (rn_var 0)) rn_nil)))) (rn_bin op_ix (rn_un op_getF (rn_var 0)) (rn_var 2)) (rn_c rfl))))
theorem k11 (h : Ren π N rt rn) (hT : ∀ i, RnF π N (T' i) (T i)) (hT1 : ∀ i, RnF π N (T1' i) (T1 i)) : RnS π N (r11 rt rn T' T1') (b11 T T1) := by
  unfold r11 b11
  exact (rn_seq (rn_sif (rn_bl (rn_bin (op_eq h.beq) (rn_un op_getF (rn_var 0)) (rn_bi op_len (rn_cons (rn_un op_getF (rn_var 0)) rn_nil)))) (rn_drop (rn_meth (hT 9) rfl (rn_var 0) rn_nil)) rn_next) (rn_seq (rn_fldaug (rn_var 0) op_iaddR (rn_c rfl)) (rn_ret (rn_bin op_ix (rn_un op_getF (rn_var 0)) (rn_bin op_subR (rn_un op_getF (rn_var 0)) (rn_c rfl))))))
theorem k12 (h : Ren π N rt rn) (hT : ∀ i, RnF π N (T' i) (T i)) (hT1 : ∀ i, RnF π N (T1' i) (T1 i)) : RnS π N (r12 rt rn T' T1') (b12 T T1) := by
  unfold r12 b12
  exact (rn_seq (rn_sif (rn_bl (rn_bin (op_ne h.beq) (rn_meth (hT 10) rfl (rn_var 0) rn_nil) (rn_var 1))) (rn_drop (rn_meth (hT 9) rfl (rn_var 0) rn_nil)) rn_next) (rn_fldaug (rn_var 0) op_iaddR (rn_c rfl)))
theorem k13 (h : Ren π N rt rn) (hT : ∀ i, RnF π N (T' i) (T i)) (hT1 : ∀ i, RnF π N (T1' i) (T1 i)) : RnS π N (r13 rt rn T' T1') (b13 T T1) := by
  unfold r13 b13
  exact (rn_seq (rn_sif (rn_bl (rn_bin (op_ne h.beq) (rn_meth (hT 10) rfl (rn_var 0) rn_nil) (rn_var 1))) (rn_ret (rn_c rfl)) rn_next) (rn_seq (rn_fldaug (rn_var 0) op_iaddR (rn_c rfl)) (rn_ret (rn_c rfl))))
theorem k14 (h : Ren π N rt rn) (hT : ∀ i, RnF π N (T' i) (T i)) (hT1 : ∀ i, RnF π N (T1' i) (T1 i)) : RnS π N (r14 rt rn T' T1') (b14 T T1) := by
  unfold r14 b14
  exact (rn_seq (rn_sif (rn_tor (rn_bl (rn_bin op_is (rn_meth (hT 10) rfl (rn_var 0) rn_nil) (rn_c rfl))) (rn_tnot (rn_tru (rn_call (hT 1) rfl (rn_cons (rn_meth (hT 10) rfl (rn_var 0) rn_nil) rn_nil))))) (rn_drop (rn_meth (hT 9) rfl (rn_var 0) rn_nil)) rn_next) (rn_ret (rn_meth (hT 11) rfl (rn_var 0) rn_nil)))
theorem k15 (h : Ren π N rt rn) (hT : ∀ i, RnF π N (T' i) (T i)) (hT1 : ∀ i, RnF π N (T1' i) (T1 i)) : RnS π N (r15 rt rn T' T1') (b15 T T1) := by
  unfold r15 b15
  exact (rn_seq (rn_sif (rn_tor (rn_bl (rn_bin op_is (rn_meth (hT 10) rfl (rn_var 0) rn_nil) (rn_c rfl))) (rn_tnot (rn_tru (rn_call (hT 2) rfl (rn_cons (rn_meth (hT 10) rfl (rn_var 0) rn_nil) rn_nil))))) (rn_drop (rn_meth (hT 9) rfl (rn_var 0) rn_nil)) rn_next) (rn_ret (rn_meth (hT 11) rfl (rn_var 0) rn_nil)))
theorem k16 (h : Ren π N rt rn) (hT : ∀ i, RnF π N (T' i) (T i)) (hT1 : ∀ i, RnF π N (T1' i) (T1 i)) : RnS π N (r16 rt rn T' T1') (b16 T T1) := by
  unfold r16 b16
  exact (rn_seq (rn_sif (rn_tor (rn_bl (rn_bin op_is (rn_meth (hT 10) rfl (rn_var 0) rn_nil) (rn_c rfl))) (rn_tnot (rn_tru (rn_call (hT 3) rfl (rn_cons (rn_meth (hT 10) rfl (rn_var 0) rn_nil) rn_nil))))) (rn_drop (rn_meth (hT 9) rfl (rn_var 0) rn_nil)) rn_next) (rn_ret (rn_bi h.int (rn_cons (rn_meth (hT 11) rfl (rn_var 0) rn_nil) rn_nil))))
theorem k17 (h : Ren π N rt rn) (hT : ∀ i, RnF π N (T' i) (T i)) (hT1 : ∀ i, RnF π N (T1' i) (T1 i)) : RnS π N (r17 rt rn T' T1') (b17 T T1) := by
  unfold r17 b17
  exact (rn_sif (rn_bl (rn_bin op_ltR (rn_un op_getF (rn_var 0)) (rn_bi op_len (rn_cons (rn_un op_getF (rn_var 0)) rn_nil)))) (rn_drop (rn_meth (hT 9) rfl (rn_var 0) rn_nil)) rn_next)
theorem k18 (h : Ren π N rt rn) (hT : ∀ i, RnF π N (T' i) (T i)) (hT1 : ∀ i, RnF π N (T1' i) (T1 i)) : RnS π N (r18 rt rn T' T1') (b18 T T1) := by
  unfold r18 b18
  exact (rn_seq (rn_fld (rn_var 0) (rn_var 1)) (rn_seq (rn_fld (rn_var 0) (rn_bi op_list (rn_cons (rn_var 2) rn_nil))) (rn_fld (rn_var 0) (rn_c rfl))))
theorem k19 (h : Ren π N rt rn) (hT : ∀ i, RnF π N (T' i) (T i)) (hT1 : ∀ i, RnF π N (T1' i) (T1 i)) : RnS π N (r19 rt rn T' T1') (b19 T T1) := by
  unfold r19 b19
  exact (rn_seq (rn_fldaug (rn_var 0) op_iaddR (rn_c rfl)) (rn_seq (rn_sif (rn_bl (rn_bin op_gtR (rn_un op_getF (rn_var 0)) (rn_c rfl))) (rn_raise rn_xmk0) rn_next) (rn_seq (rn_set (rn_meth (hT 10) rfl (rn_un op_getF (rn_var 0)) rn_nil)) (rn_seq (rn_sif (rn_bl (rn_bin (op_eq h.beq) (rn_var 1) (rn_c (h.cS 2 rfl)))) (rn_set (rn_meth (hT 21) rfl (rn_var 0) rn_nil)) (rn_sif (rn_bl (rn_bin (op_eq h.beq) (rn_var 1) (rn_c (h.cS 3 rfl)))) (rn_set (rn_meth (hT 22) rfl (rn_var 0) rn_nil)) (rn_sif (rn_bl (rn_bin (op_eq h.beq) (rn_var 1) (rn_c (h.cS 4 rfl)))) (rn_set (rn_meth (hT 23) rfl (rn_var 0) rn_nil)) (rn_sif (rn_bl (rn_bin (op_eq h.beq) (rn_var 1) (rn_c (h.cS 15 rfl)))) (rn_set (rn_meth (hT 24) rfl (rn_var 0) rn_nil)) (rn_set (rn_meth (hT 25) rfl (rn_var 0) rn_nil)))))) (rn_seq (rn_fldaug (rn_var 0) op_isubR (rn_c rfl)) (rn_ret (rn_var 2)))))))
theorem k20 (h : Ren π N rt rn) (hT : ∀ i, RnF π N (T' i) (T i)) (hT1 : ∀ i, RnF π N (T1' i) (T1 i)) : RnS π N (r20 rt rn T' T1') (b20 T T1) := by
  unfold r20 b20
  exact (rn_seq (rn_set (rn_un op_getF (rn_var 0))) (rn_seq (rn_fld (rn_var 0) (rn_bin op_add (rn_var 2) (rn_bi op_list (rn_cons (rn_var 1) rn_nil)))) (rn_seq (rn_set (rn_meth (hT 19) rfl (rn_var 0) rn_nil)) (rn_seq (rn_fld (rn_var 0) (rn_var 2)) (rn_ret (rn_var 3))))))
theorem k21 (h : Ren π N rt rn) (hT : ∀ i, RnF π N (T' i) (T i)) (hT1 : ∀ i, RnF π N (T1' i) (T1 i)) : RnS π N (r21 rt rn T' T1') (b21 T T1) := by
  unfold r21 b21
  exact (rn_seq (rn_drop (rn_meth (hT 12) rfl (rn_un op_getF (rn_var 0)) (rn_cons (rn_c (h.cS 2 rfl)) rn_nil))) (rn_seq (rn_set (rn_meth (hT 14) rfl (rn_un op_getF (rn_var 0)) rn_nil)) (rn_seq (rn_drop (rn_meth (hT 12) rfl (rn_un op_getF (rn_var 0)) (rn_cons (rn_c (h.cS 16 rfl)) rn_nil))) (rn_ret (rn_tup (rn_cons (rn_c (h.cS 2 rfl)) (rn_cons (rn_var 1) (rn_cons (rn_meth (hT 20) rfl (rn_var 0) (rn_cons (rn_lst (rn_cons (rn_var 1) rn_nil)) rn_nil)) rn_nil))))))))
theorem k25 (h : Ren π N rt rn) (hT : ∀ i, RnF π N (T' i) (T i)) (hT1 : ∀ i, RnF π N (T1' i) (T1 i)) : RnS π N (r25 rt rn T' T1') (b25 T T1) := by
  unfold r25 b25
  exact (rn_seq (rn_set (rn_meth (hT 26) rfl (rn_var 0) rn_nil)) (rn_seq (rn_sif (rn_tru (rn_meth (hT 13) rfl (rn_un op_getF (rn_var 0)) (rn_cons (rn_c (h.cS 17 rfl)) rn_nil))) (rn_ret (rn_tup (rn_cons (rn_c (h.cS 6 rfl)) (rn_cons (rn_var 1) (rn_cons (rn_meth (hT 26) rfl (rn_var 0) rn_nil) rn_nil))))) rn_next) (rn_ret (rn_var 1))))
theorem k26 (h : Ren π N rt rn) (hT : ∀ i, RnF π N (T' i) (T i)) (hT1 : ∀ i, RnF π N (T1' i) (T1 i)) : RnS π N (r26 rt rn T' T1') (b26 T T1) := by
  unfold r26 b26
  exact (rn_seq (rn_set (rn_meth (hT 27) rfl (rn_var 0) rn_nil)) (rn_seq (rn_while (rn_bl (rn_bin (op_in h.beq) (rn_meth (hT 10) rfl (rn_un op_getF (rn_var 0)) rn_nil) (rn_c (h.cT (xs := [s_56, s_14]) (by intro x hx; simp only [List.mem_cons, List.not_mem_nil, or_false] at hx; rcases hx with rfl | rfl <;> first | exact h.con 18 _ rfl | exact h.con 19 _ rfl))))) (rn_seq (rn_set (rn_meth (hT 11) rfl (rn_un op_getF (rn_var 0)) rn_nil)) (rn_set (rn_tup (rn_cons (rn_c (h.cS 7 rfl)) (rn_cons (rn_var 2) (rn_cons (rn_var 1) (rn_cons (rn_meth (hT 27) rfl (rn_var 0) rn_nil) rn_nil))))))) 200000) (rn_ret (rn_var 1))))
theorem k27 (h : Ren π N rt rn) (hT : ∀ i, RnF π N (T' i) (T i)) (hT1 : ∀ i, RnF π N (T1' i) (T1 i)) : RnS π N (r27 rt rn T' T1') (b27 T T1) := by
  unfold r27 b27
  exact (rn_seq (rn_set (rn_meth (hT 28) rfl (rn_var 0) rn_nil)) (rn_seq (rn_while (rn_tru (rn_meth (hT 13) rfl (rn_un op_getF (rn_var 0)) (rn_cons (rn_c (h.cS 20 rfl)) rn_nil))) (rn_set (rn_tup (rn_cons (rn_c (h.cS 7 rfl)) (rn_cons (rn_c (h.cS 20 rfl)) (rn_cons (rn_var 1) (rn_cons (rn_meth (hT 28) rfl (rn_var 0) rn_nil) rn_nil)))))) 200000) (rn_ret (rn_var 1))))
theorem k28 (h : Ren π N rt rn) (hT : ∀ i, RnF π N (T' i) (T i)) (hT1 : ∀ i, RnF π N (T1' i) (T1 i)) : RnS π N (r28 rt rn T' T1') (b28 T T1) := by
  unfold r28 b28
  exact (rn_seq (rn_sif (rn_tand (rn_bl (rn_bin op_isnot (rn_meth (hT 10) rfl (rn_un op_getF (rn_var 0)) rn_nil) (rn_c rfl))) (rn_tru (rn_call (hT 2) rfl (rn_cons (rn_meth (hT 10) rfl (rn_un op_getF (rn_var 0)) rn_nil) rn_nil)))) (rn_ret (rn_tup (rn_cons (rn_c (h.cS 13 rfl)) (rn_cons (rn_meth (hT 15) rfl (rn_un op_getF (rn_var 0)) rn_nil) (rn_cons (rn_meth (hT 30) rfl (rn_var 0) rn_nil) rn_nil))))) rn_next) (rn_seq (rn_sif (rn_tru (rn_meth (hT 13) rfl (rn_un op_getF (rn_var 0)) (rn_cons (rn_c (h.cS 14 rfl)) rn_nil))) (rn_ret (rn_tup (rn_cons (rn_c (h.cS 14 rfl)) (rn_cons (rn_meth (hT 15) rfl (rn_un op_getF (rn_var 0)) rn_nil) (rn_cons (rn_meth (hT 30) rfl (rn_var 0) rn_nil) rn_nil))))) rn_next) (rn_seq (rn_set (rn_meth (hT 30) rfl (rn_var 0) rn_nil)) (rn_seq (rn_while (rn_tru (rn_meth (hT 29) rfl (rn_var 0) rn_nil)) (rn_set (rn_tup (rn_cons (rn_c (h.cS 5 rfl)) (rn_cons (rn_var 1) (rn_cons (rn_meth (hT 30) rfl (rn_var 0) rn_nil) rn_nil))))) 200000) (rn_ret (rn_var 1))))))
theorem k29 (h : Ren π N rt rn) (hT : ∀ i, RnF π N (T' i) (T i)) (hT1 : ∀ i, RnF π N (T1' i) (T1 i)) : RnS π N (r29 rt rn T' T1') (b29 T T1) := by
  unfold r29 b29
  exact (rn_seq (rn_set (rn_meth (hT 10) rfl (rn_un op_getF (rn_var 0)) rn_nil)) (rn_seq (rn_sif (rn_bl (rn_bin op_is (rn_var 1) (rn_c rfl))) (rn_ret (rn_c rfl)) rn_next) (rn_seq (rn_sif (rn_bl (rn_bin (op_eq h.beq) (rn_var 1) (rn_c (h.cS 21 rfl)))) (rn_seq (rn_set (rn_meth (hT 10) rfl (rn_un op_getF (rn_var 0)) (rn_cons (rn_c rfl) rn_nil))) (rn_ret (rn_or (rn_bin op_is (rn_var 2) (rn_c rfl)) (rn_not (rn_call (hT 2) rfl (rn_cons (rn_var 2) rn_nil)))))) rn_next) (rn_ret (rn_or (rn_bin (op_eq h.beq) (rn_var 1) (rn_c (h.cS 22 rfl))) (rn_or (rn_call (hT 1) rfl (rn_cons (rn_var 1) rn_nil)) (rn_call (hT 3) rfl (rn_cons (rn_var 1) rn_nil))))))))
theorem k30 (h : Ren π N rt rn) (hT : ∀ i, RnF π N (T' i) (T i)) (hT1 : ∀ i, RnF π N (T1' i) (T1 i)) : RnS π N (r30 rt rn T' T1') (b30 T T1) := by
  unfold r30 b30
  exact (rn_seq (rn_set (rn_meth (hT 31) rfl (rn_var 0) rn_nil)) (rn_seq (rn_while (rn_bl (rn_bin (op_in h.beq) (rn_meth (hT 10) rfl (rn_un op_getF (rn_var 0)) rn_nil) (rn_tup (rn_cons (rn_c (h.cS 23 rfl)) (rn_cons (rn_c (h.cS 24 rfl)) rn_nil))))) (rn_seq (rn_set (rn_meth (hT 11) rfl (rn_un op_getF (rn_var 0)) rn_nil)) (rn_seq (rn_set (rn_meth (hT 14) rfl (rn_un op_getF (rn_var 0)) rn_nil)) (rn_set (rn_tup (rn_cons (rn_if (rn_bl (rn_bin (op_eq h.beq) (rn_var 2) (rn_c (h.cS 23 rfl)))) (rn_c (h.cS 10 rfl)) (rn_c (h.cS 11 rfl))) (rn_cons (rn_var 1) (rn_cons (rn_var 3) rn_nil))))))) 200000) (rn_ret (rn_var 1))))
theorem k31 (h : Ren π N rt rn) (hT : ∀ i, RnF π N (T' i) (T i)) (hT1 : ∀ i, RnF π N (T1' i) (T1 i)) : RnS π N (r31 rt rn T' T1') (b31 T T1) := by
  unfold r31 b31
  exact (rn_seq (rn_set (rn_meth (hT 10) rfl (rn_un op_getF (rn_var 0)) rn_nil)) (rn_seq (rn_sif (rn_tand (rn_bl (rn_bin op_isnot (rn_var 1) (rn_c rfl))) (rn_tru (rn_call (hT 3) rfl (rn_cons (rn_var 1) rn_nil)))) (rn_ret (rn_tup (rn_cons (rn_c (h.cS 0 rfl)) (rn_cons (rn_meth (hT 16) rfl (rn_un op_getF (rn_var 0)) rn_nil) rn_nil)))) rn_next) (rn_seq (rn_sif (rn_bl (rn_bin (op_eq h.beq) (rn_var 1) (rn_c (h.cS 22 rfl)))) (rn_seq (rn_drop (rn_meth (hT 12) rfl (rn_un op_getF (rn_var 0)) (rn_cons (rn_c (h.cS 22 rfl)) rn_nil))) (rn_seq (rn_set (rn_meth (hT 19) rfl (rn_var 0) rn_nil)) (rn_seq (rn_drop (rn_meth (hT 12) rfl (rn_un op_getF (rn_var 0)) (rn_cons (rn_c (h.cS 25 rfl)) rn_nil))) (rn_ret (rn_var 2))))) rn_next) (rn_seq (rn_sif (rn_bl (rn_bin (op_eq h.beq) (rn_var 1) (rn_c (h.cS 21 rfl)))) (rn_ret (rn_meth (hT 32) rfl (rn_var 0) rn_nil)) rn_next) (rn_seq (rn_sif (rn_bl (rn_bin (op_notin h.beq) (rn_var 1) (rn_un op_getF (rn_var 0)))) (rn_drop (rn_meth (hT 9) rfl (rn_un op_getF (rn_var 0)) rn_nil)) rn_next) (rn_ret (rn_tup (rn_cons (rn_c (h.cS 1 rfl)) (rn_cons (rn_meth (hT 14) rfl (rn_un op_getF (rn_var 0)) rn_nil) rn_nil)))))))))
theorem k32 (h : Ren π N rt rn) (hT : ∀ i, RnF π N (T' i) (T i)) (hT1 : ∀ i, RnF π N (T1' i) (T1 i)) : RnS π N (r32 rt rn T' T1') (b32 T T1) := by
  unfold r32 b32
  exact (rn_seq (rn_drop (rn_meth (hT 12) rfl (rn_un op_getF (rn_var 0)) (rn_cons (rn_c (h.cS 21 rfl)) rn_nil))) (rn_seq (rn_sif (rn_tru (rn_meth (hT 13) rfl (rn_un op_getF (rn_var 0)) (rn_cons (rn_c (h.cS 26 rfl)) rn_nil))) (rn_ret (rn_tup (rn_cons (rn_c (h.cS 8 rfl)) (rn_cons (rn_tup rn_nil) rn_nil)))) rn_next) (rn_seq (rn_sif (rn_tor (rn_bl (rn_bin (op_ne h.beq) (rn_meth (hT 10) rfl (rn_un op_getF (rn_var 0)) (rn_cons (rn_c rfl) rn_nil)) (rn_c (h.cS 27 rfl)))) (rn_tnot (rn_tru (rn_call (hT 1) rfl (rn_cons (rn_meth (hT 10) rfl (rn_un op_getF (rn_var 0)) rn_nil) rn_nil))))) (rn_seq (rn_set (rn_meth (hT 19) rfl (rn_var 0) rn_nil)) (rn_seq (rn_drop (rn_meth (hT 12) rfl (rn_un op_getF (rn_var 0)) (rn_cons (rn_c (h.cS 28 rfl)) rn_nil))) (rn_seq (rn_set (rn_meth (hT 14) rfl (rn_un op_getF (rn_var 0)) rn_nil)) (rn_seq (rn_drop (rn_meth (hT 12) rfl (rn_un op_getF (rn_var 0)) (rn_cons (rn_c (h.cS 27 rfl)) rn_nil))) (rn_seq (rn_set (rn_meth (hT 19) rfl (rn_var 0) rn_nil)) (rn_seq (rn_drop (rn_meth (hT 12) rfl (rn_un op_getF (rn_var 0)) (rn_cons (rn_c (h.cS 26 rfl)) rn_nil))) (rn_ret (rn_tup (rn_cons (rn_c (h.cS 12 rfl)) (rn_cons (rn_var 1) (rn_cons (rn_var 2) (rn_cons (rn_var 3) rn_nil)))))))))))) rn_next) (rn_seq (rn_set (rn_lst rn_nil)) (rn_seq (rn_while (rn_tru (rn_c rfl)) (rn_seq (rn_sif (rn_tand (rn_bl (rn_bin op_gtR (rn_bi op_len (rn_cons (rn_var 4) rn_nil)) (rn_c rfl))) (rn_tand (rn_bl (rn_bin op_isnot (rn_meth (hT 10) rfl (rn_un op_getF (rn_var 0)) rn_nil) (rn_c rfl))) (rn_tru (rn_call (hT 1) rfl (rn_cons (rn_meth (hT 10) rfl (rn_un op_getF (rn_var 0)) rn_nil) rn_nil))))) (rn_sif (rn_bl (rn_bin op_leR (rn_meth (hT 10) rfl (rn_un op_getF (rn_var 0)) rn_nil) (rn_bin op_ix (rn_bin op_ix (rn_var 4) (rn_un op_neg (rn_c rfl))) (rn_c rfl)))) (rn_drop (rn_meth (hT 9) rfl (rn_un op_getF (rn_var 0)) rn_nil)) rn_next) rn_next) (rn_seq (rn_set (rn_meth (hT 14) rfl (rn_un op_getF (rn_var 0)) rn_nil)) (rn_seq (rn_drop (rn_meth (hT 12) rfl (rn_un op_getF (rn_var 0)) (rn_cons (rn_c (h.cS 27 rfl)) rn_nil))) (rn_seq (rn_drop (rn_bm op_append (rn_var 4) (rn_cons (rn_tup (rn_cons (rn_var 2) (rn_cons (rn_meth (hT 19) rfl (rn_var 0) rn_nil) rn_nil))) rn_nil))) (rn_sif (rn_tnot (rn_tru (rn_meth (hT 13) rfl (rn_un op_getF (rn_var 0)) (rn_cons (rn_c (h.cS 29 rfl)) rn_nil)))) rn_break rn_next))))) 200000) (rn_seq (rn_sif (rn_tand (rn_bl (rn_bin (op_eq h.beq) (rn_bi op_len (rn_cons (rn_var 4) rn_nil)) (rn_c rfl))) (rn_tru (rn_meth (hT 13) rfl (rn_un op_getF (rn_var 0)) (rn_cons (rn_c (h.cS 30 rfl)) rn_nil)))) (rn_seq (rn_set (rn_meth (hT 19) rfl (rn_var 0) rn_nil)) (rn_seq (rn_drop (rn_meth (hT 12) rfl (rn_un op_getF (rn_var 0)) (rn_cons (rn_c (h.cS 26 rfl)) rn_nil))) (rn_ret (rn_tup (rn_cons (rn_c (h.cS 9 rfl)) (rn_cons (rn_bin op_ix (rn_bin op_ix (rn_var 4) (rn_c rfl)) (rn_c rfl)) (rn_cons (rn_bin op_ix (rn_bin op_ix (rn_var 4) (rn_c rfl)) (rn_c rfl)) (rn_cons (rn_var 1) rn_nil)))))))) rn_next) (rn_seq (rn_drop (rn_meth (hT 12) rfl (rn_un op_getF (rn_var 0)) (rn_cons (rn_c (h.cS 26 rfl)) rn_nil))) (rn_ret (rn_tup (rn_cons (rn_c (h.cS 8 rfl)) (rn_cons (rn_bi op_tuple (rn_cons (rn_var 4) rn_nil)) rn_nil)))))))))))
theorem k33 (h : Ren π N rt rn) (hT : ∀ i, RnF π N (T' i) (T i)) (hT1 : ∀ i, RnF π N (T1' i) (T1 i)) : RnS π N (r33 rt rn T' T1') (b33 T T1) := by
  unfold r33 b33
  exact (rn_seq (rn_set (rn_make (hT1 8) rfl (rn_cons (rn_var 0) (rn_cons (rn_var 2) rn_nil)))) (rn_seq (rn_set (rn_meth (hT 19) rfl (rn_make (hT1 18) rfl (rn_cons (rn_var 3) (rn_cons (rn_var 1) rn_nil))) rn_nil)) (rn_seq (rn_drop (rn_meth (hT 17) rfl (rn_var 3) rn_nil)) (rn_seq (rn_drop (rn_call (hT 7) rfl (rn_cons (rn_var 4) rn_nil))) (rn_ret (rn_var 4))))))
theorem rn_bodies (h : Ren π N rt rn) (hT : ∀ i, RnF π N (T' i) (T i)) (hT1 : ∀ i, RnF π N (T1' i) (T1 i)) : ∀ i, RnF π N (bodiesR rt rn T' T1' i) (bodies T T1 i) := fun i => by
  unfold bodiesR
  split
  · exact h.p1
  · exact h.p2
  · exact h.p3
  · exact rn_fn (k4 h hT hT1)
  · exact rn_fn (k5 h hT hT1)
  · exact rn_fn (k6 h hT hT1)
  · exact rn_fn (k7 h hT hT1)
  · exact rn_fn (k8 h hT hT1)
  · exact rn_fn (k9 h hT hT1)
  · exact rn_fn (k10 h hT hT1)
  · exact rn_fn (k11 h hT hT1)
  · exact rn_fn (k12 h hT hT1)
  · exact rn_fn (k13 h hT hT1)
  · exact rn_fn (k14 h hT hT1)
  · exact rn_fn (k15 h hT hT1)
  · exact rn_fn (k16 h hT hT1)
  · exact rn_fn (k17 h hT hT1)
  · exact rn_fn (k18 h hT hT1)
  · exact rn_fn (k19 h hT hT1)
  · exact rn_fn (k20 h hT hT1)
  · exact rn_fn (k21 h hT hT1)
  · exact rn_fn (k25 h hT hT1)
  · exact rn_fn (k26 h hT hT1)
  · exact rn_fn (k27 h hT hT1)
  · exact rn_fn (k28 h hT hT1)
  · exact rn_fn (k29 h hT hT1)
  · exact rn_fn (k30 h hT hT1)
  · exact rn_fn (k31 h hT hT1)
  · exact rn_fn (k32 h hT hT1)
  · exact rn_fn (k33 h hT hT1)
  · exact rn_failF
theorem rn_lv (h : Ren π N rt rn) : ∀ n, (∀ i, RnF π N ((Lv (bodiesR rt rn) n).1 i) ((Lv bodies n).1 i)) ∧ ∀ i, RnF π N ((Lv (bodiesR rt rn) n).2 i) ((Lv bodies n).2 i)
  | 0 => ⟨fun i => rn_failF, fun i => rn_failF⟩
  | n + 1 => ⟨rn_bodies h (rn_lv h n).1 (rn_lv h n).2, (rn_lv h n).1⟩
end
end Hd

set_option Elab.async false
set_option linter.all false
set_option autoImplicit false
set_option maxRecDepth 100000
set_option maxHeartbeats 0
namespace Hd
open PySem PySem.Spec L2 Mi
def q1 (x : Str) : Option Bool := blOf (F1 [.str x] ⟨0, .nil⟩)
def q2 (x : Str) : Option Bool := blOf (F2 [.str x] ⟨0, .nil⟩)
def q3 (x : Str) : Option Bool := blOf (F3 [.str x] ⟨0, .nil⟩)
theorem isoR_bl {r : RE Val} {m0 m : MH} {b : Bool} (h : blOf (isoR r m0) = some b) : isoR r m = .ok (.bl b) m := by
  cases r with
  | fail => cases h
  | err e m' => cases h
  | ok v m' =>
    unfold isoR at h ⊢
    dsimp only at h ⊢
    cases e : pureV 60 v with
    | true =>
      rw [e] at h
      dsimp only at h ⊢
      cases v with
      | bl c => cases h; rfl
      | _ => cases h
    | false =>
      rw [e] at h
      dsimp only at h
      cases v with
      | loc i =>
        dsimp only at h
        cases eg : m'.get i with
        | none => rw [eg] at h; cases h
        | some o =>
          rw [eg] at h
          cases o with
          | lst xs =>
            dsimp only at h
            cases ea : xs.all (pureV 60) with
            | true =>
              rw [ea] at h
              dsimp only at h
              unfold mk at h
              cases en : Nat.ble m0.n lim with
              | true => rw [en] at h; cases h
              | false => rw [en] at h; cases h
            | false => rw [ea] at h; cases h
          | _ => cases h
      | _ => cases h
theorem iso_bl {φ : FM} {x : Str} {b : Bool} {m0 m : MH} (h : blOf (isoM φ [.str x] m0) = some b) : isoM φ [.str x] m = .ok (.bl b) m := isoR_bl h
theorem F1_ok {x : Str} {b : Bool} (h : q1 x = some b) (m : MH) : F1 [.str x] m = .ok (.bl b) m := iso_bl h
theorem F2_ok {x : Str} {b : Bool} (h : q2 x = some b) (m : MH) : F2 [.str x] m = .ok (.bl b) m := iso_bl h
theorem F3_ok {x : Str} {b : Bool} (h : q3 x = some b) (m : MH) : F3 [.str x] m = .ok (.bl b) m := iso_bl h
/-! the renaming -/
def sw (p q x : Str) : Str := if x = p then q else if x = q then p else x
theorem sw_sw (p q x : Str) : sw p q (sw p q x) = x := by
  unfold sw
  by_cases h : x = p
  · subst h
    rw [if_pos rfl]
    by_cases h2 : q = x
    · rw [if_pos h2, h2]
    · rw [if_neg h2, if_pos rfl]
  · by_cases h2 : x = q
    · subst h2; simp [h]
    · simp [h, h2]
theorem sw_inj {p q x y : Str} (h : sw p q x = sw p q y) : x = y := by rw [← sw_sw p q x, h, sw_sw]
theorem sw_id (p x : Str) : sw p p x = x := by unfold sw; by_cases h : x = p <;> simp [h]
theorem sw_ne {p q x : Str} (h1 : x ≠ p) (h2 : x ≠ q) : sw p q x = x := by unfold sw; rw [if_neg h1, if_neg h2]
def pi (W R tW tR x : Str) : Str := sw W R (sw tW tR x)
theorem noSp_ok {π : Str → Str} {N : Int} {φ : FM} (h : ∀ x, sp x = false → blOf (isoM φ [.str (π x)] ⟨0, .nil⟩) = blOf (isoM φ [.str x] ⟨0, .nil⟩)) : RnF π N (noSp (isoM φ)) (isoM φ) := fun vs m => by
  unfold noSp
  split
  · rename_i x
    cases es : sp x with
    | true => exact .inl (Eq.refl _)
    | false =>
      dsimp only
      cases e : blOf (isoM φ [.str x] ⟨0, .nil⟩) with
      | none => exact .inl (Eq.refl _)
      | some b => exact .inr (iso_bl ((h x es).trans e))
  · exact .inl (Eq.refl _)
/-! the texts -/
def PS (k : Nat) (w : List Nat) : List (List Nat) := match k with
  | 0 => [w]
  | 1 => [[102, 110], w, [61, 62], [49]]
  | 2 => [[123], w, [61], [49], [125]]
  | _ => [w, [49]]
def tx (k : Nat) (W : Str) : Str := strOf (glueC 32 (PS k W.cps.toList))
theorem TX_ok {sl : Slots} {m : MH} {x : Str} {ps : List (List Nat)} (h : (sl[1]? : Option Sl) = some (Sl.v (Val.str x))) (e : x = strOf (glueC 32 ps)) (h0 : ps ≠ []) (hp : ∀ p ∈ ps, 32 ∉ p) (h1 : beqS x s_0 = false) (h2 : small1 x = true) :
    TX sl m = mk (.lst (ps.map fun l => .str (strOf l))) m := by
  have ev : eVar 1 sl m = .ok (.str x) m := by unfold eVar; rw [h]
  have e1 : tBl (eBin oNe (eVar 1) (eC (.str s_0))) sl m = .ok true m := by
    unfold tBl
    rw [eBin_ok ev (b := .str s_0) rfl (c := .bl true) (by show RE.ok (Val.bl (!beqS x s_0)) m = _; rw [h1]; rfl)]
    rfl
  have es : splitC 32 x.cps.toList = ps := by
    rw [e]
    show splitC 32 (strOf (glueC 32 ps)).cps.toList = ps
    unfold strOf
    rw [List.toList_toArray]
    exact split_glue 32 ps h0 hp
  have e2 : eBm isS sSplit (eVar 1) (aCons (eC (.str s_27)) (aNil)) sl m = mk (.lst (ps.map fun l => .str (strOf l))) m := by
    unfold eBm
    rw [ev]
    show nE (sSplit (.str x) [.str s_27] m) = _
    show nE (match isOne s_27 with | some c => (match small1 x with | true => mk (.lst ((splitC c x.cps.toList).map fun l => .str (strOf l))) m | false => .fail) | none => .fail) = _
    show nE (match small1 x with | true => mk (.lst ((splitC 32 x.cps.toList).map fun l => .str (strOf l))) m | false => .fail) = _
    rw [h2, es]
    show nE (mk _ m) = _
    unfold mk
    cases Nat.ble m.n lim <;> rfl
  unfold TX eIf
  rw [e1]
  exact e2
end Hd

set_option Elab.async false
set_option linter.all false
set_option autoImplicit false
set_option maxRecDepth 100000
set_option maxHeartbeats 0
namespace Hd
open PySem PySem.Spec L2 Mi
def one : Str := ⟨#[49]⟩
/-- the texts that stay -/
def CK : List Str := one :: ⟨#[102, 110]⟩ :: ⟨#[61, 62]⟩ :: ⟨#[123]⟩ :: ⟨#[61]⟩ :: ⟨#[125]⟩ :: CS
def away (W : Str) : Bool := CK.all fun s => !beqS s W
/-- a word that may be renamed -/
def okW (W : Str) : Bool := away W && !sp W && !beqS W s_0 && Nat.ble W.length 100
theorem int_one (m : MH) : bInt [.str one] m = .ok (.int 1) m := by
  have e : PySem.intText? one = some 1 := by decide +kernel
  show (match PySem.intText? one with | some n => RE.ok (Val.int n) m | none => .fail) = _
  rw [e]
theorem ck_sp : (CK.all fun s => !sp s) = true := by decide +kernel
theorem beqS_t {x y : Str} (h : beqS x y = true) : x = y := by rw [beqS_eq] at h; exact of_decide_eq_true h
theorem beqS_f {x y : Str} (h : beqS x y = false) : x ≠ y := by rw [beqS_eq] at h; exact of_decide_eq_false h
theorem beqS_r (x : Str) : beqS x x = true := by rw [beqS_eq]; exact decide_eq_true rfl
theorem beqS_n {x y : Str} (h : x ≠ y) : beqS x y = false := by rw [beqS_eq]; exact decide_eq_false h
structure OkW (W : Str) : Prop where
  aw : ∀ s ∈ CK, s ≠ W
  sp : sp W = false
  ne : beqS W s_0 = false
  le : W.cps.toList.length ≤ 100
theorem okW_ok {W : Str} (h : okW W = true) : OkW W := by
  unfold okW at h
  simp only [Bool.and_eq_true, Bool.not_eq_true'] at h
  obtain ⟨⟨⟨h1, h2⟩, h3⟩, h4⟩ := h
  refine ⟨fun s hs => ?_, h2, h3, ?_⟩
  · have := List.all_eq_true.mp h1 s hs
    simp only [Bool.not_eq_true'] at this
    exact beqS_f this
  · exact Nat.le_of_ble_eq_true h4
def πk (k : Nat) (W R : Str) : Str → Str := match k with
  | 0 => pi W R R R
  | k + 1 => pi W R (tx (k + 1) W) (tx (k + 1) R)
theorem tx0 (W : Str) : tx 0 W = W := Mi.strOf_toList W
theorem tx_sp (k : Nat) (W : Str) : sp (tx (k + 1) W) = true := by
  match k with
  | 0 => simp [sp, tx, Mi.strOf, PS, glueC]
  | 1 => simp [sp, tx, Mi.strOf, PS, glueC]
  | k + 2 => simp [sp, tx, Mi.strOf, PS, glueC]
section
variable {W R : Str} {N : Int} {rn : Str}
theorem πk_low (k : Nat) {x : Str} (h : sp x = false) : πk k W R x = sw W R x := by
  match k with
  | 0 => show sw W R (sw R R x) = _; rw [sw_id]
  | k + 1 =>
    show sw W R (sw _ _ x) = _
    rw [sw_ne (p := tx (k + 1) W) (q := tx (k + 1) R) (x := x)]
    · intro e; rw [e, tx_sp] at h; cases h
    · intro e; rw [e, tx_sp] at h; cases h
theorem πk_inj (k : Nat) {x y : Str} (h : πk k W R x = πk k W R y) : x = y := by
  match k with
  | 0 => exact sw_inj (sw_inj h)
  | k + 1 => exact sw_inj (sw_inj h)
theorem πk_ck (k : Nat) (hW : OkW W) (hR : OkW R) {s : Str} (h : s ∈ CK) : πk k W R s = s := by
  have := List.all_eq_true.mp ck_sp s h
  simp only [Bool.not_eq_true'] at this
  rw [πk_low k this, sw_ne (hW.aw s h) (hR.aw s h)]
theorem πk_R (k : Nat) (hR : OkW R) : πk k W R R = W := by
  rw [πk_low k hR.sp]
  unfold sw
  by_cases h : R = W
  · rw [if_pos h, h]
  · rw [if_neg h, if_pos rfl]
theorem πk_tx (k : Nat) (hW : OkW W) (hR : OkW R) : πk k W R (tx k R) = tx k W := by
  match k with
  | 0 => rw [tx0, tx0]; exact πk_R 0 hR
  | k + 1 =>
    show sw W R (sw (tx (k + 1) W) (tx (k + 1) R) (tx (k + 1) R)) = tx (k + 1) W
    have e : sw (tx (k + 1) W) (tx (k + 1) R) (tx (k + 1) R) = tx (k + 1) W := by
      unfold sw
      by_cases h : tx (k + 1) R = tx (k + 1) W
      · rw [if_pos h, h]
      · rw [if_neg h, if_pos rfl]
    rw [e, sw_ne]
    · intro e
      have := tx_sp k W
      rw [e, hW.sp] at this
      cases this
    · intro e
      have := tx_sp k W
      rw [e, hR.sp] at this
      cases this
theorem PS_ne (k : Nat) (w : List Nat) : PS k w ≠ [] := by
  match k with
  | 0 => exact List.cons_ne_nil _ _
  | 1 => exact List.cons_ne_nil _ _
  | 2 => exact List.cons_ne_nil _ _
  | k + 3 => exact List.cons_ne_nil _ _
theorem sp_mem {x : Str} (h : sp x = false) : 32 ∉ x.cps.toList := fun hm => by
  have : sp x = true := List.any_eq_true.mpr ⟨32, hm, rfl⟩
  rw [h] at this; cases this
theorem PS_sp (k : Nat) (h : sp W = false) : ∀ p ∈ PS k W.cps.toList, 32 ∉ p := by
  have hw := sp_mem h
  match k with
  | 0 => intro p hp; simp only [PS, List.mem_cons, List.not_mem_nil, or_false] at hp; rw [hp]; exact hw
  | 1 => intro p hp; simp only [PS, List.mem_cons, List.not_mem_nil, or_false] at hp; rcases hp with rfl | rfl | rfl | rfl <;> first | exact hw | decide
  | 2 => intro p hp; simp only [PS, List.mem_cons, List.not_mem_nil, or_false] at hp; rcases hp with rfl | rfl | rfl | rfl | rfl <;> first | exact hw | decide
  | k + 3 => intro p hp; simp only [PS, List.mem_cons, List.not_mem_nil, or_false] at hp; rcases hp with rfl | rfl <;> first | exact hw | decide
theorem tx_len (k : Nat) (h : OkW W) : beqS (tx k W) s_0 = false ∧ small1 (tx k W) = true := by
  have hl := h.le
  match k with
  | 0 =>
    rw [tx0]
    exact ⟨h.ne, Nat.ble_eq_true_of_le (by show W.cps.size ≤ _; rw [← Array.length_toList]; omega)⟩
  | k + 1 =>
    refine ⟨beqS_n fun e => ?_, ?_⟩
    · have := tx_sp k W
      rw [e] at this; cases this
    · refine Nat.ble_eq_true_of_le ?_
      show (tx (k + 1) W).cps.size ≤ _
      match k with
      | 0 => simp [tx, Mi.strOf, PS, glueC] at hl ⊢; omega
      | 1 => simp [tx, Mi.strOf, PS, glueC] at hl ⊢; omega
      | k + 2 => simp [tx, Mi.strOf, PS, glueC] at hl ⊢; omega
theorem PS_π (k : Nat) (hW : OkW W) (hR : OkW R) : (PS k R.cps.toList).map (fun l => πk k W R (Mi.strOf l)) = (PS k W.cps.toList).map Mi.strOf := by
  have hr : πk k W R (Mi.strOf R.cps.toList) = Mi.strOf W.cps.toList := by rw [Mi.strOf_toList, Mi.strOf_toList]; exact πk_R k hR
  have c : ∀ s, s ∈ CK → πk k W R s = s := fun s h => πk_ck k hW hR h
  have c0 : πk k W R (Mi.strOf [49]) = Mi.strOf [49] := c _ (List.mem_cons_self ..)
  have c1 : πk k W R (Mi.strOf [102, 110]) = Mi.strOf [102, 110] := c _ (List.mem_cons_of_mem _ (List.mem_cons_self ..))
  have c2 : πk k W R (Mi.strOf [61, 62]) = Mi.strOf [61, 62] := c _ (List.mem_cons_of_mem _ (List.mem_cons_of_mem _ (List.mem_cons_self ..)))
  have c3 : πk k W R (Mi.strOf [123]) = Mi.strOf [123] := c _ (List.mem_cons_of_mem _ (List.mem_cons_of_mem _ (List.mem_cons_of_mem _ (List.mem_cons_self ..))))
  have c4 : πk k W R (Mi.strOf [61]) = Mi.strOf [61] := c _ (List.mem_cons_of_mem _ (List.mem_cons_of_mem _ (List.mem_cons_of_mem _ (List.mem_cons_of_mem _ (List.mem_cons_self ..)))))
  have c5 : πk k W R (Mi.strOf [125]) = Mi.strOf [125] := c _ (List.mem_cons_of_mem _ (List.mem_cons_of_mem _ (List.mem_cons_of_mem _ (List.mem_cons_of_mem _ (List.mem_cons_of_mem _ (List.mem_cons_self ..))))))
  match k with
  | 0 => simp only [PS, List.map_cons, List.map_nil]; rw [hr]
  | 1 => simp only [PS, List.map_cons, List.map_nil]; rw [hr, c0, c1, c2]
  | 2 => simp only [PS, List.map_cons, List.map_nil]; rw [hr, c0, c3, c4, c5]
  | k + 3 => simp only [PS, List.map_cons, List.map_nil]; rw [hr, c0]
theorem ren_ok (k : Nat) (hW : OkW W) (hR : OkW R) (c1 : q1 W = q1 R) (c2 : q2 W = q2 R) (c3 : q3 W = q3 R)
    (hN : (rn = one ∧ N = 1) ∨ (rn = R ∧ ∀ m, bInt [.str W] m = .ok (.int N) m)) : Ren (πk k W R) N (tx k R) rn := by
  have hp : ∀ (φ : FM), blOf (isoM φ [.str W] ⟨0, .nil⟩) = blOf (isoM φ [.str R] ⟨0, .nil⟩) → ∀ x, sp x = false → blOf (isoM φ [.str (πk k W R x)] ⟨0, .nil⟩) = blOf (isoM φ [.str x] ⟨0, .nil⟩) := fun φ h x hx => by
    rw [πk_low k hx]
    unfold sw
    by_cases e : x = W
    · rw [if_pos e, e]; exact h.symm
    · rw [if_neg e]
      by_cases e2 : x = R
      · rw [if_pos e2, e2]; exact h
      · rw [if_neg e2]
  refine ⟨fun x y => ?_, fun i s h => ?_, noSp_ok (hp _ c1), noSp_ok (hp _ c2), noSp_ok (hp _ c3), fun vs m => ?_, fun sl m => ?_⟩
  · by_cases e : x = y
    · rw [e, beqS_r, beqS_r]
    · rw [beqS_n e, beqS_n fun h => e (πk_inj k h)]
  · exact πk_ck k hW hR (by
      refine List.mem_cons_of_mem _ (List.mem_cons_of_mem _ (List.mem_cons_of_mem _ (List.mem_cons_of_mem _ (List.mem_cons_of_mem _ (List.mem_cons_of_mem _ ?_)))))
      exact List.mem_of_getElem? h)
  · unfold bIntR
    split
    · rename_i x
      cases e : beqS x rn with
      | true =>
        cases beqS_t e
        refine .inr ?_
        show bInt [.str (πk k W R rn)] _ = .ok (.int N) _
        rcases hN with ⟨h1, h2⟩ | ⟨h1, h2⟩
        · subst h1 h2
          rw [πk_ck k hW hR (List.mem_cons_self ..)]
          exact int_one _
        · subst h1
          rw [πk_R k hR]
          exact h2 _
      | false =>
        dsimp only
        cases e2 : beqS x ⟨#[49]⟩ with
        | true =>
          cases beqS_t e2
          refine .inr ?_
          show bInt [.str (πk k W R one)] _ = .ok (.int 1) _
          rw [πk_ck k hW hR (List.mem_cons_self ..)]
          exact int_one _
        | false => exact .inl (Eq.refl _)
    · exact .inl (Eq.refl _)
  · unfold txR
    split
    · rename_i x hx
      cases e : beqS x (tx k R) with
      | false => exact .inl (Eq.refl _)
      | true =>
        cases beqS_t e
        dsimp only
        rw [TX_ok hx rfl (PS_ne _ _) (PS_sp k hR.sp) (tx_len k hR).1 (tx_len k hR).2]
        have hx2 : ((tS (πk k W R) N sl)[1]? : Option Sl) = some (Sl.v (Val.str (tx k W))) := by
          rw [tS_get, hx, ← πk_tx k hW hR]; rfl
        rw [TX_ok hx2 rfl (PS_ne _ _) (PS_sp k hW.sp) (tx_len k hW).1 (tx_len k hW).2]
        have eo : (Ob.lst ((PS k W.cps.toList).map fun l => Val.str (Mi.strOf l))) = tO (πk k W R) N (.lst ((PS k R.cps.toList).map fun l => Val.str (Mi.strOf l))) := by
          show _ = Ob.lst (tVs _ _ _)
          rw [tVs_map, List.map_map]
          have := congrArg (List.map Val.str) (PS_π k hW hR)
          rw [List.map_map, List.map_map] at this
          exact congrArg Ob.lst this.symm
        rw [eo]
        exact Le.mk
    · exact .inl (Eq.refl _)
end
end Hd

set_option Elab.async false
set_option linter.all false
set_option autoImplicit false
set_option maxRecDepth 100000
set_option maxHeartbeats 0
namespace Hd
open PySem PySem.Spec L2 Mi
def F37 : FM := isoM (fnM 2 (b37 (Lv bodies 28).1 (Lv bodies 28).2))
def outR (r : RE Val) : Option (Option Val) := match r with
  | .ok v _ => some (some v)
  | .err e _ => (match Nat.beq e.cls 1 with | true => some none | false => none)
  | .fail => none
theorem iso_v {φ : FM} {as : List Val} {m m' : MH} {v : Val} (ha : as.all (pureV 60) = true) (hv : pureV 60 v = true) (e : φ as ⟨0, .nil⟩ = .ok v m') : isoM φ as m = .ok v m := by
  unfold isoM
  rw [ha, e]
  show (match pureV 60 v with | true => RE.ok v m | false => _) = _
  rw [hv]
theorem pv_str (x : Str) : pureV 60 (.str x) = true := rfl
theorem F37_ok {x : Str} {kn v : Val} {m m' : MH} (hk : pureV 60 kn = true) (hv : pureV 60 v = true) (e : (Lv bodies 28).1 33 [.str x, kn, .int 1] ⟨0, .nil⟩ = .ok v m') : F37 [.str x, kn] m = .ok v m := by
  refine iso_v (m' := m') ?_ hv ?_
  · show (pureV 60 (.str x) && (pureV 60 kn && true)) = true
    rw [pv_str, hk]; rfl
  · show endF (match (((Lv bodies 28).1 33 [.str x, kn, .int 1] ⟨0, .nil⟩).to [.v (.str x), .v kn] fun v m => .rt v m) with
      | .err e sl1 m1 => (match noEx sl1 with | true => hdGo e sl1 m1 [⟨[1], [0, 2], none, sRet (eC .non)⟩] | false => .fail)
      | r => r) = _
    rw [e]; rfl
theorem F37_err {x : Str} {kn : Val} {m m' : MH} {ex : Exc} (hk : pureV 60 kn = true) (hx : Nat.beq ex.cls 1 = true) (e : (Lv bodies 28).1 33 [.str x, kn, .int 1] ⟨0, .nil⟩ = .err ex m') : F37 [.str x, kn] m = .ok .non m := by
  refine iso_v (m' := m') ?_ rfl ?_
  · show (pureV 60 (.str x) && (pureV 60 kn && true)) = true
    rw [pv_str, hk]; rfl
  · show endF (match (((Lv bodies 28).1 33 [.str x, kn, .int 1] ⟨0, .nil⟩).to [.v (.str x), .v kn] fun v m => .rt v m) with
      | .err e sl1 m1 => (match noEx sl1 with | true => hdGo e sl1 m1 [⟨[1], [0, 2], none, sRet (eC .non)⟩] | false => .fail)
      | r => r) = _
    rw [e]
    obtain ⟨c, fs⟩ := ex
    have : c = 1 := Nat.eq_of_beq_eq_true hx
    subst this
    rfl
section
variable {W R : Str} {N : Int} {rn : Str}
theorem rd_some {k : Nat} {kn v : Val} {m : MH} (h : Ren (πk k W R) N (tx k R) rn) (hW : OkW W) (hR : OkW R) (e : outR ((Lv (bodiesR (tx k R) rn) 28).1 33 [.str (tx k R), kn, .int 1] ⟨0, .nil⟩) = some (some v))
    (hk : pureV 60 (tV (πk k W R) N kn) = true) (hv : pureV 60 (tV (πk k W R) N v) = true) : F37 [.str (tx k W), tV (πk k W R) N kn] m = .ok (tV (πk k W R) N v) m := by
  have L := (rn_lv h 28).1 33 [.str (tx k R), kn, .int 1] ⟨0, .nil⟩
  cases er : (Lv (bodiesR (tx k R) rn) 28).1 33 [.str (tx k R), kn, .int 1] ⟨0, .nil⟩ with
  | fail => rw [er] at e; cases e
  | err ex m' =>
    rw [er] at e
    unfold outR at e
    dsimp only at e
    cases ex2 : Nat.beq ex.cls 1 with
    | true => rw [ex2] at e; cases e
    | false => rw [ex2] at e; cases e
  | ok v' m' =>
    rw [er] at e
    cases e
    rw [er] at L
    rcases L with L | L
    · cases L
    · refine F37_ok hk hv (m' := tM (πk k W R) N m') ?_
      have e2 : tVs (πk k W R) N [.str (tx k R), kn, .int 1] = [.str (tx k W), tV (πk k W R) N kn, .int 1] := by
        show [Val.str (πk k W R (tx k R)), _, _] = _
        rw [πk_tx k hW hR]; rfl
      rw [← e2]
      exact L
theorem rd_none {k : Nat} {kn : Val} {m : MH} (h : Ren (πk k W R) N (tx k R) rn) (hW : OkW W) (hR : OkW R) (e : outR ((Lv (bodiesR (tx k R) rn) 28).1 33 [.str (tx k R), kn, .int 1] ⟨0, .nil⟩) = some none)
    (hk : pureV 60 (tV (πk k W R) N kn) = true) : F37 [.str (tx k W), tV (πk k W R) N kn] m = .ok .non m := by
  have L := (rn_lv h 28).1 33 [.str (tx k R), kn, .int 1] ⟨0, .nil⟩
  cases er : (Lv (bodiesR (tx k R) rn) 28).1 33 [.str (tx k R), kn, .int 1] ⟨0, .nil⟩ with
  | fail => rw [er] at e; cases e
  | ok v' m' => rw [er] at e; cases e
  | err ex m' =>
    rw [er] at e
    unfold outR at e
    dsimp only at e
    rw [er] at L
    rcases L with L | L
    · cases L
    · refine F37_err hk (ex := tX (πk k W R) N ex) (m' := tM (πk k W R) N m') ?_ ?_
      · show Nat.beq ex.cls 1 = true
        cases ex2 : Nat.beq ex.cls 1 with
        | true => rfl
        | false => rw [ex2] at e; cases e
      · have e2 : tVs (πk k W R) N [.str (tx k R), kn, .int 1] = [.str (tx k W), tV (πk k W R) N kn, .int 1] := by
          show [Val.str (πk k W R (tx k R)), _, _] = _
          rw [πk_tx k hW hR]; rfl
        rw [← e2]
        exact L
end
def Rnm : Str := ⟨#[97, 98]⟩
def Rtg : Str := ⟨#[65, 98]⟩
def Rnu : Str := ⟨#[49, 50]⟩
def Rno : Str := ⟨#[97, 95]⟩
theorem ok_nm : OkW Rnm := okW_ok (by decide +kernel)
theorem ok_tg : OkW Rtg := okW_ok (by decide +kernel)
theorem ok_nu : OkW Rnu := okW_ok (by decide +kernel)
theorem ok_no : OkW Rno := okW_ok (by decide +kernel)
theorem q_nm : q1 Rnm = some true ∧ q2 Rnm = some false ∧ q3 Rnm = some false := ⟨by kernel_rfl, by kernel_rfl, by kernel_rfl⟩
theorem q_tg : q1 Rtg = some false ∧ q2 Rtg = some true ∧ q3 Rtg = some false := ⟨by kernel_rfl, by kernel_rfl, by kernel_rfl⟩
theorem q_nu : q1 Rnu = some false ∧ q2 Rnu = some false ∧ q3 Rnu = some true := ⟨by kernel_rfl, by kernel_rfl, by kernel_rfl⟩
theorem q_no : q1 Rno = some false ∧ q2 Rno = some false ∧ q3 Rno = some false := ⟨by kernel_rfl, by kernel_rfl, by kernel_rfl⟩
abbrev runR (k : Nat) (R rn : Str) (kn : Val) : Option (Option Val) := outR ((Lv (bodiesR (tx k R) rn) 28).1 33 [.str (tx k R), kn, .int 1] ⟨0, .nil⟩)
abbrev TK : Val := .ty .other
theorem r_nm0 : runR 0 Rnm one (.dtp [.str Rnm]) = some (some (.dtp [.str s_17, .str Rnm])) := by kernel_rfl
theorem r_nm1 : runR 1 Rnm one (.dtp []) = some (some (.dtp [.str s_2, .str Rnm, .dtp [.str s_16, TK]])) := by kernel_rfl
theorem r_nm2 : runR 2 Rnm one (.dtp []) = some (some (.dtp [.str s_21, .dtp [.dtp [.str Rnm, .dtp [.str s_16, TK]]]])) := by kernel_rfl
theorem r_nm3 : runR 3 Rnm one (.dtp []) = some none := by kernel_rfl
theorem r_tg0 : runR 0 Rtg one (.dtp []) = some none := by kernel_rfl
theorem r_tg1 : runR 1 Rtg one (.dtp []) = some none := by kernel_rfl
theorem r_tg2 : runR 2 Rtg one (.dtp []) = some none := by kernel_rfl
theorem r_tg3 : runR 3 Rtg one (.dtp []) = some (some (.dtp [.str s_26, .str Rtg, .dtp [.str s_16, TK]])) := by kernel_rfl
theorem r_nu0 : runR 0 Rnu Rnu (.dtp []) = some (some (.dtp [.str s_16, TK])) := by kernel_rfl
theorem r_nu1 : runR 1 Rnu Rnu (.dtp []) = some none := by kernel_rfl
theorem r_nu2 : runR 2 Rnu Rnu (.dtp []) = some none := by kernel_rfl
theorem r_nu3 : runR 3 Rnu Rnu (.dtp []) = some (some (.dtp [.str s_18, .dtp [.str s_16, TK], .dtp [.str s_16, .int 1]])) := by kernel_rfl
theorem r_no0 : runR 0 Rno one (.dtp []) = some none := by kernel_rfl
theorem r_no1 : runR 1 Rno one (.dtp []) = some none := by kernel_rfl
theorem r_no2 : runR 2 Rno one (.dtp []) = some none := by kernel_rfl
theorem r_no3 : runR 3 Rno one (.dtp []) = some none := by kernel_rfl
end Hd

set_option Elab.async false
set_option linter.all false
set_option autoImplicit false
set_option maxRecDepth 100000
set_option maxHeartbeats 0
namespace Hd
open PySem PySem.Spec L2 Mi
theorem ck_mem {s : Str} (h : (CK.any fun x => beqS x s) = true) : s ∈ CK := by
  obtain ⟨x, hx, e⟩ := List.any_eq_true.mp h
  rw [← beqS_t e]; exact hx
theorem m16 : s_16 ∈ CK := ck_mem (by decide +kernel)
theorem m17 : s_17 ∈ CK := ck_mem (by decide +kernel)
theorem m2 : s_2 ∈ CK := ck_mem (by decide +kernel)
theorem m21 : s_21 ∈ CK := ck_mem (by decide +kernel)
theorem m26 : s_26 ∈ CK := ck_mem (by decide +kernel)
theorem m18 : s_18 ∈ CK := ck_mem (by decide +kernel)
/-- what is due -/
def due (k : Nat) (a b c : Bool) (N : Int) (W : Str) : Val := match k with
  | 0 => (match c with | true => .dtp [.str s_16, .int N] | false => (match a with | true => .dtp [.str s_17, .str W] | false => .non))
  | 1 => (match a with | true => .dtp [.str s_2, .str W, .dtp [.str s_16, .int 1]] | false => .non)
  | 2 => (match a with | true => .dtp [.str s_21, .dtp [.dtp [.str W, .dtp [.str s_16, .int 1]]]] | false => .non)
  | _ => (match b with | true => .dtp [.str s_26, .str W, .dtp [.str s_16, .int 1]] | false => (match c with | true => .dtp [.str s_18, .dtp [.str s_16, .int N], .dtp [.str s_16, .int 1]] | false => .non))
def knw (k : Nat) (a : Bool) (W : Str) : Val := match k with
  | 0 => (match a with | true => .dtp [.str W] | false => .dtp [])
  | _ => .dtp []
/-- all four texts are read as they are due -/
def Reads (a b c : Bool) (N : Int) (W : Str) : Prop := ∀ k, k < 4 → ∀ m, F37 [.str (tx k W), knw k a W] m = .ok (due k a b c N W) m
section
variable {W : Str} {N : Int}
theorem rd_nm (hW : OkW W) (h1 : q1 W = some true) (h2 : q2 W = some false) (h3 : q3 W = some false) : Reads true false false 1 W := fun k hk m => by
  have hr : Ren (πk k W Rnm) 1 (tx k Rnm) one := ren_ok k hW ok_nm (h1.trans q_nm.1.symm) (h2.trans q_nm.2.1.symm) (h3.trans q_nm.2.2.symm) (.inl ⟨rfl, rfl⟩)
  have eR := πk_R (W := W) k ok_nm
  have c16 := πk_ck k hW ok_nm m16
  have c17 := πk_ck k hW ok_nm m17
  have c2 := πk_ck k hW ok_nm m2
  have c21 := πk_ck k hW ok_nm m21
  match k, hk with
  | 0, _ =>
    have := rd_some (m := m) hr hW ok_nm r_nm0 rfl rfl
    have e1 : tV (πk 0 W Rnm) 1 (.dtp [.str Rnm]) = .dtp [.str W] := by show Val.dtp [.str (πk 0 W Rnm Rnm)] = _; rw [eR]
    have e2 : tV (πk 0 W Rnm) 1 (.dtp [.str s_17, .str Rnm]) = .dtp [.str s_17, .str W] := by show Val.dtp [.str (πk 0 W Rnm s_17), .str (πk 0 W Rnm Rnm)] = _; rw [eR, c17]
    rw [e1, e2] at this
    exact this
  | 1, _ =>
    have := rd_some (m := m) hr hW ok_nm r_nm1 rfl rfl
    have e2 : tV (πk 1 W Rnm) 1 (.dtp [.str s_2, .str Rnm, .dtp [.str s_16, TK]]) = .dtp [.str s_2, .str W, .dtp [.str s_16, .int 1]] := by show Val.dtp [.str (πk 1 W Rnm s_2), .str (πk 1 W Rnm Rnm), .dtp [.str (πk 1 W Rnm s_16), .int 1]] = _; rw [eR, c2, c16]
    rw [e2] at this
    exact this
  | 2, _ =>
    have := rd_some (m := m) hr hW ok_nm r_nm2 rfl rfl
    have e2 : tV (πk 2 W Rnm) 1 (.dtp [.str s_21, .dtp [.dtp [.str Rnm, .dtp [.str s_16, TK]]]]) = .dtp [.str s_21, .dtp [.dtp [.str W, .dtp [.str s_16, .int 1]]]] := by show Val.dtp [.str (πk 2 W Rnm s_21), .dtp [.dtp [.str (πk 2 W Rnm Rnm), .dtp [.str (πk 2 W Rnm s_16), .int 1]]]] = _; rw [eR, c21, c16]
    rw [e2] at this
    exact this
  | 3, _ => exact rd_none (m := m) hr hW ok_nm r_nm3 rfl
theorem rd_tg (hW : OkW W) (h1 : q1 W = some false) (h2 : q2 W = some true) (h3 : q3 W = some false) : Reads false true false 1 W := fun k hk m => by
  have hr : Ren (πk k W Rtg) 1 (tx k Rtg) one := ren_ok k hW ok_tg (h1.trans q_tg.1.symm) (h2.trans q_tg.2.1.symm) (h3.trans q_tg.2.2.symm) (.inl ⟨rfl, rfl⟩)
  have eR := πk_R (W := W) k ok_tg
  have c16 := πk_ck k hW ok_tg m16
  have c26 := πk_ck k hW ok_tg m26
  match k, hk with
  | 0, _ => exact rd_none (m := m) hr hW ok_tg r_tg0 rfl
  | 1, _ => exact rd_none (m := m) hr hW ok_tg r_tg1 rfl
  | 2, _ => exact rd_none (m := m) hr hW ok_tg r_tg2 rfl
  | 3, _ =>
    have := rd_some (m := m) hr hW ok_tg r_tg3 rfl rfl
    have e2 : tV (πk 3 W Rtg) 1 (.dtp [.str s_26, .str Rtg, .dtp [.str s_16, TK]]) = .dtp [.str s_26, .str W, .dtp [.str s_16, .int 1]] := by show Val.dtp [.str (πk 3 W Rtg s_26), .str (πk 3 W Rtg Rtg), .dtp [.str (πk 3 W Rtg s_16), .int 1]] = _; rw [eR, c26, c16]
    rw [e2] at this
    exact this
theorem rd_nu (hW : OkW W) (h1 : q1 W = some false) (h2 : q2 W = some false) (h3 : q3 W = some true) (hN : ∀ m, bInt [.str W] m = .ok (.int N) m) : Reads false false true N W := fun k hk m => by
  have hr : Ren (πk k W Rnu) N (tx k Rnu) Rnu := ren_ok k hW ok_nu (h1.trans q_nu.1.symm) (h2.trans q_nu.2.1.symm) (h3.trans q_nu.2.2.symm) (.inr ⟨rfl, hN⟩)
  have c16 := πk_ck k hW ok_nu m16
  have c18 := πk_ck k hW ok_nu m18
  match k, hk with
  | 0, _ =>
    have := rd_some (m := m) hr hW ok_nu r_nu0 rfl rfl
    have e2 : tV (πk 0 W Rnu) N (.dtp [.str s_16, TK]) = .dtp [.str s_16, .int N] := by show Val.dtp [.str (πk 0 W Rnu s_16), .int N] = _; rw [c16]
    rw [e2] at this
    exact this
  | 1, _ => exact rd_none (m := m) hr hW ok_nu r_nu1 rfl
  | 2, _ => exact rd_none (m := m) hr hW ok_nu r_nu2 rfl
  | 3, _ =>
    have := rd_some (m := m) hr hW ok_nu r_nu3 rfl rfl
    have e2 : tV (πk 3 W Rnu) N (.dtp [.str s_18, .dtp [.str s_16, TK], .dtp [.str s_16, .int 1]]) = .dtp [.str s_18, .dtp [.str s_16, .int N], .dtp [.str s_16, .int 1]] := by show Val.dtp [.str (πk 3 W Rnu s_18), .dtp [.str (πk 3 W Rnu s_16), .int N], .dtp [.str (πk 3 W Rnu s_16), .int 1]] = _; rw [c18, c16]
    rw [e2] at this
    exact this
theorem rd_no (hW : OkW W) (h1 : q1 W = some false) (h2 : q2 W = some false) (h3 : q3 W = some false) : Reads false false false N W := fun k hk m => by
  have hr : Ren (πk k W Rno) 1 (tx k Rno) one := ren_ok k hW ok_no (h1.trans q_no.1.symm) (h2.trans q_no.2.1.symm) (h3.trans q_no.2.2.symm) (.inl ⟨rfl, rfl⟩)
  match k, hk with
  | 0, _ => exact rd_none (m := m) hr hW ok_no r_no0 rfl
  | 1, _ => exact rd_none (m := m) hr hW ok_no r_no1 rfl
  | 2, _ => exact rd_none (m := m) hr hW ok_no r_no2 rfl
  | 3, _ => exact rd_none (m := m) hr hW ok_no r_no3 rfl
end
end Hd

set_option Elab.async false
set_option linter.all false
set_option autoImplicit false
set_option maxRecDepth 100000
set_option maxHeartbeats 0
namespace Hd
open PySem PySem.Spec L2 Mi
/-! what words are, sign by sign -/
def has (z : Str) (c : Nat) : Bool := z.cps.toList.any (Nat.beq c)
def RES : List Str := [s_1, s_2, s_3, s_4, s_5, s_6, s_7, s_8, s_9, s_10]
def inRes (W : Str) : Bool := RES.any fun y => beqS y W
section
variable {sl : Slots} {m m1 m2 : MH} {f g : E} {W : Str} {a b : Bool} {s t : ET}
theorem ev_bl (h : f sl m = .ok (.bl b) m1) : tBl f sl m = .ok b m1 := by unfold tBl; rw [h]; rfl
theorem ev_tru (h : f sl m = .ok (.bl b) m1) : tTru f sl m = .ok b m1 := by unfold tTru; rw [h]; rfl
theorem ev_tnot (h : t sl m = .ok b m1) : tNot' t sl m = .ok (!b) m1 := by unfold tNot'; rw [h]; rfl
theorem ev_tor (h : s sl m = .ok a m) (h2 : t sl m = .ok b m) : tOr' s t sl m = .ok (a || b) m := by
  unfold tOr'; rw [h]; cases a with
  | true => rfl
  | false => exact h2
theorem ev_tor0 (h : s sl m = .ok false m1) (h2 : t sl m1 = .ok b m2) : tOr' s t sl m = .ok b m2 := by unfold tOr'; rw [h]; exact h2
theorem ev_tor1 (h : s sl m = .ok true m1) : tOr' s t sl m = .ok true m1 := by unfold tOr'; rw [h]; rfl
theorem ev_and (h : f sl m = .ok (.bl a) m) (h2 : g sl m = .ok (.bl b) m) : eAnd f g sl m = .ok (.bl (a && b)) m := by
  unfold eAnd; rw [h]; cases a with
  | false => rfl
  | true => exact h2
theorem ev_and1 (h : f sl m = .ok (.bl true) m1) : eAnd f g sl m = g sl m1 := by unfold eAnd; rw [h]; rfl
theorem ev_and0 (h : f sl m = .ok (.bl false) m1) : eAnd f g sl m = .ok (.bl false) m1 := by unfold eAnd; rw [h]; rfl
theorem ev_or (h : f sl m = .ok (.bl a) m) (h2 : g sl m = .ok (.bl b) m) : eOr f g sl m = .ok (.bl (a || b)) m := by
  unfold eOr; rw [h]; cases a with
  | false => exact h2
  | true => rfl
theorem ev_if1 (h : t sl m = .ok true m1) : eIf t f g sl m = f sl m1 := by unfold eIf; rw [h]; rfl
theorem ev_if0 (h : t sl m = .ok false m1) : eIf t f g sl m = g sl m1 := by unfold eIf; rw [h]; rfl
theorem ev_bi1 {o : List Val → MH → RE Val} {v x : Val} (h : f sl m = .ok v m1) (h2 : o [wk v] m1 = .ok x m2) : eBi o (aCons f aNil) sl m = .ok x m2 := by
  unfold eBi aCons; rw [h]; show nE (o [wk v] m1) = _; rw [h2]; rfl
theorem ev_len (h : f sl m = .ok (.str W) m1) (hl : Nat.ble W.length 1000000 = true) : eBi bLen (aCons f aNil) sl m = .ok (.int W.length) m1 := ev_bi1 h (by
  show (match Nat.ble W.length 1000000 with | true => RE.ok (Val.int W.length) m1 | false => .fail) = _
  rw [hl])
theorem ev_bin {op : Val → Val → MH → RE Val} {x y z : Val} (hf : f sl m = .ok x m1) (hg : g sl m1 = .ok y m2) (ho : op (wk x) (wk y) m2 = .ok z m2) : eBin op f g sl m = .ok z m2 := by
  unfold eBin; rw [hf]; show (g sl m1).bind _ = _; rw [hg]; show nE (op (wk x) (wk y) m2) = _; rw [ho]; rfl
theorem o_in {c : Nat} {z : Str} : oIn2 (.str ⟨#[c]⟩) (.str z) m = .ok (.bl (has z c)) m := rfl
theorem flat_strs (xs : List Str) : (xs.map Val.str).all flat = true := by
  rw [List.all_map]; exact List.all_eq_true.mpr fun _ _ => rfl
theorem o_inT {xs : List Str} : oIn2 (.str W) (.tup (xs.map .str)) m = .ok (.bl (xs.any fun y => beqS y W)) m := by
  show (match (match flat (.str W) && (xs.map Val.str).all flat with | true => some ((xs.map Val.str).any fun y => eqF y (.str W)) | false => none) with | some k => RE.ok (Val.bl k) m | none => .fail) = _
  rw [flat_strs]
  show RE.ok (Val.bl ((xs.map Val.str).any fun y => eqF y (.str W))) m = _
  rw [List.any_map]; rfl
theorem o_notinL {xs : List Str} {l : Nat} (h : m.get l = some (.lst (xs.map .str))) : oNotIn2 (.str W) (.loc l) m = .ok (.bl (!xs.any fun y => beqS y W)) m := by
  show oNotIn (.str W) (.loc l) m = _
  unfold oNotIn pyIn
  dsimp only
  rw [h]
  dsimp only
  rw [flat_strs]
  show RE.ok (Val.bl (!(xs.map Val.str).any fun y => eqF y (.str W))) m = _
  rw [List.any_map]; rfl
/-! a comprehension over the signs of a text -/
theorem walk_str {j : Nat} {e : E} {p : Nat → Bool} (hj : j < sl.length) (he : ∀ (c : Nat) (sl2 : Slots), (sl2[j]? : Option Sl) = some (Sl.v (Val.str ⟨#[c]⟩)) → e sl2 m = .ok (.bl (p c)) m) : ∀ (rest pre : List Nat) (fuel : Nat) (r : List Val), rest.length < fuel → r.length + rest.length ≤ 1000000 →
    walkGo (.vals ((pre ++ rest).map fun c => .str ⟨#[c]⟩)) sl (gNm j) tYs (bdOne e) fuel pre.length r m = .ok ((rest.map fun c => Val.bl (p c)).reverse ++ r) m
  | [], pre, fuel + 1, r, _, _ => by
    have en : (ItM.vals ((pre ++ []).map fun c => Val.str ⟨#[c]⟩)).next m pre.length = some none := by
      show some (((pre ++ []).map fun c => Val.str ⟨#[c]⟩)[pre.length]?) = some none
      rw [List.getElem?_eq_none (by simp)]
    show (match (ItM.vals ((pre ++ []).map fun c => Val.str ⟨#[c]⟩)).next m pre.length with | some (some v) => _ | some none => _ | none => _) = _
    rw [en]; rfl
  | c :: rest, pre, fuel + 1, r, h, h2 => by
    have en : (ItM.vals ((pre ++ c :: rest).map fun c => Val.str ⟨#[c]⟩)).next m pre.length = some (some (.str ⟨#[c]⟩)) := by
      show some (((pre ++ c :: rest).map fun c => Val.str ⟨#[c]⟩)[pre.length]?) = _
      rw [List.getElem?_map, List.getElem?_append_right (Nat.le_refl _), Nat.sub_self]; rfl
    have h2' : r.length + (rest.length + 1) ≤ 1000000 := h2
    have ih := walk_str hj he rest (pre ++ [c]) fuel (.bl (p c) :: r) (by have : rest.length + 1 < fuel + 1 := h; omega) (by show r.length + 1 + rest.length ≤ _; omega)
    show (match (ItM.vals ((pre ++ c :: rest).map fun c => Val.str ⟨#[c]⟩)).next m pre.length with
      | some (some v) => (match gNm j v sl m with
        | some sl2 => (nE (tYs sl2 m)).bind fun b m2 => (match b with
          | true => bdOne e sl2 r m2
          | false => .ok r m2).bind fun r' m3 => walkGo (.vals ((pre ++ c :: rest).map fun c => .str ⟨#[c]⟩)) sl (gNm j) tYs (bdOne e) fuel (pre.length + 1) r' m3
        | none => .fail)
      | some none => .ok r m
      | none => .fail) = _
    rw [en]
    show (bdOne e (sl.set j (.v (.str ⟨#[c]⟩))) r m).bind (fun r' m3 => walkGo (.vals ((pre ++ c :: rest).map fun c => .str ⟨#[c]⟩)) sl (gNm j) tYs (bdOne e) fuel (pre.length + 1) r' m3) = _
    have eb : bdOne e (sl.set j (.v (.str ⟨#[c]⟩))) r m = .ok (.bl (p c) :: r) m := by
      unfold bdOne
      rw [he c _ (by rw [List.getElem?_set_self hj])]
      show (match Nat.blt r.length 1000000 with | true => RE.ok (Val.bl (p c) :: r) m | false => .fail) = _
      rw [show Nat.blt r.length 1000000 = true from Nat.ble_eq_true_of_le (by omega)]
    rw [eb]
    have e1 : pre ++ c :: rest = (pre ++ [c]) ++ rest := by simp
    have e2 : (pre ++ [c]).length = pre.length + 1 := by simp
    rw [e2] at ih
    rw [e1]
    refine ih.trans ?_
    rw [List.map_cons, List.reverse_cons, List.append_assoc]; rfl
def bitL (p : Nat → Bool) (W : Str) : Ob := .lst (W.cps.toList.map fun c => .bl (p c))
theorem lc_str {j : Nat} {e : E} {p : Nat → Bool} (h : f sl m = .ok (.str W) m) (hj : j < sl.length) (hl : W.cps.toList.length ≤ 1000) (hm : m.n ≤ 1000)
    (he : ∀ (c : Nat) (sl2 : Slots), (sl2[j]? : Option Sl) = some (Sl.v (Val.str ⟨#[c]⟩)) → e sl2 m = .ok (.bl (p c)) m) :
    eLc 200000 (iSeq f) (gNm j) tYs e [j] sl m = .ok (.loc m.n) (m.add (bitL p W)) := by
  have ei : iSeq f sl m = .ok (.vals (W.cps.toList.map fun c => .str ⟨#[c]⟩)) m := by unfold iSeq; rw [h]; rfl
  unfold eLc
  rw [ei]
  show (walkGo (.vals (W.cps.toList.map fun c => .str ⟨#[c]⟩)) (sl.set j .no) (gNm j) tYs (bdOne e) 200000 0 [] m).bind _ = _
  have := walk_str (sl := sl.set j .no) (by rw [List.length_set]; exact hj) he W.cps.toList [] 200000 [] (by omega) (by show 0 + _ ≤ _; omega)
  rw [List.nil_append, List.append_nil] at this
  rw [show ([] : List Nat).length = 0 from rfl] at this
  rw [this]
  show mk (.lst ((W.cps.toList.map fun c => Val.bl (p c)).reverse).reverse) m = _
  rw [List.reverse_reverse]
  unfold mk
  rw [show Nat.ble m.n lim = true from Nat.ble_eq_true_of_le (by unfold lim; omega)]
  rfl
theorem bools_map (p : Nat → Bool) : ∀ cs : List Nat, bools (cs.map fun c => .bl (p c)) = some (cs.map p)
  | [] => rfl
  | c :: r => by
    show (match bools (r.map fun c => .bl (p c)) with | some bs => some (p c :: bs) | none => none) = _
    rw [bools_map p r]; rfl
theorem all_str {j : Nat} {e : E} {p : Nat → Bool} (h : f sl m = .ok (.str W) m) (hj : j < sl.length) (hl : W.cps.toList.length ≤ 1000) (hm : m.n ≤ 1000)
    (he : ∀ (c : Nat) (sl2 : Slots), (sl2[j]? : Option Sl) = some (Sl.v (Val.str ⟨#[c]⟩)) → e sl2 m = .ok (.bl (p c)) m) :
    eBi bAll (aCons (eLc 200000 (iSeq f) (gNm j) tYs e [j]) aNil) sl m = .ok (.bl (W.cps.toList.all p)) (m.add (bitL p W)) := ev_bi1 (lc_str h hj hl hm he) (by
  show (match (m.add (bitL p W)).get m.n with
    | some (.lst xs) => (match bools xs with | some bs => RE.ok (Val.bl (bs.all id)) (m.add (bitL p W)) | none => .fail)
    | _ => .fail) = _
  rw [MH.get_add (by unfold lim; omega), if_pos rfl]
  show (match bools (W.cps.toList.map fun c => .bl (p c)) with | some bs => RE.ok (Val.bl (bs.all id)) (m.add (bitL p W)) | none => .fail) = _
  rw [bools_map]
  show RE.ok (Val.bl ((W.cps.toList.map p).all id)) (m.add (bitL p W)) = _
  rw [List.all_map]; rfl)
theorem notF (p : Nat → Bool) (cs : List Nat) : (!(cs.map fun c => Val.bl (p c)).any fun y => eqF y (.bl false)) = cs.all p := by
  induction cs with
  | nil => rfl
  | cons c r ih =>
    rw [List.map_cons, List.any_cons, Bool.not_or, ih, List.all_cons]
    congr 1
    show (!(p c == false)) = p c
    cases p c <;> rfl
theorem flat_bits (p : Nat → Bool) (cs : List Nat) : (cs.map fun c => Val.bl (p c)).all flat = true := by
  rw [List.all_map]; exact List.all_eq_true.mpr fun _ _ => rfl
theorem notin_str {j : Nat} {e : E} {p : Nat → Bool} (h : f sl m = .ok (.str W) m) (hj : j < sl.length) (hl : W.cps.toList.length ≤ 1000) (hm : m.n ≤ 1000)
    (he : ∀ (c : Nat) (sl2 : Slots), (sl2[j]? : Option Sl) = some (Sl.v (Val.str ⟨#[c]⟩)) → e sl2 m = .ok (.bl (p c)) m) :
    eBin oNotIn2 (eC (.bl false)) (eLc 200000 (iSeq f) (gNm j) tYs e [j]) sl m = .ok (.bl (W.cps.toList.all p)) (m.add (bitL p W)) := ev_bin (x := .bl false) rfl (lc_str h hj hl hm he) (by
  show oNotIn (.bl false) (.loc m.n) (m.add (bitL p W)) = _
  unfold oNotIn pyIn
  dsimp only
  rw [MH.get_add (by unfold lim; omega), if_pos rfl]
  unfold bitL
  dsimp only
  rw [flat_bits]
  show RE.ok (Val.bl (!(W.cps.toList.map fun c => Val.bl (p c)).any fun y => eqF y (.bl false))) _ = _
  rw [notF])
end
end Hd

set_option Elab.async false
set_option linter.all false
set_option autoImplicit false
set_option maxRecDepth 100000
set_option maxHeartbeats 0
namespace Hd
open PySem PySem.Spec L2 Mi
theorem q_of {φ : FM} {x : Str} {b : Bool} {m' : MH} (h : φ [.str x] ⟨0, .nil⟩ = .ok (.bl b) m') : blOf (isoM φ [.str x] ⟨0, .nil⟩) = some b := by
  unfold isoM
  show blOf (isoR (φ [.str x] ⟨0, .nil⟩) ⟨0, .nil⟩) = _
  rw [h]; rfl
theorem sIf1 {t : ET} {f g : S} {sl : Slots} {m m1 : MH} (h : t sl m = .ok true m1) : sIf t f g sl m = f sl m1 := by unfold sIf; rw [h]; rfl
theorem sIf0 {t : ET} {f g : S} {sl : Slots} {m m1 : MH} (h : t sl m = .ok false m1) : sIf t f g sl m = g sl m1 := by unfold sIf; rw [h]; rfl
theorem sSkip {t : ET} {f g : S} {sl : Slots} {m m1 : MH} (h : t sl m = .ok false m1) : sSeq (sIf t f sNext) g sl m = g sl m1 := by unfold sSeq; rw [sIf0 h]; rfl
theorem atI0 (c : Nat) (r : List Nat) : atI (c :: r) 0 = some c := by
  unfold atI ixN
  simp
theorem sRet_ok {f : E} {sl : Slots} {m m1 : MH} {v : Val} (h : f sl m = .ok v m1) : sRet f sl m = .rt v m1 := by unfold sRet; rw [h]; rfl
/-- at most twelve signs -/
def le12 (W : Str) : Bool := decide ((W.length : Int) ≤ 12)
theorem gt12 (W : Str) : decide ((12 : Int) < (W.length : Int)) = !le12 W := by
  unfold le12
  by_cases h : (W.length : Int) ≤ 12
  · rw [decide_eq_true h, decide_eq_false (by omega)]; rfl
  · rw [decide_eq_false h, decide_eq_true (by omega)]; rfl
theorem s1112 : s_11 ++ s_12 = s_83 := by decide +kernel
theorem s111312 : s_11 ++ s_13 ++ s_12 = s_84 := by decide +kernel
structure Wd (W : Str) (c : Nat) (r : List Nat) : Prop where
  cs : W.cps.toList = c :: r
  le : r.length ≤ 100
section
variable {W : Str} {c : Nat} {r : List Nat} {sl : Slots} {m m1 : MH} {f : E}
theorem Wd.len (h : Wd W c r) : W.length = r.length + 1 := by
  show W.cps.size = _
  rw [← Array.length_toList, h.cs]; rfl
theorem Wd.b (h : Wd W c r) : Nat.ble W.length 1000000 = true := Nat.ble_eq_true_of_le (by rw [h.len]; have := h.le; omega)
theorem Wd.le' (h : Wd W c r) : W.cps.toList.length ≤ 1000 := by rw [h.cs]; show r.length + 1 ≤ _; have := h.le; omega
theorem Wd.ne (h : Wd W c r) : beqS W s_0 = false := beqS_n fun e => by have := h.cs; rw [e] at this; cases this
theorem ev_ix0 (h : Wd W c r) (e : f sl m = .ok (.str W) m) : eBin oIx f (eC (.int 0)) sl m = .ok (.str ⟨#[c]⟩) m := ev_bin e (y := .int 0) rfl (by
  show (match Nat.ble W.length 1000000 with | true => (match atI W.cps.toList 0 with | some c => RE.ok (Val.str ⟨#[c]⟩) m | none => .fail) | false => .fail) = _
  rw [h.b, h.cs, atI0])
theorem ev_first (h : Wd W c r) {z : Str} (e : f sl m = .ok (.str W) m) : eBin oIn2 (eBin oIx f (eC (.int 0))) (eC (.str z)) sl m = .ok (.bl (has z c)) m := ev_bin (ev_ix0 h e) (y := .str z) rfl rfl
theorem ev_eq {z : Str} (e : f sl m = .ok (.str W) m) : eBin oEq f (eC (.str z)) sl m = .ok (.bl (beqS W z)) m := ev_bin e (y := .str z) rfl rfl
theorem ev_ne {z : Str} (e : f sl m = .ok (.str W) m) : eBin oNe f (eC (.str z)) sl m = .ok (.bl (!beqS W z)) m := ev_bin e (y := .str z) rfl rfl
theorem ev_gt12 (hb : Nat.ble W.length 1000000 = true) (e : f sl m = .ok (.str W) m) : eBin oGt (eBi bLen (aCons f aNil)) (eC (.int 12)) sl m = .ok (.bl (!le12 W)) m := ev_bin (ev_len e hb) (y := .int 12) rfl (by
  show RE.ok (Val.bl (decide ((12 : Int) < (W.length : Int)))) m = _
  rw [gt12])
def nmB (W : Str) (c : Nat) : Bool := le12 W && !inRes W && (has s_11 c && W.cps.toList.all (has s_83))
def tgB (W : Str) (c : Nat) : Bool := le12 W && (has s_13 c && W.cps.toList.all (has s_84))
theorem q1_ok (h : Wd W c r) : q1 W = some (nmB W c) := by
  let sl : Slots := [.v (.str W), .no]
  let m : MH := ⟨0, .nil⟩
  have ev : eVar 0 sl m = .ok (.str W) m := rfl
  have t2 : eBin oIn2 (eVar 0) (eC c_RESERVED) sl m = .ok (.bl (inRes W)) m := ev_bin ev (y := c_RESERVED) rfl (o_inT (xs := RES))
  have t : tOr' (tBl (eBin oEq (eVar 0) (eC (.str s_0)))) (tOr' (tBl (eBin oGt (eBi bLen (aCons (eVar 0) (aNil))) (eC c_NAME_MOST))) (tBl (eBin oIn2 (eVar 0) (eC c_RESERVED)))) sl m = .ok (!le12 W || inRes W) m := by
    have := ev_tor (ev_bl (ev_eq (z := s_0) ev)) (ev_tor (ev_bl (ev_gt12 h.b ev)) (ev_bl t2))
    rw [h.ne, Bool.false_or] at this
    exact this
  have ea := all_str (sl := sl) (m := m) (j := 1) (e := eBin oIn2 (eVar 1) (eBin oAdd (eC c_SMALL) (eC c_DIGITS))) (p := has s_83) ev (by show 1 < 2; decide) h.le' (by show 0 ≤ 1000; decide) (fun k sl2 e2 => by
    refine ev_bin (x := .str ⟨#[k]⟩) (y := .str s_83) (by unfold eVar; rw [e2]) (ev_bin (x := .str s_11) (y := .str s_12) rfl rfl ?_) rfl
    show (match Nat.ble (s_11.length + s_12.length) 1000000 with | true => RE.ok (Val.str (s_11 ++ s_12)) m | false => .fail) = _
    rw [s1112]; rfl)
  have ef : eBin oIn2 (eBin oIx (eVar 0) (eC (.int 0))) (eC c_SMALL) sl m = .ok (.bl (has s_11 c)) m := ev_first h ev
  unfold q1 F1 nmB
  cases e1 : (!le12 W || inRes W) with
  | true =>
    have : (le12 W && !inRes W) = false := by
      cases h1 : le12 W <;> cases h2 : inRes W <;> simp_all
    rw [this, Bool.false_and]
    refine q_of (m' := m) ?_
    show endF (sSeq (sIf _ _ _) _ sl m) = _
    rw [e1] at t
    unfold sSeq
    rw [sIf1 t]; rfl
  | false =>
    have : (le12 W && !inRes W) = true := by
      cases h1 : le12 W <;> cases h2 : inRes W <;> simp_all
    rw [this, Bool.true_and]
    rw [e1] at t
    cases e2 : has s_11 c with
    | false =>
      rw [e2] at ef
      refine q_of (m' := m) ?_
      show endF (sSeq (sIf _ _ _) _ sl m) = _
      rw [sSkip t]
      rw [sRet_ok (ev_and0 ef)]; rfl
    | true =>
      rw [e2] at ef
      refine q_of (m' := m.add (bitL (has s_83) W)) ?_
      show endF (sSeq (sIf _ _ _) _ sl m) = _
      rw [sSkip t]
      rw [sRet_ok ((ev_and1 ef).trans ea)]; rfl
theorem q2_ok (h : Wd W c r) : q2 W = some (tgB W c) := by
  let sl : Slots := [.v (.str W), .no]
  let m : MH := ⟨0, .nil⟩
  have ev : eVar 0 sl m = .ok (.str W) m := rfl
  have t : tOr' (tBl (eBin oEq (eVar 0) (eC (.str s_0)))) (tBl (eBin oGt (eBi bLen (aCons (eVar 0) (aNil))) (eC c_NAME_MOST))) sl m = .ok (!le12 W) m := by
    have := ev_tor (ev_bl (ev_eq (z := s_0) ev)) (ev_bl (ev_gt12 h.b ev))
    rw [h.ne, Bool.false_or] at this
    exact this
  have ea := all_str (sl := sl) (m := m) (j := 1) (e := eBin oIn2 (eVar 1) (eBin oAdd (eBin oAdd (eC c_SMALL) (eC c_LARGE)) (eC c_DIGITS))) (p := has s_84) ev (by show 1 < 2; decide) h.le' (by show 0 ≤ 1000; decide) (fun k sl2 e2 => by
    refine ev_bin (x := .str ⟨#[k]⟩) (y := .str s_84) (by unfold eVar; rw [e2]) (ev_bin (x := .str (s_11 ++ s_13)) (y := .str s_12) (ev_bin (x := .str s_11) (y := .str s_13) rfl rfl ?_) rfl ?_) rfl
    · show (match Nat.ble (s_11.length + s_13.length) 1000000 with | true => RE.ok (Val.str (s_11 ++ s_13)) m | false => .fail) = _
      rfl
    · show (match Nat.ble ((s_11 ++ s_13).length + s_12.length) 1000000 with | true => RE.ok (Val.str (s_11 ++ s_13 ++ s_12)) m | false => .fail) = _
      rw [s111312]; rfl)
  have ef : eBin oIn2 (eBin oIx (eVar 0) (eC (.int 0))) (eC c_LARGE) sl m = .ok (.bl (has s_13 c)) m := ev_first h ev
  unfold q2 F2 tgB
  cases e1 : le12 W with
  | false =>
    refine q_of (m' := m) ?_
    show endF (sSeq (sIf _ _ _) _ sl m) = _
    rw [e1] at t
    unfold sSeq
    rw [sIf1 t]; rfl
  | true =>
    rw [Bool.true_and]
    rw [e1] at t
    cases e2 : has s_13 c with
    | false =>
      rw [e2] at ef
      refine q_of (m' := m) ?_
      show endF (sSeq (sIf _ _ _) _ sl m) = _
      rw [sSkip t]
      rw [sRet_ok (ev_and0 ef)]; rfl
    | true =>
      rw [e2] at ef
      refine q_of (m' := m.add (bitL (has s_84) W)) ?_
      show endF (sSeq (sIf _ _ _) _ sl m) = _
      rw [sSkip t]
      rw [sRet_ok ((ev_and1 ef).trans ea)]; rfl
/-! numbers -/
def dig (W : Str) (c : Nat) (r : List Nat) : Str := match Nat.beq c 45 with | true => ⟨r.toArray⟩ | false => W
def nuB (W : Str) (c : Nat) (r : List Nat) : Bool := !beqS (dig W c r) s_0 && le12 (dig W c r) && (dig W c r).cps.toList.all (has s_12) && (beqS W s_15 || !(beqS ⟨#[(dig W c r).cps.toList.headD 0]⟩ s_15))
theorem beq1 (a b : Nat) : beqS ⟨#[a]⟩ ⟨#[b]⟩ = Nat.beq a b := by
  show leq [a] [b] = _
  unfold leq leq
  cases Nat.beq a b <;> rfl
theorem ev_rest (h : Wd W c r) (e : f sl m = .ok (.str W) m) : eIf (tBl (eBin oEq (eSl f (pNone) (pSome (eC (.int 1)))) (eC (.str s_14)))) (eSl f (pSome (eC (.int 1))) (pNone)) f sl m = .ok (.str (dig W c r)) m := by
  have hl := h.le
  have e1 : eSl f (pNone) (pSome (eC (.int 1))) sl m = .ok (.str ⟨#[c]⟩) m := by
    unfold eSl
    rw [e]
    show nE (match Nat.ble W.length 1000000 with | true => RE.ok (Val.str ⟨(cutL W.cps.toList none (some 1)).toArray⟩) m | false => .fail) = _
    rw [h.b, h.cs]
    have : cutL (c :: r) none (some 1) = [c] := by
      unfold cutL HT.sIx
      simp
    rw [this]; rfl
  have e2 : eSl f (pSome (eC (.int 1))) (pNone) sl m = .ok (.str ⟨r.toArray⟩) m := by
    unfold eSl
    rw [e]
    show nE (match Nat.ble W.length 1000000 with | true => RE.ok (Val.str ⟨(cutL W.cps.toList (some 1) none).toArray⟩) m | false => .fail) = _
    rw [h.b, h.cs]
    have : cutL (c :: r) (some 1) none = r := by
      unfold cutL HT.sIx
      simp
    rw [this]; rfl
  have t : tBl (eBin oEq (eSl f (pNone) (pSome (eC (.int 1)))) (eC (.str s_14))) sl m = .ok (Nat.beq c 45) m := by
    have := ev_bl (ev_eq (z := s_14) e1)
    rw [show beqS ⟨#[c]⟩ s_14 = Nat.beq c 45 from beq1 c 45] at this
    exact this
  unfold dig
  cases ec : Nat.beq c 45 with
  | true => rw [ec] at t; rw [ev_if1 t]; exact e2
  | false => rw [ec] at t; rw [ev_if0 t]; exact e
theorem dig_wd (h : Wd W c r) : (dig W c r = s_0) ∨ ∃ d r', Wd (dig W c r) d r' := by
  have hl := h.le
  unfold dig
  cases Nat.beq c 45 with
  | false => exact .inr ⟨c, r, h⟩
  | true =>
    cases r with
    | nil => exact .inl rfl
    | cons d r' => exact .inr ⟨d, r', rfl, by have : r'.length + 1 ≤ 100 := hl; omega⟩
theorem ev_tail (h : Wd W c r) {d : Nat} {r' : List Nat} (hd : Wd (dig W c r) d r') {g : E} (e : f sl m = .ok (.str W) m) (e2 : g sl m = .ok (.str (dig W c r)) m) :
    eOr (eBin oEq f (eC (.str s_15))) (eBin oNe (eBin oIx g (eC (.int 0))) (eC (.str s_15))) sl m = .ok (.bl (beqS W s_15 || !(beqS ⟨#[(dig W c r).cps.toList.headD 0]⟩ s_15))) m := by
  refine ev_or (ev_eq e) ?_
  rw [hd.cs]
  exact ev_ne (ev_ix0 hd e2)
theorem nuB_wd (h : Wd W c r) {d : Nat} {r' : List Nat} (hd : Wd (dig W c r) d r') : nuB W c r = (le12 (dig W c r) && ((dig W c r).cps.toList.all (has s_12) && (beqS W s_15 || !(beqS ⟨#[(dig W c r).cps.toList.headD 0]⟩ s_15)))) := by
  unfold nuB
  rw [hd.ne]
  cases le12 (dig W c r) <;> cases (dig W c r).cps.toList.all (has s_12) <;> rfl
theorem q3_ok (h : Wd W c r) : q3 W = some (nuB W c r) := by
  let sl0 : Slots := [.v (.str W), .no, .no]
  let D := dig W c r
  let sl : Slots := [.v (.str W), .v (.str D), .no]
  let m : MH := ⟨0, .nil⟩
  have ev : eVar 0 sl m = .ok (.str W) m := rfl
  have ed : eVar 1 sl m = .ok (.str D) m := rfl
  have e0 : sSet 1 (eIf (tBl (eBin oEq (eSl (eVar 0) (pNone) (pSome (eC (.int 1)))) (eC (.str s_14)))) (eSl (eVar 0) (pSome (eC (.int 1))) (pNone)) (eVar 0)) sl0 m = .nx sl m := sSet_ok (ev_rest h (f := eVar 0) (sl := sl0) (m := m) rfl)
  unfold q3 F3
  rcases dig_wd h with hD | ⟨d, r', hd⟩
  · have hn : nuB W c r = false := by unfold nuB; rw [hD]; rfl
    rw [hn]
    have t : tBl (eBin oEq (eVar 1) (eC (.str s_0))) sl m = .ok true m := by
      have := ev_bl (ev_eq (z := s_0) ed)
      rw [show beqS D s_0 = true by show beqS (dig W c r) s_0 = true; rw [hD]; rfl] at this
      exact this
    refine q_of (m' := m) ?_
    show endF (sSeq (sSet 1 _) _ sl0 m) = _
    rw [sSeq_ok e0]
    unfold sSeq
    rw [sIf1 (ev_tor1 t)]; rfl
  · rw [nuB_wd h hd]
    have t1 : tBl (eBin oEq (eVar 1) (eC (.str s_0))) sl m = .ok false m := by
      have := ev_bl (ev_eq (z := s_0) ed)
      rw [show beqS D s_0 = false from hd.ne] at this
      exact this
    have t2 : tBl (eBin oGt (eBi bLen (aCons (eVar 1) (aNil))) (eC c_NAME_MOST)) sl m = .ok (!le12 D) m := ev_bl (ev_gt12 (f := eVar 1) hd.b ed)
    cases e1 : le12 (dig W c r) with
    | false =>
      rw [show le12 D = false from e1] at t2
      refine q_of (m' := m) ?_
      show endF (sSeq (sSet 1 _) _ sl0 m) = _
      rw [sSeq_ok e0]
      unfold sSeq
      rw [sIf1 (ev_tor0 t1 (ev_tor1 t2))]; rfl
    | true =>
      rw [show le12 D = true from e1] at t2
      have ea := all_str (sl := sl) (m := m) (j := 2) (e := eBin oIn2 (eVar 2) (eC c_DIGITS)) (p := has s_12) ed (by show 2 < 3; decide) hd.le' (by show 0 ≤ 1000; decide) (fun k sl2 e2 => by
        exact ev_bin (x := .str ⟨#[k]⟩) (y := .str s_12) (by unfold eVar; rw [e2]) rfl rfl)
      have t3 := ev_tnot (ev_tru ea)
      rw [Bool.true_and]
      cases e2 : (dig W c r).cps.toList.all (has s_12) with
      | false =>
        rw [show D.cps.toList.all (has s_12) = false from e2] at t3
        refine q_of (m' := m.add (bitL (has s_12) D)) ?_
        show endF (sSeq (sSet 1 _) _ sl0 m) = _
        rw [sSeq_ok e0]
        unfold sSeq
        rw [sIf1 (ev_tor0 t1 (ev_tor0 t2 t3))]; rfl
      | true =>
        rw [show D.cps.toList.all (has s_12) = true from e2] at t3
        refine q_of (m' := m.add (bitL (has s_12) D)) ?_
        show endF (sSeq (sSet 1 _) _ sl0 m) = _
        rw [sSeq_ok e0, sSkip (ev_tor0 t1 (ev_tor0 t2 t3)), sRet_ok (ev_tail h hd (f := eVar 0) (g := eVar 1) (sl := sl) rfl rfl), Bool.true_and]
        rfl
end
end Hd

set_option Elab.async false
set_option linter.all false
set_option autoImplicit false
set_option maxRecDepth 100000
set_option maxHeartbeats 0
namespace Hd
open PySem PySem.Spec L2 Mi
def P0 (T T1 : Tbl) : S := (sSet 1 (eCall 1 (T 35) [] (aCons (eVar 0) aNil)))
def P1 (T T1 : Tbl) : S := (sAsg (eTup (aCons (eC (.str s_71)) (aCons (eC (.str s_72)) (aCons (eC (.str s_73)) aNil)))) (gTp 3 (gsCons (gNm 2) (gsCons (gNm 3) (gsCons (gNm 4) gsNil)))))
def P2 (T T1 : Tbl) : S := (sSet 5 (eBm isS sJoin (eC (.str s_0)) (aCons (eLcX 200000 (iRg1 (aCons (eCall 2 (T 34) [] (aCons (eVar 1) (aCons (eC (.int 14)) aNil))) aNil)) (gNm 6) tYs (eBin oIx (eBin oAdd (eBin oAdd (eBin oAdd (eVar 2) (eVar 3)) (eVar 4)) (eC (.str s_74))) (eCall 2 (T 34) [] (aCons (eVar 1) (aCons (eC (.int 21)) aNil)))) [6]) aNil)))
def P3 (T T1 : Tbl) : S := (sIf (tBl (eBin oEq (eCall 2 (T 34) [] (aCons (eVar 1) (aCons (eC (.int 4)) aNil))) (eC (.int 0)))) (sSeq (sSet 7 (eLst (aCons (eC (.str s_16)) (aCons (eC (.str s_75)) (aCons (eBin oMul2 (eC (.str s_76)) (eC (.int 12))) (aCons (eBin oMul2 (eC (.str s_76)) (eC (.int 13))) (aCons (eC (.str s_77)) (aCons (eC (.str s_78)) (aCons (eC (.str s_15)) (aCons (eC (.str s_79)) (aCons (eC (.str s_80)) (aCons (eC (.str s_81)) (aCons (eC (.str s_82)) aNil))))))))))))) (sSet 5 (eBin oIx (eBin oAdd (eLst (aCons (eC (.str s_1)) (aCons (eC (.str s_2)) (aCons (eC (.str s_3)) (aCons (eC (.str s_4)) (aCons (eC (.str s_5)) (aCons (eC (.str s_6)) (aCons (eC (.str s_7)) (aCons (eC (.str s_8)) (aCons (eC (.str s_9)) (aCons (eC (.str s_10)) aNil))))))))))) (eVar 7)) (eCall 2 (T 34) [] (aCons (eVar 1) (aCons (eC (.int 21)) aNil)))))) sNext)
def P4 (T T1 : Tbl) : S := (sSet 8 (eLst (aCons (eC (.str s_1)) (aCons (eC (.str s_2)) (aCons (eC (.str s_3)) (aCons (eC (.str s_4)) (aCons (eC (.str s_5)) (aCons (eC (.str s_6)) (aCons (eC (.str s_7)) (aCons (eC (.str s_8)) (aCons (eC (.str s_9)) (aCons (eC (.str s_10)) aNil))))))))))))
def P5 (T T1 : Tbl) : S := (sSet 9 (eBin oNotIn2 (eC (.bl false)) (eLc 200000 (iSeq (eVar 5)) (gNm 10) tYs (eBin oIn2 (eVar 10) (eC (.str s_83))) [10])))
def P6 (T T1 : Tbl) : S := (sSet 11 (eAnd (eChain oLt oLe (eC (.int 0)) (eBi bLen (aCons (eVar 5) aNil)) (eC (.int 12))) (eAnd (eVar 9) (eAnd (eBin oIn2 (eBin oIx (eVar 5) (eC (.int 0))) (eC (.str s_11))) (eBin oNotIn2 (eVar 5) (eVar 8))))))
def P7 (T T1 : Tbl) : S := (sSet 12 (eBin oNotIn2 (eC (.bl false)) (eLc 200000 (iSeq (eVar 5)) (gNm 10) tYs (eBin oIn2 (eVar 10) (eC (.str s_84))) [10])))
def P8 (T T1 : Tbl) : S := (sSet 13 (eAnd (eChain oLt oLe (eC (.int 0)) (eBi bLen (aCons (eVar 5) aNil)) (eC (.int 12))) (eAnd (eVar 12) (eBin oIn2 (eBin oIx (eVar 5) (eC (.int 0))) (eC (.str s_13))))))
def P9 (T T1 : Tbl) : S := (sSet 14 (eIf (tBl (eBin oEq (eSl (eVar 5) pNone (pSome (eC (.int 1)))) (eC (.str s_14)))) (eSl (eVar 5) (pSome (eC (.int 1))) pNone) (eVar 5)))
def P10 (T T1 : Tbl) : S := (sSet 15 (eAnd (eChain oLt oLe (eC (.int 0)) (eBi bLen (aCons (eVar 14) aNil)) (eC (.int 12))) (eAnd (eBin oNotIn2 (eC (.bl false)) (eLc 200000 (iSeq (eVar 14)) (gNm 10) tYs (eBin oIn2 (eVar 10) (eC (.str s_12))) [10])) (eOr (eBin oEq (eVar 5) (eC (.str s_15))) (eBin oNe (eBin oIx (eVar 14) (eC (.int 0))) (eC (.str s_15)))))))
def P11 (T T1 : Tbl) : S := (sIf (tOr' (tNot' (tTru (eCall 2 (T 36) [] (aCons (eCall 1 (T 1) [] (aCons (eVar 5) aNil)) (aCons (eVar 11) aNil))))) (tOr' (tNot' (tTru (eCall 2 (T 36) [] (aCons (eCall 1 (T 2) [] (aCons (eVar 5) aNil)) (aCons (eVar 13) aNil))))) (tNot' (tTru (eCall 2 (T 36) [] (aCons (eCall 1 (T 3) [] (aCons (eVar 5) aNil)) (aCons (eVar 15) aNil))))))) (sRet (eC (.bl false))) sNext)
def P12 (T T1 : Tbl) : S := (sSet 16 (eCall 2 (T 37) [] (aCons (eVar 5) (aCons (eIf (tTru (eVar 11)) (eTup (aCons (eVar 5) aNil)) (eTup aNil)) aNil))))
def P13 (T T1 : Tbl) : S := (sIf (tBl (eBin oNe (eVar 16) (eIf (tTru (eVar 15)) (eTup (aCons (eC (.str s_16)) (aCons (eBi bInt (aCons (eVar 5) aNil)) aNil))) (eIf (tTru (eVar 11)) (eTup (aCons (eC (.str s_17)) (aCons (eVar 5) aNil))) (eC .non))))) (sRet (eC (.bl false))) sNext)
def P14 (T T1 : Tbl) : S := (sIf (tBl (eBin oNe (eCall 2 (T 37) [] (aCons (eBin oAdd (eBin oAdd (eC (.str s_85)) (eVar 5)) (eC (.str s_86))) (aCons (eTup aNil) aNil))) (eIf (tTru (eVar 11)) (eTup (aCons (eC (.str s_2)) (aCons (eVar 5) (aCons (eTup (aCons (eC (.str s_16)) (aCons (eC (.int 1)) aNil))) aNil)))) (eC .non)))) (sRet (eC (.bl false))) sNext)
def P15 (T T1 : Tbl) : S := (sIf (tBl (eBin oNe (eCall 2 (T 37) [] (aCons (eBin oAdd (eBin oAdd (eC (.str s_87)) (eVar 5)) (eC (.str s_88))) (aCons (eTup aNil) aNil))) (eIf (tTru (eVar 11)) (eTup (aCons (eC (.str s_21)) (aCons (eTup (aCons (eTup (aCons (eVar 5) (aCons (eTup (aCons (eC (.str s_16)) (aCons (eC (.int 1)) aNil))) aNil))) aNil)) aNil))) (eC .non)))) (sRet (eC (.bl false))) sNext)
def P16 (T T1 : Tbl) : S := (sRet (eBin oEq (eCall 2 (T 37) [] (aCons (eBin oAdd (eVar 5) (eC (.str s_89))) (aCons (eTup aNil) aNil))) (eIf (tTru (eVar 13)) (eTup (aCons (eC (.str s_26)) (aCons (eVar 5) (aCons (eTup (aCons (eC (.str s_16)) (aCons (eC (.int 1)) aNil))) aNil)))) (eIf (tTru (eVar 15)) (eTup (aCons (eC (.str s_18)) (aCons (eTup (aCons (eC (.str s_16)) (aCons (eBi bInt (aCons (eVar 5) aNil)) aNil))) (aCons (eTup (aCons (eC (.str s_16)) (aCons (eC (.int 1)) aNil))) aNil)))) (eC .non)))))
def TAIL (T T1 : Tbl) : S := sSeq (P4 T T1) (sSeq (P5 T T1) (sSeq (P6 T T1) (sSeq (P7 T T1) (sSeq (P8 T T1) (sSeq (P9 T T1) (sSeq (P10 T T1) (sSeq (P11 T T1) (sSeq (P12 T T1) (sSeq (P13 T T1) (sSeq (P14 T T1) (sSeq (P15 T T1) (P16 T T1))))))))))))
theorem b38_eq (T T1 : Tbl) : b38 T T1 = sSeq (P0 T T1) (sSeq (P1 T T1) (sSeq (P2 T T1) (sSeq (P3 T T1) (TAIL T T1)))) := rfl
end Hd

set_option Elab.async false
set_option linter.all false
set_option autoImplicit false
set_option maxRecDepth 100000
set_option maxHeartbeats 0
namespace Hd
open PySem PySem.Spec L2 Mi
/-! no two of them -/
theorem has_mem {z : Str} {c : Nat} (h : has z c = true) : c ∈ z.cps.toList := by
  obtain ⟨x, hx, e⟩ := List.any_eq_true.mp h
  rw [Nat.eq_of_beq_eq_true e]; exact hx
theorem hs_small : ∀ c ∈ s_11.cps.toList, has s_13 c = false ∧ Nat.beq c 45 = false ∧ has s_12 c = false := by decide +kernel
theorem hs_large : ∀ c ∈ s_13.cps.toList, has s_11 c = false ∧ Nat.beq c 45 = false ∧ has s_12 c = false := by decide +kernel
theorem hs_dig : ∀ c ∈ s_12.cps.toList, 48 ≤ c ∧ c ≤ 57 := by decide +kernel
section
variable {W : Str} {c : Nat} {r : List Nat}
theorem nu_no (h : Wd W c r) (h1 : Nat.beq c 45 = false) (h2 : has s_12 c = false) : nuB W c r = false := by
  unfold nuB dig
  rw [h1]
  dsimp only
  rw [h.cs, List.all_cons, h2]
  cases beqS W s_0 <;> cases le12 W <;> rfl
theorem nm_hd (e : nmB W c = true) : has s_11 c = true := by
  unfold nmB at e
  simp only [Bool.and_eq_true] at e
  exact e.2.1
theorem tg_hd (e : tgB W c = true) : has s_13 c = true := by
  unfold tgB at e
  simp only [Bool.and_eq_true] at e
  exact e.2.1
theorem nm_ex (h : Wd W c r) (e : nmB W c = true) : tgB W c = false ∧ nuB W c r = false := by
  obtain ⟨h1, h2, h3⟩ := hs_small c (has_mem (nm_hd e))
  refine ⟨?_, nu_no h h2 h3⟩
  unfold tgB; rw [h1]; cases le12 W <;> rfl
theorem tg_ex (h : Wd W c r) (e : tgB W c = true) : nuB W c r = false := by
  obtain ⟨h1, h2, h3⟩ := hs_large c (has_mem (tg_hd e))
  exact nu_no h h2 h3
theorem nu_int (h : Wd W c r) (e : nuB W c r = true) : ∃ N : Int, ∀ m, bInt [.str W] m = .ok (.int N) m := by
  have hl := h.le
  have hb : ∀ {N : Int}, PySem.intText? W = some N → ∀ m, bInt [.str W] m = .ok (.int N) m := fun {N} hN m => by
    show (match Nat.ble W.length 600 with | true => (match PySem.intText? W with | some n => RE.ok (Val.int n) m | none => .fail) | false => .fail) = _
    rw [show Nat.ble W.length 600 = true from Nat.ble_eq_true_of_le (by rw [h.len]; omega), hN]
  unfold nuB at e
  simp only [Bool.and_eq_true] at e
  obtain ⟨⟨⟨e1, e2⟩, e3⟩, e4⟩ := e
  have ad : NumText.AllDigits (dig W c r).cps.toList := fun k hk => hs_dig k (has_mem (List.all_eq_true.mp e3 k hk))
  have ne : (dig W c r).cps.toList ≠ [] := fun h0 => by
    have : dig W c r = s_0 := by rw [← Mi.strOf_toList (dig W c r), h0]; rfl
    rw [this] at e1; cases e1
  unfold dig at ad ne
  cases ec : Nat.beq c 45 with
  | false =>
    rw [ec] at ad ne
    exact ⟨_, hb (PySem.intText_digits ad ne (by rw [h.len]; omega))⟩
  | true =>
    rw [ec] at ad ne
    have : c = 45 := Nat.eq_of_beq_eq_true ec
    subst this
    exact ⟨_, hb (PySem.intText_neg h.cs ad ne (by rw [h.len]; omega))⟩
/-- every word that may be renamed is read as is due -/
theorem reads_ok (h : Wd W c r) (ok : OkW W) : ∃ N : Int, (nuB W c r = true → ∀ m, bInt [.str W] m = .ok (.int N) m) ∧ Reads (nmB W c) (tgB W c) (nuB W c r) N W := by
  have h1 := q1_ok h
  have h2 := q2_ok h
  have h3 := q3_ok h
  cases e1 : nmB W c with
  | true =>
    obtain ⟨e2, e3⟩ := nm_ex h e1
    rw [e1] at h1; rw [e2] at h2; rw [e3] at h3
    rw [e2, e3]
    exact ⟨1, fun z => (by cases z), rd_nm ok h1 h2 h3⟩
  | false =>
    rw [e1] at h1
    cases e2 : tgB W c with
    | true =>
      have e3 := tg_ex h e2
      rw [e2] at h2; rw [e3] at h3
      rw [e3]
      exact ⟨1, fun z => (by cases z), rd_tg ok h1 h2 h3⟩
    | false =>
      rw [e2] at h2
      cases e3 : nuB W c r with
      | true =>
        obtain ⟨N, hN⟩ := nu_int h e3
        rw [e3] at h3
        exact ⟨N, fun _ => hN, rd_nu ok h1 h2 h3 hN⟩
      | false =>
        rw [e3] at h3
        exact ⟨1, fun z => (by cases z), rd_no ok h1 h2 h3⟩
end
/-! what is due is equal to itself -/
theorem eqv_ok {m : MH} {xs : List Val} {d : PyData} (hd : dataOf m (.tup xs) = some d) (hp : Nat.ble d.depth 150 = true) : pyEq m (.tup xs) (.tup xs) = some true := by
  have hc := (dataOf_ok hd).2
  show (match dataOf m (.tup xs) with
    | some d => (match dataOf m (.tup xs) with
      | some e => (match Nat.ble d.depth 150 with
        | true => some (PyData.eqv d e)
        | false => none)
      | none => none)
    | none => none) = _
  rw [hd]
  dsimp only
  rw [hp]
  dsimp only
  rw [PySem.SeqAt.eqv_refl d hc]
theorem dat {m : MH} {v : Val} {d : PyData} (h : toD m deepFuel v = some d) (hc : d.canLay0 = true) : dataOf m v = some d := by
  unfold dataOf; rw [h]; dsimp only; rw [hc]
theorem sk (x : Str) (h : x.cps.toList.all (fun c => decide (c < 0x110000)) = true) : PyData.canLay0 (.str x) = true := by
  unfold PyData.canLay0
  unfold PyData.strOk
  rw [← Array.all_toList]; exact h
theorem eq_due {m : MH} (k : Nat) (hk : k < 4) (a b c : Bool) (N : Int) (W : Str) (hs : PyData.canLay0 (.str W) = true) : pyEq m (wk (due k a b c N W)) (wk (due k a b c N W)) = some true := by
  have k2 : PyData.canLay0 (.str s_2) = true := by decide +kernel
  have k16 : PyData.canLay0 (.str s_16) = true := by decide +kernel
  have k17 : PyData.canLay0 (.str s_17) = true := by decide +kernel
  have k18 : PyData.canLay0 (.str s_18) = true := by decide +kernel
  have k21 : PyData.canLay0 (.str s_21) = true := by decide +kernel
  have k26 : PyData.canLay0 (.str s_26) = true := by decide +kernel
  have ki : ∀ i, PyData.canLay0 (.int i) = true := fun i => rfl
  have n0 : pyEq m (wk Val.non) (wk Val.non) = some true := rfl
  match k, hk with
  | 0, _ =>
    cases c with
    | true => exact eqv_ok (dat (d := .tuple [.str s_16, .int N]) rfl (by simp only [PyData.canLay0, PyData.canLayAll0] at *; simp_all)) rfl
    | false =>
      cases a with
      | true => exact eqv_ok (dat (d := .tuple [.str s_17, .str W]) rfl (by simp only [PyData.canLay0, PyData.canLayAll0] at *; simp_all)) rfl
      | false => exact n0
  | 1, _ =>
    cases a with
    | true => exact eqv_ok (dat (d := .tuple [.str s_2, .str W, .tuple [.str s_16, .int 1]]) rfl (by simp only [PyData.canLay0, PyData.canLayAll0] at *; simp_all)) rfl
    | false => exact n0
  | 2, _ =>
    cases a with
    | true => exact eqv_ok (dat (d := .tuple [.str s_21, .tuple [.tuple [.str W, .tuple [.str s_16, .int 1]]]]) rfl (by simp only [PyData.canLay0, PyData.canLayAll0] at *; simp_all)) rfl
    | false => exact n0
  | 3, _ =>
    cases b with
    | true => exact eqv_ok (dat (d := .tuple [.str s_26, .str W, .tuple [.str s_16, .int 1]]) rfl (by simp only [PyData.canLay0, PyData.canLayAll0] at *; simp_all)) rfl
    | false =>
      cases c with
      | true => exact eqv_ok (dat (d := .tuple [.str s_18, .tuple [.str s_16, .int N], .tuple [.str s_16, .int 1]]) rfl (by simp only [PyData.canLay0, PyData.canLayAll0] at *; simp_all)) rfl
      | false => exact n0
end Hd

set_option Elab.async false
set_option linter.all false
set_option autoImplicit false
set_option maxRecDepth 100000
set_option maxHeartbeats 0
namespace Hd
open PySem PySem.Spec L2 Mi
abbrev T29 : Tbl := (Lv bodies 29).1
abbrev U29 : Tbl := (Lv bodies 29).2
def WLs : Ob := .lst (RES.map .str)
section
variable {sl : Slots} {m m1 m2 : MH} {f g : E} {W : Str} {c : Nat} {r : List Nat}
theorem sSetM {i : Nat} {v : Val} (hf : f sl m = .ok v m1) : sSet i f sl m = .nx (sl.set i (.v v)) m1 := by unfold sSet; rw [hf]; rfl
theorem ev_call1 {φ : FM} {v x : Val} (h : f sl m = .ok v m1) (h2 : φ [v] m1 = .ok x m2) : eCall 1 φ [] (aCons f aNil) sl m = .ok x m2 := by
  unfold eCall aCons; rw [h]; exact h2
theorem ev_call2 {φ : FM} {m3 : MH} {v x y : Val} (h : f sl m = .ok v m1) (h2 : g sl m1 = .ok x m2) (h3 : φ [v, x] m2 = .ok y m3) : eCall 2 φ [] (aCons f (aCons g aNil)) sl m = .ok y m3 := by
  unfold eCall aCons; rw [h]
  dsimp only [RE.bind]
  rw [h2]; exact h3
theorem ev_chain (h : Wd W c r) (e : f sl m = .ok (.str W) m) : eChain oLt oLe (eC (.int 0)) (eBi bLen (aCons f aNil)) (eC (.int 12)) sl m = .ok (.bl (le12 W)) m := by
  unfold eChain eC
  dsimp only [RE.bind]
  rw [ev_len e h.b]
  have e2 : oLt (wk (Val.int 0)) (wk (Val.int W.length)) m = .ok (.bl true) m := by
    show RE.ok (Val.bl (decide ((0 : Int) < (W.length : Int)))) m = _
    rw [decide_eq_true (by rw [h.len]; omega)]
  dsimp only [RE.bind]
  rw [e2]
  rfl
theorem w_low (h : Wd W c r) : T29 1 [.str W] m = .ok (.bl (nmB W c)) m := F1_ok (q1_ok h) m
theorem w_tag (h : Wd W c r) : T29 2 [.str W] m = .ok (.bl (tgB W c)) m := F2_ok (q2_ok h) m
theorem w_num (h : Wd W c r) : T29 3 [.str W] m = .ok (.bl (nuB W c r)) m := F3_ok (q3_ok h) m
theorem w_same (b : Bool) : T29 36 [.bl b, .bl b] m = .ok (.bl true) m := by cases b <;> rfl
theorem w_read (k : Val) (x : Str) : T29 37 [.str x, k] m = F37 [.str x, k] m := rfl
theorem ev_ne_due {v : Val} (h1 : f sl m = .ok v m) (h2 : g sl m = .ok v m) (h : pyEq m (wk v) (wk v) = some true) : eBin oNe f g sl m = .ok (.bl false) m := ev_bin h1 h2 (by unfold oNe; rw [h]; rfl)
theorem ev_eq_due {v : Val} (h1 : f sl m = .ok v m) (h2 : g sl m = .ok v m) (h : pyEq m (wk v) (wk v) = some true) : eBin oEq f g sl m = .ok (.bl true) m := ev_bin h1 h2 (by unfold oEq; rw [h])
theorem ev_tup1 {v : Val} (h : f sl m = .ok v m) : eTup (aCons f aNil) sl m = .ok (.dtp [v]) m := by unfold eTup aCons; rw [h]; rfl
theorem ev_tup2 {v x : Val} (h : f sl m = .ok v m) (h2 : g sl m = .ok x m) : eTup (aCons f (aCons g aNil)) sl m = .ok (.dtp [v, x]) m := by
  unfold eTup aCons; rw [h]
  dsimp only [RE.bind]
  rw [h2]; rfl
theorem ev_tup3 {v x y : Val} {f2 : E} (h : f sl m = .ok v m) (h2 : g sl m = .ok x m) (h3 : f2 sl m = .ok y m) : eTup (aCons f (aCons g (aCons f2 aNil))) sl m = .ok (.dtp [v, x, y]) m := by
  unfold eTup aCons; rw [h]
  dsimp only [RE.bind]
  rw [h2]
  dsimp only [RE.bind]
  rw [h3]; rfl
end
section
variable {W : Str} {c : Nat} {r : List Nat} {a b d : Bool} {N : Int} {m : MH}
variable {y0 y1 y2 y3 y4 y6 y7 y8 y9 y10 y11 y12 y13 y14 y15 y16 : Sl}
/-- the slots in the law's tail -/
abbrev sT (W : Str) (y0 y1 y2 y3 y4 y6 y7 y8 y9 y10 y11 y12 y13 y14 y15 y16 : Sl) : Slots := [y0, y1, y2, y3, y4, .v (.str W), y6, y7, y8, y9, y10, y11, y12, y13, y14, y15, y16]
theorem t4 (hm : m.n ≤ 900) : P4 T29 U29 (sT W y0 y1 y2 y3 y4 y6 y7 y8 y9 y10 y11 y12 y13 y14 y15 y16) m = .nx (sT W y0 y1 y2 y3 y4 y6 y7 (.v (.loc m.n)) y9 y10 y11 y12 y13 y14 y15 y16) (m.add WLs) := by
  refine sSetM (v := .loc m.n) ?_
  show mk (.lst (RES.map .str)) m = _
  unfold mk
  rw [show Nat.ble m.n lim = true from Nat.ble_eq_true_of_le (by unfold lim; omega)]
  rfl
theorem t5 (h : Wd W c r) (hm : m.n ≤ 900) : P5 T29 U29 (sT W y0 y1 y2 y3 y4 y6 y7 y8 y9 y10 y11 y12 y13 y14 y15 y16) m = .nx (sT W y0 y1 y2 y3 y4 y6 y7 y8 (.v (.bl (W.cps.toList.all (has s_83)))) y10 y11 y12 y13 y14 y15 y16) (m.add (bitL (has s_83) W)) :=
  sSetM (notin_str (f := eVar 5) rfl (by show 10 < 17; decide) h.le' (by omega) fun k sl2 e2 => ev_bin (x := .str ⟨#[k]⟩) (y := .str s_83) (by unfold eVar; rw [e2]) rfl rfl)
theorem t6 (h : Wd W c r) {l : Nat} (hl : m.get l = some WLs) : P6 T29 U29 (sT W y0 y1 y2 y3 y4 y6 y7 (.v (.loc l)) (.v (.bl (W.cps.toList.all (has s_83)))) y10 y11 y12 y13 y14 y15 y16) m = .nx (sT W y0 y1 y2 y3 y4 y6 y7 (.v (.loc l)) (.v (.bl (W.cps.toList.all (has s_83)))) y10 (.v (.bl (nmB W c))) y12 y13 y14 y15 y16) m := by
  have e : nmB W c = (le12 W && (W.cps.toList.all (has s_83) && (has s_11 c && !inRes W))) := by
    unfold nmB
    cases le12 W <;> cases inRes W <;> cases has s_11 c <;> cases W.cps.toList.all (has s_83) <;> rfl
  rw [e]
  exact sSetM (ev_and (ev_chain (f := eVar 5) h rfl) (ev_and rfl (ev_and (ev_first (f := eVar 5) h rfl) (ev_bin (x := .str W) (y := .loc l) rfl rfl (o_notinL (xs := RES) hl)))))
theorem t7 (h : Wd W c r) (hm : m.n ≤ 910) : P7 T29 U29 (sT W y0 y1 y2 y3 y4 y6 y7 y8 y9 y10 y11 y12 y13 y14 y15 y16) m = .nx (sT W y0 y1 y2 y3 y4 y6 y7 y8 y9 y10 y11 (.v (.bl (W.cps.toList.all (has s_84)))) y13 y14 y15 y16) (m.add (bitL (has s_84) W)) :=
  sSetM (notin_str (f := eVar 5) rfl (by show 10 < 17; decide) h.le' (by omega) fun k sl2 e2 => ev_bin (x := .str ⟨#[k]⟩) (y := .str s_84) (by unfold eVar; rw [e2]) rfl rfl)
theorem t8 (h : Wd W c r) : P8 T29 U29 (sT W y0 y1 y2 y3 y4 y6 y7 y8 y9 y10 y11 (.v (.bl (W.cps.toList.all (has s_84)))) y13 y14 y15 y16) m = .nx (sT W y0 y1 y2 y3 y4 y6 y7 y8 y9 y10 y11 (.v (.bl (W.cps.toList.all (has s_84)))) (.v (.bl (tgB W c))) y14 y15 y16) m := by
  have e : tgB W c = (le12 W && (W.cps.toList.all (has s_84) && has s_13 c)) := by
    unfold tgB
    cases le12 W <;> cases has s_13 c <;> cases W.cps.toList.all (has s_84) <;> rfl
  rw [e]
  exact sSetM (ev_and (ev_chain (f := eVar 5) h rfl) (ev_and rfl (ev_first (f := eVar 5) h rfl)))
theorem t9 (h : Wd W c r) : P9 T29 U29 (sT W y0 y1 y2 y3 y4 y6 y7 y8 y9 y10 y11 y12 y13 y14 y15 y16) m = .nx (sT W y0 y1 y2 y3 y4 y6 y7 y8 y9 y10 y11 y12 y13 (.v (.str (dig W c r))) y15 y16) m :=
  sSetM (ev_rest (f := eVar 5) h rfl)
theorem t10 (h : Wd W c r) (hm : m.n ≤ 920) : ∃ m', P10 T29 U29 (sT W y0 y1 y2 y3 y4 y6 y7 y8 y9 y10 y11 y12 y13 (.v (.str (dig W c r))) y15 y16) m = .nx (sT W y0 y1 y2 y3 y4 y6 y7 y8 y9 y10 y11 y12 y13 (.v (.str (dig W c r))) (.v (.bl (nuB W c r))) y16) m' := by
  rcases dig_wd h with hD | ⟨k, r', hd⟩
  · refine ⟨m, ?_⟩
    have hn : nuB W c r = false := by unfold nuB; rw [hD]; rfl
    rw [hn, hD]
    rfl
  · rw [nuB_wd h hd]
    have ec := ev_chain (f := eVar 14) (sl := sT W y0 y1 y2 y3 y4 y6 y7 y8 y9 y10 y11 y12 y13 (.v (.str (dig W c r))) y15 y16) (m := m) hd rfl
    cases e1 : le12 (dig W c r) with
    | false =>
      rw [e1] at ec
      exact ⟨m, sSetM (ev_and0 ec)⟩
    | true =>
      rw [e1] at ec
      have en := notin_str (m := m) (sl := sT W y0 y1 y2 y3 y4 y6 y7 y8 y9 y10 y11 y12 y13 (.v (.str (dig W c r))) y15 y16) (f := eVar 14) (j := 10) (e := eBin oIn2 (eVar 10) (eC (.str s_12))) (p := has s_12) rfl (by show 10 < 17; decide) hd.le' (by omega) fun k sl2 e2 => ev_bin (x := .str ⟨#[k]⟩) (y := .str s_12) (by unfold eVar; rw [e2]) rfl rfl
      rw [Bool.true_and]
      cases e2 : (dig W c r).cps.toList.all (has s_12) with
      | false =>
        rw [e2] at en
        exact ⟨_, sSetM ((ev_and1 ec).trans (ev_and0 en))⟩
      | true =>
        rw [e2] at en
        rw [Bool.true_and]
        exact ⟨_, sSetM ((ev_and1 ec).trans ((ev_and1 en).trans (ev_tail (f := eVar 5) (g := eVar 14) h hd rfl rfl)))⟩
theorem t11 {S1 : S} (h : Wd W c r) : sSeq (P11 T29 U29) S1 (sT W y0 y1 y2 y3 y4 y6 y7 y8 y9 y10 (.v (.bl (nmB W c))) y12 (.v (.bl (tgB W c))) y14 (.v (.bl (nuB W c r))) y16) m = S1 (sT W y0 y1 y2 y3 y4 y6 y7 y8 y9 y10 (.v (.bl (nmB W c))) y12 (.v (.bl (tgB W c))) y14 (.v (.bl (nuB W c r))) y16) m :=
  sSkip (ev_tor0 (ev_tnot (ev_tru (ev_call2 (ev_call1 (f := eVar 5) rfl (w_low h)) rfl (w_same _)))) (ev_tor0 (ev_tnot (ev_tru (ev_call2 (ev_call1 (f := eVar 5) rfl (w_tag h)) rfl (w_same _)))) (ev_tnot (ev_tru (ev_call2 (ev_call1 (f := eVar 5) rfl (w_num h)) rfl (w_same _))))))
theorem t12 (hr : Reads a b d N W) : P12 T29 U29 (sT W y0 y1 y2 y3 y4 y6 y7 y8 y9 y10 (.v (.bl a)) y12 y13 y14 y15 y16) m = .nx (sT W y0 y1 y2 y3 y4 y6 y7 y8 y9 y10 (.v (.bl a)) y12 y13 y14 y15 (.v (due 0 a b d N W))) m := by
  have := hr 0 (by decide) m
  rw [tx0] at this
  refine sSetM (ev_call2 (v := .str W) (x := knw 0 a W) rfl ?_ this)
  cases a <;> rfl
theorem t13 {S1 : S} (hN : d = true → ∀ m, bInt [.str W] m = .ok (.int N) m) (he : pyEq m (wk (due 0 a b d N W)) (wk (due 0 a b d N W)) = some true) :
    sSeq (P13 T29 U29) S1 (sT W y0 y1 y2 y3 y4 y6 y7 y8 y9 y10 (.v (.bl a)) y12 y13 y14 (.v (.bl d)) (.v (due 0 a b d N W))) m = S1 (sT W y0 y1 y2 y3 y4 y6 y7 y8 y9 y10 (.v (.bl a)) y12 y13 y14 (.v (.bl d)) (.v (due 0 a b d N W))) m := by
  refine sSkip (ev_bl (ev_ne_due rfl ?_ he))
  cases d with
  | true => exact (ev_if1 rfl).trans (ev_tup2 (v := .str s_16) rfl (ev_bi1 (f := eVar 5) rfl (hN rfl m)))
  | false => cases a <;> rfl
theorem tx1 (W : Str) (h : OkW W) : eBin oAdd (eBin oAdd (eC (.str s_85)) (eVar 5)) (eC (.str s_86)) (sT W y0 y1 y2 y3 y4 y6 y7 y8 y9 y10 y11 y12 y13 y14 y15 y16) m = .ok (.str (tx 1 W)) m := by
  have hl := h.le
  have hn : W.length = W.cps.toList.length := Array.length_toList.symm
  refine ev_bin (x := .str (s_85 ++ W)) (y := .str s_86) (ev_bin (x := .str s_85) (y := .str W) rfl rfl ?_) rfl ?_
  · show (match Nat.ble (s_85.length + W.length) 1000000 with | true => RE.ok (Val.str (s_85 ++ W)) m | false => .fail) = _
    rw [show Nat.ble (s_85.length + W.length) 1000000 = true from Nat.ble_eq_true_of_le (by show 3 + W.length ≤ _; omega)]
  · have e : (s_85 ++ W).length = 3 + W.length := by show (s_85.cps ++ W.cps).size = _; rw [Array.size_append]; rfl
    show (match Nat.ble ((s_85 ++ W).length + s_86.length) 1000000 with | true => RE.ok (Val.str (s_85 ++ W ++ s_86)) m | false => .fail) = _
    rw [show Nat.ble ((s_85 ++ W).length + s_86.length) 1000000 = true from Nat.ble_eq_true_of_le (by rw [e]; show 3 + W.length + 5 ≤ _; omega)]
    have : s_85 ++ W ++ s_86 = tx 1 W := by
      show (⟨s_85.cps ++ W.cps ++ s_86.cps⟩ : Str) = ⟨(glueC 32 (PS 1 W.cps.toList)).toArray⟩
      congr 1
      apply Array.ext'
      simp [PS, glueC, s_85, s_86]
    rw [this]
theorem tx2 (W : Str) (h : OkW W) : eBin oAdd (eBin oAdd (eC (.str s_87)) (eVar 5)) (eC (.str s_88)) (sT W y0 y1 y2 y3 y4 y6 y7 y8 y9 y10 y11 y12 y13 y14 y15 y16) m = .ok (.str (tx 2 W)) m := by
  have hl := h.le
  have hn : W.length = W.cps.toList.length := Array.length_toList.symm
  refine ev_bin (x := .str (s_87 ++ W)) (y := .str s_88) (ev_bin (x := .str s_87) (y := .str W) rfl rfl ?_) rfl ?_
  · show (match Nat.ble (s_87.length + W.length) 1000000 with | true => RE.ok (Val.str (s_87 ++ W)) m | false => .fail) = _
    rw [show Nat.ble (s_87.length + W.length) 1000000 = true from Nat.ble_eq_true_of_le (by show 2 + W.length ≤ _; omega)]
  · have e : (s_87 ++ W).length = 2 + W.length := by show (s_87.cps ++ W.cps).size = _; rw [Array.size_append]; rfl
    show (match Nat.ble ((s_87 ++ W).length + s_88.length) 1000000 with | true => RE.ok (Val.str (s_87 ++ W ++ s_88)) m | false => .fail) = _
    rw [show Nat.ble ((s_87 ++ W).length + s_88.length) 1000000 = true from Nat.ble_eq_true_of_le (by rw [e]; show 2 + W.length + 6 ≤ _; omega)]
    have : s_87 ++ W ++ s_88 = tx 2 W := by
      show (⟨s_87.cps ++ W.cps ++ s_88.cps⟩ : Str) = ⟨(glueC 32 (PS 2 W.cps.toList)).toArray⟩
      congr 1
      apply Array.ext'
      simp [PS, glueC, s_87, s_88]
    rw [this]
theorem tx3 (W : Str) (h : OkW W) : eBin oAdd (eVar 5) (eC (.str s_89)) (sT W y0 y1 y2 y3 y4 y6 y7 y8 y9 y10 y11 y12 y13 y14 y15 y16) m = .ok (.str (tx 3 W)) m := by
  have hl := h.le
  have hn : W.length = W.cps.toList.length := Array.length_toList.symm
  refine ev_bin (x := .str W) (y := .str s_89) rfl rfl ?_
  show (match Nat.ble (W.length + s_89.length) 1000000 with | true => RE.ok (Val.str (W ++ s_89)) m | false => .fail) = _
  rw [show Nat.ble (W.length + s_89.length) 1000000 = true from Nat.ble_eq_true_of_le (by show W.length + 2 ≤ _; omega)]
  have : W ++ s_89 = tx 3 W := by
    show (⟨W.cps ++ s_89.cps⟩ : Str) = ⟨(glueC 32 (PS 3 W.cps.toList)).toArray⟩
    congr 1
    apply Array.ext'
    simp [PS, glueC, s_89]
  rw [this]
theorem t14 {S1 : S} (ok : OkW W) (hr : Reads a b d N W) (he : pyEq m (wk (due 1 a b d N W)) (wk (due 1 a b d N W)) = some true) :
    sSeq (P14 T29 U29) S1 (sT W y0 y1 y2 y3 y4 y6 y7 y8 y9 y10 (.v (.bl a)) y12 y13 y14 y15 y16) m = S1 (sT W y0 y1 y2 y3 y4 y6 y7 y8 y9 y10 (.v (.bl a)) y12 y13 y14 y15 y16) m := by
  refine sSkip (ev_bl (ev_ne_due (ev_call2 (tx1 W ok) (x := .dtp []) rfl (hr 1 (by decide) m)) ?_ he))
  cases a <;> rfl
theorem t15 {S1 : S} (ok : OkW W) (hr : Reads a b d N W) (he : pyEq m (wk (due 2 a b d N W)) (wk (due 2 a b d N W)) = some true) :
    sSeq (P15 T29 U29) S1 (sT W y0 y1 y2 y3 y4 y6 y7 y8 y9 y10 (.v (.bl a)) y12 y13 y14 y15 y16) m = S1 (sT W y0 y1 y2 y3 y4 y6 y7 y8 y9 y10 (.v (.bl a)) y12 y13 y14 y15 y16) m := by
  refine sSkip (ev_bl (ev_ne_due (ev_call2 (tx2 W ok) (x := .dtp []) rfl (hr 2 (by decide) m)) ?_ he))
  cases a <;> rfl
theorem t16 (ok : OkW W) (hN : d = true → ∀ m, bInt [.str W] m = .ok (.int N) m) (hr : Reads a b d N W) (he : pyEq m (wk (due 3 a b d N W)) (wk (due 3 a b d N W)) = some true) :
    P16 T29 U29 (sT W y0 y1 y2 y3 y4 y6 y7 y8 y9 y10 (.v (.bl a)) y12 (.v (.bl b)) y14 (.v (.bl d)) y16) m = .rt (.bl true) m := by
  refine sRet_ok (ev_eq_due (ev_call2 (tx3 W ok) (x := .dtp []) rfl (hr 3 (by decide) m)) ?_ he)
  cases b with
  | true => rfl
  | false =>
    cases d with
    | true => exact (ev_if0 rfl).trans ((ev_if1 rfl).trans (ev_tup3 (v := .str s_18) (x := .dtp [.str s_16, .int N]) rfl (ev_tup2 (v := .str s_16) rfl (ev_bi1 (f := eVar 5) rfl (hN rfl m))) rfl))
    | false => rfl
theorem tail_ok (h : Wd W c r) (ok : OkW W) (hs : PyData.canLay0 (.str W) = true) (hm : m.n ≤ 890) : ∃ m', TAIL T29 U29 (sT W y0 y1 y2 y3 y4 y6 y7 y8 y9 y10 y11 y12 y13 y14 y15 y16) m = .rt (.bl true) m' := by
  obtain ⟨N, hN, hr⟩ := reads_ok h ok
  have g0 : (m.add WLs).n = m.n + 1 := rfl
  have g1 : ((m.add WLs).add (bitL (has s_83) W)).n = m.n + 2 := rfl
  have gl : ((m.add WLs).add (bitL (has s_83) W)).get m.n = some WLs := by
    rw [MH.get_add (by rw [g0]; unfold lim; omega), if_neg (by rw [g0]; omega), MH.get_add (by unfold lim; omega), if_pos rfl]
  have hm1 : (m.add WLs).n ≤ 901 := by rw [g0]; omega
  obtain ⟨m', e10⟩ := t10 (y0 := y0) (y1 := y1) (y2 := y2) (y3 := y3) (y4 := y4) (y6 := y6) (y7 := y7) (y8 := .v (.loc m.n)) (y9 := .v (.bl (W.cps.toList.all (has s_83)))) (y10 := y10) (y11 := .v (.bl (nmB W c))) (y12 := .v (.bl (W.cps.toList.all (has s_84)))) (y13 := .v (.bl (tgB W c))) (y15 := y15) (y16 := y16) (m := ((m.add WLs).add (bitL (has s_83) W)).add (bitL (has s_84) W)) h (by show m.n + 3 ≤ 920; omega)
  refine ⟨m', ?_⟩
  have he := fun k (hk : k < 4) => eq_due (m := m') k hk (nmB W c) (tgB W c) (nuB W c r) N W hs
  have e5 := t5 (y0 := y0) (y1 := y1) (y2 := y2) (y3 := y3) (y4 := y4) (y6 := y6) (y7 := y7) (y8 := .v (.loc m.n)) (y9 := y9) (y10 := y10) (y11 := y11) (y12 := y12) (y13 := y13) (y14 := y14) (y15 := y15) (y16 := y16) (m := m.add WLs) h (by
    show m.n + 1 ≤ 900
    omega)
  have e7 := t7 (y0 := y0) (y1 := y1) (y2 := y2) (y3 := y3) (y4 := y4) (y6 := y6) (y7 := y7) (y8 := .v (.loc m.n)) (y9 := .v (.bl (W.cps.toList.all (has s_83)))) (y10 := y10) (y11 := .v (.bl (nmB W c))) (y12 := y12) (y13 := y13) (y14 := y14) (y15 := y15) (y16 := y16) (m := (m.add WLs).add (bitL (has s_83) W)) h (by show m.n + 2 ≤ 910; omega)
  unfold TAIL
  rw [sSeq_ok (t4 (by omega)), sSeq_ok e5, sSeq_ok (t6 h gl), sSeq_ok e7, sSeq_ok (t8 h), sSeq_ok (t9 h), sSeq_ok e10, t11 h, sSeq_ok (t12 hr), t13 hN (he 0 (by decide)), t14 ok hr (he 1 (by decide)), t15 ok hr (he 2 (by decide))]
  exact t16 ok hN hr (he 3 (by decide))
end
end Hd

set_option Elab.async false
set_option linter.all false
set_option autoImplicit false
set_option maxRecDepth 100000
set_option maxHeartbeats 0
namespace Hd
open PySem PySem.Spec L2 Mi
def okS (r : RS) : Bool := match r with | .rt (.bl true) _ => true | _ => false
theorem okS_ok {r : RS} (h : okS r = true) : ∃ m, endF r = .ok (.bl true) m := by
  cases r with
  | rt v m =>
    cases v with
    | bl b =>
      cases b with
      | true => exact ⟨m, rfl⟩
      | false => cases h
    | _ => cases h
  | _ => cases h
def exA : E := (eBin oAdd (eBin oAdd (eBin oAdd (eVar 2) (eVar 3)) (eVar 4)) (eC (.str s_74)))
def exC : E := (eBin oAdd (eLst (aCons (eC (.str s_1)) (aCons (eC (.str s_2)) (aCons (eC (.str s_3)) (aCons (eC (.str s_4)) (aCons (eC (.str s_5)) (aCons (eC (.str s_6)) (aCons (eC (.str s_7)) (aCons (eC (.str s_8)) (aCons (eC (.str s_9)) (aCons (eC (.str s_10)) aNil))))))))))) (eVar 7))
def st7 : S := (sSet 7 (eLst (aCons (eC (.str s_16)) (aCons (eC (.str s_75)) (aCons (eBin oMul2 (eC (.str s_76)) (eC (.int 12))) (aCons (eBin oMul2 (eC (.str s_76)) (eC (.int 13))) (aCons (eC (.str s_77)) (aCons (eC (.str s_78)) (aCons (eC (.str s_15)) (aCons (eC (.str s_79)) (aCons (eC (.str s_80)) (aCons (eC (.str s_81)) (aCons (eC (.str s_82)) aNil)))))))))))))
def ALPH : List Nat := [97, 98, 99, 120, 121, 122, 65, 66, 88, 89, 90, 48, 49, 50, 51, 55, 56, 57, 45, 95, 46]
theorem dr : ∀ as m, T29 34 as m = fnM 6 drawB as m := fun _ _ => rfl
theorem tp : ∀ as m, T29 35 as m = fnM 3 tapeB as m := fun _ _ => rfl
section
variable (k v mix : Int) (ns : List Int) (y0 : Val)
/-- the slots ahead of the word -/
abbrev sA (y0 : Val) (y6 : Sl) : Slots := [.v y0, .v (.loc 1), .v (.str s_71), .v (.str s_72), .v (.str s_73), .no, y6, .no, .no, .no, .no, .no, .no, .no, .no, .no, .no]
theorem exA_ok (y6 : Sl) (m : MH) : exA (sA y0 y6) m = .ok (.str ⟨ALPH.toArray⟩) m := by kernel_rfl
theorem alph_ix (d : Nat) (h : d < 21) : ∃ c, c ∈ ALPH ∧ atI ALPH (d : Int) = some c := by
  have hl : d < ALPH.length := h
  refine ⟨ALPH[d], List.getElem_mem hl, ?_⟩
  unfold atI ixN
  rw [if_pos (by omega), if_pos (by show (d : Int) < ((21 : Nat) : Int); omega)]
  show ALPH[((d : Int)).toNat]? = _
  rw [Int.toNat_natCast]
  exact List.getElem?_eq_getElem hl
def exB : E := eBin oIx exA (eDraw (T29 34) 21)
theorem exB_ok (y6 : Sl) (hk : 0 ≤ k) {n : Nat} {ll lr r : Tr} : ∃ (c : Nat) (k' v' : Int), c ∈ ALPH ∧ 0 ≤ k' ∧ exB (sA y0 y6) (mT n k v mix ns ll lr r) = .ok (.str ⟨#[c]⟩) (mT n k' v' mix ns ll lr r) := by
  obtain ⟨d, k', v', h1, h2, h3, e⟩ := eDraw_ok (n := n) (k := k) (v := v) (mix := mix) (ns := ns) (ll := ll) (lr := lr) (r := r) (sl := sA y0 y6) dr rfl hk (many := 21) (by decide) (by decide)
  obtain ⟨d', rfl⟩ := Int.eq_ofNat_of_zero_le h1
  obtain ⟨c, hc, ec⟩ := alph_ix d' (by omega)
  refine ⟨c, k', v', hc, h3, ?_⟩
  unfold exB
  refine ev_bin (exA_ok _ _ _) e ?_
  show (match atI ALPH (d' : Int) with | some c => RE.ok (Val.str ⟨#[c]⟩) _ | none => .fail) = _
  rw [ec]
def ch (c : Nat) : Val := .str ⟨#[c]⟩
theorem walk_w {n : Nat} {ll lr r : Tr} {q : Nat} : ∀ (rem fuel i : Nat) (acc : List Val) (k v : Int), 0 ≤ k → rem < fuel → i + rem = q → acc.length + rem ≤ 1000 →
    ∃ (cs : List Nat) (k' v' : Int), (∀ c ∈ cs, c ∈ ALPH) ∧ cs.length = rem ∧ 0 ≤ k' ∧ walkGo (.rng 0 q) (sA y0 .no) (gNm 6) tYs (bdOneX exB) fuel i acc (mT n k v mix ns ll lr r) = .ok ((cs.map ch).reverse ++ acc) (mT n k' v' mix ns ll lr r)
  | 0, fuel + 1, i, acc, k, v, hk, _, hi, _ => by
    refine ⟨[], k, v, fun c h => (by cases h), rfl, hk, ?_⟩
    have en : (ItM.rng 0 q).next (mT n k v mix ns ll lr r) i = some none := by
      show some (match Nat.blt i q with | true => some (Val.int (0 + i)) | false => none) = _
      rw [show Nat.blt i q = false by cases e : Nat.blt i q with | false => rfl | true => exact absurd (Nat.le_of_ble_eq_true e) (by omega)]
    show (match (ItM.rng 0 q).next (mT n k v mix ns ll lr r) i with | some (some v) => _ | some none => _ | none => _) = _
    rw [en]; rfl
  | rem + 1, fuel + 1, i, acc, k, v, hk, hf, hi, ha => by
    have en : (ItM.rng 0 q).next (mT n k v mix ns ll lr r) i = some (some (.int (0 + i))) := by
      show some (match Nat.blt i q with | true => some (Val.int (0 + i)) | false => none) = _
      have hq : i + 1 ≤ q := by omega
      rw [show Nat.blt i q = true from Nat.ble_eq_true_of_le hq]
    obtain ⟨c, k1, v1, hc, hk1, e1⟩ := exB_ok k v mix ns y0 (.v (.int (0 + i))) hk (n := n) (ll := ll) (lr := lr) (r := r)
    obtain ⟨cs, k2, v2, h1, h2, h3, e2⟩ := walk_w (n := n) (ll := ll) (lr := lr) (r := r) (q := q) rem fuel (i + 1) (ch c :: acc) k1 v1 hk1 (by omega) (by omega) (by show acc.length + 1 + rem ≤ _; omega)
    refine ⟨c :: cs, k2, v2, fun x hx => ?_, by show cs.length + 1 = _; omega, h3, ?_⟩
    · rcases List.mem_cons.mp hx with e | e
      · rw [e]; exact hc
      · exact h1 x e
    · show (match (ItM.rng 0 q).next (mT n k v mix ns ll lr r) i with
        | some (some v0) => (match gNm 6 v0 (sA y0 .no) (mT n k v mix ns ll lr r) with
          | some sl2 => (nE (tYs sl2 (mT n k v mix ns ll lr r))).bind fun b m2 => (match b with
            | true => bdOneX exB sl2 acc m2
            | false => .ok acc m2).bind fun r' m3 => walkGo (.rng 0 q) (sA y0 .no) (gNm 6) tYs (bdOneX exB) fuel (i + 1) r' m3
          | none => .fail)
        | some none => .ok acc (mT n k v mix ns ll lr r)
        | none => .fail) = _
      rw [en]
      show (bdOneX exB (sA y0 (.v (.int (0 + i)))) acc (mT n k v mix ns ll lr r)).bind (fun r' m3 => walkGo (.rng 0 q) (sA y0 .no) (gNm 6) tYs (bdOneX exB) fuel (i + 1) r' m3) = _
      have eb : bdOneX exB (sA y0 (.v (.int (0 + i)))) acc (mT n k v mix ns ll lr r) = .ok (ch c :: acc) (mT n k1 v1 mix ns ll lr r) := by
        unfold bdOneX
        rw [e1]
        show (match Nat.blt acc.length 1000000 with | true => RE.ok (ch c :: acc) _ | false => .fail) = _
        rw [show Nat.blt acc.length 1000000 = true from Nat.ble_eq_true_of_le (by omega)]
      rw [eb]
      refine e2.trans ?_
      rw [List.map_cons, List.reverse_cons, List.append_assoc]; rfl
def exW : E := eLcX 200000 (iRg1 (aCons (eDraw (T29 34) 14) aNil)) (gNm 6) tYs exB [6]
abbrev h3 (k v mix : Int) (ns : List Int) (cl : List Val) : MH := mT 3 k v mix ns .nil .nil (.node (some (.lst cl)) .nil .nil)
theorem exW_ok (hk : 0 ≤ k) : ∃ (cs : List Nat) (k' v' : Int), (∀ c ∈ cs, c ∈ ALPH) ∧ cs.length ≤ 13 ∧ 0 ≤ k' ∧ exW (sA y0 .no) (mT 2 k v mix ns .nil .nil .nil) = .ok (.loc 2) (h3 k' v' mix ns (cs.map ch)) := by
  obtain ⟨d, k1, v1, h1, h2, hk1, e⟩ := eDraw_ok (n := 2) (k := k) (v := v) (mix := mix) (ns := ns) (ll := .nil) (lr := .nil) (r := .nil) (sl := sA y0 .no) dr rfl hk (many := 14) (by decide) (by decide)
  obtain ⟨d', rfl⟩ := Int.eq_ofNat_of_zero_le h1
  obtain ⟨cs, k2, v2, g1, g2, g3, e2⟩ := walk_w mix ns y0 (n := 2) (ll := .nil) (lr := .nil) (r := .nil) (q := d') d' 200000 0 [] k1 v1 hk1 (by omega) (by omega) (by show 0 + d' ≤ _; omega)
  refine ⟨cs, k2, v2, g1, by omega, g3, ?_⟩
  have ei : iRg1 (aCons (eDraw (T29 34) 14) aNil) (sA y0 .no) (mT 2 k v mix ns .nil .nil .nil) = .ok (.rng 0 d') (mT 2 k1 v1 mix ns .nil .nil .nil) := by
    unfold iRg1 aCons
    rw [e]
    show (match within62 (d' : Int) with | true => RE.ok (ItM.rng 0 ((d' : Int)).toNat) _ | false => .fail) = _
    rw [show within62 (d' : Int) = true from Nat.ble_eq_true_of_le (by omega), Int.toNat_natCast]
  unfold exW eLcX
  rw [ei]
  show (walkGo (.rng 0 d') (sA y0 .no) (gNm 6) tYs (bdOneX exB) 200000 0 [] (mT 2 k1 v1 mix ns .nil .nil .nil)).bind _ = _
  rw [e2]
  show mk (.lst (((cs.map ch).reverse ++ []).reverse)) (mT 2 k2 v2 mix ns .nil .nil .nil) = _
  rw [List.append_nil, List.reverse_reverse]
  kernel_rfl
theorem strs_ch : ∀ cs : List Nat, strsOf (cs.map ch) = some (cs.map fun c => (⟨#[c]⟩ : Str))
  | [] => rfl
  | c :: r => by
    show (match strsOf (r.map ch) with | some xs => some ((⟨#[c]⟩ : Str) :: xs) | none => none) = _
    rw [strs_ch r]; rfl
theorem join_ch : ∀ cs : List Nat, TL.joinL [] (cs.map fun c => [c]) = cs
  | [] => rfl
  | [c] => rfl
  | c :: d :: r => by
    have := join_ch (d :: r)
    show [c] ++ ([] ++ TL.joinL [] ((d :: r).map fun c => [c])) = _
    rw [this]; rfl
theorem sum_ch : ∀ cs : List Nat, ((cs.map fun c => (⟨#[c]⟩ : Str)).map (·.length)).sum = cs.length
  | [] => rfl
  | c :: r => by
    have := sum_ch r
    show 1 + ((r.map fun c => (⟨#[c]⟩ : Str)).map (·.length)).sum = r.length + 1
    omega
theorem p2_ok (hk : 0 ≤ k) : ∃ (cs : List Nat) (k' v' : Int), (∀ c ∈ cs, c ∈ ALPH) ∧ cs.length ≤ 13 ∧ 0 ≤ k' ∧
    P2 T29 U29 (sA y0 .no) (mT 2 k v mix ns .nil .nil .nil) = .nx (sT (Mi.strOf cs) (.v y0) (.v (.loc 1)) (.v (.str s_71)) (.v (.str s_72)) (.v (.str s_73)) .no .no .no .no .no .no .no .no .no .no .no) (h3 k' v' mix ns (cs.map ch)) := by
  obtain ⟨cs, k', v', h1, h2, hk', e⟩ := exW_ok k v mix ns y0 hk
  refine ⟨cs, k', v', h1, h2, hk', ?_⟩
  show sSet 5 (eBm isS sJoin (eC (.str s_0)) (aCons exW aNil)) _ _ = _
  refine sSetM (v := .str (Mi.strOf cs)) ?_
  unfold eBm aCons eC
  dsimp only [RE.bind, isS]
  rw [e]
  dsimp only [RE.bind, aNil]
  show nE (match strsOf (cs.map ch) with
      | some ss => (match Nat.ble ((ss.map (·.length)).sum + ss.length * s_0.length) 16777216 with
        | true => RE.ok (Val.str (Mi.strOf (TL.joinL s_0.cps.toList (ss.map fun x => x.cps.toList)))) (h3 k' v' mix ns (cs.map ch))
        | false => .fail)
      | none => .fail) = _
  rw [strs_ch]
  dsimp only
  rw [sum_ch, List.length_map]
  rw [show Nat.ble (cs.length + cs.length * s_0.length) 16777216 = true from Nat.ble_eq_true_of_le (by show cs.length + cs.length * 0 ≤ _; omega)]
  rw [List.map_map]
  show nE (RE.ok (Val.str (Mi.strOf (TL.joinL [] (cs.map fun c => [c])))) _) = _
  rw [join_ch]; rfl
/-! the special words -/
def SP : List Str := RES ++ [s_16, s_75, ⟨(List.replicate 12 97).toArray⟩, ⟨(List.replicate 13 97).toArray⟩, s_77, s_78, s_15, s_79, s_80, s_81, s_82]
def MO : Ob := .lst ((SP.drop 10).map .str)
def AL : Ob := .lst (SP.map .str)
abbrev h6 (k v mix : Int) (ns : List Int) (cl : List Val) : MH := mT 6 k v mix ns (.node (some MO) .nil .nil) (.node (some AL) .nil .nil) (.node (some (.lst cl)) (.node (some WLs) .nil .nil) .nil)
abbrev h4 (k v mix : Int) (ns : List Int) (cl : List Val) : MH := mT 4 k v mix ns (.node (some MO) .nil .nil) .nil (.node (some (.lst cl)) .nil .nil)
variable (cl : List Val) (W : Str)
abbrev sB (W : Str) (y0 : Val) (y7 : Sl) : Slots := sT W (.v y0) (.v (.loc 1)) (.v (.str s_71)) (.v (.str s_72)) (.v (.str s_73)) .no y7 .no .no .no .no .no .no .no .no .no
theorem st7_ok : st7 (sB W y0 .no) (h3 k v mix ns cl) = .nx (sB W y0 (.v (.loc 3))) (h4 k v mix ns cl) := by kernel_rfl
theorem exC_ok : exC (sB W y0 (.v (.loc 3))) (h4 k v mix ns cl) = .ok (.loc 5) (h6 k v mix ns cl) := by kernel_rfl
theorem sp_ix (d : Nat) (h : d < 21) (m : MH) : ∃ x, SP[d]? = some x ∧ oIx (.loc 5) (.int (d : Int)) (h6 k v mix ns cl) = .ok (.str x) (h6 k v mix ns cl) := by
  have hl : d < SP.length := h
  refine ⟨SP[d], List.getElem?_eq_getElem hl, ?_⟩
  show (match atI (SP.map Val.str) (d : Int) with | some v' => RE.ok v' (h6 k v mix ns cl) | none => .fail) = _
  have : atI (SP.map Val.str) (d : Int) = some (.str SP[d]) := by
    unfold atI ixN
    rw [if_pos (by omega), if_pos (by show (d : Int) < ((21 : Nat) : Int); omega)]
    show (SP.map Val.str)[((d : Int)).toNat]? = _
    rw [Int.toNat_natCast, List.getElem?_map, List.getElem?_eq_getElem hl]; rfl
  rw [this]
def P3b : S := sSeq st7 (sSet 5 (eBin oIx exC (eDraw (T29 34) 21)))
theorem p3b_ok (hk : 0 ≤ k) : ∃ (x : Str) (k' v' : Int), x ∈ SP ∧ P3b (sB W y0 .no) (h3 k v mix ns cl) = .nx (sB x y0 (.v (.loc 3))) (h6 k' v' mix ns cl) := by
  obtain ⟨d, k1, v1, h1, h2, hk1, e⟩ := eDraw_ok (n := 6) (k := k) (v := v) (mix := mix) (ns := ns) (ll := .node (some MO) .nil .nil) (lr := .node (some AL) .nil .nil) (r := .node (some (.lst cl)) (.node (some WLs) .nil .nil) .nil) (sl := sB W y0 (.v (.loc 3))) dr rfl hk (many := 21) (by decide) (by decide)
  obtain ⟨d', rfl⟩ := Int.eq_ofNat_of_zero_le h1
  obtain ⟨x, hx, ex⟩ := sp_ix k1 v1 mix ns cl d' (by omega) ⟨0, .nil⟩
  refine ⟨x, k1, v1, List.mem_of_getElem? hx, ?_⟩
  unfold P3b
  rw [sSeq_ok (st7_ok k v mix ns y0 cl W)]
  exact sSetM (ev_bin (exC_ok k v mix ns y0 cl W) e ex)
theorem p3_ok (hk : 0 ≤ k) (rest : S) : ∃ (x : Str) (k' v' : Int), 0 = 0 ∧ (sSeq (P3 T29 U29) rest (sB W y0 .no) (h3 k v mix ns cl) = rest (sB W y0 .no) (h3 k' v' mix ns cl) ∨
    (x ∈ SP ∧ sSeq (P3 T29 U29) rest (sB W y0 .no) (h3 k v mix ns cl) = rest (sB x y0 (.v (.loc 3))) (h6 k' v' mix ns cl))) := by
  obtain ⟨d, k1, v1, h1, h2, hk1, e⟩ := eDraw_ok (n := 3) (k := k) (v := v) (mix := mix) (ns := ns) (ll := .nil) (lr := .nil) (r := .node (some (.lst cl)) .nil .nil) (sl := sB W y0 .no) dr rfl hk (many := 4) (by decide) (by decide)
  have t : tBl (eBin oEq (eDraw (T29 34) 4) (eC (.int 0))) (sB W y0 .no) (h3 k v mix ns cl) = .ok (decide (d = 0)) (h3 k1 v1 mix ns cl) := ev_bl (ev_bin e (y := .int 0) rfl rfl)
  cases ed : decide (d = 0) with
  | false =>
    rw [ed] at t
    exact ⟨W, k1, v1, rfl, .inl (sSkip t)⟩
  | true =>
    rw [ed] at t
    obtain ⟨x, k2, v2, hx, e2⟩ := p3b_ok k1 v1 mix ns y0 cl W hk1
    refine ⟨x, k2, v2, rfl, .inr ⟨hx, ?_⟩⟩
    have : P3 T29 U29 (sB W y0 .no) (h3 k v mix ns cl) = .nx (sB x y0 (.v (.loc 3))) (h6 k2 v2 mix ns cl) := (sIf1 t).trans e2
    exact sSeq_ok this
theorem sp_0 : okS (TAIL T29 U29 (sB (SP.getD 0 s_0) y0 (.v (.loc 3))) (h6 k v mix ns cl)) = true := by kernel_rfl
theorem sp_1 : okS (TAIL T29 U29 (sB (SP.getD 1 s_0) y0 (.v (.loc 3))) (h6 k v mix ns cl)) = true := by kernel_rfl
theorem sp_2 : okS (TAIL T29 U29 (sB (SP.getD 2 s_0) y0 (.v (.loc 3))) (h6 k v mix ns cl)) = true := by kernel_rfl
theorem sp_3 : okS (TAIL T29 U29 (sB (SP.getD 3 s_0) y0 (.v (.loc 3))) (h6 k v mix ns cl)) = true := by kernel_rfl
theorem sp_4 : okS (TAIL T29 U29 (sB (SP.getD 4 s_0) y0 (.v (.loc 3))) (h6 k v mix ns cl)) = true := by kernel_rfl
theorem sp_5 : okS (TAIL T29 U29 (sB (SP.getD 5 s_0) y0 (.v (.loc 3))) (h6 k v mix ns cl)) = true := by kernel_rfl
theorem sp_6 : okS (TAIL T29 U29 (sB (SP.getD 6 s_0) y0 (.v (.loc 3))) (h6 k v mix ns cl)) = true := by kernel_rfl
theorem sp_7 : okS (TAIL T29 U29 (sB (SP.getD 7 s_0) y0 (.v (.loc 3))) (h6 k v mix ns cl)) = true := by kernel_rfl
theorem sp_8 : okS (TAIL T29 U29 (sB (SP.getD 8 s_0) y0 (.v (.loc 3))) (h6 k v mix ns cl)) = true := by kernel_rfl
theorem sp_9 : okS (TAIL T29 U29 (sB (SP.getD 9 s_0) y0 (.v (.loc 3))) (h6 k v mix ns cl)) = true := by kernel_rfl
theorem sp_10 : okS (TAIL T29 U29 (sB (SP.getD 10 s_0) y0 (.v (.loc 3))) (h6 k v mix ns cl)) = true := by kernel_rfl
theorem sp_11 : okS (TAIL T29 U29 (sB (SP.getD 11 s_0) y0 (.v (.loc 3))) (h6 k v mix ns cl)) = true := by kernel_rfl
theorem sp_12 : okS (TAIL T29 U29 (sB (SP.getD 12 s_0) y0 (.v (.loc 3))) (h6 k v mix ns cl)) = true := by kernel_rfl
theorem sp_13 : okS (TAIL T29 U29 (sB (SP.getD 13 s_0) y0 (.v (.loc 3))) (h6 k v mix ns cl)) = true := by kernel_rfl
theorem sp_14 : okS (TAIL T29 U29 (sB (SP.getD 14 s_0) y0 (.v (.loc 3))) (h6 k v mix ns cl)) = true := by kernel_rfl
theorem sp_15 : okS (TAIL T29 U29 (sB (SP.getD 15 s_0) y0 (.v (.loc 3))) (h6 k v mix ns cl)) = true := by kernel_rfl
theorem sp_16 : okS (TAIL T29 U29 (sB (SP.getD 16 s_0) y0 (.v (.loc 3))) (h6 k v mix ns cl)) = true := by kernel_rfl
theorem sp_17 : okS (TAIL T29 U29 (sB (SP.getD 17 s_0) y0 (.v (.loc 3))) (h6 k v mix ns cl)) = true := by kernel_rfl
theorem sp_18 : okS (TAIL T29 U29 (sB (SP.getD 18 s_0) y0 (.v (.loc 3))) (h6 k v mix ns cl)) = true := by kernel_rfl
theorem sp_19 : okS (TAIL T29 U29 (sB (SP.getD 19 s_0) y0 (.v (.loc 3))) (h6 k v mix ns cl)) = true := by kernel_rfl
theorem sp_20 : okS (TAIL T29 U29 (sB (SP.getD 20 s_0) y0 (.v (.loc 3))) (h6 k v mix ns cl)) = true := by kernel_rfl
theorem sh_0 : okS (TAIL T29 U29 (sB ⟨#[]⟩ y0 .no) (h3 k v mix ns cl)) = true := by kernel_rfl
theorem sh_1 : okS (TAIL T29 U29 (sB ⟨#[45]⟩ y0 .no) (h3 k v mix ns cl)) = true := by kernel_rfl
theorem sh_2 : okS (TAIL T29 U29 (sB ⟨#[46]⟩ y0 .no) (h3 k v mix ns cl)) = true := by kernel_rfl
theorem sh_3 : okS (TAIL T29 U29 (sB ⟨#[49]⟩ y0 .no) (h3 k v mix ns cl)) = true := by kernel_rfl
theorem sp_all {x : Str} (h : x ∈ SP) : okS (TAIL T29 U29 (sB x y0 (.v (.loc 3))) (h6 k v mix ns cl)) = true := by
  obtain ⟨i, hi, e⟩ := List.mem_iff_getElem.mp h
  have e2 : SP.getD i s_0 = x := by rw [List.getD_eq_getElem?_getD, List.getElem?_eq_getElem hi, e]; rfl
  have hi2 : i < 21 := hi
  clear e hi
  rw [← e2]
  clear e2
  match i, hi2 with
  | 0, _ => exact sp_0 k v mix ns y0 cl
  | 1, _ => exact sp_1 k v mix ns y0 cl
  | 2, _ => exact sp_2 k v mix ns y0 cl
  | 3, _ => exact sp_3 k v mix ns y0 cl
  | 4, _ => exact sp_4 k v mix ns y0 cl
  | 5, _ => exact sp_5 k v mix ns y0 cl
  | 6, _ => exact sp_6 k v mix ns y0 cl
  | 7, _ => exact sp_7 k v mix ns y0 cl
  | 8, _ => exact sp_8 k v mix ns y0 cl
  | 9, _ => exact sp_9 k v mix ns y0 cl
  | 10, _ => exact sp_10 k v mix ns y0 cl
  | 11, _ => exact sp_11 k v mix ns y0 cl
  | 12, _ => exact sp_12 k v mix ns y0 cl
  | 13, _ => exact sp_13 k v mix ns y0 cl
  | 14, _ => exact sp_14 k v mix ns y0 cl
  | 15, _ => exact sp_15 k v mix ns y0 cl
  | 16, _ => exact sp_16 k v mix ns y0 cl
  | 17, _ => exact sp_17 k v mix ns y0 cl
  | 18, _ => exact sp_18 k v mix ns y0 cl
  | 19, _ => exact sp_19 k v mix ns y0 cl
  | 20, _ => exact sp_20 k v mix ns y0 cl
  | n + 21, h => exact absurd h (by omega)
theorem ck_alph : ∀ s ∈ CK, (∀ c ∈ s.cps.toList, c ∈ ALPH) → s.cps.toList = [45] ∨ s.cps.toList = [46] ∨ s.cps.toList = [49] := by decide +kernel
theorem alph_lo : ∀ c ∈ ALPH, c ≠ 32 ∧ c < 1114112 := by decide +kernel
theorem word_ok {cs : List Nat} (h : ∀ c ∈ cs, c ∈ ALPH) (hl : cs.length ≤ 13) : cs = [] ∨ cs = [45] ∨ cs = [46] ∨ cs = [49] ∨ (∃ c r, Wd (Mi.strOf cs) c r ∧ OkW (Mi.strOf cs) ∧ PyData.canLay0 (.str (Mi.strOf cs)) = true) := by
  have ht : (Mi.strOf cs).cps.toList = cs := rfl
  cases cs with
  | nil => exact .inl rfl
  | cons c r =>
    by_cases e1 : c :: r = [45]
    · exact .inr (.inl e1)
    by_cases e2 : c :: r = [46]
    · exact .inr (.inr (.inl e2))
    by_cases e3 : c :: r = [49]
    · exact .inr (.inr (.inr (.inl e3)))
    refine .inr (.inr (.inr (.inr ⟨c, r, ⟨ht, by have : r.length + 1 ≤ 13 := hl; omega⟩, ⟨fun s hs e => ?_, ?_, ?_, ?_⟩, ?_⟩)))
    · have := ck_alph s hs (by rw [e, ht]; exact h)
      rw [e, ht] at this
      rcases this with z | z | z
      · exact e1 z
      · exact e2 z
      · exact e3 z
    · cases es : sp (Mi.strOf (c :: r)) with
      | false => rfl
      | true =>
        obtain ⟨x, hx, ex⟩ := List.any_eq_true.mp es
        exact absurd (Nat.eq_of_beq_eq_true ex).symm (alph_lo x (h x hx)).1
    · exact beqS_n fun e => by have := congrArg (fun s : Str => s.cps.toList) e; cases this
    · rw [ht]; omega
    · refine sk _ (List.all_eq_true.mpr fun x hx => ?_)
      exact decide_eq_true (alph_lo x (h x hx)).2
end
theorem law_all : ∀ ns : List Int, ns.length ≤ 63 → ∃ m, lawM ns = .ok (.bl true) m := fun ns h => by
  obtain ⟨mix, et⟩ := tape_ok (ns := ns) h
  have e0 : lawM ns = endF (b38 T29 U29 [.v (.klst (ns.map .int)), .no, .no, .no, .no, .no, .no, .no, .no, .no, .no, .no, .no, .no, .no, .no, .no] ⟨0, .nil⟩) := by kernel_rfl
  rw [e0, b38_eq]
  have f0 : P0 T29 U29 [.v (.klst (ns.map .int)), .no, .no, .no, .no, .no, .no, .no, .no, .no, .no, .no, .no, .no, .no, .no, .no] ⟨0, .nil⟩ = .nx [.v (.klst (ns.map .int)), .v (.loc 1), .no, .no, .no, .no, .no, .no, .no, .no, .no, .no, .no, .no, .no, .no, .no] (mT 2 0 0 mix ns .nil .nil .nil) := by
    have q : eCall 1 (T29 35) [] (aCons (eVar 0) aNil) [.v (.klst (ns.map .int)), .no, .no, .no, .no, .no, .no, .no, .no, .no, .no, .no, .no, .no, .no, .no, .no] ⟨0, .nil⟩ = .ok (.loc 1) (mT 2 0 0 mix ns .nil .nil .nil) := (show T29 35 [.klst (ns.map .int)] ⟨0, .nil⟩ = _ from (tp _ _).trans et)
    exact sSetM q
  have f1 : P1 T29 U29 [.v (.klst (ns.map .int)), .v (.loc 1), .no, .no, .no, .no, .no, .no, .no, .no, .no, .no, .no, .no, .no, .no, .no] (mT 2 0 0 mix ns .nil .nil .nil) = .nx (sA (.klst (ns.map .int)) .no) (mT 2 0 0 mix ns .nil .nil .nil) := by kernel_rfl
  obtain ⟨cs, k, v, hc, hl, hk, f2⟩ := p2_ok 0 0 mix ns (.klst (ns.map .int)) (Int.le_refl 0)
  obtain ⟨x, k', v', _, f3⟩ := p3_ok k v mix ns (.klst (ns.map .int)) (cs.map ch) (Mi.strOf cs) hk (TAIL T29 U29)
  rw [sSeq_ok f0, sSeq_ok f1, sSeq_ok f2]
  rcases f3 with f3 | ⟨hx, f3⟩
  · show ∃ m, endF (sSeq (P3 T29 U29) (TAIL T29 U29) (sB (Mi.strOf cs) (.klst (ns.map .int)) .no) (h3 k v mix ns (cs.map ch))) = _
    rw [f3]
    rcases word_ok hc hl with e | e | e | e | ⟨c, r, hw, ok, hs⟩
    · rw [e]; exact okS_ok (sh_0 k' v' mix ns (.klst (ns.map .int)) _)
    · rw [e]; exact okS_ok (sh_1 k' v' mix ns (.klst (ns.map .int)) _)
    · rw [e]; exact okS_ok (sh_2 k' v' mix ns (.klst (ns.map .int)) _)
    · rw [e]; exact okS_ok (sh_3 k' v' mix ns (.klst (ns.map .int)) _)
    · obtain ⟨m', e⟩ := tail_ok hw ok hs (m := h3 k' v' mix ns (cs.map ch)) (y0 := .v (.klst (ns.map .int))) (y1 := .v (.loc 1)) (y2 := .v (.str s_71)) (y3 := .v (.str s_72)) (y4 := .v (.str s_73)) (y6 := .no) (y7 := .no) (y8 := .no) (y9 := .no) (y10 := .no) (y11 := .no) (y12 := .no) (y13 := .no) (y14 := .no) (y15 := .no) (y16 := .no) (by show 3 ≤ 890; decide)
      exact ⟨m', by rw [e]; rfl⟩
  · show ∃ m, endF (sSeq (P3 T29 U29) (TAIL T29 U29) (sB (Mi.strOf cs) (.klst (ns.map .int)) .no) (h3 k v mix ns (cs.map ch))) = _
    rw [f3]
    exact okS_ok (sp_all k' v' mix ns (.klst (ns.map .int)) _ hx)
end Hd

set_option Elab.async false
set_option linter.all false
set_option autoImplicit false
set_option maxRecDepth 100000
set_option maxHeartbeats 0
namespace Hd
open PySem PySem.Spec PyProof.Rows L2 Mi


end Hd
open PyProof.Rows PySem PySem.W PySem.Calls
theorem PySem.Challenge.cw_openrows_k00_words_and_names_holds : PySem.Challenge.rw_openrows_k00_words_and_names.Holds := by
  w_on; o_law
  refine HandSHeadRun.head_any (r := OpenLaw.row PySem.Challenge.rw_openrows_k00_words_and_names) (q := view (OpenLaw.row PySem.Challenge.rw_openrows_k00_words_and_names).prog [30]) (H := Hd.hk) (ob := Hd.ob) (M := 20000) (loose := Hd.names) (d := HandSHeadRun.topDef (OpenLaw.row PySem.Challenge.rw_openrows_k00_words_and_names).prog 30) (kwd := []) Hd.ob_eq
    (by kernel_rfl) (fun s => by kernel_rfl) Hd.run (by kernel_rfl) (by kernel_rfl) (by kernel_rfl) (by rfl) (by first | assumption | decide +kernel) (by decide +kernel) ⟨rfl, rfl, rfl, rfl, rfl, by decide +kernel⟩ ?hw ?hc
  case hw => w_witness2
  case hc =>
    refine L2.walk_ofE (l := PySem.Challenge.rw_openrows_k00_words_and_names) (n := 63) (k := 32) (x := "script") (CX := L2.CX0) rfl (by decide) (by kernel_rfl) ⟨rfl, by decide, by decide⟩ ?F (fun _ _ _ _ z => z)
    case F =>
      intro w mg fa h Y G hmg0
      obtain ⟨K, KX, c⟩ := Y
      have hmg : mg ("law" : PySem.Str) = some (.ref fa) := by
        have e : (HandSHeadRun.topDef (OpenLaw.row PySem.Challenge.rw_openrows_k00_words_and_names).prog 30).name = ("law" : PySem.Str) := by kernel_rfl
        rw [← e]
        exact hmg0
      obtain ⟨fd, hb, hF⟩ := Hd.facts (P := (PySem.Challenge.rw_openrows_k00_words_and_names).prog) (w := w) KX G hmg c
      exact ⟨K, fd, fun vs H Q _ => Mi.spM Hd.cn K 1 (fun as m => (Mi.Lv Hd.bodies 30).1 38 as m) vs H Q fun _ _ _ => False, KX, hb, fun H a ns hl hO hS => Hd.law_sp Hd.law_all H a ns hl hO hS, fun base KB GB => Mi.FnOk.no (hF base KB GB)⟩

