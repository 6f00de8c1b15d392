import PyProof.Rows.All
import Wide.All
import OpenK.AllK
import Wide.FinOn
import HandS.ForMost
import HandS.Exc
import HandS.TryOnly
import HandS.ExcOwn
import HandS.ExcCtx
import HandS.Flow
import HandS.TupAny
import HandS.Deep
import KE.DataAny
import HandS.TupLen
import HandS.IsInst
import HandS.Text
import HandS.More
import HandS.Conv
import KE.SortData
import HandS.StrSplit
import HandS.FStr
import KE.IntTextLaws
import HandS.Walk
import PyProof.EnumMake
import PyProof.Draws
import PyProof.WalksMore
import HandS.Zip0
import HandS.Iter
import HandS.SetKeys
import PyProof.AssignAttr
import HandS.Set
import KE.KDictSum
import HandS.DictTup
import PyProof.DictMoreH
import HandS.SetFor
import HandS.TupSets
import KE.KeyNested
import KE.KStateDown
import HandS.Words
import HandS.WordsExc
import HandS.Defaults
import HandS.Head0
import HandS.Head1
import HandS.Head2
import HandS.HeadEnd
import HandS.HeadHook1
import HandS.HeadHook2
import HandS.Dict
import PyProof.TupleOfSeq
import KE.KSuper
import KE.KExcSuper
import KE.KExcMake
import HandS.ExcInit
import HandS.HotCalls
import HandS.ExcInitHot
import HandS.ExcField
import KE.KTryMore
import HandS.Base
import HandS.Call
import HandS.TryMany
import HandS.Hot
import HandS.SuiteRaise
import HandS.NoneIn
import Lean
import PySem.Challenge.RW_allfaces_k25_journals_read
set_option Elab.async false
set_option linter.all false
set_option maxRecDepth 100000
/-! Ex1: executable readings: concrete values, concrete heaps, how they lie in the layer's heap. -/
namespace Ex
open PySem PySem.Spec PyProof.Rows L2

/-- a concrete value: tuples are trees, what may change stands at a number of the concrete heap -/
inductive CV where
  | non | bl (b : Bool) | int (i : Int) | str (l : List Nat) | tup (xs : List CV) | ref (n : Nat)

/-- what stands at a number -/
inductive CO where
  | lst (xs : List CV)
  | dK (kvs : List (CV × CV))
  | dT (kvs : List (CV × CV))
  | ins (c : Nat) (fs : List (Nat × CV))

structure CH where
  nx : Nat
  os : List (Nat × CO)

def lkN {α : Type} : List (Nat × α) → Nat → Option α
  | [], _ => none
  | (k, o) :: r, n => match Nat.beq k n with
    | true => some o
    | false => lkN r n
def CH.get (C : CH) (n : Nat) : Option CO := lkN C.os n
def CH.add (C : CH) (o : CO) : CH := ⟨C.nx + 1, (C.nx, o) :: C.os⟩
def stN {α : Type} : List (Nat × α) → Nat → α → List (Nat × α)
  | [], _, _ => []
  | (k, o) :: r, n, x => match Nat.beq k n with
    | true => (k, x) :: r
    | false => (k, o) :: stN r n x
def CH.set (C : CH) (n : Nat) (o : CO) : CH := ⟨C.nx, stN C.os n o⟩
/-- what is younger than m is let go -/
def dropN {α : Type} : List (Nat × α) → Nat → List (Nat × α)
  | [], _ => []
  | (k, o) :: r, m => match Nat.ble m k with
    | true => dropN r m
    | false => (k, o) :: r
def CH.pop (C : CH) (m : Nat) : CH := ⟨C.nx, dropN C.os m⟩

theorem beq_t {k n : Nat} (h : Nat.beq k n = true) : k = n := Nat.eq_of_beq_eq_true h
theorem beq_f {k n : Nat} (h : Nat.beq k n = false) : k ≠ n := Nat.ne_of_beq_eq_false h
theorem beq_r (k : Nat) : Nat.beq k k = true := Nat.beq_refl k
theorem beq_n {k n : Nat} (h : k ≠ n) : Nat.beq k n = false := by
  cases e : Nat.beq k n with
  | true => exact absurd (beq_t e) h
  | false => rfl

section
variable {α : Type}
theorem lk_mem : ∀ {l : List (Nat × α)} {n : Nat} {o : α}, lkN l n = some o → (n, o) ∈ l
  | [], _, _, h => by cases h
  | (k, x) :: r, n, o, h => by
    unfold lkN at h
    cases e : Nat.beq k n with
    | true =>
      rw [e] at h
      cases h
      rw [beq_t e]
      exact List.mem_cons_self
    | false =>
      rw [e] at h
      exact List.mem_cons_of_mem _ (lk_mem h)
theorem lk_cons_self (r : List (Nat × α)) (n : Nat) (o : α) : lkN ((n, o) :: r) n = some o := by
  unfold lkN
  rw [beq_r]
theorem lk_cons_ne (r : List (Nat × α)) {n m : Nat} (o : α) (h : n ≠ m) : lkN ((n, o) :: r) m = lkN r m := by
  conv => lhs; unfold lkN
  rw [beq_n h]
theorem lk_st_self : ∀ {l : List (Nat × α)} {n : Nat} {x : α}, (∃ o, lkN l n = some o) → lkN (stN l n x) n = some x
  | [], _, _, ⟨_, h⟩ => by cases h
  | (k, o) :: r, n, x, h => by
    unfold stN
    cases e : Nat.beq k n with
    | true =>
      show lkN ((k, x) :: r) n = some x
      unfold lkN
      rw [e]
    | false =>
      obtain ⟨o', h⟩ := h
      unfold lkN at h
      rw [e] at h
      show lkN ((k, o) :: stN r n x) n = some x
      unfold lkN
      rw [e]
      exact lk_st_self ⟨o', h⟩
theorem lk_st_ne : ∀ {l : List (Nat × α)} {n m : Nat} {x : α}, n ≠ m → lkN (stN l n x) m = lkN l m
  | [], _, _, _, _ => rfl
  | (k, o) :: r, n, m, x, h => by
    unfold stN
    cases e : Nat.beq k n with
    | true =>
      have : k ≠ m := fun z => h ((beq_t e).symm.trans z)
      show lkN ((k, x) :: r) m = lkN ((k, o) :: r) m
      rw [lk_cons_ne _ _ this, lk_cons_ne _ _ this]
    | false =>
      show lkN ((k, o) :: stN r n x) m = lkN ((k, o) :: r) m
      by_cases z : k = m
      · subst z
        rw [lk_cons_self, lk_cons_self]
      · rw [lk_cons_ne _ _ z, lk_cons_ne _ _ z]
        exact lk_st_ne h
theorem st_keys : ∀ (l : List (Nat × α)) (n : Nat) (x : α), (stN l n x).map (·.1) = l.map (·.1)
  | [], _, _ => rfl
  | (k, o) :: r, n, x => by
    unfold stN
    cases Nat.beq k n with
    | true => rfl
    | false =>
      show k :: (stN r n x).map (·.1) = k :: r.map (·.1)
      rw [st_keys r n x]
theorem drop_lk : ∀ {l : List (Nat × α)} {m n : Nat} {o : α}, (l.map (·.1)).Pairwise (fun a b => b < a) → lkN (dropN l m) n = some o → lkN l n = some o
  | [], _, _, _, _, h => by cases h
  | (k, x) :: r, m, n, o, d, h => by
    rw [List.map_cons, List.pairwise_cons] at d
    unfold dropN at h
    cases e : Nat.ble m k with
    | true =>
      rw [e] at h
      have q := drop_lk d.2 h
      have lt : n < k := d.1 n (List.mem_map.mpr ⟨(n, o), lk_mem q, rfl⟩)
      rw [lk_cons_ne _ _ (Nat.ne_of_gt lt)]
      exact q
    | false =>
      rw [e] at h
      exact h
theorem drop_pw : ∀ {l : List (Nat × α)} {m : Nat}, (l.map (·.1)).Pairwise (fun a b => b < a) → ((dropN l m).map (·.1)).Pairwise (fun a b => b < a)
  | [], _, d => d
  | (k, x) :: r, m, d => by
    unfold dropN
    cases Nat.ble m k with
    | true =>
      rw [List.map_cons, List.pairwise_cons] at d
      exact drop_pw d.2
    | false => exact d
end

/-! ### how it lies in the layer's heap -/
/-- the row's classes and attributes, by number -/
structure Tab where
  cls : Nat → Addr
  nms : List Str
  nd : nms.Nodup
abbrev Mu := Nat → Addr

abbrev TupAt (_ : PySem.W.Frag) (H : Hp) (a : Addr) (vs : List V) : Prop := H a = some (.tup vs)
variable (T : Tab) (K : PySem.W.Frag)
mutual
/-- the value v is x -/
inductive RV (μ : Mu) (nx : Nat) (H : Hp) : CV → V → Prop
  | non : RV μ nx H .non .non
  | bl (b : Bool) : RV μ nx H (.bl b) (.bl b)
  | int (i : Int) : RV μ nx H (.int i) (.int i)
  | str (l : List Nat) : RV μ nx H (.str l) (.str ⟨l.toArray⟩)
  | tup {a : Addr} {xs : List CV} {vs : List V} : TupAt K H a vs → RVs μ nx H xs vs → RV μ nx H (.tup xs) (.ref a)
  | ref {n : Nat} : n < nx → RV μ nx H (.ref n) (.ref (μ n))
inductive RVs (μ : Mu) (nx : Nat) (H : Hp) : List CV → List V → Prop
  | nil : RVs μ nx H [] []
  | cons {v : CV} {x : V} {vs : List CV} {xs : List V} : RV μ nx H v x → RVs μ nx H vs xs → RVs μ nx H (v :: vs) (x :: xs)
end

/-- a key that is an int or a text -/
def keyRel (c : CV) (k : Key) : Prop := match c, k with
  | .int i, .inl j => i = j
  | .str l, .inr z => z = ⟨l.toArray⟩
  | _, _ => False
def keysRel : List CV → List Key → Prop
  | [], [] => True
  | c :: cs, k :: ks => keyRel c k ∧ keysRel cs ks
  | _, _ => False
def tkeyRel (c : CV) (k : List Key) : Prop := match c with
  | .tup cs => keysRel cs k
  | _ => False

/-- the object o lies at a -/
def OR (μ : Mu) (nx : Nat) (H : Hp) (a : Addr) : CO → Prop
  | .lst xs => ∃ vs, H a = some (.lst vs) ∧ RVs K μ nx H xs vs
  | .dK kvs => ∃ kws : List (Key × V), H a = some (.dK kws) ∧ Paired (fun (p : CV × CV) (q : Key × V) => keyRel p.1 q.1 ∧ RV K μ nx H p.2 q.2) kvs kws
  | .dT kvs => ∃ kws : List (List Key × V), H a = some (.dT kws) ∧ Paired (fun (p : CV × CV) (q : List Key × V) => tkeyRel p.1 q.1 ∧ RV K μ nx H p.2 q.2) kvs kws
  | .ins c fs => ∃ (dx : Addr) (gs : List (Str × V)), H a = some (.ins (T.cls c) dx gs) ∧ Paired (fun (p : Nat × CV) (q : Str × V) => T.nms[p.1]? = some q.1 ∧ RV K μ nx H p.2 q.2) fs gs

/-- the concrete heap lies in H -/
structure Rel (μ : Mu) (C : CH) (H : Hp) : Prop where
  obj : ∀ n o, C.get n = some o → OR T K μ C.nx H (μ n) o
  inj : ∀ n m o u, C.get n = some o → C.get m = some u → μ n = μ m → n = m
  lt : ∀ n o, C.get n = some o → n < C.nx
  dec : (C.os.map (·.1)).Pairwise (fun a b => b < a)
  low : ∀ n ∈ C.os.map (·.1), n < C.nx

/-- a place that the concrete heap owns -/
def Own (μ : Mu) (C : CH) (a : Addr) : Prop := ∃ n o, C.get n = some o ∧ μ n = a
/-- from one state to a later one -/
structure Step (μ : Mu) (C : CH) (H : Hp) (μ' : Mu) (C' : CH) (H' : Hp) : Prop where
  nx : C.nx ≤ C'.nx
  ag : ∀ n, n < C.nx → μ' n = μ n
  keep : ∀ a o, H a = some o → ¬ Own μ C a → H' a = some o
  there : ∀ a o, H a = some o → ∃ o', H' a = some o'
  fresh : ∀ n o, C'.get n = some o → (n < C.nx ∧ ∃ o', C.get n = some o') ∨ H (μ' n) = none
  sq : ∀ a vs, TupAt K H a vs → TupAt K H' a vs

variable {T K}
theorem Step.refl {μ : Mu} {C : CH} {H : Hp} (lt : ∀ n o, C.get n = some o → n < C.nx) : Step K μ C H μ C H :=
  ⟨Nat.le_refl _, fun _ _ => rfl, fun _ _ h _ => h, fun _ o h => ⟨o, h⟩, fun n o h => .inl ⟨lt n o h, o, h⟩, fun _ _ h => h⟩
theorem Step.trans {μ μ1 μ2 : Mu} {C C1 C2 : CH} {H H1 H2 : Hp} (a : Step K μ C H μ1 C1 H1) (b : Step K μ1 C1 H1 μ2 C2 H2) : Step K μ C H μ2 C2 H2 where
  nx := Nat.le_trans a.nx b.nx
  ag := fun n h => (b.ag n (Nat.lt_of_lt_of_le h a.nx)).trans (a.ag n h)
  keep := fun x o h no => b.keep x o (a.keep x o h no) fun ⟨n, u, e, q⟩ => by
    rcases a.fresh n u e with ⟨lt, o', e'⟩ | z
    · exact no ⟨n, o', e', (a.ag n lt).symm.trans q⟩
    · rw [q, h] at z
      cases z
  there := fun x o h => let ⟨o1, h1⟩ := a.there x o h; b.there x o1 h1
  fresh := fun n o h => by
    rcases b.fresh n o h with ⟨lt, o', e'⟩ | z
    · rcases a.fresh n o' e' with q | q
      · exact .inl q
      · refine .inr ?_
        rw [b.ag n lt]
        exact q
    · refine .inr ?_
      cases q : H (μ2 n) with
      | none => rfl
      | some u =>
        obtain ⟨o1, h1⟩ := a.there _ u q
        rw [z] at h1
        cases h1
  sq := fun x vs h => b.sq x vs (a.sq x vs h)

mutual
theorem RV.mono {μ μ' : Mu} {nx nx' : Nat} {H H' : Hp} (le : nx ≤ nx') (ag : ∀ n, n < nx → μ' n = μ n) (sq : ∀ a vs, TupAt K H a vs → TupAt K H' a vs) : ∀ {v : CV} {x : V}, RV K μ nx H v x → RV K μ' nx' H' v x
  | _, _, .non => .non
  | _, _, .bl b => .bl b
  | _, _, .int i => .int i
  | _, _, .str l => .str l
  | _, _, .tup h r => .tup (sq _ _ h) (RVs.mono le ag sq r)
  | _, _, .ref h => by
    rw [← ag _ h]
    exact .ref (Nat.lt_of_lt_of_le h le)
theorem RVs.mono {μ μ' : Mu} {nx nx' : Nat} {H H' : Hp} (le : nx ≤ nx') (ag : ∀ n, n < nx → μ' n = μ n) (sq : ∀ a vs, TupAt K H a vs → TupAt K H' a vs) : ∀ {v : List CV} {x : List V}, RVs K μ nx H v x → RVs K μ' nx' H' v x
  | _, _, .nil => .nil
  | _, _, .cons h r => .cons (RV.mono le ag sq h) (RVs.mono le ag sq r)
end
theorem RV.step {μ μ' : Mu} {C C' : CH} {H H' : Hp} (st : Step K μ C H μ' C' H') {v : CV} {x : V} (r : RV K μ C.nx H v x) : RV K μ' C'.nx H' v x := r.mono st.nx st.ag st.sq
theorem RVs.step {μ μ' : Mu} {C C' : CH} {H H' : Hp} (st : Step K μ C H μ' C' H') {v : List CV} {x : List V} (r : RVs K μ C.nx H v x) : RVs K μ' C'.nx H' v x := r.mono st.nx st.ag st.sq
theorem RVs.length {μ : Mu} {nx : Nat} {H : Hp} : ∀ {vs : List CV} {xs : List V}, RVs K μ nx H vs xs → xs.length = vs.length
  | _, _, .nil => rfl
  | _, _, .cons _ r => by rw [List.length_cons, List.length_cons, RVs.length r]
theorem RVs.append {μ : Mu} {nx : Nat} {H : Hp} : ∀ {vs ws : List CV} {xs ys : List V}, RVs K μ nx H vs xs → RVs K μ nx H ws ys → RVs K μ nx H (vs ++ ws) (xs ++ ys)
  | _, _, _, _, .nil, s => s
  | _, _, _, _, .cons h r, s => .cons h (RVs.append r s)
theorem RVs.get {μ : Mu} {nx : Nat} {H : Hp} : ∀ {vs : List CV} {xs : List V} {i : Nat} {v : CV}, RVs K μ nx H vs xs → vs[i]? = some v → ∃ x, xs[i]? = some x ∧ RV K μ nx H v x
  | _, _, _, _, .nil, e => by simp at e
  | _, _, 0, _, .cons h _, e => by
    simp at e
    subst e
    exact ⟨_, rfl, h⟩
  | _, _, i + 1, _, .cons _ r, e => by
    obtain ⟨x, h1, h2⟩ := RVs.get (i := i) r (by simpa using e)
    exact ⟨x, by simpa using h1, h2⟩
theorem RVs.set {μ : Mu} {nx : Nat} {H : Hp} {v : CV} {x : V} (h : RV K μ nx H v x) : ∀ {vs : List CV} {xs : List V} (i : Nat), RVs K μ nx H vs xs → RVs K μ nx H (vs.set i v) (xs.set i x)
  | _, _, _, .nil => .nil
  | _, _, 0, .cons _ r => .cons h r
  | _, _, i + 1, .cons q r => .cons q (RVs.set h i r)
theorem RVs.take {μ : Mu} {nx : Nat} {H : Hp} : ∀ {vs : List CV} {xs : List V} (n : Nat), RVs K μ nx H vs xs → RVs K μ nx H (vs.take n) (xs.take n)
  | _, _, 0, _ => .nil
  | _, _, _ + 1, .nil => .nil
  | _, _, n + 1, .cons h r => .cons h (RVs.take n r)
theorem RVs.drop {μ : Mu} {nx : Nat} {H : Hp} : ∀ {vs : List CV} {xs : List V} (n : Nat), RVs K μ nx H vs xs → RVs K μ nx H (vs.drop n) (xs.drop n)
  | _, _, 0, r => r
  | _, _, _ + 1, .nil => .nil
  | _, _, n + 1, .cons _ r => RVs.drop n r

/-! ### the slots -/
abbrev CL := List (Option CV)
variable (K)
structure RL (μ : Mu) (nx : Nat) (H : Hp) (l : CL) (σ : L2.St) : Prop where
  len : σ.length = l.length
  at_ : ∀ (i : Nat) (v : CV), l[i]? = some (some v) → ∃ x, σ[i]? = some (some x) ∧ RV K μ nx H v x
variable {K}
theorem RL.mono {μ μ' : Mu} {nx nx' : Nat} {H H' : Hp} {l : CL} {σ : L2.St} (le : nx ≤ nx') (ag : ∀ n, n < nx → μ' n = μ n) (sq : ∀ a vs, TupAt K H a vs → TupAt K H' a vs) (r : RL K μ nx H l σ) : RL K μ' nx' H' l σ :=
  ⟨r.len, fun i v h => let ⟨x, e, q⟩ := r.at_ i v h; ⟨x, e, q.mono le ag sq⟩⟩
theorem RL.step {μ μ' : Mu} {C C' : CH} {H H' : Hp} {l : CL} {σ : L2.St} (st : Step K μ C H μ' C' H') (r : RL K μ C.nx H l σ) : RL K μ' C'.nx H' l σ := r.mono st.nx st.ag st.sq
theorem RL.set {μ : Mu} {nx : Nat} {H : Hp} {l : CL} {σ : L2.St} (r : RL K μ nx H l σ) (i : Nat) {v : CV} {x : V} (q : RV K μ nx H v x) : RL K μ nx H (l.set i (some v)) (σ.set i (some x)) := by
  refine ⟨by rw [List.length_set, List.length_set, r.len], fun j w h => ?_⟩
  rw [List.getElem?_set] at h
  by_cases e : i = j
  · subst e
    rw [if_pos rfl] at h
    by_cases lt : i < l.length
    · rw [if_pos lt] at h
      cases h
      exact ⟨x, by rw [List.getElem?_set_self (by rw [r.len]; exact lt)], q⟩
    · rw [if_neg lt] at h
      cases h
  · rw [if_neg e] at h
    obtain ⟨y, e1, q1⟩ := r.at_ j w h
    exact ⟨y, by rw [List.getElem?_set_ne e]; exact e1, q1⟩
theorem RL.wipe {μ : Mu} {nx : Nat} {H : Hp} {l : CL} {σ : L2.St} (r : RL K μ nx H l σ) (i : Nat) : RL K μ nx H (l.set i none) (σ.set i none) := by
  refine ⟨by rw [List.length_set, List.length_set, r.len], fun j w h => ?_⟩
  rw [List.getElem?_set] at h
  by_cases e : i = j
  · subst e
    rw [if_pos rfl] at h
    split at h <;> cases h
  · rw [if_neg e] at h
    obtain ⟨y, e1, q1⟩ := r.at_ j w h
    exact ⟨y, by rw [List.getElem?_set_ne e]; exact e1, q1⟩

/-! ### what comes of code -/
/-- of an expression: a value; an exception (its class, its fields); stuck -/
inductive RE where
  | ok (v : CV) (C : CH)
  | exc (k : Nat) (fs : List (Nat × CV)) (l : CL) (C : CH)
  | bad
inductive RS where
  | nx (l : CL) (C : CH)
  | ret (v : CV) (C : CH)
  | bk (l : CL) (C : CH)
  | ct (l : CL) (C : CH)
  | exc (k : Nat) (fs : List (Nat × CV)) (l : CL) (C : CH)
  | bad
abbrev EM := CL → CH → RE
abbrev SM := CL → CH → RS
abbrev FM := List CV → CH → RE

variable (T K)
/-- an exception as it lies: the class' number, its dict's entries -/
def XR (μ : Mu) (nx : Nat) (H : Hp) (k : Nat) (fs : List (Nat × CV)) (cls : Value) (d : Option Addr) : Prop :=
  cls = .ref (T.cls k) ∧ ∃ (dd : Addr) (gs : List (Str × V)), d = some dd ∧ H dd = some (.xd gs) ∧ ∀ i v, lkN fs i = some v → ∃ z x, T.nms[i]? = some z ∧ gs.lookup z = some x ∧ RV K μ nx H v x

def Sat (W : WX) (σ : L2.St) (μ : Mu) (C : CH) (H : Hp) (Q : VK) : RE → Prop
  | .ok v C' => ∀ μ' H' x, Step K μ C H μ' C' H' → Rel T K μ' C' H' → RV K μ' C'.nx H' v x → Q x H'
  | .exc k fs l' C' => ∀ μ' H' σ' cls d, Step K μ C H μ' C' H' → Rel T K μ' C' H' → RL K μ' C'.nx H' l' σ' → XR T K μ' C'.nx H' k fs cls d → W cls d σ' H'
  | .bad => False
def SatS (W : WX) (D : Ends) (μ : Mu) (C : CH) (H : Hp) : RS → Prop
  | .nx l C' => ∀ μ' H' σ', Step K μ C H μ' C' H' → Rel T K μ' C' H' → RL K μ' C'.nx H' l σ' → D.nx σ' H'
  | .ret v C' => ∀ μ' H' x, Step K μ C H μ' C' H' → Rel T K μ' C' H' → RV K μ' C'.nx H' v x → D.rt x H'
  | .bk l C' => ∀ μ' H' σ', Step K μ C H μ' C' H' → Rel T K μ' C' H' → RL K μ' C'.nx H' l σ' → D.bk σ' H'
  | .ct l C' => ∀ μ' H' σ', Step K μ C H μ' C' H' → Rel T K μ' C' H' → RL K μ' C'.nx H' l σ' → D.ct σ' H'
  | .exc k fs l' C' => ∀ μ' H' σ' cls d, Step K μ C H μ' C' H' → Rel T K μ' C' H' → RL K μ' C'.nx H' l' σ' → XR T K μ' C'.nx H' k fs cls d → W cls d σ' H'
  | .bad => False
variable {T K}
theorem Sat.shift {W : WX} {σ : L2.St} {μ μ1 : Mu} {C C1 : CH} {H H1 : Hp} {Q : VK} {r : RE} (st : Step K μ C H μ1 C1 H1) (h : Sat T K W σ μ C H Q r) : Sat T K W σ μ1 C1 H1 Q r := by
  cases r with
  | ok v C' => exact fun μ' H' x s => h μ' H' x (st.trans s)
  | exc k fs l' C' => exact fun μ' H' σ' cls d s => h μ' H' σ' cls d (st.trans s)
  | bad => exact h
theorem SatS.shift {W : WX} {D : Ends} {μ μ1 : Mu} {C C1 : CH} {H H1 : Hp} {r : RS} (st : Step K μ C H μ1 C1 H1) (h : SatS T K W D μ C H r) : SatS T K W D μ1 C1 H1 r := by
  cases r with
  | nx l C' => exact fun μ' H' σ' s => h μ' H' σ' (st.trans s)
  | ret v C' => exact fun μ' H' x s => h μ' H' x (st.trans s)
  | bk l C' => exact fun μ' H' σ' s => h μ' H' σ' (st.trans s)
  | ct l C' => exact fun μ' H' σ' s => h μ' H' σ' (st.trans s)
  | exc k fs l' C' => exact fun μ' H' σ' cls d s => h μ' H' σ' cls d (st.trans s)
  | bad => exact h
theorem Sat.imp {W : WX} {σ : L2.St} {μ : Mu} {C : CH} {H : Hp} {Q Q' : VK} {r : RE} (h : Sat T K W σ μ C H Q r) (q : ∀ x H, Q x H → Q' x H) : Sat T K W σ μ C H Q' r := by
  cases r with
  | ok v C' => exact fun μ' H' x s r v => q _ _ (h μ' H' x s r v)
  | exc k fs l' C' => exact h
  | bad => exact h

variable (T K)
/-- the reading of an expression's mirror -/
def tX (W : WX) (m : EM) : TE := fun σ H Q => ∃ μ l C, Rel T K μ C H ∧ RL K μ C.nx H l σ ∧ Sat T K W σ μ C H Q (m l C)
/-- of a statement's -/
def tS (W : WX) (m : SM) : TS := fun D σ H => ∃ μ l C, Rel T K μ C H ∧ RL K μ C.nx H l σ ∧ SatS T K W D μ C H (m l C)
/-- a def's promise by its mirror -/
def spM (n : Nat) (m : FM) : Sp := fun vs H Q E => ∃ μ C cs, Rel T K μ C H ∧ RVs K μ C.nx H cs vs ∧ vs.length = n ∧ Sat T K (fun cls d _ H => E cls d H) [] μ C H Q (m cs C)
variable {T K}
theorem PE.imp {X : Cx} {e : Expr} {t t' : TE} (h : PE X e t) (i : ∀ σ H Q, t' σ H Q → t σ H Q) : PE X e t' := ⟨fun pins s σ H Q I q => h.run pins s σ H Q I (i _ _ _ q)⟩
theorem PT.imp {X : Cx} {e : Expr} {t t' : TT} (h : PT X e t) (i : ∀ σ H Q, t' σ H Q → t σ H Q) : PT X e t' := ⟨fun pins s σ H Q I q => h.run pins s σ H Q I (i _ _ _ q)⟩
theorem PS.imp {X : Cx} {e : Stmt} {t t' : TS} (h : PS X e t) (i : ∀ D σ H, t' D σ H → t D σ H) : PS X e t' := ⟨fun pins s σ H D I q => h.run pins s σ H D I (i _ _ _ q)⟩
theorem PSs.imp {X : Cx} {e : List Stmt} {t t' : TS} (h : PSs X e t) (i : ∀ D σ H, t' D σ H → t D σ H) : PSs X e t' := ⟨fun pins s σ H D I q => h.run pins s σ H D I (i _ _ _ q)⟩
theorem PA.imp {X : Cx} {e : List Expr} {t t' : TA} (h : PA X e t) (i : ∀ σ H Q, t' σ H Q → t σ H Q) : PA X e t' := ⟨fun pos pins s σ H Q I q => h.run pos pins s σ H Q I (i _ _ _ q)⟩
end Ex

set_option Elab.async false
set_option linter.all false
set_option maxRecDepth 100000
/-! Ex2: the concrete heap's changes. -/
namespace Ex
open PySem PySem.Spec PyProof.Rows L2
variable {T : Tab} {K : PySem.W.Frag} {μ : Mu} {C : CH} {H H' : Hp} {n : Nat} {o o' : CO}

/-- what stands at an owned place is no tuple, nothing locked -/
theorem OR.kind {a : Addr} {nx : Nat} (h : OR T K μ nx H a o) : ∃ u, H a = some u ∧ Mut (some u) ∧ (∀ xs, u ≠ .tup xs) ∧ ∀ ob v, u ≠ .frz ob v := by
  cases o with
  | lst xs =>
    obtain ⟨vs, e, _⟩ := h
    exact ⟨_, e, trivial, (fun _ z => nomatch z), fun _ _ z => nomatch z⟩
  | dK kvs =>
    obtain ⟨vs, e, _⟩ := h
    exact ⟨_, e, trivial, (fun _ z => nomatch z), fun _ _ z => nomatch z⟩
  | dT kvs =>
    obtain ⟨vs, e, _⟩ := h
    exact ⟨_, e, trivial, (fun _ z => nomatch z), fun _ _ z => nomatch z⟩
  | ins c fs =>
    obtain ⟨dx, gs, e, _⟩ := h
    exact ⟨_, e, trivial, (fun _ z => nomatch z), fun _ _ z => nomatch z⟩

theorem Paired.mapQ {α β : Type} {F G : α → β → Prop} : ∀ {l₁ : List α} {l₂ : List β}, Paired F l₁ l₂ → (∀ a b, F a b → G a b) → Paired G l₁ l₂
  | _, _, .nil, _ => .nil
  | _, _, .cons r t, f => .cons (f _ _ r) (Paired.mapQ t f)

/-- an object's description leans on its own place and on tuples -/
theorem OR.mono {μ' : Mu} {nx nx' : Nat} {a : Addr} (h : OR T K μ nx H a o) (le : nx ≤ nx') (ag : ∀ n, n < nx → μ' n = μ n) (sq : ∀ a vs, TupAt K H a vs → TupAt K H' a vs) (e : H' a = H a) : OR T K μ' nx' H' a o := by
  cases o with
  | lst xs =>
    obtain ⟨vs, q, r⟩ := h
    exact ⟨vs, e.trans q, r.mono le ag sq⟩
  | dK kvs =>
    obtain ⟨vs, q, r⟩ := h
    exact ⟨vs, e.trans q, Paired.mapQ r fun _ _ z => ⟨z.1, z.2.mono le ag sq⟩⟩
  | dT kvs =>
    obtain ⟨vs, q, r⟩ := h
    exact ⟨vs, e.trans q, Paired.mapQ r fun _ _ z => ⟨z.1, z.2.mono le ag sq⟩⟩
  | ins c fs =>
    obtain ⟨dx, gs, q, r⟩ := h
    exact ⟨dx, gs, e.trans q, Paired.mapQ r fun _ _ z => ⟨z.1, z.2.mono le ag sq⟩⟩

theorem SqL.same (s : ∀ a o, H a = some o → H' a = some o) {a : Addr} {vs : List V} (h : SqL K H a vs) : SqL K H' a vs := by
  rcases h with (h | ⟨ob, h⟩) | h
  · exact .inl (.inl (s _ _ h))
  · exact .inl (.inr ⟨ob, s _ _ h⟩)
  · exact .inr h
theorem tupBut {b : Addr} {u : HO} (hb : H b = some u) (n1 : ∀ xs, u ≠ .tup xs) (s : ∀ a o, a ≠ b → H a = some o → H' a = some o) {a : Addr} {vs : List V} (h : H a = some (.tup vs)) : H' a = some (.tup vs) :=
  s _ _ (fun z => by rw [z, hb] at h; cases h; exact n1 _ rfl) h

/-- the map with one more number -/
def mu1 (μ : Mu) (n : Nat) (p : Addr) : Mu := fun m => match Nat.beq m n with
  | true => p
  | false => μ m
theorem mu1_self (μ : Mu) (n : Nat) (p : Addr) : mu1 μ n p n = p := by
  unfold mu1
  rw [beq_r]
theorem mu1_ne (μ : Mu) {n m : Nat} (p : Addr) (h : m ≠ n) : mu1 μ n p m = μ m := by
  unfold mu1
  rw [beq_n h]
theorem mu1_lt (μ : Mu) {n m : Nat} (p : Addr) (h : m < n) : mu1 μ n p m = μ m := mu1_ne μ p (Nat.ne_of_lt h)

theorem get_add_self (C : CH) (o : CO) : (C.add o).get C.nx = some o := lk_cons_self _ _ _
theorem get_add_ne (C : CH) (o : CO) {m : Nat} (h : m ≠ C.nx) : (C.add o).get m = C.get m := lk_cons_ne _ _ (Ne.symm h)

/-- a new object is laid -/
theorem alloc (r : Rel T K μ C H) {p : Addr} (hp : H p = none) (s : ∀ a u, H a = some u → H' a = some u) (ho : OR T K (mu1 μ C.nx p) (C.nx + 1) H' p o) :
    Rel T K (mu1 μ C.nx p) (C.add o) H' ∧ Step K μ C H (mu1 μ C.nx p) (C.add o) H' := by
  have ag : ∀ m, m < C.nx → mu1 μ C.nx p m = μ m := fun m h => mu1_lt μ p h
  have sq : ∀ a vs, TupAt K H a vs → TupAt K H' a vs := fun a vs h => s _ _ h
  have old : ∀ m u, C.get m = some u → m ≠ C.nx := fun m u h => Nat.ne_of_lt (r.lt m u h)
  have nep : ∀ m u, C.get m = some u → μ m ≠ p := fun m u h z => by
    obtain ⟨w, e, _⟩ := (r.obj m u h).kind
    rw [z, hp] at e
    cases e
  have inv : ∀ m u, (C.add o).get m = some u → (m = C.nx ∧ u = o) ∨ (m ≠ C.nx ∧ C.get m = some u) := fun m u h => by
    by_cases z : m = C.nx
    · subst z
      rw [get_add_self] at h
      exact .inl ⟨rfl, (Option.some.inj h).symm⟩
    · rw [get_add_ne C o z] at h
      exact .inr ⟨z, h⟩
  refine ⟨⟨fun m u h => ?_, fun m k u w h1 h2 e => ?_, fun m u h => ?_, ?_, ?_⟩, Nat.le_succ _, ag, fun a u h _ => s a u h, fun a u h => ⟨u, s a u h⟩, fun m u h => ?_, sq⟩
  · rcases inv m u h with ⟨rfl, rfl⟩ | ⟨z, h'⟩
    · rw [mu1_self]
      exact ho
    · rw [mu1_ne μ p z]
      have q := r.obj m u h'
      obtain ⟨w, e, _⟩ := q.kind
      exact q.mono (Nat.le_succ _) ag sq ((s _ _ e).trans e.symm)
  · rcases inv m u h1 with ⟨rfl, rfl⟩ | ⟨z1, h1'⟩
    · rcases inv k w h2 with ⟨rfl, rfl⟩ | ⟨z2, h2'⟩
      · rfl
      · rw [mu1_self, mu1_ne μ p z2] at e
        exact absurd e.symm (nep k w h2')
    · rcases inv k w h2 with ⟨rfl, rfl⟩ | ⟨z2, h2'⟩
      · rw [mu1_self, mu1_ne μ p z1] at e
        exact absurd e (nep m u h1')
      · rw [mu1_ne μ p z1, mu1_ne μ p z2] at e
        exact r.inj m k u w h1' h2' e
  · rcases inv m u h with ⟨rfl, rfl⟩ | ⟨z, h'⟩
    · exact Nat.lt_succ_self _
    · exact Nat.lt_succ_of_lt (r.lt m u h')
  · show ((C.nx :: C.os.map (·.1)) : List Nat).Pairwise (fun a b => b < a)
    exact List.pairwise_cons.mpr ⟨fun a ha => r.low a ha, r.dec⟩
  · intro m hm
    have hm' : m ∈ C.nx :: C.os.map (·.1) := hm
    rcases List.mem_cons.mp hm' with rfl | hm'
    · exact Nat.lt_succ_self _
    · exact Nat.lt_succ_of_lt (r.low m hm')
  · rcases inv m u h with ⟨rfl, rfl⟩ | ⟨z, h'⟩
    · rw [mu1_self]
      exact .inr hp
    · exact .inl ⟨r.lt m u h', u, h'⟩
/-- an object is changed -/
theorem change (r : Rel T K μ C H) (hn : C.get n = some o) {u : HO} (e : H' = upd H (μ n) u) (ho : OR T K μ C.nx H' (μ n) o') : Rel T K μ (C.set n o') H' ∧ Step K μ C H μ (C.set n o') H' := by
  obtain ⟨w, ew, _, k1, k2⟩ := (r.obj n o hn).kind
  have s : ∀ a v, a ≠ μ n → H a = some v → H' a = some v := fun a v h q => by
    rw [e, upd_ne h]
    exact q
  have sq : ∀ a vs, TupAt K H a vs → TupAt K H' a vs := fun a vs h => tupBut ew k1 s h
  have self : (C.set n o').get n = some o' := lk_st_self ⟨o, hn⟩
  have inv : ∀ m v, (C.set n o').get m = some v → (m = n ∧ v = o') ∨ (m ≠ n ∧ C.get m = some v) := fun m v h => by
    by_cases z : m = n
    · subst z
      rw [self] at h
      exact .inl ⟨rfl, (Option.some.inj h).symm⟩
    · exact .inr ⟨z, (lk_st_ne (Ne.symm z)).symm.trans h⟩
  have ex : ∀ m v, (C.set n o').get m = some v → ∃ v', C.get m = some v' := fun m v h => by
    rcases inv m v h with ⟨rfl, rfl⟩ | ⟨_, h'⟩
    · exact ⟨o, hn⟩
    · exact ⟨v, h'⟩
  refine ⟨⟨fun m v h => ?_, fun m k v w h1 h2 q => ?_, fun m v h => ?_, ?_, ?_⟩, Nat.le_refl _, fun _ _ => rfl, fun a v h no => ?_, fun a v h => ?_, fun m v h => ?_, sq⟩
  · rcases inv m v h with ⟨rfl, rfl⟩ | ⟨z, h'⟩
    · exact ho
    · have ne : μ m ≠ μ n := fun q => z (r.inj m n v o h' hn q)
      exact (r.obj m v h').mono (Nat.le_refl _) (fun _ _ => rfl) sq (by rw [e, upd_ne ne])
  · obtain ⟨v', e1⟩ := ex m v h1
    obtain ⟨w', e2⟩ := ex k w h2
    exact r.inj m k v' w' e1 e2 q
  · obtain ⟨v', e1⟩ := ex m v h
    exact r.lt m v' e1
  · show ((stN C.os n o').map (·.1)).Pairwise (fun a b => b < a)
    rw [st_keys]
    exact r.dec
  · show ∀ m ∈ (stN C.os n o').map (·.1), m < C.nx
    rw [st_keys]
    exact r.low
  · exact s a v (fun z => no ⟨n, o, hn, z.symm⟩) h
  · by_cases z : a = μ n
    · exact ⟨u, by rw [e, z, upd_same]⟩
    · exact ⟨v, s a v z h⟩
  · obtain ⟨v', e1⟩ := ex m v h
    exact .inl ⟨r.lt m v' e1, v', e1⟩
theorem drop_low {l : List (Nat × CO)} {m : Nat} : ∀ k ∈ (dropN l m).map (·.1), k ∈ l.map (·.1) := by
  induction l with
  | nil => exact fun _ h => h
  | cons p r ih =>
    obtain ⟨k, x⟩ := p
    intro j hj
    unfold dropN at hj
    cases e : Nat.ble m k with
    | true =>
      rw [e] at hj
      exact List.mem_cons_of_mem _ (ih j hj)
    | false =>
      rw [e] at hj
      exact hj
/-- the young ones are let go -/
theorem popped (r : Rel T K μ C H) (m : Nat) : Rel T K μ (C.pop m) H ∧ Step K μ C H μ (C.pop m) H := by
  have g : ∀ k u, (C.pop m).get k = some u → C.get k = some u := fun k u h => drop_lk r.dec h
  exact ⟨⟨fun k u h => r.obj k u (g k u h), fun k j u w h1 h2 e => r.inj k j u w (g k u h1) (g j w h2) e, fun k u h => r.lt k u (g k u h), drop_pw r.dec, fun k hk => r.low k (drop_low k hk)⟩,
    Nat.le_refl _, fun _ _ => rfl, fun _ _ h _ => h, fun _ u h => ⟨u, h⟩, fun k u h => .inl ⟨r.lt k u (g k u h), u, g k u h⟩, fun _ _ h => h⟩
/-- more stands in the heap, nothing of ours is touched -/
theorem same (r : Rel T K μ C H) (s : ∀ a u, H a = some u → H' a = some u) : Rel T K μ C H' ∧ Step K μ C H μ C H' := by
  have sq : ∀ a vs, TupAt K H a vs → TupAt K H' a vs := fun a vs h => s _ _ h
  refine ⟨⟨fun m u h => ?_, r.inj, r.lt, r.dec, r.low⟩, Nat.le_refl _, fun _ _ => rfl, fun a u h _ => s a u h, fun a u h => ⟨u, s a u h⟩, fun m u h => .inl ⟨r.lt m u h, u, h⟩, sq⟩
  have q := r.obj m u h
  obtain ⟨w, e, _⟩ := q.kind
  exact q.mono (Nat.le_refl _) (fun _ _ => rfl) sq ((s _ _ e).trans e.symm)
theorem Rel.refl (r : Rel T K μ C H) : Step K μ C H μ C H := Step.refl r.lt
theorem upd_new {p : Addr} {u : HO} (hp : H p = none) : ∀ a v, H a = some v → upd H p u a = some v := fun a v h => by
  rw [upd_ne (ne_of_none h hp)]
  exact h
/-- a new tuple -/
theorem RV.tupNew {p : Addr} {xs : List CV} {vs : List V} (hp : H p = none) (r : RVs K μ C.nx H xs vs) : RV K μ C.nx (upd H p (.tup vs)) (.tup xs) (.ref p) :=
  .tup upd_same (r.mono (Nat.le_refl _) (fun _ _ => rfl) fun _ _ h => upd_new hp _ _ h)
/-- a new list -/
theorem allocL (r : Rel T K μ C H) {p : Addr} {xs : List CV} {vs : List V} (hp : H p = none) (rv : RVs K μ C.nx H xs vs) :
    Rel T K (mu1 μ C.nx p) (C.add (.lst xs)) (upd H p (.lst vs)) ∧ Step K μ C H (mu1 μ C.nx p) (C.add (.lst xs)) (upd H p (.lst vs)) ∧ RV K (mu1 μ C.nx p) (C.nx + 1) (upd H p (.lst vs)) (.ref C.nx) (.ref p) := by
  obtain ⟨h1, h2⟩ := alloc (o := .lst xs) r hp (upd_new (u := .lst vs) hp) ⟨vs, upd_same, rv.mono (Nat.le_succ _) (fun m h => mu1_lt μ p h) fun _ _ h => upd_new hp _ _ h⟩
  refine ⟨h1, h2, ?_⟩
  have q : RV K (mu1 μ C.nx p) (C.nx + 1) (upd H p (.lst vs)) (.ref C.nx) (.ref (mu1 μ C.nx p C.nx)) := .ref (Nat.lt_succ_self _)
  rw [mu1_self] at q
  exact q
/-- a list is changed -/
theorem changeL (r : Rel T K μ C H) {xs ys : List CV} {vs : List V} (hn : C.get n = some (.lst xs)) (rv : RVs K μ C.nx H ys vs) : Rel T K μ (C.set n (.lst ys)) (upd H (μ n) (.lst vs)) ∧ Step K μ C H μ (C.set n (.lst ys)) (upd H (μ n) (.lst vs)) := by
  obtain ⟨w, ew, _, k1, k2⟩ := (r.obj n _ hn).kind
  refine change r hn rfl ⟨vs, upd_same, rv.mono (Nat.le_refl _) (fun _ _ => rfl) fun a ws h => tupBut ew k1 (fun b u hb q => by rw [upd_ne hb]; exact q) h⟩
end Ex

set_option Elab.async false
set_option linter.all false
set_option maxRecDepth 100000
/-! Ex3: expressions. -/
namespace Ex
open PySem PySem.Spec PyProof.Rows L2

def bnd (n : Nat) : Bool := Nat.ble n 1000000
theorem bnd_ok {n : Nat} (h : bnd n = true) : n ≤ sizeLine := Nat.le_trans (Nat.le_of_ble_eq_true h) (by rw [sizeLine_eq]; decide)
def nthO : List (Option CV) → Nat → Option CV
  | [], _ => none
  | x :: _, 0 => x
  | _ :: r, n + 1 => nthO r n
theorem nthO_ok : ∀ {l : List (Option CV)} {n : Nat} {v : CV}, nthO l n = some v → l[n]? = some (some v)
  | [], _, _, h => by cases h
  | x :: r, 0, v, h => by
    have h' : x = some v := h
    simp [h']
  | x :: r, n + 1, v, h => by
    have := nthO_ok (l := r) (n := n) h
    simpa using this

/-! ### what comes of a list of expressions -/
inductive RA where
  | ok (vs : List CV) (C : CH)
  | exc (k : Nat) (fs : List (Nat × CV)) (l : CL) (C : CH)
  | bad
abbrev AM := CL → CH → RA
abbrev O2 := Option (CV × CH)
def fin : O2 → RE
  | some (v, C) => .ok v C
  | none => .bad
abbrev W0 : WX := fun _ _ _ _ => False

variable {T : Tab} {K : PySem.W.Frag}
variable (T K)
def SatA (W : WX) (σ : L2.St) (μ : Mu) (C : CH) (H : Hp) (Q : List V → Hp → Prop) : RA → Prop
  | .ok vs C' => ∀ μ' H' xs, Step K μ C H μ' C' H' → Rel T K μ' C' H' → RVs K μ' C'.nx H' vs xs → Q xs H'
  | .exc k fs l' C' => ∀ μ' H' σ' cls d, Step K μ C H μ' C' H' → Rel T K μ' C' H' → RL K μ' C'.nx H' l' σ' → XR T K μ' C'.nx H' k fs cls d → W cls d σ' H'
  | .bad => False
variable {T K}
theorem SatA.shift {W : WX} {σ : L2.St} {μ μ1 : Mu} {C C1 : CH} {H H1 : Hp} {Q : List V → Hp → Prop} {r : RA} (st : Step K μ C H μ1 C1 H1) (h : SatA T K W σ μ C H Q r) : SatA T K W σ μ1 C1 H1 Q r := by
  cases r with
  | ok v C' => exact fun μ' H' x s => h μ' H' x (st.trans s)
  | exc k fs l' C' => exact fun μ' H' σ' cls d s => h μ' H' σ' cls d (st.trans s)
  | bad => exact h
variable (T K)
def tA (W : WX) (m : AM) : TA := fun σ H Q => ∃ μ l C, Rel T K μ C H ∧ RL K μ C.nx H l σ ∧ SatA T K W σ μ C H Q (m l C)
/-- a test -/
def tT (W : WX) (m : EM) : TT := fun σ H Q => tX T K W m σ H fun x H1 => ∃ b, x = .bl b ∧ Q b H1
variable {T K}

/-- the bad way, whatever is wished -/
theorem sat_bad {W : WX} {σ : L2.St} {μ : Mu} {C : CH} {H : Hp} {Q : VK} {P : Prop} (h : Sat T K W σ μ C H Q .bad) : P := h.elim
theorem fin_sat {W W' : WX} {σ σ' : L2.St} {μ : Mu} {C : CH} {H : Hp} {Q : VK} {r : O2} (h : Sat T K W σ μ C H Q (fin r)) : Sat T K W' σ' μ C H Q (fin r) := by
  cases r with
  | none => exact h
  | some p => exact h

/-! ### names, constants -/
def xVar (i : Nat) : EM := fun l C => match nthO l i with
  | some v => .ok v C
  | none => .bad
def xC (v : CV) : EM := fun _ C => .ok v C
section
variable {X : Cx} {W : WX} {pos : Pos} {μ : Mu} {C : CH} {H : Hp} {σ : L2.St} {Q : VK}

theorem xe_var (i : Nat) {x : Str} (hN : X.N[i]? = some x := by rfl) (hv : Vis X.env.scope x := by first | exact Or.inl rfl | exact Or.inr (Or.inl rfl) | exact Or.inr (Or.inr rfl)) (hd : (x == ("__debug__" : Str)) = false := by decide)
    (hcd : (x == ("__classdict__" : Str)) = false := by decide) : PE X (.Name x pos) (tX T X.K W (xVar i)) := by
  refine PE.imp (pe_var (i := i) hN hv hd hcd) fun σ H Q ⟨μ, l, C, r, rl, h⟩ => ?_
  unfold xVar at h
  cases e : nthO l i with
  | none =>
    rw [e] at h
    exact sat_bad h
  | some v =>
    rw [e] at h
    obtain ⟨x, e1, rv⟩ := rl.at_ i v (nthO_ok e)
    exact ⟨x, e1, h μ H x r.refl r rv⟩
theorem sat_c {W : WX} {σ : L2.St} {μ : Mu} {C : CH} {H : Hp} {Q : VK} {v : CV} {x : V} (h : Sat T K W σ μ C H Q (.ok v C)) (r : Rel T K μ C H) (rv : RV K μ C.nx H v x) : Q x H := h μ H x r.refl r rv
theorem xe_int {i : Int} {j : Nat} : PE X (.Constant (.int i) j pos) (tX T X.K W (xC (.int i))) := PE.imp pe_int fun _ _ _ ⟨_, _, _, r, _, h⟩ => sat_c h r (.int i)
theorem xe_bl {b : Bool} {j : Nat} : PE X (.Constant (.bool b) j pos) (tX T X.K W (xC (.bl b))) := PE.imp pe_bl fun _ _ _ ⟨_, _, _, r, _, h⟩ => sat_c h r (.bl b)
theorem xe_non {j : Nat} : PE X (.Constant .none j pos) (tX T X.K W (xC .non)) := PE.imp pe_non fun _ _ _ ⟨_, _, _, r, _, h⟩ => sat_c h r .non
theorem xe_str {z : Str} {j : Nat} (l : List Nat) (e : z = ⟨l.toArray⟩ := by decide +kernel) : PE X (.Constant (.str z) j pos) (tX T X.K W (xC (.str l))) := PE.imp pe_str fun _ _ _ ⟨_, _, _, r, _, h⟩ => by
  subst e
  exact sat_c h r (.str l)
/-- a module's constant -/
theorem xe_gint {x : Str} {i : Int} {t : Tok} (hg : Gl X x) (hm : X.mg x = some (.int i t)) (hd : (x == ("__debug__" : Str)) = false := by decide) : PE X (.Name x pos) (tX T X.K W (xC (.int i))) :=
  PE.imp (pe_glob (v := .int i) hg hm ⟨t, rfl⟩ hd) fun _ _ _ ⟨_, _, _, r, _, h⟩ => sat_c h r (.int i)
theorem xe_gstr {x z : Str} {t : Tok} (l : List Nat) (hg : Gl X x) (hm : X.mg x = some (.str z t)) (e : z = ⟨l.toArray⟩ := by decide +kernel) (hd : (x == ("__debug__" : Str)) = false := by decide) : PE X (.Name x pos) (tX T X.K W (xC (.str l))) := by
  subst e
  exact PE.imp (pe_glob (v := .str ⟨l.toArray⟩) hg hm ⟨t, rfl⟩ hd) fun _ _ _ ⟨_, _, _, r, _, h⟩ => sat_c h r (.str l)
end

/-! ### two-place operations -/
def x2 (f : CV → CV → CH → O2) (a b : EM) : EM := fun l C => match a l C with
  | .ok v C1 => (match b l C1 with
    | .ok w C2 => fin (f v w C2)
    | .exc k fs l' C' => .exc k fs l' C'
    | .bad => .bad)
  | .exc k fs l' C' => .exc k fs l' C'
  | .bad => .bad
variable (T K)
def rM2 (f : CV → CV → CH → O2) : R2 := fun x y H Q => ∃ μ C v w, Rel T K μ C H ∧ RV K μ C.nx H v x ∧ RV K μ C.nx H w y ∧ Sat T K W0 [] μ C H Q (fin (f v w C))
variable {T K}
theorem x2_ok {W : WX} {f : CV → CV → CH → O2} {ma mb : EM} {σ : L2.St} {H : Hp} {Q : VK} (h : tX T K W (x2 f ma mb) σ H Q) : tOp (rM2 T K f) (tX T K W ma) (tX T K W mb) σ H Q := by
  obtain ⟨μ, l, C, r, rl, h⟩ := h
  refine ⟨μ, l, C, r, rl, ?_⟩
  unfold x2 at h
  cases ea : ma l C with
  | bad =>
    rw [ea] at h
    exact h
  | exc k fs l' C' =>
    rw [ea] at h
    exact h
  | ok v C1 =>
    rw [ea] at h
    intro μ1 H1 x st rel rv
    refine ⟨μ1, l, C1, rel, rl.step st, ?_⟩
    have h := h.shift st
    cases eb : mb l C1 with
    | bad =>
      simp only [eb] at h
      exact h
    | exc k fs l' C' =>
      simp only [eb] at h
      exact h
    | ok w C2 =>
      simp only [eb] at h
      intro μ2 H2 y st2 rel2 rw
      exact ⟨μ2, C2, v, w, rel2, rv.step st2, rw, fin_sat (h.shift st2)⟩
section
variable {X : Cx} {W : WX} {a b c : Expr} {ma mb mc : EM} {pos : Pos} {f g : CV → CV → CH → O2}
theorem xe_bin {op : Operator} (ho : OpR X (binaryOp op) (rM2 T X.K f)) (ha : PE X a (tX T X.K W ma)) (hb : PE X b (tX T X.K W mb)) : PE X (.BinOp a op b pos) (tX T X.K W (x2 f ma mb)) :=
  PE.imp (pe_op ho ha hb) fun _ _ _ h => x2_ok h
theorem xe_cmp {op : CmpOp} (ho : OpR X (compareOp op) (rM2 T X.K f)) (ha : PE X a (tX T X.K W ma)) (hb : PE X b (tX T X.K W mb)) (hm : behindInMarks op b = false) : PE X (.Compare a [op] [b] pos) (tX T X.K W (x2 f ma mb)) :=
  PE.imp (pe_cmpR ho ha hb hm) fun _ _ _ h => x2_ok h
theorem xt_cmp {op : CmpOp} (ho : OpR X (compareOp op) (rM2 T X.K f)) (ha : PE X a (tX T X.K W ma)) (hb : PE X b (tX T X.K W mb)) (hm : behindInMarks op b = false) : PT X (.Compare a [op] [b] pos) (tT T X.K W (x2 f ma mb)) :=
  PT.imp (pt_cmpR ho ha hb hm) fun _ _ _ h => x2_ok h
theorem xe_ix (hr : IxR X (rM2 T X.K f)) (ha : PE X a (tX T X.K W ma)) (hb : PE X b (tX T X.K W mb)) (hs : PlainIx b) : PE X (.Subscript a b pos) (tX T X.K W (x2 f ma mb)) :=
  PE.imp (pe_ix hr ha hb hs) fun _ _ _ h => x2_ok h
/-- a op b op' c -/
def xChain (f g : CV → CV → CH → O2) (a b c : EM) : EM := fun l C => match a l C with
  | .ok v C1 => (match b l C1 with
    | .ok w C2 => (match f v w C2 with
      | some (.bl true, C3) => (match c l C3 with
        | .ok u C4 => fin (g w u C4)
        | .exc k fs l' C' => .exc k fs l' C'
        | .bad => .bad)
      | some (.bl false, C3) => .ok (.bl false) C3
      | _ => .bad)
    | .exc k fs l' C' => .exc k fs l' C'
    | .bad => .bad)
  | .exc k fs l' C' => .exc k fs l' C'
  | .bad => .bad
theorem chain_ok {σ : L2.St} {H : Hp} {Q : VK} (h : tX T K W (xChain f g ma mb mc) σ H Q) : tChain (rM2 T K f) (rM2 T K g) (tX T K W ma) (tX T K W mb) (tX T K W mc) σ H Q := by
  obtain ⟨μ, l, C, r, rl, h⟩ := h
  refine ⟨μ, l, C, r, rl, ?_⟩
  unfold xChain at h
  cases ea : ma l C with
  | bad =>
    rw [ea] at h
    exact h
  | exc k fs l' C' =>
    rw [ea] at h
    exact h
  | ok v C1 =>
    rw [ea] at h
    intro μ1 H1 x st rel rv
    refine ⟨μ1, l, C1, rel, rl.step st, ?_⟩
    have h := h.shift st
    cases eb : mb l C1 with
    | bad =>
      simp only [eb] at h
      exact h
    | exc k fs l' C' =>
      simp only [eb] at h
      exact h
    | ok w C2 =>
      simp only [eb] at h
      intro μ2 H2 y st2 rel2 rw
      refine ⟨μ2, C2, v, w, rel2, rv.step st2, rw, ?_⟩
      have h := h.shift st2
      cases ef : f v w C2 with
      | none =>
        simp only [ef] at h
        exact sat_bad h
      | some p =>
        obtain ⟨z, C3⟩ := p
        simp only [ef] at h
        cases z with
        | bl t =>
          cases t with
          | true =>
            intro μ3 H3 z3 st3 rel3 rz
            cases rz
            refine ⟨true, rfl, ?_⟩
            rw [if_pos rfl]
            refine ⟨μ3, l, C3, rel3, ((rl.step st).step st2).step st3, ?_⟩
            have h := h.shift st3
            cases ec : mc l C3 with
            | bad =>
              simp only [ec] at h
              exact h
            | exc k fs l' C' =>
              simp only [ec] at h
              exact h
            | ok u C4 =>
              simp only [ec] at h
              intro μ4 H4 q st4 rel4 rq
              exact ⟨μ4, C4, w, u, rel4, (rw.step st3).step st4, rq, fin_sat (h.shift st4)⟩
          | false =>
            intro μ3 H3 z3 st3 rel3 rz
            cases rz
            refine ⟨false, rfl, ?_⟩
            rw [if_neg Bool.false_ne_true]
            exact h μ3 H3 _ st3 rel3 (.bl false)
        | _ => exact sat_bad h
theorem xe_chain {op op' : CmpOp} (ho : OpR X (compareOp op) (rM2 T X.K f)) (ho' : OpR X (compareOp op') (rM2 T X.K g)) (ha : PE X a (tX T X.K W ma)) (hb : PE X b (tX T X.K W mb)) (hc : PE X c (tX T X.K W mc))
    (hm : lastMarks [op, op'] [b, c] = false := by with_unfolding_all rfl) : PE X (.Compare a [op, op'] [b, c] pos) (tX T X.K W (xChain f g ma mb mc)) :=
  PE.imp (pe_chain ho ho' ha hb hc hm) fun _ _ _ h => chain_ok h
theorem xt_chain {op op' : CmpOp} (ho : OpR X (compareOp op) (rM2 T X.K f)) (ho' : OpR X (compareOp op') (rM2 T X.K g)) (ha : PE X a (tX T X.K W ma)) (hb : PE X b (tX T X.K W mb)) (hc : PE X c (tX T X.K W mc))
    (hm : lastMarks [op, op'] [b, c] = false := by with_unfolding_all rfl) : PT X (.Compare a [op, op'] [b, c] pos) (tT T X.K W (xChain f g ma mb mc)) :=
  PT.imp (pt_chain ho ho' ha hb hc hm) fun _ _ _ h => chain_ok h

/-! ### truth -/
def truO (v : CV) (C : CH) : Option Bool := match v with
  | .non => some false
  | .bl b => some b
  | .int i => some (i != 0)
  | .str l => (match bnd l.length with
    | true => some (!l.isEmpty)
    | false => none)
  | .tup xs => some (!xs.isEmpty)
  | .ref n => (match C.get n with
    | some (.lst xs) => some (!xs.isEmpty)
    | some (.dK kvs) => some (!kvs.isEmpty)
    | _ => none)
theorem isEmpty_rvs {μ : Mu} {nx : Nat} {H : Hp} {vs : List CV} {xs : List V} (r : RVs K μ nx H vs xs) : (!vs.isEmpty) = !xs.isEmpty := by cases r <;> rfl
theorem tru_rv {μ : Mu} {C : CH} {H : Hp} {v : CV} {x : V} {b : Bool} (r : Rel T K μ C H) (rv : RV K μ C.nx H v x) (h : truO v C = some b) : TruV K x H b := by
  cases rv with
  | non => cases h; rfl
  | bl b => cases h; rfl
  | int i => cases h; rfl
  | str l =>
    unfold truO at h
    dsimp only at h
    cases e : bnd l.length with
    | false =>
      rw [e] at h
      cases h
    | true =>
      rw [e] at h
      cases h
      refine ⟨by show l.toArray.size ≤ sizeLine; simpa using bnd_ok e, ?_⟩
      show (!l.isEmpty) = ((l.toArray.size : Int) != 0)
      cases l with
      | nil => rfl
      | cons a t => simp; omega
  | tup h1 h2 =>
    cases h
    exact .inr (.inl ⟨_, SqT.of h1, isEmpty_rvs h2⟩)
  | @ref n lt =>
    unfold truO at h
    dsimp only at h
    cases e : C.get n with
    | none =>
      rw [e] at h
      cases h
    | some o =>
      rw [e] at h
      have q := r.obj n o e
      cases o with
      | lst xs =>
        cases h
        obtain ⟨vs, e1, r1⟩ := q
        exact .inl ⟨vs, SqL.of e1, isEmpty_rvs r1⟩
      | dK kvs =>
        cases h
        obtain ⟨kws, e1, r1⟩ := q
        exact .inr (.inr ⟨kws, e1, by cases r1 <;> rfl⟩)
      | dT kvs => cases h
      | ins c fs => cases h
/-- a value as a test -/
def xTru (a : EM) : EM := fun l C => match a l C with
  | .ok v C1 => (match truO v C1 with
    | some b => .ok (.bl b) C1
    | none => .bad)
  | .exc k fs l' C' => .exc k fs l' C'
  | .bad => .bad
theorem tru_ok' {σ : L2.St} {H : Hp} {Q : Bool → Hp → Prop} (h : tT T K W (xTru ma) σ H Q) : tX T K W ma σ H fun x H' => ∃ k, TruV K x H' k ∧ Q k H' := by
  obtain ⟨μ, l, C, r, rl, h⟩ := h
  refine ⟨μ, l, C, r, rl, ?_⟩
  unfold xTru at h
  cases ea : ma l C with
  | bad =>
    rw [ea] at h
    exact h
  | exc k fs l' C' =>
    rw [ea] at h
    exact h
  | ok v C1 =>
    rw [ea] at h
    intro μ1 H1 x st rel rv
    dsimp only at h
    cases et : truO v C1 with
    | none =>
      rw [et] at h
      exact sat_bad h
    | some b =>
      rw [et] at h
      obtain ⟨b', e, q⟩ := h μ1 H1 (.bl b) st rel (.bl b)
      cases e
      exact ⟨b, tru_rv rel rv et, q⟩
theorem xt_tru (ha : PE X a (tX T X.K W ma)) (he : ∀ whole, isTrue a X.env whole = (do let v ← whole; standAt a.pos; holding [v] (truthy v)) := by intro _; rfl) : PT X a (tT T X.K W (xTru ma)) :=
  PT.imp (pt_truth ha he) fun _ _ _ h => tru_ok' h
/-- not e, as a value -/
def xNot (a : EM) : EM := fun l C => match a l C with
  | .ok v C1 => (match truO v C1 with
    | some b => .ok (.bl (!b)) C1
    | none => .bad)
  | .exc k fs l' C' => .exc k fs l' C'
  | .bad => .bad
theorem xe_not (ha : PE X a (tX T X.K W ma)) : PE X (.UnaryOp .Not a pos) (tX T X.K W (xNot ma)) := by
  refine PE.imp (pe_notT ha) fun σ H Q h => ?_
  obtain ⟨μ, l, C, r, rl, h⟩ := h
  refine ⟨μ, l, C, r, rl, ?_⟩
  unfold xNot at h
  cases ea : ma l C with
  | bad =>
    rw [ea] at h
    exact h
  | exc k fs l' C' =>
    rw [ea] at h
    exact h
  | ok v C1 =>
    rw [ea] at h
    intro μ1 H1 x st rel rv
    dsimp only at h
    cases et : truO v C1 with
    | none =>
      rw [et] at h
      exact sat_bad h
    | some b =>
      rw [et] at h
      exact ⟨b, tru_rv rel rv et, h μ1 H1 _ st rel (.bl _)⟩
/-- a and b, a or b, as values -/
def xAnd (a b : EM) : EM := fun l C => match a l C with
  | .ok v C1 => (match truO v C1 with
    | some true => b l C1
    | some false => .ok v C1
    | none => .bad)
  | .exc k fs l' C' => .exc k fs l' C'
  | .bad => .bad
def xOr (a b : EM) : EM := fun l C => match a l C with
  | .ok v C1 => (match truO v C1 with
    | some true => .ok v C1
    | some false => b l C1
    | none => .bad)
  | .exc k fs l' C' => .exc k fs l' C'
  | .bad => .bad
theorem xe_and {rest : List Expr} (ha : PE X a (tX T X.K W ma)) (hb : PE X (.BoolOp .And (b :: rest) pos) (tX T X.K W mb)) : PE X (.BoolOp .And (a :: b :: rest) pos) (tX T X.K W (xAnd ma mb)) := by
  refine PE.imp (pe_andT ha hb) fun σ H Q h => ?_
  obtain ⟨μ, l, C, r, rl, h⟩ := h
  refine ⟨μ, l, C, r, rl, ?_⟩
  unfold xAnd at h
  cases ea : ma l C with
  | bad =>
    rw [ea] at h
    exact h
  | exc k fs l' C' =>
    rw [ea] at h
    exact h
  | ok v C1 =>
    rw [ea] at h
    intro μ1 H1 x st rel rv
    dsimp only at h
    cases et : truO v C1 with
    | none =>
      rw [et] at h
      exact sat_bad h
    | some t =>
      rw [et] at h
      refine ⟨t, tru_rv rel rv et, ?_⟩
      cases t with
      | true =>
        rw [if_pos rfl]
        exact ⟨μ1, l, C1, rel, rl.step st, h.shift st⟩
      | false =>
        rw [if_neg Bool.false_ne_true]
        exact h μ1 H1 x st rel rv
theorem xe_or {rest : List Expr} (ha : PE X a (tX T X.K W ma)) (hb : PE X (.BoolOp .Or (b :: rest) pos) (tX T X.K W mb)) : PE X (.BoolOp .Or (a :: b :: rest) pos) (tX T X.K W (xOr ma mb)) := by
  refine PE.imp (pe_orT ha hb) fun σ H Q h => ?_
  obtain ⟨μ, l, C, r, rl, h⟩ := h
  refine ⟨μ, l, C, r, rl, ?_⟩
  unfold xOr at h
  cases ea : ma l C with
  | bad =>
    rw [ea] at h
    exact h
  | exc k fs l' C' =>
    rw [ea] at h
    exact h
  | ok v C1 =>
    rw [ea] at h
    intro μ1 H1 x st rel rv
    dsimp only at h
    cases et : truO v C1 with
    | none =>
      rw [et] at h
      exact sat_bad h
    | some t =>
      rw [et] at h
      refine ⟨t, tru_rv rel rv et, ?_⟩
      cases t with
      | true =>
        rw [if_pos rfl]
        exact h μ1 H1 x st rel rv
      | false =>
        rw [if_neg Bool.false_ne_true]
        exact ⟨μ1, l, C1, rel, rl.step st, h.shift st⟩
theorem xe_one {op : BoolOp} {m : EM} (h : PE X a (tX T X.K W m)) : PE X (.BoolOp op [a] pos) (tX T X.K W m) := pe_one h
/-! tests -/
/-- a test's mirror gives a truth value; and, or, not, if over such -/
def yAnd (a b : EM) : EM := fun l C => match a l C with
  | .ok (.bl true) C1 => b l C1
  | .ok (.bl false) C1 => .ok (.bl false) C1
  | .ok _ _ => .bad
  | .exc k fs l' C' => .exc k fs l' C'
  | .bad => .bad
def yOr (a b : EM) : EM := fun l C => match a l C with
  | .ok (.bl true) C1 => .ok (.bl true) C1
  | .ok (.bl false) C1 => b l C1
  | .ok _ _ => .bad
  | .exc k fs l' C' => .exc k fs l' C'
  | .bad => .bad
def yNot (a : EM) : EM := fun l C => match a l C with
  | .ok (.bl b) C1 => .ok (.bl (!b)) C1
  | .ok _ _ => .bad
  | .exc k fs l' C' => .exc k fs l' C'
  | .bad => .bad
def xIf (c a b : EM) : EM := fun l C => match c l C with
  | .ok (.bl true) C1 => a l C1
  | .ok (.bl false) C1 => b l C1
  | .ok _ _ => .bad
  | .exc k fs l' C' => .exc k fs l' C'
  | .bad => .bad
theorem PW.imp {t t' : TT} (h : PW X a t) (i : ∀ σ H Q, t' σ H Q → t σ H Q) : PW X a t' := ⟨fun wh pins s σ H Q I q => h.run wh pins s σ H Q I (i _ _ _ q)⟩
theorem yw_and1 (ha : PT X a (tT T X.K W ma)) : PW X (.BoolOp .And [a] pos) (tT T X.K W ma) := pw_and1 ha
theorem yw_or1 (ha : PT X a (tT T X.K W ma)) : PW X (.BoolOp .Or [a] pos) (tT T X.K W ma) := pw_or1 ha
theorem yw_and {rest : List Expr} (ha : PT X a (tT T X.K W ma)) (hb : PW X (.BoolOp .And (b :: rest) pos) (tT T X.K W mb)) : PW X (.BoolOp .And (a :: b :: rest) pos) (tT T X.K W (yAnd ma mb)) := by
  refine PW.imp (pw_and ha hb) fun σ H Q h => ?_
  obtain ⟨μ, l, C, r, rl, h⟩ := h
  refine ⟨μ, l, C, r, rl, ?_⟩
  unfold yAnd at h
  cases ea : ma l C with
  | bad =>
    rw [ea] at h
    exact h
  | exc k fs l' C' =>
    rw [ea] at h
    exact h
  | ok v C1 =>
    rw [ea] at h
    cases v with
    | bl t =>
      intro μ1 H1 x st rel rv
      cases rv
      refine ⟨t, rfl, ?_⟩
      cases t with
      | true =>
        rw [if_pos rfl]
        exact ⟨μ1, l, C1, rel, rl.step st, h.shift st⟩
      | false =>
        rw [if_neg Bool.false_ne_true]
        obtain ⟨b', e, q⟩ := h μ1 H1 _ st rel (.bl false)
        cases e
        exact q
    | _ => exact sat_bad h
theorem yw_or {rest : List Expr} (ha : PT X a (tT T X.K W ma)) (hb : PW X (.BoolOp .Or (b :: rest) pos) (tT T X.K W mb)) : PW X (.BoolOp .Or (a :: b :: rest) pos) (tT T X.K W (yOr ma mb)) := by
  refine PW.imp (pw_or ha hb) fun σ H Q h => ?_
  obtain ⟨μ, l, C, r, rl, h⟩ := h
  refine ⟨μ, l, C, r, rl, ?_⟩
  unfold yOr at h
  cases ea : ma l C with
  | bad =>
    rw [ea] at h
    exact h
  | exc k fs l' C' =>
    rw [ea] at h
    exact h
  | ok v C1 =>
    rw [ea] at h
    cases v with
    | bl t =>
      intro μ1 H1 x st rel rv
      cases rv
      refine ⟨t, rfl, ?_⟩
      cases t with
      | true =>
        rw [if_pos rfl]
        obtain ⟨b', e, q⟩ := h μ1 H1 _ st rel (.bl true)
        cases e
        exact q
      | false =>
        rw [if_neg Bool.false_ne_true]
        exact ⟨μ1, l, C1, rel, rl.step st, h.shift st⟩
    | _ => exact sat_bad h
theorem yt_not (ha : PT X a (tT T X.K W ma)) : PT X (.UnaryOp .Not a pos) (tT T X.K W (yNot ma)) := by
  refine PT.imp (pt_not ha) fun σ H Q h => ?_
  obtain ⟨μ, l, C, r, rl, h⟩ := h
  refine ⟨μ, l, C, r, rl, ?_⟩
  unfold yNot at h
  cases ea : ma l C with
  | bad =>
    rw [ea] at h
    exact h
  | exc k fs l' C' =>
    rw [ea] at h
    exact h
  | ok v C1 =>
    rw [ea] at h
    cases v with
    | bl t =>
      intro μ1 H1 x st rel rv
      cases rv
      obtain ⟨b', e, q⟩ := h μ1 H1 _ st rel (.bl _)
      cases e
      exact ⟨t, rfl, q⟩
    | _ => exact sat_bad h
theorem xe_if (hc : PT X c (tT T X.K W mc)) (ha : PE X a (tX T X.K W ma)) (hb : PE X b (tX T X.K W mb)) : PE X (.IfExp c a b pos) (tX T X.K W (xIf mc ma mb)) := by
  refine PE.imp (pe_ifExp hc ha hb) fun σ H Q h => ?_
  obtain ⟨μ, l, C, r, rl, h⟩ := h
  refine ⟨μ, l, C, r, rl, ?_⟩
  unfold xIf at h
  cases ea : mc l C with
  | bad =>
    rw [ea] at h
    exact h
  | exc k fs l' C' =>
    rw [ea] at h
    exact h
  | ok v C1 =>
    rw [ea] at h
    cases v with
    | bl t =>
      intro μ1 H1 x st rel rv
      cases rv
      refine ⟨t, rfl, ?_⟩
      cases t with
      | true =>
        rw [if_pos rfl]
        exact ⟨μ1, l, C1, rel, rl.step st, h.shift st⟩
      | false =>
        rw [if_neg Bool.false_ne_true]
        exact ⟨μ1, l, C1, rel, rl.step st, h.shift st⟩
    | _ => exact sat_bad h
end

/-! ### argument lists, displays, calls -/
def aNil : AM := fun _ C => .ok [] C
def aCons (a : EM) (as : AM) : AM := fun l C => match a l C with
  | .ok v C1 => (match as l C1 with
    | .ok vs C2 => .ok (v :: vs) C2
    | .exc k fs l' C' => .exc k fs l' C'
    | .bad => .bad)
  | .exc k fs l' C' => .exc k fs l' C'
  | .bad => .bad
section
variable {X : Cx} {W : WX} {a b c e : Expr} {es : List Expr} {ma mb mc : EM} {as : AM} {pos p : Pos}
theorem xa_nil : PA X [] (tA T X.K W aNil) := PA.imp pa_nil fun _ H Q ⟨μ, l, C, r, rl, h⟩ => h μ H [] r.refl r .nil
theorem xa_cons (ha : PE X e (tX T X.K W ma)) (hr : PA X es (tA T X.K W as)) (hs : starEach (e :: es) X.env = (false, eval e X.env) :: starEach es X.env := by rfl) : PA X (e :: es) (tA T X.K W (aCons ma as)) := by
  refine PA.imp (pa_cons ha hr hs) fun σ H Q h => ?_
  obtain ⟨μ, l, C, r, rl, h⟩ := h
  refine ⟨μ, l, C, r, rl, ?_⟩
  unfold aCons at h
  cases ea : ma l C with
  | bad =>
    rw [ea] at h
    exact h
  | exc k fs l' C' =>
    rw [ea] at h
    exact h
  | ok v C1 =>
    rw [ea] at h
    intro μ1 H1 x st rel rv
    refine ⟨μ1, l, C1, rel, rl.step st, ?_⟩
    have h := h.shift st
    cases eb : as l C1 with
    | bad =>
      simp only [eb] at h
      exact h
    | exc k fs l' C' =>
      simp only [eb] at h
      exact h
    | ok vs C2 =>
      simp only [eb] at h
      intro μ2 H2 xs st2 rel2 rvs
      exact h μ2 H2 _ st2 rel2 (.cons (rv.step st2) rvs)
/-- what a call of a built-in, of its values -/
def xCall (f : List CV → CH → O2) (as : AM) : EM := fun l C => match as l C with
  | .ok vs C1 => fin (f vs C1)
  | .exc k fs l' C' => .exc k fs l' C'
  | .bad => .bad
variable (T K)
def rMc (f : List CV → CH → O2) : List V → Hp → VK → Prop := fun xs H Q => ∃ μ C vs, Rel T K μ C H ∧ RVs K μ C.nx H vs xs ∧ Sat T K W0 [] μ C H Q (fin (f vs C))
variable {T K}
theorem call_ok {f : List CV → CH → O2} {σ : L2.St} {H : Hp} {Q : VK} (h : tX T K W (xCall f as) σ H Q) : tA T K W as σ H fun xs H1 => rMc T K f xs H1 Q := by
  obtain ⟨μ, l, C, r, rl, h⟩ := h
  refine ⟨μ, l, C, r, rl, ?_⟩
  unfold xCall at h
  cases ea : as l C with
  | bad =>
    rw [ea] at h
    exact h
  | exc k fs l' C' =>
    rw [ea] at h
    exact h
  | ok v C1 =>
    rw [ea] at h
    intro μ1 H1 x st rel rv
    exact ⟨μ1, C1, v, rel, rv, fin_sat (h.shift st)⟩
theorem xe_callB {x : Str} {id : String} {f : List CV → CH → O2} (hc : CallR X (.builtin id) (rMc T X.K f)) (hg : Gl X x) (hm : X.mg x = none) (hv : bootBuiltins x = some (.builtin id)) (ha : PA X (e :: es) (tA T X.K W as)) (hn : x ≠ "__name__" := by decide) (hdb : (x == ("__debug__" : Str)) = false := by decide)
    (he : starEach (e :: es) X.env = (false, eval e X.env) :: starEach es X.env := by rfl) (hpl : (backTo pos (starEach es X.env)).any (·.1) = false := by rfl) : PE X (.Call (.Name x p) (e :: es) [] pos) (tX T X.K W (xCall f as)) :=
  PE.imp (pe_callB hc hg hm hv ha hn hdb he hpl) fun _ _ _ h => call_ok h
theorem xe_callTy {x : Str} {id : String} {f : List CV → CH → O2} (hc : CallR X (.type id) (rMc T X.K f)) (hg : Gl X x) (hm : X.mg x = none) (hv : bootBuiltins x = some (.type id)) (ha : PA X (e :: es) (tA T X.K W as)) (hn : x ≠ "__name__" := by decide) (hdb : (x == ("__debug__" : Str)) = false := by decide)
    (he : starEach (e :: es) X.env = (false, eval e X.env) :: starEach es X.env := by rfl) (hpl : (backTo pos (starEach es X.env)).any (·.1) = false := by rfl) : PE X (.Call (.Name x p) (e :: es) [] pos) (tX T X.K W (xCall f as)) :=
  PE.imp (pe_callTy hc hg hm hv ha hn hdb he hpl) fun _ _ _ h => call_ok h
/-- (a, b), [a, b] -/
def fTup (vs : List CV) (C : CH) : O2 := match bnd vs.length with
  | true => some (.tup vs, C)
  | false => none
def fLst (vs : List CV) (C : CH) : O2 := match bnd vs.length with
  | true => some (.ref C.nx, C.add (.lst vs))
  | false => none
theorem tup_new {μ : Mu} {C : CH} {H : Hp} {Q : VK} {vs : List CV} {xs : List V} {σ : L2.St} (r : Rel T K μ C H) (rv : RVs K μ C.nx H vs xs) (h : Sat T K W σ μ C H Q (fin (fTup vs C))) : xs.length ≤ sizeLine ∧ ∀ p, H p = none → Q (.ref p) (upd H p (.tup xs)) := by
  unfold fTup at h
  cases e : bnd vs.length with
  | false =>
    rw [e] at h
    exact sat_bad h
  | true =>
    rw [e] at h
    refine ⟨by rw [rv.length]; exact bnd_ok e, fun p hp => ?_⟩
    obtain ⟨r1, s1⟩ := same r (upd_new (u := .tup xs) hp)
    exact h μ _ _ s1 r1 (RV.tupNew hp rv)
theorem lst_new {μ : Mu} {C : CH} {H : Hp} {Q : VK} {vs : List CV} {xs : List V} {σ : L2.St} (r : Rel T K μ C H) (rv : RVs K μ C.nx H vs xs) (h : Sat T K W σ μ C H Q (fin (fLst vs C))) : xs.length ≤ sizeLine ∧ ∀ p, H p = none → Q (.ref p) (upd H p (.lst xs)) := by
  unfold fLst at h
  cases e : bnd vs.length with
  | false =>
    rw [e] at h
    exact sat_bad h
  | true =>
    rw [e] at h
    refine ⟨by rw [rv.length]; exact bnd_ok e, fun p hp => ?_⟩
    obtain ⟨r1, s1, v1⟩ := allocL r hp rv
    exact h _ _ _ s1 r1 v1
theorem xe_tup {k : Nat} (h : PA X es (tA T X.K W as)) : PE X (.Tuple es k pos) (tX T X.K W (xCall fTup as)) := by
  refine PE.imp (pe_tup h) fun σ H Q h => ?_
  obtain ⟨μ, l, C, r, rl, q⟩ := call_ok h
  refine ⟨μ, l, C, r, rl, ?_⟩
  cases ea : as l C with
  | bad =>
    rw [ea] at q
    exact q
  | exc k fs l' C' =>
    rw [ea] at q
    exact q
  | ok v C1 =>
    rw [ea] at q
    intro μ1 H1 xs st rel rv
    obtain ⟨μ2, C2, vs, rel2, rv2, h2⟩ := q μ1 H1 xs st rel rv
    exact tup_new rel2 rv2 h2
theorem xe_lst (h : PA X es (tA T X.K W as)) : PE X (.List es pos) (tX T X.K W (xCall fLst as)) := by
  refine PE.imp (pe_lst h) fun σ H Q h => ?_
  obtain ⟨μ, l, C, r, rl, q⟩ := call_ok h
  refine ⟨μ, l, C, r, rl, ?_⟩
  cases ea : as l C with
  | bad =>
    rw [ea] at q
    exact q
  | exc k fs l' C' =>
    rw [ea] at q
    exact q
  | ok v C1 =>
    rw [ea] at q
    intro μ1 H1 xs st rel rv
    obtain ⟨μ2, C2, vs, rel2, rv2, h2⟩ := q μ1 H1 xs st rel rv
    exact lst_new rel2 rv2 h2
/-! ### calls of defs -/
def xFn (f : FM) (as : AM) : EM := fun l C => match as l C with
  | .ok vs C1 => (match f vs C1 with
    | .ok v C2 => .ok v C2
    | .exc k fs _ C2 => .exc k fs l C2
    | .bad => .bad)
  | .exc k fs l' C' => .exc k fs l' C'
  | .bad => .bad
/-- what a callee gives, here -/
theorem fn_sat {f : FM} {vs : List CV} {l : CL} {σ : L2.St} {μ : Mu} {C : CH} {H : Hp} {Q : VK} (rl : RL K μ C.nx H l σ) (h : Sat T K W σ μ C H Q (match f vs C with
    | .ok v C2 => .ok v C2
    | .exc k fs _ C2 => .exc k fs l C2
    | .bad => .bad)) : Sat T K (fun cls d _ H => W cls d σ H) [] μ C H Q (f vs C) := by
  cases e : f vs C with
  | ok v C2 =>
    rw [e] at h
    exact h
  | bad =>
    rw [e] at h
    exact h
  | exc k fs l' C2 =>
    rw [e] at h
    intro μ' H' σ' cls d st rel _ x
    exact h μ' H' σ cls d st rel (rl.step st) x
theorem xfn_ok {f : FM} {n : Nat} {σ : L2.St} {H : Hp} {Q : VK} (hn : ∀ vs C, f vs C ≠ .bad → vs.length = n) (h : tX T K W (xFn f as) σ H Q) : tA T K W as σ H fun vs H1 => spM T K n f vs H1 Q (WE W σ) := by
  obtain ⟨μ, l, C, r, rl, h⟩ := h
  refine ⟨μ, l, C, r, rl, ?_⟩
  unfold xFn at h
  cases ea : as l C with
  | bad =>
    rw [ea] at h
    exact h
  | exc k fs l' C' =>
    rw [ea] at h
    exact h
  | ok v C1 =>
    rw [ea] at h
    intro μ1 H1 x st rel rv
    have q := fn_sat (f := f) (vs := v) (rl.step st) (h.shift st)
    refine ⟨μ1, C1, v, rel, rv, ?_, q⟩
    rw [rv.length]
    exact hn v C1 fun z => by
      rw [z] at q
      exact q
theorem xe_call {CX : CXT} {k n : Nat} {f : Addr} {fd : FuncData} {ps : List Str} {m : FM} {x : Str} (F : FnOk X.prog X.w X.K X.mg X.base CX k f fd ps (spM T X.K n m)) (hr : Room k X.A) (hg : Gl X x) (hm : X.mg x = some (.ref f)) (hk : PySem.W.keepIn X.K (.ref f) = true) (hb : Binds X.K fd ps []) (hx : ∀ σ, PassesAt CX X σ (WE W σ))
    (hn : ∀ vs C, m vs C ≠ .bad → vs.length = n) (ha : PA X (e :: es) (tA T X.K W as)) (hdb : (x == ("__debug__" : Str)) = false := by decide) (he : starEach (e :: es) X.env = (false, eval e X.env) :: starEach es X.env := by rfl) (hpl : (backTo pos (starEach es X.env)).any (·.1) = false := by rfl) :
    PE X (.Call (.Name x p) (e :: es) [] pos) (tX T X.K W (xFn m as)) := PE.imp (pe_callS F hr hg hm hk hb hx ha hdb he hpl) fun _ _ _ h => xfn_ok hn h
end
end Ex

set_option Elab.async false
set_option linter.all false
set_option maxRecDepth 100000
/-! Ex4: operations. -/
namespace Ex
open PySem PySem.Spec PyProof.Rows L2
variable {T : Tab} {K : PySem.W.Frag} {X : Cx}

/-! ### data -/
mutual
def toD (C : CH) : Nat → CV → Option PyData
  | _, .non => some .none
  | _, .bl b => some (.bool b)
  | _, .int i => some (.int i)
  | _, .str l => some (.str ⟨l.toArray⟩)
  | 0, .tup _ => none
  | n + 1, .tup xs => match toDs C n xs with
    | some ds => some (.tuple ds)
    | none => none
  | 0, .ref _ => none
  | n + 1, .ref a => match C.get a with
    | some (.lst xs) => (match toDs C n xs with
      | some ds => some (.list ds)
      | none => none)
    | _ => none
def toDs (C : CH) : Nat → List CV → Option (List PyData)
  | _, [] => some []
  | 0, _ :: _ => none
  | n + 1, x :: xs => match toD C n x with
    | some d => (match toDs C n xs with
      | some ds => some (d :: ds)
      | none => none)
    | none => none
end
variable {μ : Mu} {C : CH} {H : Hp}
mutual
theorem toD_ok (r : Rel T K μ C H) : ∀ (n : Nat) {v : CV} {x : V} {d : PyData}, RV K μ C.nx H v x → toD C n v = some d → Dp K H x d
  | n, .non, _, d, rv, h => by
    cases rv
    unfold toD at h
    cases h
    exact .non
  | n, .bl b, _, d, rv, h => by
    cases rv
    unfold toD at h
    cases h
    exact .bl b
  | n, .int i, _, d, rv, h => by
    cases rv
    unfold toD at h
    cases h
    exact .int i
  | n, .str l, _, d, rv, h => by
    cases rv
    unfold toD at h
    cases h
    exact .str _
  | 0, .tup xs, _, d, rv, h => by
    unfold toD at h
    cases h
  | n + 1, .tup xs, _, d, rv, h => by
    cases rv with
    | tup h1 h2 =>
      unfold toD at h
      cases e : toDs C n xs with
      | none =>
        rw [e] at h
        cases h
      | some ds =>
        rw [e] at h
        cases h
        exact .tup (SqT.of h1) (toDs_ok r n h2 e)
  | 0, .ref a, _, d, rv, h => by
    unfold toD at h
    cases h
  | n + 1, .ref a, _, d, rv, h => by
    cases rv with
    | ref lt =>
      unfold toD at h
      cases eo : C.get a with
      | none =>
        rw [eo] at h
        cases h
      | some o =>
        rw [eo] at h
        have q := r.obj a o eo
        cases o with
        | lst xs =>
          obtain ⟨vs, e1, r1⟩ := q
          dsimp only at h
          cases e : toDs C n xs with
          | none =>
            rw [e] at h
            cases h
          | some ds =>
            rw [e] at h
            cases h
            exact .lst (SqL.of e1) (toDs_ok r n r1 e)
        | _ => cases h
theorem toDs_ok (r : Rel T K μ C H) : ∀ (n : Nat) {vs : List CV} {xs : List V} {ds : List PyData}, RVs K μ C.nx H vs xs → toDs C n vs = some ds → DpAll K H xs ds
  | n, [], _, ds, rv, h => by
    cases rv
    unfold toDs at h
    cases h
    exact .nil
  | 0, _ :: _, _, ds, rv, h => by
    unfold toDs at h
    cases h
  | n + 1, v :: vs, _, ds, rv, h => by
    cases rv with
    | cons h1 h2 =>
      unfold toDs at h
      cases e1 : toD C n v with
      | none =>
        rw [e1] at h
        cases h
      | some d =>
        simp only [e1] at h
        cases e2 : toDs C n vs with
        | none =>
          rw [e2] at h
          cases h
        | some ds' =>
          rw [e2] at h
          cases h
          exact .cons (toD_ok r n h1 e1) (toDs_ok r n h2 e2)
end
abbrev FU : Nat := 4000
/-- data that is shaped -/
def shD (C : CH) (v : CV) : Option PyData := match toD C FU v with
  | some d => (match SeqAt.shaped d with
    | true => some d
    | false => none)
  | none => none
theorem shD_ok (r : Rel T K μ C H) {v : CV} {x : V} {d : PyData} (rv : RV K μ C.nx H v x) (h : shD C v = some d) : Dp K H x d ∧ SeqAt.shaped d = true := by
  unfold shD at h
  cases e : toD C FU v with
  | none =>
    rw [e] at h
    cases h
  | some d' =>
    simp only [e] at h
    cases e2 : SeqAt.shaped d' with
    | false =>
      rw [e2] at h
      cases h
    | true =>
      rw [e2] at h
      cases h
      exact ⟨toD_ok r FU rv e, e2⟩

/-! ### how an operation's rule is met -/
def cB (b : Bool) (C : CH) : O2 := some (.bl b, C)
def cI (i : Int) (C : CH) : O2 := some (.int i, C)
abbrev F2 := CV → CV → CH → O2
def isLst : Option CO → Option (List CV)
  | some (.lst xs) => some xs
  | _ => none
theorem isLst_ok {o : Option CO} {xs : List CV} (h : isLst o = some xs) : o = some (.lst xs) := by
  cases o with
  | none => cases h
  | some o =>
    cases o with
    | lst ys =>
      cases h
      rfl
    | _ => cases h
theorem Sat.q {W : WX} {σ : L2.St} {Q : VK} {v : CV} (h : Sat T K W σ μ C H Q (fin (some (v, C)))) (r : Rel T K μ C H) {x : V} (rv : RV K μ C.nx H v x) : Q x H := h μ H x r.refl r rv
/-- a new tuple is given -/
theorem Sat.qT {W : WX} {σ : L2.St} {Q : VK} {vs : List CV} (h : Sat T K W σ μ C H Q (fin (some (.tup vs, C)))) (r : Rel T K μ C H) {xs : List V} (rv : RVs K μ C.nx H vs xs) : ∀ p, H p = none → Q (.ref p) (upd H p (.tup xs)) := fun p hp => by
  obtain ⟨r1, s1⟩ := same r (upd_new (u := .tup xs) hp)
  exact h μ _ _ s1 r1 (RV.tupNew hp rv)
theorem Sat.qL {W : WX} {σ : L2.St} {Q : VK} {vs : List CV} (h : Sat T K W σ μ C H Q (fin (some (.ref C.nx, C.add (.lst vs))))) (r : Rel T K μ C H) {xs : List V} (rv : RVs K μ C.nx H vs xs) : ∀ p, H p = none → Q (.ref p) (upd H p (.lst xs)) := fun p hp => by
  obtain ⟨r1, s1, v1⟩ := allocL r hp rv
  exact h _ _ _ s1 r1 v1

/-- by kinds -/
def fAdd : F2 := fun v w C => match v, w with
  | .int i, .int j => cI (i + j) C
  | .str a, .str b => (match bnd (a.length + b.length) with
    | true => some (.str (a ++ b), C)
    | false => none)
  | .tup a, .tup b => (match bnd (a.length + b.length) with
    | true => some (.tup (a ++ b), C)
    | false => none)
  | .ref n, .ref m => (match isLst (C.get n), isLst (C.get m) with
    | some xs, some ys => (match bnd (xs.length + ys.length) with
      | true => some (.ref C.nx, C.add (.lst (xs ++ ys)))
      | false => none)
    | _, _ => none)
  | _, _ => none
theorem str_app (a b : List Nat) : (⟨(a ++ b).toArray⟩ : Str) = (⟨a.toArray⟩ : Str) ++ ⟨b.toArray⟩ := by
  show (⟨(a ++ b).toArray⟩ : Str) = ⟨a.toArray ++ b.toArray⟩
  rw [List.append_toArray]
theorem cat_nil_r {μ : Mu} {nx : Nat} {a : List CV} {xs : List V} (h : RVs K μ nx H a xs) (e : xs = []) : a = [] := by
  subst e
  cases h
  rfl
theorem or_add : OpR X (binaryOp .Add) (rM2 T X.K fAdd) := by
  intro pins s σ H x y v u Q I rx ry ⟨μ, C, a, b, r, ra, rb, h⟩
  cases ra <;> cases rb <;> try exact sat_bad h
  · exact op_add pins s σ H _ _ v u Q I rx ry ⟨_, _, rfl, rfl, h.q r (.int _)⟩
  · rename_i a b
    unfold fAdd at h
    dsimp only at h
    cases e : bnd (a.length + b.length) with
    | false =>
      rw [e] at h
      exact sat_bad h
    | true =>
      rw [e] at h
      refine op_add_str pins s σ H _ _ v u Q I rx ry ⟨_, _, rfl, rfl, ?_, ?_⟩
      · show a.toArray.size + b.toArray.size ≤ sizeLine
        simpa using bnd_ok e
      · have := h.q r (.str _)
        rw [str_app] at this
        exact this
  · rename_i p a xs h1 h2 p' b ys h3 h4
    unfold fAdd at h
    dsimp only at h
    cases e : bnd (a.length + b.length) with
    | false =>
      rw [e] at h
      exact sat_bad h
    | true =>
      rw [e] at h
      refine op_catA pins s σ H _ _ v u Q I rx ry ⟨p, p', xs, ys, rfl, rfl, SqT.of h1, SqT.of h3, by rw [h2.length, h4.length]; exact bnd_ok e, fun q => ?_, fun _ q => ?_, fun _ _ => ?_⟩
      · subst q
        cases h2
        exact h.q r (.tup h3 h4)
      · subst q
        cases h4
        rw [List.append_nil] at h
        exact h.q r (.tup h1 h2)
      · exact h.qT r (h2.append h4)
  · rename_i n ln m lm
    unfold fAdd at h
    dsimp only at h
    cases e1 : isLst (C.get n) with
    | none =>
      rw [e1] at h
      exact sat_bad h
    | some xs =>
      simp only [e1] at h
      cases e2 : isLst (C.get m) with
      | none =>
        rw [e2] at h
        exact sat_bad h
      | some ys =>
        simp only [e2] at h
        cases e : bnd (xs.length + ys.length) with
        | false =>
          rw [e] at h
          exact sat_bad h
        | true =>
          rw [e] at h
          obtain ⟨vs, g1, r1⟩ := r.obj n _ (isLst_ok e1)
          obtain ⟨ws, g2, r2⟩ := r.obj m _ (isLst_ok e2)
          exact op_cat pins s σ H _ _ v u Q I rx ry ⟨_, _, vs, ws, rfl, rfl, g1, g2, by rw [r1.length, r2.length]; exact bnd_ok e, h.qL r (r1.append r2)⟩
def fSub : F2 := fun v w C => match v, w with
  | .int i, .int j => cI (i - j) C
  | _, _ => none
theorem or_sub : OpR X (binaryOp .Sub) (rM2 T X.K fSub) := by
  intro pins s σ H x y v u Q I rx ry ⟨μ, C, a, b, r, ra, rb, h⟩
  cases ra <;> cases rb <;> try exact sat_bad h
  exact op_sub pins s σ H _ _ v u Q I rx ry ⟨_, _, rfl, rfl, h.q r (.int _)⟩
def smallI (i : Int) : Bool := Nat.ble i.natAbs 1000000000
theorem smallI_ok {i : Int} (h : smallI i = true) : -(2 ^ 63) ≤ i ∧ i < 2 ^ 63 := by
  have := Nat.le_of_ble_eq_true h
  omega
/-- int * int; list * int -/
def fMul : F2 := fun v w C => match v, w with
  | .int i, .int j => (match smallI j with
    | true => cI (i * j) C
    | false => none)
  | .ref n, .int k => (match isLst (C.get n), smallI k with
    | some xs, true => (match bnd (xs.length * k.toNat) with
      | true => some (.ref C.nx, C.add (.lst (List.replicate k.toNat xs).flatten))
      | false => none)
    | _, _ => none)
  | _, _ => none
theorem RVs.rep {μ : Mu} {nx : Nat} {vs : List CV} {xs : List V} (r : RVs K μ nx H vs xs) : ∀ n : Nat, RVs K μ nx H (List.replicate n vs).flatten (List.replicate n xs).flatten
  | 0 => .nil
  | n + 1 => by
    rw [List.replicate_succ, List.replicate_succ, List.flatten_cons, List.flatten_cons]
    exact r.append (RVs.rep r n)
theorem or_mul : OpR X (binaryOp .Mult) (rM2 T X.K fMul) := by
  intro pins s σ H x y v u Q I rx ry ⟨μ, C, a, b, r, ra, rb, h⟩
  cases ra <;> cases rb <;> try exact sat_bad h
  · rename_i i j
    unfold fMul at h
    dsimp only at h
    cases e : smallI j with
    | false =>
      rw [e] at h
      exact sat_bad h
    | true =>
      rw [e] at h
      have := smallI_ok e
      exact op_mul pins s σ H _ _ v u Q I rx ry ⟨_, _, rfl, rfl, .inr ⟨by omega, by omega⟩, h.q r (.int _)⟩
  · rename_i n ln k
    unfold fMul at h
    dsimp only at h
    cases e1 : isLst (C.get n) with
    | none =>
      rw [e1] at h
      exact sat_bad h
    | some xs =>
      simp only [e1] at h
      cases e2 : smallI k with
      | false =>
        rw [e2] at h
        exact sat_bad h
      | true =>
        simp only [e2] at h
        cases e : bnd (xs.length * k.toNat) with
        | false =>
          rw [e] at h
          exact sat_bad h
        | true =>
          rw [e] at h
          obtain ⟨vs, g1, r1⟩ := r.obj n _ (isLst_ok e1)
          have q := smallI_ok e2
          exact op_rep pins s σ H _ _ v u Q I rx ry ⟨_, _, vs, rfl, rfl, g1, q.1, q.2, by rw [r1.length]; exact bnd_ok e, h.qL r (r1.rep k.toNat)⟩
def posS (j : Int) : Bool := match j with
  | .ofNat n => Nat.blt 0 n && Nat.ble n 1000000000
  | .negSucc _ => false
theorem posS_ok {j : Int} (h : posS j = true) : 0 < j ∧ j < 1073741824 := by
  cases j with
  | ofNat n =>
    unfold posS at h
    simp at h
    have h1 := h.1
    have h2 := h.2
    constructor
    · show (0 : Int) < (n : Int)
      omega
    · show (n : Int) < 1073741824
      omega
  | negSucc n => cases h
def fDiv : F2 := fun v w C => match v, w with
  | .int i, .int j => (match posS j with
    | true => cI (i / j) C
    | false => none)
  | _, _ => none
def fMod : F2 := fun v w C => match v, w with
  | .int i, .int j => (match posS j with
    | true => cI (i % j) C
    | false => none)
  | _, _ => none
theorem or_div : OpR X (binaryOp .FloorDiv) (rM2 T X.K fDiv) := by
  intro pins s σ H x y v u Q I rx ry ⟨μ, C, a, b, r, ra, rb, h⟩
  cases ra <;> cases rb <;> try exact sat_bad h
  rename_i i j
  unfold fDiv at h
  dsimp only at h
  cases e : posS j with
  | false =>
    rw [e] at h
    exact sat_bad h
  | true =>
    rw [e] at h
    exact op_fdiv pins s σ H _ _ v u Q I rx ry ⟨_, _, rfl, rfl, posS_ok e, h.q r (.int _)⟩
theorem or_mod : OpR X (binaryOp .Mod) (rM2 T X.K fMod) := by
  intro pins s σ H x y v u Q I rx ry ⟨μ, C, a, b, r, ra, rb, h⟩
  cases ra <;> cases rb <;> try exact sat_bad h
  rename_i i j
  unfold fMod at h
  dsimp only at h
  cases e : posS j with
  | false =>
    rw [e] at h
    exact sat_bad h
  | true =>
    rw [e] at h
    exact op_mod pins s σ H _ _ v u Q I rx ry ⟨_, _, rfl, rfl, (posS_ok e).1, h.q r (.int _)⟩

/-! ### comparisons -/
/-- ints below one another, tuples of ints -/
def ltI (i j : Int) : Bool := match i, j with
  | .ofNat a, .ofNat b => Nat.blt a b
  | .ofNat _, .negSucc _ => false
  | .negSucc _, .ofNat _ => true
  | .negSucc a, .negSucc b => Nat.blt b a
theorem ltI_ok (i j : Int) : decide (i < j) = ltI i j := by
  rw [Bool.eq_iff_iff, decide_eq_true_eq]
  cases i <;> cases j <;> simp [ltI] <;> omega
def intsOf : List CV → Option (List Int)
  | [] => some []
  | .int i :: r => match intsOf r with
    | some is => some (i :: is)
    | none => none
  | _ :: _ => none
theorem intsOf_ok {μ : Mu} {nx : Nat} : ∀ {vs : List CV} {xs : List V} {is : List Int}, RVs K μ nx H vs xs → intsOf vs = some is → xs = is.map V.int
  | _, _, _, .nil, h => by
    unfold intsOf at h
    cases h
    rfl
  | v :: vs, _, is, .cons h1 h2, h => by
    cases h1 with
    | int i =>
      unfold intsOf at h
      cases e : intsOf vs with
      | none =>
        rw [e] at h
        cases h
      | some js =>
        rw [e] at h
        cases h
        rw [intsOf_ok h2 e, List.map_cons]
    | _ => cases h
def fLt : F2 := fun v w C => match v, w with
  | .int i, .int j => cB (ltI i j) C
  | .tup a, .tup b => (match intsOf a, intsOf b with
    | some is, some js => cB (HT.lexLt is js) C
    | _, _ => none)
  | _, _ => none
theorem or_lt (hu : X.A.units + 65 < cLine) : OpR X (compareOp .Lt) (rM2 T X.K fLt) := by
  intro pins s σ H x y v u Q I rx ry ⟨μ, C, a, b, r, ra, rb, h⟩
  cases ra <;> cases rb <;> try exact sat_bad h
  · rename_i i j
    have q := h.q r (.bl _)
    rw [← ltI_ok] at q
    exact op_lt pins s σ H _ _ v u Q I rx ry ⟨_, _, rfl, rfl, q⟩
  · rename_i p a xs h1 h2 p' b ys h3 h4
    unfold fLt at h
    dsimp only at h
    cases e1 : intsOf a with
    | none =>
      rw [e1] at h
      exact sat_bad h
    | some is =>
      simp only [e1] at h
      cases e2 : intsOf b with
      | none =>
        rw [e2] at h
        exact sat_bad h
      | some js =>
        rw [e2] at h
        rw [intsOf_ok h2 e1] at h1
        rw [intsOf_ok h4 e2] at h3
        exact op_ltT (by omega) pins s σ H _ _ v u Q I rx ry ⟨p, p', is, js, rfl, rfl, SqT.of h1, SqT.of h3, h.q r (.bl _)⟩
def fLe : F2 := fun v w C => match v, w with
  | .int i, .int j => cB (!ltI j i) C
  | _, _ => none
def fGt : F2 := fun v w C => match v, w with
  | .int i, .int j => cB (ltI j i) C
  | _, _ => none
def fGe : F2 := fun v w C => match v, w with
  | .int i, .int j => cB (!ltI i j) C
  | _, _ => none
theorem leI_ok (i j : Int) : decide (i ≤ j) = !ltI j i := by
  rw [← ltI_ok, Bool.eq_iff_iff]
  simp
theorem or_le : OpR X (compareOp .LtE) (rM2 T X.K fLe) := by
  intro pins s σ H x y v u Q I rx ry ⟨μ, C, a, b, r, ra, rb, h⟩
  cases ra <;> cases rb <;> try exact sat_bad h
  have q := h.q r (.bl _)
  rw [← leI_ok] at q
  exact op_le pins s σ H _ _ v u Q I rx ry ⟨_, _, rfl, rfl, q⟩
theorem or_gt : OpR X (compareOp .Gt) (rM2 T X.K fGt) := by
  intro pins s σ H x y v u Q I rx ry ⟨μ, C, a, b, r, ra, rb, h⟩
  cases ra <;> cases rb <;> try exact sat_bad h
  have q := h.q r (.bl _)
  rw [← ltI_ok] at q
  exact op_gt pins s σ H _ _ v u Q I rx ry ⟨_, _, rfl, rfl, q⟩
theorem or_ge : OpR X (compareOp .GtE) (rM2 T X.K fGe) := by
  intro pins s σ H x y v u Q I rx ry ⟨μ, C, a, b, r, ra, rb, h⟩
  cases ra <;> cases rb <;> try exact sat_bad h
  have q := h.q r (.bl _)
  rw [← leI_ok] at q
  exact op_ge pins s σ H _ _ v u Q I rx ry ⟨_, _, rfl, rfl, q⟩
/-- == and != of data -/
def fEq : F2 := fun v w C => match shD C v, shD C w with
  | some d, some e => cB (PyData.eqv d e) C
  | _, _ => none
def fNe : F2 := fun v w C => match shD C v, shD C w with
  | some d, some e => cB (!PyData.eqv d e) C
  | _, _ => none
theorem or_eq (hu : X.A.units + 65 < cLine) : OpR X (compareOp .Eq) (rM2 T X.K fEq) := by
  intro pins s σ H x y v u Q I rx ry ⟨μ, C, a, b, r, ra, rb, h⟩
  unfold fEq at h
  cases e1 : shD C a with
  | none =>
    rw [e1] at h
    exact sat_bad h
  | some d =>
    simp only [e1] at h
    cases e2 : shD C b with
    | none =>
      rw [e2] at h
      exact sat_bad h
    | some e =>
      rw [e2] at h
      obtain ⟨p1, p2⟩ := shD_ok r ra e1
      obtain ⟨q1, q2⟩ := shD_ok r rb e2
      exact op_eqD (by omega) pins s σ H _ _ v u Q I rx ry ⟨d, e, p1, q1, p2, q2, h.q r (.bl _)⟩
theorem or_ne (hu : X.A.units + 65 < cLine) : OpR X (compareOp .NotEq) (rM2 T X.K fNe) := by
  intro pins s σ H x y v u Q I rx ry ⟨μ, C, a, b, r, ra, rb, h⟩
  unfold fNe at h
  cases e1 : shD C a with
  | none =>
    rw [e1] at h
    exact sat_bad h
  | some d =>
    simp only [e1] at h
    cases e2 : shD C b with
    | none =>
      rw [e2] at h
      exact sat_bad h
    | some e =>
      rw [e2] at h
      obtain ⟨p1, p2⟩ := shD_ok r ra e1
      obtain ⟨q1, q2⟩ := shD_ok r rb e2
      exact op_neD (by omega) pins s σ H _ _ v u Q I rx ry ⟨d, e, p1, q1, p2, q2, h.q r (.bl _)⟩
/-- is None -/
def isNon : CV → Bool
  | .non => true
  | _ => false
def fIsN : F2 := fun v w C => match w with
  | .non => cB (isNon v) C
  | _ => none
def fNotN : F2 := fun v w C => match w with
  | .non => cB (!isNon v) C
  | _ => none
theorem isNon_ok {μ : Mu} {nx : Nat} {v : CV} {x : V} (r : RV K μ nx H v x) : decide (x = .non) = isNon v := by
  cases r <;> simp [isNon]
theorem or_isN : OpR X (compareOp .Is) (rM2 T X.K fIsN) := by
  intro pins s σ H x y v u Q I rx ry ⟨μ, C, a, b, r, ra, rb, h⟩
  cases rb <;> try exact sat_bad h
  have q := h.q r (.bl _)
  rw [← isNon_ok ra] at q
  exact op_isN pins s σ H _ _ v u Q I rx ry ⟨rfl, q⟩
theorem or_notN : OpR X (compareOp .IsNot) (rM2 T X.K fNotN) := by
  intro pins s σ H x y v u Q I rx ry ⟨μ, C, a, b, r, ra, rb, h⟩
  cases rb <;> try exact sat_bad h
  have q := h.q r (.bl _)
  rw [← isNon_ok ra] at q
  exact op_notN pins s σ H _ _ v u Q I rx ry ⟨rfl, q⟩

/-! ### in: a sign in a text; data in a list, a tuple -/
def memN (c : Nat) : List Nat → Bool
  | [] => false
  | x :: r => match Nat.beq x c with
    | true => true
    | false => memN c r
theorem memN_ok (c : Nat) : ∀ l : List Nat, memN c l = decide (c ∈ l)
  | [] => by simp [memN]
  | x :: r => by
    unfold memN
    cases e : Nat.beq x c with
    | true =>
      have := beq_t e
      simp [this]
    | false =>
      have := beq_f e
      rw [memN_ok c r]
      simp [Ne.symm this]
theorem inStr_ok (c : Nat) (l : List Nat) : (!(Builtin.Str.occurrences ⟨l.toArray⟩ ⟨#[c]⟩ 0 (⟨l.toArray⟩ : Str).length 1).isEmpty) = memN c l := by
  rw [memN_ok]
  have := StrLaws.found_one ⟨l.toArray⟩ c
  simpa using this
theorem op_inDT (hu : X.A.units + 65 < cLine) : OpR X (compareOp .In) (fun x y H Q => ∃ d ds, Dp X.K H x d ∧ Dp X.K H y (.tuple ds) ∧ SeqAt.shaped d = true ∧ SeqAt.shaped (.tuple ds) = true ∧ Q (.bl (ds.any fun z => PyData.eqv z d)) H) := by
  intro pins s σ H x y v u Q I rx ry ⟨d, ds, hd, he, sd, se, q⟩
  obtain ⟨as, r1⟩ := Dp.reads I d x v hd rx
  obtain ⟨bs, r2⟩ := Dp.reads I (.tuple ds) y u he ry
  exact SeqAt.in_tuple_reads r2 r1 (SeqAt.canLay_of_shaped se) (SeqAt.canLay_of_shaped sd) (room_in_shaped sd hu) ⟨.bl _, H, I, rfl, q⟩
theorem op_notInDT (hu : X.A.units + 65 < cLine) : OpR X (compareOp .NotIn) (fun x y H Q => ∃ d ds, Dp X.K H x d ∧ Dp X.K H y (.tuple ds) ∧ SeqAt.shaped d = true ∧ SeqAt.shaped (.tuple ds) = true ∧ Q (.bl (!ds.any fun z => PyData.eqv z d)) H) := by
  intro pins s σ H x y v u Q I rx ry ⟨d, ds, hd, he, sd, se, q⟩
  obtain ⟨as, r1⟩ := Dp.reads I d x v hd rx
  obtain ⟨bs, r2⟩ := Dp.reads I (.tuple ds) y u he ry
  exact SeqAt.notIn_tuple_reads r2 r1 (SeqAt.canLay_of_shaped se) (SeqAt.canLay_of_shaped sd) (room_in_shaped sd hu) ⟨.bl _, H, I, rfl, q⟩
def anyD (d : PyData) : List PyData → Bool
  | [] => false
  | z :: r => match PyData.eqv z d with
    | true => true
    | false => anyD d r
theorem anyD_ok (d : PyData) : ∀ ds : List PyData, anyD d ds = ds.any fun z => PyData.eqv z d
  | [] => rfl
  | z :: r => by
    unfold anyD
    rw [List.any_cons]
    cases PyData.eqv z d with
    | true => rfl
    | false => exact anyD_ok d r
/-- the truth of v in w -/
def inB (v w : CV) (C : CH) : Option Bool := match v, w with
  | .str [c], .str l => some (memN c l)
  | v, w => match shD C v, shD C w with
    | some d, some (.list ds) => some (anyD d ds)
    | some d, some (.tuple ds) => some (anyD d ds)
    | _, _ => none
def fIn : F2 := fun v w C => match inB v w C with
  | some b => cB b C
  | none => none
def fNin : F2 := fun v w C => match inB v w C with
  | some b => cB (!b) C
  | none => none
theorem inB_ok (r : Rel T K μ C H) {v w : CV} {x y : V} (rv : RV K μ C.nx H v x) (rw' : RV K μ C.nx H w y) {b : Bool} (h : inB v w C = some b) :
    (∃ i j, x = .str i ∧ y = .str j ∧ (!(Builtin.Str.occurrences j i 0 j.length 1).isEmpty) = b) ∨
    (∃ d ds, Dp K H x d ∧ Dp K H y (.list ds) ∧ SeqAt.shaped d = true ∧ SeqAt.shaped (.list ds) = true ∧ (ds.any fun z => PyData.eqv z d) = b) ∨
    ∃ d ds, Dp K H x d ∧ Dp K H y (.tuple ds) ∧ SeqAt.shaped d = true ∧ SeqAt.shaped (.tuple ds) = true ∧ (ds.any fun z => PyData.eqv z d) = b := by
  unfold inB at h
  split at h
  · cases rv
    cases rw'
    cases h
    exact .inl ⟨_, _, rfl, rfl, inStr_ok _ _⟩
  · split at h
    · rename_i d ds e1 e2
      obtain ⟨p1, p2⟩ := shD_ok r rv e1
      obtain ⟨q1, q2⟩ := shD_ok r rw' e2
      cases h
      exact .inr (.inl ⟨d, ds, p1, q1, p2, q2, (anyD_ok d ds).symm⟩)
    · rename_i d ds e1 e2
      obtain ⟨p1, p2⟩ := shD_ok r rv e1
      obtain ⟨q1, q2⟩ := shD_ok r rw' e2
      cases h
      exact .inr (.inr ⟨d, ds, p1, q1, p2, q2, (anyD_ok d ds).symm⟩)
    · cases h
theorem or_in (hu : X.A.units + 65 < cLine) : OpR X (compareOp .In) (rM2 T X.K fIn) := by
  intro pins s σ H x y v u Q I rx ry ⟨μ, C, a, b, r, ra, rb, h⟩
  unfold fIn at h
  cases e : inB a b C with
  | none =>
    rw [e] at h
    exact sat_bad h
  | some t =>
    rw [e] at h
    have q := h.q r (.bl _)
    rcases inB_ok r ra rb e with ⟨i, j, rfl, rfl, e⟩ | ⟨d, ds, h1, h2, h3, h4, e⟩ | ⟨d, ds, h1, h2, h3, h4, e⟩
    · rw [← e] at q
      exact op_in_str pins s σ H _ _ v u Q I rx ry ⟨i, j, rfl, rfl, q⟩
    · rw [← e] at q
      exact op_inD hu pins s σ H _ _ v u Q I rx ry ⟨d, ds, h1, h2, h3, h4, q⟩
    · rw [← e] at q
      exact op_inDT hu pins s σ H _ _ v u Q I rx ry ⟨d, ds, h1, h2, h3, h4, q⟩
theorem or_nin (hu : X.A.units + 65 < cLine) : OpR X (compareOp .NotIn) (rM2 T X.K fNin) := by
  intro pins s σ H x y v u Q I rx ry ⟨μ, C, a, b, r, ra, rb, h⟩
  unfold fNin at h
  cases e : inB a b C with
  | none =>
    rw [e] at h
    exact sat_bad h
  | some t =>
    rw [e] at h
    have q := h.q r (.bl _)
    rcases inB_ok r ra rb e with ⟨i, j, rfl, rfl, e⟩ | ⟨d, ds, h1, h2, h3, h4, e⟩ | ⟨d, ds, h1, h2, h3, h4, e⟩
    · rw [← e] at q
      exact op_notin_str pins s σ H _ _ v u Q I rx ry ⟨i, j, rfl, rfl, q⟩
    · rw [← e] at q
      exact op_notInD hu pins s σ H _ _ v u Q I rx ry ⟨d, ds, h1, h2, h3, h4, q⟩
    · rw [← e] at q
      exact op_notInDT hu pins s σ H _ _ v u Q I rx ry ⟨d, ds, h1, h2, h3, h4, q⟩

/-! ### subscripts -/
def ixC (n : Nat) (i : Int) : Option Nat := match i with
  | .ofNat a => (match Nat.blt a n with
    | true => some a
    | false => none)
  | .negSucc a => (match Nat.blt a n with
    | true => some (n - (a + 1))
    | false => none)
theorem ixC_ok {n : Nat} {i : Int} {j : Nat} (h : ixC n i = some j) : ixN n i = some j := by
  unfold ixC at h
  unfold ixN
  cases i with
  | ofNat k =>
    dsimp only at h
    cases e : Nat.blt k n with
    | false =>
      rw [e] at h
      cases h
    | true =>
      rw [e] at h
      have h := Option.some.inj h
      subst h
      have : k < n := by simpa using e
      have h1 : (0 : Int) ≤ Int.ofNat k := Int.natCast_nonneg k
      have h2 : Int.ofNat k < (n : Int) := Int.ofNat_lt.mpr this
      rw [if_pos h1, if_pos h2]
      rfl
  | negSucc k =>
    dsimp only at h
    cases e : Nat.blt k n with
    | false =>
      rw [e] at h
      cases h
    | true =>
      rw [e] at h
      have h := Option.some.inj h
      subst h
      have : k < n := by simpa using e
      rw [if_neg (by omega), if_pos (by omega)]
      congr 1
      omega
def getC {α : Type} : List α → Nat → Option α
  | [], _ => none
  | x :: _, 0 => some x
  | _ :: r, n + 1 => getC r n
theorem getC_eq {α : Type} : ∀ (l : List α) (n : Nat), getC l n = l[n]?
  | [], n => by simp [getC]
  | x :: r, 0 => by simp [getC]
  | x :: r, n + 1 => by
    unfold getC
    rw [getC_eq r n]
    simp
def atC {α : Type} (l : List α) (i : Int) : Option α := match ixC l.length i with
  | some j => getC l j
  | none => none
theorem atC_ok {α : Type} {l : List α} {i : Int} {x : α} (h : atC l i = some x) : ∃ j, ixN l.length i = some j ∧ l[j]? = some x := by
  unfold atC at h
  cases e : ixC l.length i with
  | none =>
    rw [e] at h
    cases h
  | some j =>
    rw [e] at h
    exact ⟨j, ixC_ok e, (getC_eq l j).symm.trans h⟩
theorem atI_rv {μ : Mu} {nx : Nat} {vs : List CV} {xs : List V} {i : Int} {v : CV} (r : RVs K μ nx H vs xs) (h : atC vs i = some v) : ∃ x, atI xs i = some x ∧ RV K μ nx H v x := by
  obtain ⟨j, h1, h2⟩ := atC_ok h
  obtain ⟨x, h3, h4⟩ := r.get h2
  refine ⟨x, ?_, h4⟩
  unfold atI
  rw [r.length, h1]
  exact h3
def fIx : F2 := fun v w C => match v, w with
  | .ref n, .int i => (match isLst (C.get n) with
    | some xs => (match atC xs i with
      | some x => some (x, C)
      | none => none)
    | none => none)
  | .tup xs, .int i => (match atC xs i with
    | some x => some (x, C)
    | none => none)
  | .str l, .int i => (match bnd l.length, atC l i with
    | true, some c => some (.str [c], C)
    | _, _ => none)
  | _, _ => none
theorem or_ix : IxR X (rM2 T X.K fIx) := by
  intro va sl pins s σ H x y v u Q I rx ry ⟨μ, C, a, b, r, ra, rb, h⟩ hs
  cases ra <;> cases rb <;> try exact (sat_bad h)
  · rename_i l i
    unfold fIx at h
    dsimp only at h
    cases e1 : bnd l.length with
    | false =>
      rw [e1] at h
      exact sat_bad h
    | true =>
      simp only [e1] at h
      cases e2 : atC l i with
      | none =>
        rw [e2] at h
        exact sat_bad h
      | some c =>
        rw [e2] at h
        obtain ⟨j, h1, h2⟩ := atC_ok e2
        refine ix_seq va sl pins s σ H _ _ v u Q I rx ry (.inr (.inr ⟨_, i, c, rfl, rfl, ?_, ?_, h.q r (.str [c])⟩)) hs
        · show l.toArray.size ≤ sizeLine
          simpa using bnd_ok e1
        · unfold atI
          show (ixN l.toArray.toList.length i).bind _ = _
          rw [show l.toArray.toList = l by simp, h1]
          exact h2
  · rename_i p xs vs h1 h2 i
    unfold fIx at h
    dsimp only at h
    cases e2 : atC xs i with
    | none =>
      rw [e2] at h
      exact sat_bad h
    | some c =>
      rw [e2] at h
      obtain ⟨y, q1, q2⟩ := atI_rv h2 e2
      exact ix_seq va sl pins s σ H _ _ v u Q I rx ry (.inr (.inl ⟨_, _, i, y, rfl, rfl, SqT.of h1, q1, h.q r q2⟩)) hs
  · rename_i n ln i
    unfold fIx at h
    dsimp only at h
    cases e1 : isLst (C.get n) with
    | none =>
      rw [e1] at h
      exact sat_bad h
    | some xs =>
      simp only [e1] at h
      cases e2 : atC xs i with
      | none =>
        rw [e2] at h
        exact sat_bad h
      | some c =>
        rw [e2] at h
        obtain ⟨vs, g1, r1⟩ := r.obj n _ (isLst_ok e1)
        obtain ⟨y, q1, q2⟩ := atI_rv r1 e2
        exact ix_seq va sl pins s σ H _ _ v u Q I rx ry (.inl ⟨_, _, i, y, rfl, rfl, SqL.of g1, q1, h.q r q2⟩) hs
end Ex

set_option Elab.async false
set_option linter.all false
set_option maxRecDepth 100000
/-! Ex5: slices, built-ins. -/
namespace Ex
open PySem PySem.Spec PyProof.Rows L2
variable {T : Tab} {K : PySem.W.Frag} {X : Cx} {μ : Mu} {C : CH} {H : Hp}

/-! ### slices -/
abbrev FS := CV → Option Int → Option Int → CH → O2
variable (T K)
def rMs (f : FS) : V → Option Int → Option Int → Hp → VK → Prop := fun x lo hi H Q => ∃ μ C v, Rel T K μ C H ∧ RV K μ C.nx H v x ∧ Sat T K W0 [] μ C H Q (fin (f v lo hi C))
variable {T K}
def takeC {α : Type} : Nat → List α → List α
  | 0, _ => []
  | _ + 1, [] => []
  | n + 1, x :: r => x :: takeC n r
theorem takeC_eq {α : Type} : ∀ (n : Nat) (l : List α), takeC n l = l.take n
  | 0, _ => by simp [takeC]
  | _ + 1, [] => by simp [takeC]
  | n + 1, x :: r => by simp [takeC, takeC_eq n r]
def cutC (xs : List CV) (lo hi : Option Int) : List CV := takeC (HT.sIx xs.length xs.length hi - HT.sIx xs.length 0 lo) (xs.drop (HT.sIx xs.length 0 lo))
theorem cut_rv {nx : Nat} {vs : List CV} {xs : List V} (r : RVs K μ nx H vs xs) (lo hi : Option Int) : RVs K μ nx H (cutC vs lo hi) (cutV xs lo hi) := by
  unfold cutC cutV
  rw [takeC_eq, r.length]
  exact (r.drop _).take _
def fSlice : FS := fun v lo hi C => match v with
  | .ref n => (match isLst (C.get n) with
    | some xs => some (.ref C.nx, C.add (.lst (cutC xs lo hi)))
    | none => none)
  | .tup xs => some (.tup (cutC xs lo hi), C)
  | _ => none
theorem sr_slice : SlR X (rMs T X.K fSlice) := by
  intro pins s σ H x v vl vu lo hi sl Q I rx hs pl pu ⟨μ, C, a, r, ra, h⟩
  cases ra <;> try exact (sat_bad h)
  · rename_i p xs vs h1 h2
    refine sl_tupA pins s σ H _ v vl vu lo hi sl Q I rx hs pl pu ⟨p, vs, rfl, SqT.of h1, fun e => ?_, fun _ => h.qT r (cut_rv h2 lo hi)⟩
    have : cutV vs lo hi = vs := by
      unfold cutV
      rw [e.1, e.2]
      simp
    have q := cut_rv h2 lo hi
    rw [this] at q
    exact h.q r (.tup h1 q)
  · rename_i n ln
    unfold fSlice at h
    dsimp only at h
    cases e1 : isLst (C.get n) with
    | none =>
      rw [e1] at h
      exact sat_bad h
    | some xs =>
      rw [e1] at h
      obtain ⟨vs, g1, r1⟩ := r.obj n _ (isLst_ok e1)
      exact sl_list pins s σ H _ v vl vu lo hi sl Q I rx hs pl pu ⟨_, vs, rfl, SqL.of g1, h.qL r (cut_rv r1 lo hi)⟩
/-- a bound: left out or an int -/
inductive RO where
  | ok (o : Option Int) (C : CH)
  | exc (k : Nat) (fs : List (Nat × CV)) (l : CL) (C : CH)
  | bad
abbrev OM := CL → CH → RO
variable (T K)
def SatO (W : WX) (σ : L2.St) (μ : Mu) (C : CH) (H : Hp) (Q : Option Int → Hp → Prop) : RO → Prop
  | .ok o C' => ∀ μ' H', Step K μ C H μ' C' H' → Rel T K μ' C' H' → Q o H'
  | .exc k fs l' C' => ∀ μ' H' σ' cls d, Step K μ C H μ' C' H' → Rel T K μ' C' H' → RL K μ' C'.nx H' l' σ' → XR T K μ' C'.nx H' k fs cls d → W cls d σ' H'
  | .bad => False
def tO (W : WX) (m : OM) : TO := fun σ H Q => ∃ μ l C, Rel T K μ C H ∧ RL K μ C.nx H l σ ∧ SatO T K W σ μ C H Q (m l C)
variable {T K}
theorem SatO.shift {W : WX} {σ : L2.St} {μ μ1 : Mu} {C C1 : CH} {H H1 : Hp} {Q : Option Int → Hp → Prop} {r : RO} (st : Step K μ C H μ1 C1 H1) (h : SatO T K W σ μ C H Q r) : SatO T K W σ μ1 C1 H1 Q r := by
  cases r with
  | ok v C' => exact fun μ' H' s => h μ' H' (st.trans s)
  | exc k fs l' C' => exact fun μ' H' σ' cls d s => h μ' H' σ' cls d (st.trans s)
  | bad => exact h
def oNone : OM := fun _ C => .ok none C
def oSome (m : EM) : OM := fun l C => match m l C with
  | .ok (.int i) C1 => .ok (some i) C1
  | .ok _ _ => .bad
  | .exc k fs l' C' => .exc k fs l' C'
  | .bad => .bad
theorem PO.imp {e : Option Expr} {t t' : TO} (h : PO X e t) (i : ∀ σ H Q, t' σ H Q → t σ H Q) : PO X e t' := ⟨fun pins s σ H Q I q => h.run pins s σ H Q I (i _ _ _ q)⟩
section
variable {W : WX} {a lo hi : Expr} {ma mlo mhi : EM} {pos p2 : Pos}
theorem xo_none : PO X none (tO T X.K W oNone) := PO.imp po_none fun _ H Q ⟨μ, l, C, r, rl, h⟩ => h μ H r.refl r
theorem xo_some {m : EM} (h : PE X a (tX T X.K W m)) : PO X (some a) (tO T X.K W (oSome m)) := by
  refine PO.imp (po_some h) fun σ H Q h => ?_
  obtain ⟨μ, l, C, r, rl, h⟩ := h
  refine ⟨μ, l, C, r, rl, ?_⟩
  unfold oSome at h
  cases ea : m l C with
  | bad =>
    rw [ea] at h
    exact h
  | exc k fs l' C' =>
    rw [ea] at h
    exact h
  | ok v C1 =>
    rw [ea] at h
    cases v with
    | int i =>
      intro μ1 H1 x st rel rv
      cases rv
      exact ⟨i, rfl, h μ1 H1 st rel⟩
    | _ => exact (show False from h).elim
def xSl (a : EM) (lo hi : OM) : EM := fun l C => match a l C with
  | .ok v C1 => (match lo l C1 with
    | .ok i C2 => (match hi l C2 with
      | .ok j C3 => fin (fSlice v i j C3)
      | .exc k fs l' C' => .exc k fs l' C'
      | .bad => .bad)
    | .exc k fs l' C' => .exc k fs l' C'
    | .bad => .bad)
  | .exc k fs l' C' => .exc k fs l' C'
  | .bad => .bad
theorem xe_slice {lo hi : Option Expr} {mlo mhi : OM} (ha : PE X a (tX T X.K W ma)) (hl : PO X lo (tO T X.K W mlo)) (hh : PO X hi (tO T X.K W mhi)) : PE X (.Subscript a (.Slice lo hi none p2) pos) (tX T X.K W (xSl ma mlo mhi)) := by
  refine PE.imp (pe_slice (sr_slice (T := T)) ha hl hh) fun σ H Q h => ?_
  obtain ⟨μ, l, C, r, rl, h⟩ := h
  refine ⟨μ, l, C, r, rl, ?_⟩
  unfold xSl at h
  cases ea : ma l C with
  | bad =>
    rw [ea] at h
    exact h
  | exc k fs l' C' =>
    rw [ea] at h
    exact h
  | ok v C1 =>
    rw [ea] at h
    intro μ1 H1 x st rel rv
    refine ⟨μ1, l, C1, rel, rl.step st, ?_⟩
    have h := h.shift st
    cases eb : mlo l C1 with
    | bad =>
      simp only [eb] at h
      exact h
    | exc k fs l' C' =>
      simp only [eb] at h
      exact h
    | ok i C2 =>
      simp only [eb] at h
      intro μ2 H2 st2 rel2
      refine ⟨μ2, l, C2, rel2, (rl.step st).step st2, ?_⟩
      have h := h.shift st2
      cases ec : mhi l C2 with
      | bad =>
        simp only [ec] at h
        exact h
      | exc k fs l' C' =>
        simp only [ec] at h
        exact h
      | ok j C3 =>
        simp only [ec] at h
        intro μ3 H3 st3 rel3
        exact ⟨μ3, C3, v, rel3, (rv.step st2).step st3, fin_sat (h.shift st3)⟩
end

/-! ### built-ins by values -/
abbrev FC := List CV → CH → O2
theorem rvs1 {nx : Nat} {v : CV} {xs : List V} (r : RVs K μ nx H [v] xs) : ∃ x, xs = [x] ∧ RV K μ nx H v x := by
  cases r with
  | cons h t =>
    cases t
    exact ⟨_, rfl, h⟩
theorem rvs2 {nx : Nat} {v w : CV} {xs : List V} (r : RVs K μ nx H [v, w] xs) : ∃ x y, xs = [x, y] ∧ RV K μ nx H v x ∧ RV K μ nx H w y := by
  cases r with
  | cons h t =>
    obtain ⟨y, e, q⟩ := rvs1 t
    subst e
    exact ⟨_, _, rfl, h, q⟩
def lenO (v : CV) (C : CH) : Option Nat := match v with
  | .tup xs => some xs.length
  | .str l => (match bnd l.length with
    | true => some l.length
    | false => none)
  | .ref n => (match C.get n with
    | some (.lst xs) => some xs.length
    | some (.dK kvs) => some kvs.length
    | some (.dT kvs) => some kvs.length
    | _ => none)
  | _ => none
def fLen : FC := fun vs C => match vs with
  | [v] => (match lenO v C with
    | some n => cI (n : Nat) C
    | none => none)
  | _ => none
theorem paired_len {α β : Type} {R : α → β → Prop} {l : List α} {m : List β} (h : Paired R l m) : m.length = l.length := (Paired.length h).symm
theorem or_len : CallR X (.builtin "len") (rMc T X.K fLen) := by
  intro pins s σ H xs us Q I rx ⟨μ, C, vs, r, rv, h⟩
  unfold fLen at h
  split at h
  · rename_i v
    obtain ⟨x, e, q⟩ := rvs1 rv
    subst e
    cases el : lenO v C with
    | none =>
      rw [el] at h
      exact sat_bad h
    | some n =>
      rw [el] at h
      have hq := h.q r (.int _)
      cases q with
      | tup h1 h2 =>
        unfold lenO at el
        cases el
        rw [← h2.length] at hq
        exact call_len_seq pins s σ H _ us Q I rx ⟨_, _, rfl, .inr (SqT.of h1), hq⟩
      | str l =>
        unfold lenO at el
        dsimp only at el
        cases eb : bnd l.length with
        | false =>
          rw [eb] at el
          cases el
        | true =>
          rw [eb] at el
          cases el
          refine call_len_str pins s σ H _ us Q I rx ⟨_, rfl, ?_, ?_⟩
          · show l.toArray.size ≤ sizeLine
            simpa using bnd_ok eb
          · have e : (⟨l.toArray⟩ : Str).length = l.length := by
              show l.toArray.size = _
              simp
            rw [e]
            exact hq
      | @ref m lt =>
        unfold lenO at el
        dsimp only at el
        cases eo : C.get m with
        | none =>
          rw [eo] at el
          cases el
        | some o =>
          rw [eo] at el
          have ob := r.obj m o eo
          cases o with
          | lst ys =>
            cases el
            obtain ⟨ws, g1, r1⟩ := ob
            rw [← r1.length] at hq
            exact call_len_seq pins s σ H _ us Q I rx ⟨_, _, rfl, .inl (SqL.of g1), hq⟩
          | dK kvs =>
            cases el
            obtain ⟨ws, g1, r1⟩ := ob
            rw [← paired_len r1] at hq
            exact call_lenD pins s σ H _ us Q I rx ⟨_, _, rfl, g1, hq⟩
          | dT kvs =>
            cases el
            obtain ⟨ws, g1, r1⟩ := ob
            rw [← paired_len r1] at hq
            exact call_len_dT pins s σ H _ us Q I rx ⟨_, _, rfl, g1, hq⟩
          | ins c fs => cases el
      | _ => cases el
  · exact sat_bad h

/-- all, any over data -/
def fits (d : PyData) : Bool := match d with
  | .str x => bnd x.cps.size
  | .list xs => bnd xs.length
  | .tuple xs => bnd xs.length
  | _ => true
theorem fits_ok {d : PyData} (h : fits d = true) : d.fits63 := by
  have k : ∀ n : Nat, bnd n = true → (n : Int) < 2 ^ 63 := fun n e => by
    have := bnd_ok e
    rw [sizeLine_eq] at this
    omega
  cases d with
  | str x => exact k _ h
  | list xs => exact k _ h
  | tuple xs => exact k _ h
  | _ => trivial
def allB (f : PyData → Bool) : List PyData → Bool
  | [] => true
  | d :: r => match f d with
    | true => allB f r
    | false => false
theorem allB_eq (f : PyData → Bool) : ∀ ds : List PyData, allB f ds = ds.all f
  | [] => rfl
  | d :: r => by
    unfold allB
    rw [List.all_cons]
    cases f d with
    | true => exact allB_eq f r
    | false => rfl
def anyB (f : PyData → Bool) : List PyData → Bool
  | [] => false
  | d :: r => match f d with
    | true => true
    | false => anyB f r
theorem anyB_eq (f : PyData → Bool) : ∀ ds : List PyData, anyB f ds = ds.any f
  | [] => rfl
  | d :: r => by
    unfold anyB
    rw [List.any_cons]
    cases f d with
    | true => rfl
    | false => exact anyB_eq f r
/-- a list's items as plain data -/
def lstD (v : CV) (C : CH) : Option (List PyData) := match v with
  | .ref n => (match isLst (C.get n) with
    | some xs => (match toDs C FU xs with
      | some ds => (match PyData.plainAll ds, allB fits ds with
        | true, true => some ds
        | _, _ => none)
      | none => none)
    | none => none)
  | _ => none
theorem lstD_ok (r : Rel T K μ C H) {v : CV} {x : V} (rv : RV K μ C.nx H v x) {ds : List PyData} (h : lstD v C = some ds) : ∃ a vs, x = .ref a ∧ SqL K H a vs ∧ DpAll K H vs ds ∧ PyData.plainAll ds = true ∧ ∀ d ∈ ds, d.fits63 := by
  cases rv with
  | @ref n lt =>
    unfold lstD at h
    dsimp only at h
    cases e1 : isLst (C.get n) with
    | none =>
      rw [e1] at h
      cases h
    | some xs =>
      simp only [e1] at h
      cases e2 : toDs C FU xs with
      | none =>
        simp only [e2] at h
        cases h
      | some es =>
        simp only [e2] at h
        cases e3 : PyData.plainAll es with
        | false =>
          simp only [e3] at h
          cases h
        | true =>
          cases e4 : allB fits es with
          | false =>
            simp only [e3, e4] at h
            cases h
          | true =>
            simp only [e3, e4] at h
            cases h
            obtain ⟨vs, g1, r1⟩ := r.obj n _ (isLst_ok e1)
            refine ⟨_, vs, rfl, SqL.of g1, toDs_ok r FU r1 e2, e3, fun d hd => fits_ok ?_⟩
            rw [allB_eq] at e4
            exact List.all_eq_true.mp e4 d hd
  | _ => cases h
def fAll : FC := fun vs C => match vs with
  | [v] => (match lstD v C with
    | some ds => cB (allB PyData.truthy ds) C
    | none => none)
  | _ => none
def fAny : FC := fun vs C => match vs with
  | [v] => (match lstD v C with
    | some ds => cB (anyB PyData.truthy ds) C
    | none => none)
  | _ => none
theorem or_all (hc : X.calm = true) : CallR X (.builtin "all") (rMc T X.K fAll) := by
  intro pins s σ H xs us Q I rx ⟨μ, C, vs, r, rv, h⟩
  unfold fAll at h
  split at h
  · rename_i v
    obtain ⟨x, e, q⟩ := rvs1 rv
    subst e
    cases el : lstD v C with
    | none =>
      rw [el] at h
      exact sat_bad h
    | some ds =>
      rw [el] at h
      have hq := h.q r (.bl _)
      obtain ⟨a, ws, e, h1, h2, h3, h4⟩ := lstD_ok r q el
      subst e
      obtain rfl := Vals.ref1 rx
      obtain ⟨its, r', pl, hz⟩ := I.list h1
      obtain ⟨as, rd⟩ := Dp.readsAll I ds _ its h2 r'
      rw [allB_eq] at hq
      exact PySem.W.all_list_data (I.ok.hd hc) pl.isList (by simpa using rd) h3 h4 fun h' tk hk => ⟨.bl _, H, I.kept hk, rfl, hq⟩
  · exact sat_bad h
theorem or_any (hc : X.calm = true) : CallR X (.builtin "any") (rMc T X.K fAny) := by
  intro pins s σ H xs us Q I rx ⟨μ, C, vs, r, rv, h⟩
  unfold fAny at h
  split at h
  · rename_i v
    obtain ⟨x, e, q⟩ := rvs1 rv
    subst e
    cases el : lstD v C with
    | none =>
      rw [el] at h
      exact sat_bad h
    | some ds =>
      rw [el] at h
      have hq := h.q r (.bl _)
      obtain ⟨a, ws, e, h1, h2, h3, h4⟩ := lstD_ok r q el
      subst e
      obtain rfl := Vals.ref1 rx
      obtain ⟨its, r', pl, hz⟩ := I.list h1
      obtain ⟨as, rd⟩ := Dp.readsAll I ds _ its h2 r'
      rw [anyB_eq] at hq
      exact PySem.W.any_list_data (I.ok.hd hc) pl.isList (by simpa using rd) h3 h4 fun h' tk hk => ⟨.bl _, H, I.kept hk, rfl, hq⟩
  · exact sat_bad h

/-- tuple(list), tuple(tuple), list(list), list(tuple) -/
def fTuple : FC := fun vs C => match vs with
  | [.tup xs] => some (.tup xs, C)
  | [.ref n] => (match isLst (C.get n) with
    | some xs => some (.tup xs, C)
    | none => none)
  | _ => none
def fList : FC := fun vs C => match vs with
  | [.tup xs] => some (.ref C.nx, C.add (.lst xs))
  | [.ref n] => (match isLst (C.get n) with
    | some xs => some (.ref C.nx, C.add (.lst xs))
    | none => none)
  | _ => none
theorem or_tuple : CallR X (.type "tuple") (rMc T X.K fTuple) := by
  intro pins s σ H xs us Q I rx ⟨μ, C, vs, r, rv, h⟩
  unfold fTuple at h
  split at h
  · obtain ⟨x, e, q⟩ := rvs1 rv
    subst e
    cases q with
    | tup h1 h2 => exact call_tuple_of pins s σ H _ us Q I rx ⟨_, _, rfl, .inr ⟨SqT.of h1, h.q r (.tup h1 h2)⟩⟩
  · rename_i n
    obtain ⟨x, e, q⟩ := rvs1 rv
    subst e
    cases q with
    | ref lt =>
      cases e1 : isLst (C.get n) with
      | none =>
        rw [e1] at h
        exact sat_bad h
      | some ys =>
        rw [e1] at h
        obtain ⟨ws, g1, r1⟩ := r.obj n _ (isLst_ok e1)
        exact call_tuple_of pins s σ H _ us Q I rx ⟨_, _, rfl, .inl ⟨SqL.of g1, h.qT r r1⟩⟩
  · exact sat_bad h
theorem or_list : CallR X (.type "list") (rMc T X.K fList) := by
  intro pins s σ H xs us Q I rx ⟨μ, C, vs, r, rv, h⟩
  unfold fList at h
  split at h
  · obtain ⟨x, e, q⟩ := rvs1 rv
    subst e
    cases q with
    | tup h1 h2 => exact call_list_of pins s σ H _ us Q I rx ⟨_, _, rfl, .inr (SqT.of h1), h.qL r h2⟩
  · rename_i n
    obtain ⟨x, e, q⟩ := rvs1 rv
    subst e
    cases q with
    | ref lt =>
      cases e1 : isLst (C.get n) with
      | none =>
        rw [e1] at h
        exact sat_bad h
      | some ys =>
        rw [e1] at h
        obtain ⟨ws, g1, r1⟩ := r.obj n _ (isLst_ok e1)
        exact call_list_of pins s σ H _ us Q I rx ⟨_, _, rfl, .inl (SqL.of g1), h.qL r r1⟩
  · exact sat_bad h
/-- sum, max of a list of ints; max, min of two -/
def lstI (v : CV) (C : CH) : Option (List Int) := match v with
  | .ref n => (match isLst (C.get n) with
    | some xs => intsOf xs
    | none => none)
  | _ => none
theorem lstI_ok (r : Rel T K μ C H) {v : CV} {x : V} (rv : RV K μ C.nx H v x) {is : List Int} (h : lstI v C = some is) : ∃ a, x = .ref a ∧ SqL K H a (is.map V.int) := by
  cases rv with
  | @ref n lt =>
    unfold lstI at h
    dsimp only at h
    cases e1 : isLst (C.get n) with
    | none =>
      rw [e1] at h
      cases h
    | some xs =>
      rw [e1] at h
      obtain ⟨vs, g1, r1⟩ := r.obj n _ (isLst_ok e1)
      rw [intsOf_ok r1 h] at g1
      exact ⟨_, rfl, SqL.of g1⟩
  | _ => cases h
def sumI : List Int → Int
  | [] => 0
  | i :: r => i + sumI r
theorem sumI_eq : ∀ l : List Int, sumI l = l.sum
  | [] => rfl
  | i :: r => by
    unfold sumI
    rw [sumI_eq r, List.sum_cons]
def fSum : FC := fun vs C => match vs with
  | [v] => (match lstI v C with
    | some is => cI (sumI is) C
    | none => none)
  | _ => none
theorem or_sum (hc : X.calm = true) : CallR X (.builtin "sum") (rMc T X.K fSum) := by
  intro pins s σ H xs us Q I rx ⟨μ, C, vs, r, rv, h⟩
  unfold fSum at h
  split at h
  · rename_i v
    obtain ⟨x, e, q⟩ := rvs1 rv
    subst e
    cases el : lstI v C with
    | none =>
      rw [el] at h
      exact sat_bad h
    | some is =>
      rw [el] at h
      obtain ⟨a, e, h1⟩ := lstI_ok r q el
      subst e
      have hq := h.q r (.int _)
      rw [sumI_eq] at hq
      exact cr_sum hc pins s σ H _ us Q I rx ⟨a, is, rfl, h1, hq⟩
  · exact sat_bad h
def maxI (i : Int) : List Int → Int
  | [] => i
  | j :: r => match ltI i j with
    | true => maxI j r
    | false => maxI i r
theorem maxI_ok : ∀ (l : List Int) (i : Int), maxI i l ∈ i :: l ∧ ∀ y ∈ i :: l, y ≤ maxI i l
  | [], i => by simp [maxI]
  | j :: r, i => by
    unfold maxI
    have e := ltI_ok i j
    cases hl : ltI i j with
    | true =>
      rw [hl] at e
      have lt : i < j := of_decide_eq_true e
      obtain ⟨h1, h2⟩ := maxI_ok r j
      refine ⟨List.mem_cons_of_mem _ h1, fun y hy => ?_⟩
      rcases List.mem_cons.mp hy with rfl | hy
      · have := h2 j List.mem_cons_self
        show y ≤ maxI j r
        omega
      · exact h2 y hy
    | false =>
      rw [hl] at e
      have le : ¬ i < j := of_decide_eq_false e
      obtain ⟨h1, h2⟩ := maxI_ok r i
      refine ⟨?_, fun y hy => ?_⟩
      · rcases List.mem_cons.mp h1 with h1 | h1
        · show maxI i r ∈ _
          rw [h1]
          exact List.mem_cons_self
        · exact List.mem_cons_of_mem _ (List.mem_cons_of_mem _ h1)
      · show y ≤ maxI i r
        rcases List.mem_cons.mp hy with rfl | hy
        · exact h2 y List.mem_cons_self
        · rcases List.mem_cons.mp hy with rfl | hy
          · have := h2 i List.mem_cons_self
            omega
          · exact h2 y (List.mem_cons_of_mem _ hy)
def fMax : FC := fun vs C => match vs with
  | [v] => (match lstI v C with
    | some (i :: is) => cI (maxI i is) C
    | _ => none)
  | _ => none
theorem or_max (hc : X.calm = true) : CallR X (.builtin "max") (rMc T X.K fMax) := by
  intro pins s σ H xs us Q I rx ⟨μ, C, vs, r, rv, h⟩
  unfold fMax at h
  split at h
  · rename_i v
    obtain ⟨x, e, q⟩ := rvs1 rv
    subst e
    cases el : lstI v C with
    | none =>
      rw [el] at h
      exact sat_bad h
    | some is =>
      rw [el] at h
      cases is with
      | nil => exact sat_bad h
      | cons i is =>
        obtain ⟨a, e, h1⟩ := lstI_ok r q el
        subst e
        have hq := h.q r (.int _)
        obtain ⟨m1, m2⟩ := maxI_ok is i
        refine cr_max hc pins s σ H _ us Q I rx ⟨a, i :: is, rfl, h1, by simp, fun m hm hy => ?_⟩
        have e1 := hy _ m1
        have e2 := m2 m hm
        have : m = maxI i is := by omega
        rw [this]
        exact hq
  · exact sat_bad h
def minI (i j : Int) : Int := match ltI j i with
  | true => j
  | false => i
def fMin2 : FC := fun vs C => match vs with
  | [.int i, .int j] => cI (minI i j) C
  | _ => none
theorem or_min2 (hc : X.calm = true) : CallR X (.builtin "min") (rMc T X.K fMin2) := by
  intro pins s σ H xs us Q I rx ⟨μ, C, vs, r, rv, h⟩
  unfold fMin2 at h
  split at h
  · rename_i i j
    obtain ⟨x, y, e, q1, q2⟩ := rvs2 rv
    subst e
    cases q1
    cases q2
    have hq := h.q r (.int _)
    refine call_min2 hc pins s σ H _ us Q I rx ⟨i, j, rfl, ?_⟩
    have e := ltI_ok j i
    unfold minI at hq
    cases hl : ltI j i with
    | true =>
      rw [hl] at e hq
      rw [if_pos (of_decide_eq_true e)]
      exact hq
    | false =>
      rw [hl] at e hq
      rw [if_neg (of_decide_eq_false e)]
      exact hq
  · exact sat_bad h
/-- ints as texts, texts as ints: below 100 -/
def dec2 (n : Nat) : List Nat := match Nat.blt n 10 with
  | true => [48 + n]
  | false => [48 + n / 10, 48 + n % 10]
theorem dec2_ok : ∀ n : Nat, n < 100 → (toString (n : Int) : Str) = (⟨(dec2 n).toArray⟩ : Str) := by
  decide +kernel
end Ex

set_option Elab.async false
set_option linter.all false
set_option maxRecDepth 100000
/-! Ex6: built-in methods, conversions, f-strings, sorted. -/
namespace Ex
open PySem PySem.Spec PyProof.Rows L2 TL NumText
variable {T : Tab} {K : PySem.W.Frag} {X : Cx} {μ : Mu} {C : CH} {H : Hp}

/-! ### o.m(..) of a built-in type -/
def isT (t : Nat) (v : CV) (C : CH) : Bool := match t, v with
  | 0, .str _ => true
  | 1, .ref n => (match C.get n with
    | some (.lst _) => true
    | _ => false)
  | 2, .ref n => (match C.get n with
    | some (.dK _) => true
    | some (.dT _) => true
    | _ => false)
  | _, _ => false
def tyN : Nat → String
  | 0 => "str"
  | 1 => "list"
  | _ => "dict"
theorem isT_ok (r : Rel T K μ C H) {t : Nat} {v : CV} {x : V} (rv : RV K μ C.nx H v x) (h : isT t v C = true) : tyV K (tyN t) x H := by
  unfold isT at h
  split at h
  · cases rv
    rfl
  · rename_i n
    cases rv
    cases e : C.get n with
    | none =>
      rw [e] at h
      cases h
    | some o =>
      rw [e] at h
      cases o with
      | lst xs =>
        obtain ⟨vs, g, _⟩ := r.obj n _ e
        exact .inl ⟨rfl, vs, SqL.of g⟩
      | _ => cases h
  · rename_i n
    cases rv
    cases e : C.get n with
    | none =>
      rw [e] at h
      cases h
    | some o =>
      rw [e] at h
      cases o with
      | dK kvs =>
        obtain ⟨vs, g, _⟩ := r.obj n _ e
        exact .inr (.inr (.inl ⟨rfl, .inl ⟨vs, g⟩⟩))
      | dT kvs =>
        obtain ⟨vs, g, _⟩ := r.obj n _ e
        exact .inr (.inr (.inl ⟨rfl, .inr ⟨vs, g⟩⟩))
      | _ => cases h
  · cases h
def xBM (t : Nat) (f : FC) (o : EM) (as : AM) : EM := fun l C => match o l C with
  | .ok v C1 => (match isT t v C1 with
    | true => (match as l C1 with
      | .ok vs C2 => fin (f (v :: vs) C2)
      | .exc k fs l' C' => .exc k fs l' C'
      | .bad => .bad)
    | false => .bad)
  | .exc k fs l' C' => .exc k fs l' C'
  | .bad => .bad
variable (T K)
def rMm (f : FC) : V → List V → Hp → VK → Prop := fun x xs H Q => rMc T K f (x :: xs) H Q
variable {T K}
section
variable {W : WX} {o e : Expr} {es : List Expr} {mo : EM} {as : AM} {apos cpos : Pos} {name : Str} {id : String} {t : Nat} {f : FC}
theorem bm_ok {σ : L2.St} {H : Hp} {Q : VK} (h : tX T K W (xBM t f mo as) σ H Q) : tBM K (tyN t) (rMm T K f) (tX T K W mo) (tA T K W as) σ H Q := by
  obtain ⟨μ, l, C, r, rl, h⟩ := h
  refine ⟨μ, l, C, r, rl, ?_⟩
  unfold xBM at h
  cases ea : mo l C with
  | bad =>
    rw [ea] at h
    exact h
  | exc k fs l' C' =>
    rw [ea] at h
    exact h
  | ok v C1 =>
    rw [ea] at h
    dsimp only at h
    cases et : isT t v C1 with
    | false =>
      rw [et] at h
      exact sat_bad h
    | true =>
      rw [et] at h
      intro μ1 H1 x st rel rv
      refine ⟨isT_ok rel rv et, μ1, l, C1, rel, rl.step st, ?_⟩
      have h := h.shift st
      cases eb : as l C1 with
      | bad =>
        simp only [eb] at h
        exact h
      | exc k fs l' C' =>
        simp only [eb] at h
        exact h
      | ok vs C2 =>
        simp only [eb] at h
        intro μ2 H2 xs st2 rel2 rvs
        exact ⟨μ2, C2, v :: vs, rel2, .cons (rv.step st2) rvs, fin_sat (h.shift st2)⟩
theorem xe_bm (pa : PlainAttrs (tyN t)) (slot : Slot (tyN t) name id) (hty : typeOf (.builtin id) = pure (.type "method_descriptor")) (hm : MtR X id (rMm T X.K f)) (ho : PE X o (tX T X.K W mo)) (ha : PA X (e :: es) (tA T X.K W as))
    (hbase : attributeBase o name X.env (eval o X.env) = eval o X.env := by rfl)
    (hfew : ((backTo cpos (starEach (e :: es) X.env)).all (fun x => !x.1) && (backToKw cpos (keywordEach [] X.env)).all (fun x => x.1.isSome)
      && decide ((e :: es).length + ([] : List Keyword).length + (if ([] : List Keyword).isEmpty then 0 else 1) < 30)) = true := by rfl)
    (hline : (apos.endLine == cpos.line) = true := by rfl) (hs : starEach (e :: es) X.env = (false, eval e X.env) :: starEach es X.env := by rfl) (hplain : (backTo cpos (starEach es X.env)).any (·.1) = false := by rfl) :
    PE X (.Call (.Attribute o name apos) (e :: es) [] cpos) (tX T X.K W (xBM t f mo as)) :=
  PE.imp (pe_bm pa slot hty hm ho ha hbase hfew hline hs hplain) fun _ _ _ h => bm_ok h
theorem xe_bm0 (pa : PlainAttrs (tyN t)) (slot : Slot (tyN t) name id) (hty : typeOf (.builtin id) = pure (.type "method_descriptor")) (hm : MtR X id (rMm T X.K f)) (ho : PE X o (tX T X.K W mo))
    (hbase : attributeBase o name X.env (eval o X.env) = eval o X.env := by rfl) (hline : (apos.endLine == cpos.line) = true := by rfl) : PE X (.Call (.Attribute o name apos) [] [] cpos) (tX T X.K W (xBM t f mo aNil)) := by
  refine PE.imp (pe_bm0 pa slot hty hm ho hbase hline) fun σ H Q h => ?_
  obtain ⟨μ, l, C, r, rl, h⟩ := bm_ok h
  refine ⟨μ, l, C, r, rl, ?_⟩
  cases ea : mo l C with
  | bad =>
    rw [ea] at h
    exact h
  | exc k fs l' C' =>
    rw [ea] at h
    exact h
  | ok v C1 =>
    rw [ea] at h
    intro μ1 H1 x st rel rv
    obtain ⟨h1, μ2, l2, C2, r2, rl2, h2⟩ := h μ1 H1 x st rel rv
    exact ⟨h1, h2 μ2 H1 [] r2.refl r2 .nil⟩
end

/-! ### texts -/
def stC (l : List Nat) : Str := ⟨l.toArray⟩
theorem stC_len (l : List Nat) : (stC l).length = l.length := by
  show l.toArray.size = _
  simp
theorem stC_tl (x : Str) : stC x.cps.toList = x := by
  cases x
  simp [stC]
/-- a new list of texts -/
def nStrs (ls : List (List Nat)) (C : CH) : O2 := some (.ref C.nx, C.add (.lst (ls.map .str)))
theorem rvs_strs {nx : Nat} : ∀ ls : List (List Nat), RVs K μ nx H (ls.map .str) ((ls.map stC).map V.str)
  | [] => .nil
  | l :: r => .cons (.str l) (rvs_strs r)
theorem Sat.qS {W : WX} {σ : L2.St} {Q : VK} {ls : List (List Nat)} (h : Sat T K W σ μ C H Q (fin (nStrs ls C))) (r : Rel T K μ C H) : rNewStrs (ls.map stC) H Q := fun p hp => h.qL r (rvs_strs ls) p hp
def ascii : List Nat → Bool
  | [] => true
  | c :: r => match Nat.blt c 256 with
    | true => ascii r
    | false => false
theorem ascii_ok : ∀ {l : List Nat}, ascii l = true → l.all (fun c => decide (c < 256)) = true
  | [], _ => rfl
  | c :: r, h => by
    unfold ascii at h
    cases e : Nat.blt c 256 with
    | false =>
      rw [e] at h
      cases h
    | true =>
      rw [e] at h
      have : c < 256 := by simpa using e
      simp [this, ascii_ok h]
/-- text.split(sep) -/
def fSplit : FC := fun vs C => match vs with
  | [.str l, .str (c :: sep)] => (match ascii (c :: sep), bnd l.length with
    | true, true => nStrs (spl (c :: sep) 0 [] l) C
    | _, _ => none)
  | _ => none
theorem mr_split : MtR X "str.split" (rMm T X.K fSplit) := by
  intro pins s σ H x xs v us Q I rx rs ⟨μ, C, vs, r, rv, h⟩
  unfold fSplit at h
  split at h
  · rename_i l c sep
    cases rv with
    | cons h1 h2 =>
      obtain ⟨y, e, h3⟩ := rvs1 h2
      subst e
      cases h1
      cases h3
      cases e1 : ascii (c :: sep) with
      | false =>
        simp only [e1] at h
        exact sat_bad h
      | true =>
        cases e2 : bnd l.length with
        | false =>
          simp only [e1, e2] at h
          exact sat_bad h
        | true =>
          simp only [e1, e2] at h
          have q := h.qS r
          have key := split_spl (stC l) (stC (c :: sep)) (by simp [stC]) (kind_ok (by
            have := ascii_ok e1
            show ((c :: sep).toArray).all _ = true
            simpa using this))
          have e3 : (spl (c :: sep) 0 [] l).map stC = Txt.split (stC l) (stC (c :: sep)) := by
            have e4 : spl (c :: sep) 0 [] l = (Txt.split (stC l) (stC (c :: sep))).map tl := key.symm
            rw [e4, List.map_map]
            conv => rhs; rw [← List.map_id (Txt.split (stC l) (stC (c :: sep)))]
            exact List.map_congr_left fun z _ => stC_tl z
          rw [e3] at q
          refine mt_split pins s σ H _ _ v us Q I rx rs ⟨stC l, stC (c :: sep), rfl, rfl, ?_, ?_, q⟩
          · rw [stC_len]
            rfl
          · rw [stC_len]
            have := Nat.le_of_ble_eq_true e2
            rw [sizeLine_eq]
            omega
  · exact sat_bad h
/-- text.split(sep, k) -/
def fSplitM : FC := fun vs C => match vs with
  | [.str l, .str (c :: sep), .int k] => (match smallI k, bnd l.length with
    | true, true => nStrs ((Txt.splitMax (stC l) (stC (c :: sep)) k).map fun z => z.cps.toList) C
    | _, _ => none)
  | _ => none
theorem mr_splitM : MtR X "str.split" (rMm T X.K fSplitM) := by
  intro pins s σ H x xs v us Q I rx rs ⟨μ, C, vs, r, rv, h⟩
  unfold fSplitM at h
  split at h
  · rename_i l c sep k
    cases rv with
    | cons h1 h2 =>
      obtain ⟨y, z, e, h3, h4⟩ := rvs2 h2
      subst e
      cases h1
      cases h3
      cases h4
      cases e1 : smallI k with
      | false =>
        simp only [e1] at h
        exact sat_bad h
      | true =>
        cases e2 : bnd l.length with
        | false =>
          simp only [e1, e2] at h
          exact sat_bad h
        | true =>
          simp only [e1, e2] at h
          have q := h.qS r
          rw [List.map_map] at q
          have e3 : (Txt.splitMax (stC l) (stC (c :: sep)) k).map (stC ∘ fun z => z.cps.toList) = Txt.splitMax (stC l) (stC (c :: sep)) k := by
            conv => rhs; rw [← List.map_id (Txt.splitMax (stC l) (stC (c :: sep)) k)]
            exact List.map_congr_left fun z _ => stC_tl z
          rw [e3] at q
          have b := smallI_ok e1
          refine mt_splitMax pins s σ H _ _ v us Q I rx rs ⟨stC l, stC (c :: sep), k, rfl, rfl, ?_, b.1, b.2, ?_, q⟩
          · rw [stC_len]
            rfl
          · rw [stC_len]
            have := Nat.le_of_ble_eq_true e2
            rw [sizeLine_eq]
            omega
  · exact sat_bad h
/-- sep.join(list of texts) -/
def strsOf : List CV → Option (List (List Nat))
  | [] => some []
  | .str l :: r => match strsOf r with
    | some ls => some (l :: ls)
    | none => none
  | _ :: _ => none
theorem strsOf_ok {nx : Nat} : ∀ {vs : List CV} {xs : List V} {ls : List (List Nat)}, RVs K μ nx H vs xs → strsOf vs = some ls → xs = (ls.map stC).map V.str
  | _, _, _, .nil, h => by
    unfold strsOf at h
    cases h
    rfl
  | v :: vs, _, ls, .cons h1 h2, h => by
    cases h1 with
    | str l =>
      unfold strsOf at h
      cases e : strsOf vs with
      | none =>
        rw [e] at h
        cases h
      | some ms =>
        rw [e] at h
        cases h
        rw [strsOf_ok h2 e]
        rfl
    | _ => cases h
def joinC (sep : List Nat) : List (List Nat) → List Nat
  | [] => []
  | [l] => l
  | l :: r => l ++ (sep ++ joinC sep r)
def sumN : List (List Nat) → Nat
  | [] => 0
  | l :: r => l.length + sumN r
theorem sumN_ok : ∀ ls : List (List Nat), ((ls.map stC).map (·.length)).sum = sumN ls
  | [] => rfl
  | l :: r => by
    rw [List.map_cons, List.map_cons, List.sum_cons, sumN_ok r, stC_len]
    rfl
theorem stC_app (a b : List Nat) : stC (a ++ b) = stC a ++ stC b := str_app a b
theorem sjoin (sep : List Nat) : ∀ ls : List (List Nat), Str.join (stC sep) (ls.map stC) = stC (joinC sep ls)
  | [] => rfl
  | [l] => rfl
  | l :: m :: r => by
    show stC l ++ stC sep ++ Str.join (stC sep) ((m :: r).map stC) = stC (l ++ (sep ++ joinC sep (m :: r)))
    rw [sjoin sep (m :: r), stC_app, stC_app, Str.append_assoc]
theorem tl_join (sep : List Nat) (ls : List (List Nat)) : Txt.join (stC sep) (ls.map stC) = stC (joinC sep ls) :=
  (StrLaws.glued_eq_join (stC sep) (ls.map stC)).trans (sjoin sep ls)
def fJoin : FC := fun vs C => match vs with
  | [.str sep, .ref n] => (match isLst (C.get n) with
    | some xs => (match strsOf xs with
      | some ls => (match bnd (sumN ls + ls.length * sep.length) with
        | true => some (.str (joinC sep ls), C)
        | false => none)
      | none => none)
    | none => none)
  | _ => none
theorem mr_join : MtR X "str.join" (rMm T X.K fJoin) := by
  intro pins s σ H x xs v us Q I rx rs ⟨μ, C, vs, r, rv, h⟩
  unfold fJoin at h
  split at h
  · rename_i sep n
    cases rv with
    | cons h1 h2 =>
      obtain ⟨y, e, h3⟩ := rvs1 h2
      subst e
      cases h1
      cases h3
      cases e1 : isLst (C.get n) with
      | none =>
        simp only [e1] at h
        exact sat_bad h
      | some ys =>
        simp only [e1] at h
        cases e2 : strsOf ys with
        | none =>
          simp only [e2] at h
          exact sat_bad h
        | some ls =>
          simp only [e2] at h
          cases e3 : bnd (sumN ls + ls.length * sep.length) with
          | false =>
            simp only [e3] at h
            exact sat_bad h
          | true =>
            simp only [e3] at h
            obtain ⟨ws, g1, r1⟩ := r.obj n _ (isLst_ok e1)
            have q := h.q r (.str _)
            rw [strsOf_ok r1 e2] at g1
            refine mt_join pins s σ H _ _ v us Q I rx rs ⟨stC sep, _, ls.map stC, rfl, rfl, .inl (SqL.of g1), ?_, ?_⟩
            · have := Nat.le_of_ble_eq_true e3
              rw [sumN_ok, List.length_map, stC_len]
              omega
            · rw [tl_join]
              exact q
  · exact sat_bad h

/-! ### str(int), int(text), int(bool) -/
def fStr : FC := fun vs C => match vs with
  | [.int (.ofNat n)] => (match Nat.blt n 100 with
    | true => some (.str (dec2 n), C)
    | false => none)
  | _ => none
theorem log_small {n : Nat} (h : n < 100) : (Int.ofNat n).natAbs.log2 < 1920 := by
  show n.log2 < 1920
  by_cases z : n = 0
  · subst z
    decide
  · have := (Nat.log2_lt z).mpr (show n < 2 ^ 7 by omega)
    omega
theorem or_str : CallR X (.type "str") (rMc T X.K fStr) := by
  intro pins s σ H xs us Q I rx ⟨μ, C, vs, r, rv, h⟩
  unfold fStr at h
  split at h
  · rename_i n
    obtain ⟨x, e, q⟩ := rvs1 rv
    subst e
    cases q
    cases e1 : Nat.blt n 100 with
    | false =>
      rw [e1] at h
      exact sat_bad h
    | true =>
      rw [e1] at h
      have lt : n < 100 := by simpa using e1
      have hq := h.q r (.str _)
      refine call_str_int pins s σ H _ us Q I rx ⟨_, rfl, log_small lt, ?_⟩
      have e2 := dec2_ok n lt
      rw [show (Int.ofNat n) = (n : Int) from rfl, e2]
      exact hq
  · exact sat_bad h
def digC : Nat → List Nat → Option Nat
  | a, [] => some a
  | a, c :: r => match Nat.ble 48 c, Nat.ble c 57 with
    | true, true => digC (a * 10 + (c - 48)) r
    | _, _ => none
theorem digC_ok : ∀ (l : List Nat) (a n : Nat), digC a l = some n → AllDigits l ∧ l.foldl (fun acc c => acc * 10 + (c - 48)) a = n
  | [], a, n, h => by
    unfold digC at h
    cases h
    exact ⟨(fun c hc => nomatch hc), rfl⟩
  | c :: r, a, n, h => by
    unfold digC at h
    cases e1 : Nat.ble 48 c with
    | false =>
      simp only [e1] at h
      cases h
    | true =>
      cases e2 : Nat.ble c 57 with
      | false =>
        simp only [e1, e2] at h
        cases h
      | true =>
        simp only [e1, e2] at h
        obtain ⟨h1, h2⟩ := digC_ok r _ n h
        refine ⟨fun d hd => ?_, h2⟩
        rcases List.mem_cons.mp hd with rfl | hd
        · exact ⟨Nat.le_of_ble_eq_true e1, Nat.le_of_ble_eq_true e2⟩
        · exact h1 d hd
def fInt : FC := fun vs C => match vs with
  | [.int i] => cI i C
  | [.bl b] => cI (match b with
    | true => 1
    | false => 0) C
  | [.str (c :: l)] => (match Nat.ble l.length 600, digC 0 (c :: l) with
    | true, some n => cI (n : Nat) C
    | _, _ => none)
  | _ => none
theorem or_int : CallR X (.type "int") (rMc T X.K fInt) := by
  intro pins s σ H xs us Q I rx ⟨μ, C, vs, r, rv, h⟩
  unfold fInt at h
  split at h
  · obtain ⟨x, e, q⟩ := rvs1 rv
    subst e
    cases q
    exact call_int1 pins s σ H _ us Q I rx (.inl ⟨_, rfl, h.q r (.int _)⟩)
  · rename_i b
    obtain ⟨x, e, q⟩ := rvs1 rv
    subst e
    cases q
    have hq := h.q r (.int _)
    refine call_int1 pins s σ H _ us Q I rx (.inr ⟨_, rfl, ?_⟩)
    cases b with
    | true => exact hq
    | false => exact hq
  · rename_i c l
    obtain ⟨x, e, q⟩ := rvs1 rv
    subst e
    cases q
    cases e1 : Nat.ble l.length 600 with
    | false =>
      simp only [e1] at h
      exact sat_bad h
    | true =>
      cases e2 : digC 0 (c :: l) with
      | none =>
        simp only [e1, e2] at h
        exact sat_bad h
      | some n =>
        simp only [e1, e2] at h
        have le := Nat.le_of_ble_eq_true e1
        obtain ⟨h1, h2⟩ := digC_ok _ _ _ e2
        have hl : (stC (c :: l)).length ≤ 601 := by
          rw [stC_len, List.length_cons]
          omega
        have e3 := intText_digits (x := stC (c :: l)) h1 (by simp [stC]) (by omega)
        have e4 : digitsVal (stC (c :: l)).cps.toList = n := h2
        rw [e4] at e3
        exact call_int_str pins s σ H _ us Q I rx ⟨stC (c :: l), _, rfl, e3, by omega, h.q r (.int _)⟩
  · exact sat_bad h

/-! ### isinstance of built-in types -/
def tyC (v : CV) (C : CH) : Option Nat := match v with
  | .non => some 0
  | .bl _ => some 1
  | .int _ => some 2
  | .str _ => some 3
  | .tup _ => some 4
  | .ref n => (match C.get n with
    | some (.lst _) => some 5
    | some (.dK _) => some 6
    | _ => none)
def tyS : Nat → String
  | 0 => "NoneType"
  | 1 => "bool"
  | 2 => "int"
  | 3 => "str"
  | 4 => "tuple"
  | 5 => "list"
  | _ => "dict"
theorem tyC_ok (r : Rel T K μ C H) {v : CV} {x : V} (rv : RV K μ C.nx H v x) {t : Nat} (h : tyC v C = some t) : TyX K H x (.type (tyS t)) ∧ t < 7 := by
  cases rv with
  | non => cases h; exact ⟨.base .non, by decide⟩
  | bl b => cases h; exact ⟨.base (.bl b), by decide⟩
  | int i => cases h; exact ⟨.base (.int i), by decide⟩
  | str l => cases h; exact ⟨.base (.str _), by decide⟩
  | tup h1 h2 => cases h; exact ⟨.base (.tup h1), by decide⟩
  | @ref n lt =>
    unfold tyC at h
    dsimp only at h
    cases e : C.get n with
    | none =>
      rw [e] at h
      cases h
    | some o =>
      rw [e] at h
      have q := r.obj n o e
      cases o with
      | lst xs =>
        cases h
        obtain ⟨vs, g, _⟩ := q
        exact ⟨.base (.lst g), by decide⟩
      | dK kvs =>
        cases h
        obtain ⟨vs, g, _⟩ := q
        exact ⟨.base (.dK g), by decide⟩
      | _ => cases h
/-- is a value of the type t an instance of the type b (bool 1, int 2, str 3, tuple 4) -/
def isiN (b t : Nat) : Bool := match Nat.beq b t with
  | true => true
  | false => Nat.beq b 2 && Nat.beq t 1
theorem isiN_ok : ∀ t : Nat, t < 7 → ∀ b : Nat, b < 5 → 0 < b → kitB (tyS t) (tyS b) = some (isiN b t) := by
  decide +kernel
def xIsi (b : Nat) (m : EM) : EM := fun l C => match m l C with
  | .ok v C1 => (match tyC v C1 with
    | some t => .ok (.bl (isiN b t)) C1
    | none => .bad)
  | .exc k fs l' C' => .exc k fs l' C'
  | .bad => .bad
section
variable {W : WX} {e : Expr} {m : EM} {p p2 pos : Pos}
theorem xe_isi {b : Nat} {c : Expr} (hb : b < 5) (h0 : 0 < b) (hg : Gl X "isinstance") (hm : X.mg "isinstance" = none) (he : PE X e (tX T X.K W m)) (hc : PE X c (tC (.ty (tyS b)))) (hv : bootBuiltins "isinstance" = some (.builtin "isinstance"))
    (h1 : starEach [e, c] X.env = (false, eval e X.env) :: starEach [c] X.env := by rfl) (h2 : starEach [c] X.env = (false, eval c X.env) :: starEach [] X.env := by rfl) (hpl : (backTo pos (starEach [c] X.env)).any (·.1) = false := by rfl) :
    PE X (.Call (.Name "isinstance" p) [e, c] [] pos) (tX T X.K W (xIsi b m)) := by
  refine PE.imp (pe_callB call_isi hg hm hv (pa_cons he (pa_cons hc pa_nil h2) h1) (by decide) (by decide) h1 hpl) fun σ H Q h => ?_
  obtain ⟨μ, l, C, r, rl, h⟩ := h
  refine ⟨μ, l, C, r, rl, ?_⟩
  unfold xIsi at h
  cases ea : m l C with
  | bad =>
    rw [ea] at h
    exact h
  | exc k fs l' C' =>
    rw [ea] at h
    exact h
  | ok v C1 =>
    rw [ea] at h
    intro μ1 H1 x st rel rv
    dsimp only at h
    cases et : tyC v C1 with
    | none =>
      rw [et] at h
      exact sat_bad h
    | some t =>
      rw [et] at h
      obtain ⟨ty, lt⟩ := tyC_ok rel rv et
      exact ⟨x, _, _, _, _, rfl, .ty _, ty, kit_ty (isiN_ok t lt b hb h0), h μ1 H1 _ st rel (.bl _)⟩
end
end Ex

set_option Elab.async false
set_option linter.all false
set_option maxRecDepth 100000
/-! Ex7: f-strings, list methods, attributes, methods, constructors, dicts. -/
namespace Ex
open PySem PySem.Spec PyProof.Rows L2 TL
variable {T : Tab} {K : PySem.W.Frag} {X : Cx} {μ : Mu} {C : CH} {H : Hp}

/-! ### f-strings -/
def xFmt (m : EM) : EM := fun l C => match m l C with
  | .ok (.str y) C1 => (match bnd y.length with
    | true => .ok (.str y) C1
    | false => .bad)
  | .ok (.int (.ofNat n)) C1 => (match Nat.blt n 100 with
    | true => .ok (.str (dec2 n)) C1
    | false => .bad)
  | .ok _ _ => .bad
  | .exc k fs l' C' => .exc k fs l' C'
  | .bad => .bad
section
variable {W : WX} {e : Expr} {m : EM} {pos : Pos}
theorem xe_fmt (he : PE X e (tX T X.K W m)) : PE X (.FormattedValue e (-1) none pos) (tX T X.K W (xFmt m)) := by
  refine PE.imp (pe_fmt he) fun σ H Q h => ?_
  obtain ⟨μ, l, C, r, rl, h⟩ := h
  refine ⟨μ, l, C, r, rl, ?_⟩
  unfold xFmt at h
  cases ea : m l C with
  | bad =>
    rw [ea] at h
    exact h
  | exc k fs l' C' =>
    rw [ea] at h
    exact h
  | ok v C1 =>
    rw [ea] at h
    intro μ1 H1 x st rel rv
    cases rv with
    | str y =>
      dsimp only at h
      cases e1 : bnd y.length with
      | false =>
        rw [e1] at h
        exact sat_bad h
      | true =>
        rw [e1] at h
        refine .inl ⟨_, rfl, ?_, h μ1 H1 _ st rel (.str y)⟩
        show y.toArray.size ≤ sizeLine
        simpa using bnd_ok e1
    | int i =>
      cases i with
      | ofNat n =>
        dsimp only at h
        cases e1 : Nat.blt n 100 with
        | false =>
          rw [e1] at h
          exact sat_bad h
        | true =>
          rw [e1] at h
          have lt : n < 100 := by simpa using e1
          have q := h μ1 H1 _ st rel (.str _)
          rw [← dec2_ok n lt] at q
          exact .inr ⟨_, rfl, log_small lt, q⟩
      | negSucc n => exact sat_bad h
    | _ => exact sat_bad h
def xJs : List EM → List Nat → EM
  | [], acc => fun _ C => .ok (.str acc) C
  | m :: ms, acc => fun l C => match m l C with
    | .ok (.str y) C1 => (match bnd (acc.length + y.length) with
      | true => xJs ms (acc ++ y) l C1
      | false => .bad)
    | .ok _ _ => .bad
    | .exc k fs l' C' => .exc k fs l' C'
    | .bad => .bad
theorem js_ok : ∀ (ms : List EM) (acc : List Nat) {σ : L2.St} {H : Hp} {Q : VK}, tX T K W (xJs ms acc) σ H Q → tJs (ms.map (tX T K W)) (stC acc) σ H fun out H1 => Q (.str out) H1
  | [], acc, σ, H, Q, ⟨μ, l, C, r, rl, h⟩ => h μ H _ r.refl r (.str acc)
  | m :: ms, acc, σ, H, Q, ⟨μ, l, C, r, rl, h⟩ => by
    refine ⟨μ, l, C, r, rl, ?_⟩
    unfold xJs at h
    cases ea : m l C with
    | bad =>
      rw [ea] at h
      exact h
    | exc k fs l' C' =>
      rw [ea] at h
      exact h
    | ok v C1 =>
      rw [ea] at h
      intro μ1 H1 x st rel rv
      cases rv with
      | str y =>
        dsimp only at h
        cases e1 : bnd (acc.length + y.length) with
        | false =>
          rw [e1] at h
          exact sat_bad h
        | true =>
          rw [e1] at h
          refine ⟨_, rfl, ?_, ?_⟩
          · show (stC acc ++ stC y).length ≤ sizeLine
            rw [← stC_app, stC_len, List.length_append]
            exact bnd_ok e1
          · have q := js_ok ms (acc ++ y) (σ := σ) (H := H1) (Q := Q) ⟨μ1, l, C1, rel, rl.step st, h.shift st⟩
            rw [stC_app] at q
            exact q
      | _ => exact sat_bad h
theorem xe_joined {v1 v2 : Expr} {rest : List Expr} {ms : List EM} (h : PJ X (v1 :: v2 :: rest) (ms.map (tX T X.K W))) : PE X (.JoinedStr (v1 :: v2 :: rest) pos) (tX T X.K W (xJs ms [])) :=
  PE.imp (pe_joined h) fun σ H Q q => js_ok ms [] q
end

/-! ### list.append, list.pop -/
theorem Sat.chL {W : WX} {σ : L2.St} {Q : VK} {n : Nat} {xs ys : List CV} {v : CV} (h : Sat T K W σ μ C H Q (fin (some (v, C.set n (.lst ys))))) (r : Rel T K μ C H) (hn : C.get n = some (.lst xs)) {vs : List V} (rv : RVs K μ C.nx H ys vs) {x : V} (q : RV K μ C.nx H v x) : Q x (upd H (μ n) (.lst vs)) := by
  obtain ⟨r1, s1⟩ := changeL r hn rv
  exact h μ _ _ s1 r1 (q.step s1)
def fAppend : FC := fun vs C => match vs with
  | [.ref n, v] => (match isLst (C.get n) with
    | some xs => (match bnd xs.length with
      | true => some (.non, C.set n (.lst (xs ++ [v])))
      | false => none)
    | none => none)
  | _ => none
theorem bnd_lt {n : Nat} (h : bnd n = true) : n < sizeLine := by
  have := Nat.le_of_ble_eq_true h
  rw [sizeLine_eq]
  omega
theorem mr_append : MtR X "list.append" (rMm T X.K fAppend) := by
  intro pins s σ H x xs v us Q I rx rs ⟨μ, C, vs, r, rv, h⟩
  unfold fAppend at h
  split at h
  · rename_i n w
    cases rv with
    | cons h1 h2 =>
      obtain ⟨y, e, h3⟩ := rvs1 h2
      subst e
      cases h1
      cases e1 : isLst (C.get n) with
      | none =>
        simp only [e1] at h
        exact sat_bad h
      | some ys =>
        simp only [e1] at h
        cases e2 : bnd ys.length with
        | false =>
          simp only [e2] at h
          exact sat_bad h
        | true =>
          simp only [e2] at h
          obtain ⟨ws, g1, r1⟩ := r.obj n _ (isLst_ok e1)
          exact mt_append pins s σ H _ _ v us Q I rx rs ⟨_, ws, y, rfl, rfl, g1, by rw [r1.length]; exact bnd_lt e2, h.chL r (isLst_ok e1) (r1.append (.cons h3 .nil)) .non⟩
  · exact sat_bad h
def dropLastC {α : Type} : List α → List α
  | [] => []
  | [_] => []
  | x :: y :: r => x :: dropLastC (y :: r)
theorem dropLastC_eq {α : Type} : ∀ l : List α, dropLastC l = l.dropLast
  | [] => rfl
  | [_] => rfl
  | x :: y :: r => by
    unfold dropLastC
    rw [dropLastC_eq (y :: r)]
    rfl
theorem RVs.dropLast {nx : Nat} : ∀ {vs : List CV} {xs : List V}, RVs K μ nx H vs xs → RVs K μ nx H vs.dropLast xs.dropLast
  | _, _, .nil => .nil
  | _, _, .cons _ .nil => .nil
  | _, _, .cons h (.cons h2 t) => .cons h (RVs.dropLast (.cons h2 t))
def fPop : FC := fun vs C => match vs with
  | [.ref n] => (match isLst (C.get n) with
    | some xs => (match getC xs (xs.length - 1) with
      | some v => some (v, C.set n (.lst (dropLastC xs)))
      | none => none)
    | none => none)
  | _ => none
theorem mr_pop : MtR X "list.pop" (rMm T X.K fPop) := by
  intro pins s σ H x xs v us Q I rx rs ⟨μ, C, vs, r, rv, h⟩
  unfold fPop at h
  split at h
  · rename_i n
    cases rv with
    | cons h1 h2 =>
      cases h2
      cases h1
      cases e1 : isLst (C.get n) with
      | none =>
        simp only [e1] at h
        exact sat_bad h
      | some ys =>
        simp only [e1] at h
        cases e2 : getC ys (ys.length - 1) with
        | none =>
          simp only [e2] at h
          exact sat_bad h
        | some w =>
          simp only [e2] at h
          obtain ⟨ws, g1, r1⟩ := r.obj n _ (isLst_ok e1)
          rw [getC_eq] at e2
          obtain ⟨y, q1, q2⟩ := r1.get e2
          rw [dropLastC_eq] at h
          exact mt_pop pins s σ H _ _ v us Q I rx rs ⟨_, ws, y, rfl, rfl, g1, by rw [r1.length]; exact q1, h.chL r (isLst_ok e1) r1.dropLast q2⟩
  · exact sat_bad h

/-! ### attributes -/
theorem nth_inj {l : List Str} (nd : l.Nodup) {i j : Nat} {x : Str} (h1 : l[i]? = some x) (h2 : l[j]? = some x) : i = j := by
  obtain ⟨a1, _⟩ := List.getElem?_eq_some_iff.mp h1
  exact (List.getElem?_inj a1 nd).mp (h1.trans h2.symm)
theorem fld_get {nx : Nat} {i : Nat} {f : Str} (hf : T.nms[i]? = some f) : ∀ {fs : List (Nat × CV)} {gs : List (Str × V)} {v : CV}, Paired (fun (p : Nat × CV) (q : Str × V) => T.nms[p.1]? = some q.1 ∧ RV K μ nx H p.2 q.2) fs gs → lkN fs i = some v →
    ∃ x, gs.lookup f = some x ∧ RV K μ nx H v x
  | _, _, _, .nil, h => by cases h
  | (k, w) :: fs, (z, y) :: gs, v, .cons h1 h2, h => by
    unfold lkN at h
    cases e : Nat.beq k i with
    | true =>
      rw [e] at h
      cases h
      rw [beq_t e] at h1
      have ez : z = f := Option.some.inj (h1.1.symm.trans hf)
      subst ez
      exact ⟨y, by simp [List.lookup], h1.2⟩
    | false =>
      rw [e] at h
      obtain ⟨x, q1, q2⟩ := fld_get hf h2 h
      refine ⟨x, ?_, q2⟩
      have ne : f ≠ z := fun ez => beq_f e (nth_inj T.nd h1.1 (ez ▸ hf))
      rw [List.lookup_cons]
      have : (f == z) = false := by simpa using ne
      rw [this]
      exact q1
theorem fld_none {nx : Nat} {f : Str} (hf : f ∉ T.nms) : ∀ {fs : List (Nat × CV)} {gs : List (Str × V)}, Paired (fun (p : Nat × CV) (q : Str × V) => T.nms[p.1]? = some q.1 ∧ RV K μ nx H p.2 q.2) fs gs → gs.lookup f = none
  | _, _, .nil => rfl
  | (k, w) :: fs, (z, y) :: gs, .cons h1 h2 => by
    have ne : f ≠ z := fun ez => hf (List.mem_of_getElem? (ez ▸ h1.1))
    rw [List.lookup_cons]
    have : (f == z) = false := by simpa using ne
    rw [this]
    exact fld_none hf h2
def insO (c : Nat) (v : CV) (C : CH) : Option (Nat × List (Nat × CV)) := match v with
  | .ref n => (match C.get n with
    | some (.ins c' fs) => (match Nat.beq c c' with
      | true => some (n, fs)
      | false => none)
    | _ => none)
  | _ => none
theorem insO_ok (r : Rel T K μ C H) {c : Nat} {v : CV} {x : V} (rv : RV K μ C.nx H v x) {n : Nat} {fs : List (Nat × CV)} (h : insO c v C = some (n, fs)) :
    v = .ref n ∧ x = .ref (μ n) ∧ C.get n = some (.ins c fs) ∧ ∃ (dx : Addr) (gs : List (Str × V)), H (μ n) = some (.ins (T.cls c) dx gs) ∧ Paired (fun (p : Nat × CV) (q : Str × V) => T.nms[p.1]? = some q.1 ∧ RV K μ C.nx H p.2 q.2) fs gs := by
  cases rv with
  | @ref m lt =>
    unfold insO at h
    dsimp only at h
    cases e : C.get m with
    | none =>
      rw [e] at h
      cases h
    | some o =>
      rw [e] at h
      cases o with
      | ins c' gs' =>
        dsimp only at h
        cases e2 : Nat.beq c c' with
        | false =>
          rw [e2] at h
          cases h
        | true =>
          rw [e2] at h
          have h := Option.some.inj h
          have h1 : m = n := congrArg Prod.fst h
          have h2 : gs' = fs := congrArg Prod.snd h
          subst h1
          subst h2
          rw [← beq_t e2] at e
          exact ⟨rfl, rfl, e, r.obj m _ e⟩
      | _ => cases h
  | _ => cases h
def xFld (c i : Nat) (m : EM) : EM := fun l C => match m l C with
  | .ok v C1 => (match insO c v C1 with
    | some (_, fs) => (match lkN fs i with
      | some w => .ok w C1
      | none => .bad)
    | none => .bad)
  | .exc k fs l' C' => .exc k fs l' C'
  | .bad => .bad
section
variable {W : WX} {e o : Expr} {es : List Expr} {m mo mv : EM} {as : AM} {pos : Pos} {f : Str}
theorem xe_fld (c i : Nat) (hf : T.nms[i]? = some f) (hc : Cls X.K (T.cls c)) (hn : NoAttr X.K (T.cls c) f) (he : PE X e (tX T X.K W m)) (hb : attributeBase e f X.env (eval e X.env) = eval e X.env := by rfl) : PE X (.Attribute e f pos) (tX T X.K W (xFld c i m)) := by
  refine PE.imp (pe_fld he hb) fun σ H Q h => ?_
  obtain ⟨μ, l, C, r, rl, h⟩ := h
  refine ⟨μ, l, C, r, rl, ?_⟩
  unfold xFld at h
  cases ea : m l C with
  | bad =>
    rw [ea] at h
    exact h
  | exc k fs l' C' =>
    rw [ea] at h
    exact h
  | ok v C1 =>
    rw [ea] at h
    intro μ1 H1 x st rel rv
    dsimp only at h
    cases e1 : insO c v C1 with
    | none =>
      rw [e1] at h
      exact sat_bad h
    | some p =>
      obtain ⟨n, fs⟩ := p
      rw [e1] at h
      dsimp only at h
      cases e2 : lkN fs i with
      | none =>
        rw [e2] at h
        exact sat_bad h
      | some w =>
        rw [e2] at h
        obtain ⟨_, q1, _, dx, gs, q2, q3⟩ := insO_ok rel rv e1
        subst q1
        obtain ⟨y, q4, q5⟩ := fld_get hf q3 e2
        exact ⟨_, _, dx, gs, y, rfl, q2, hc, hn, q4, h μ1 H1 y st rel q5⟩
/-- what a callee gives, in the caller's eyes -/
def back (l : CL) : RE → RE
  | .ok v C => .ok v C
  | .exc k fs _ C => .exc k fs l C
  | .bad => .bad
theorem back_sat {r : RE} {l : CL} {σ : L2.St} {Q : VK} (rl : RL K μ C.nx H l σ) (h : Sat T K W σ μ C H Q (back l r)) : Sat T K (fun cls d _ H => W cls d σ H) [] μ C H Q r := by
  cases r with
  | ok v C2 => exact h
  | bad => exact h
  | exc k fs l' C2 => exact fun μ' H' σ' cls d st rel _ x => h μ' H' σ cls d st rel (rl.step st) x
/-- o.m(..) -/
def xMeth (c : Nat) (f : FM) (mo : EM) (as : AM) : EM := fun l C => match mo l C with
  | .ok v C1 => (match insO c v C1 with
    | some _ => (match as l C1 with
      | .ok vs C2 => back l (f (v :: vs) C2)
      | .exc k fs l' C' => .exc k fs l' C'
      | .bad => .bad)
    | none => .bad)
  | .exc k fs l' C' => .exc k fs l' C'
  | .bad => .bad
def tMethS (C : Addr) (m : Str) (sp : Sp) (E : L2.St → XK) (ta : TE) (t : TA) : TE := fun σ H Q => ta σ H fun x H1 => ∃ a dx fs, x = .ref a ∧ H1 a = some (.ins C dx fs) ∧ fs.lookup m = none ∧ t σ H1 fun vs H2 => sp (x :: vs) H2 Q (E σ)
theorem xmeth_ok {c n : Nat} {g : FM} {nm : Str} (hnm : nm ∉ T.nms) (hn : ∀ vs C, g vs C ≠ .bad → vs.length = n) {σ : L2.St} {H : Hp} {Q : VK} (h : tX T K W (xMeth c g mo as) σ H Q) :
    tMethS (T.cls c) nm (spM T K n g) (WE W) (tX T K W mo) (tA T K W as) σ H Q := by
  obtain ⟨μ, l, C, r, rl, h⟩ := h
  refine ⟨μ, l, C, r, rl, ?_⟩
  unfold xMeth at h
  cases ea : mo l C with
  | bad =>
    rw [ea] at h
    exact h
  | exc k fs l' C' =>
    rw [ea] at h
    exact h
  | ok v C1 =>
    rw [ea] at h
    intro μ1 H1 x st rel rv
    dsimp only at h
    cases e1 : insO c v C1 with
    | none =>
      rw [e1] at h
      exact sat_bad h
    | some p =>
      obtain ⟨i, fs⟩ := p
      rw [e1] at h
      obtain ⟨_, q1, _, dx, gs, q2, q3⟩ := insO_ok rel rv e1
      refine ⟨_, dx, gs, q1, q2, fld_none hnm q3, μ1, l, C1, rel, rl.step st, ?_⟩
      have h := h.shift st
      cases eb : as l C1 with
      | bad =>
        simp only [eb] at h
        exact h
      | exc k fs l' C' =>
        simp only [eb] at h
        exact h
      | ok vs C2 =>
        simp only [eb] at h
        intro μ2 H2 xs st2 rel2 rvs
        have q := back_sat ((rl.step st).step st2) (h.shift st2)
        refine ⟨μ2, C2, v :: vs, rel2, .cons (rv.step st2) rvs, ?_, q⟩
        rw [List.length_cons, rvs.length, ← List.length_cons (a := v)]
        exact hn _ C2 fun z => by
          rw [z] at q
          exact q
theorem pe_methS' {CX : CXT} {k : Nat} {Ca fa : Addr} {fd : FuncData} {ps : List Str} {sp : Sp} {E : L2.St → XK} {ta : TE} {t : TA} {m : Str} {apos : Pos} {pl : Sem Bool} (he : PE X o ta) (c : Cls X.K Ca) (hm : Meth X.K Ca m fa) (F : FnOk X.prog X.w X.K X.mg X.base CX k fa fd ps sp) (hr : Room k X.A)
    (hb : Binds X.K fd ps []) (hx : ∀ σ, PassesAt CX X σ (E σ)) (ha : PA X (e :: es) t) (hst : starEach (e :: es) X.env = (false, eval e X.env) :: starEach es X.env := by rfl) (hpl : (backTo pos (starEach es X.env)).any (·.1) = false := by rfl)
    (ht : eval (.Call (.Attribute o m apos) (e :: es) [] pos) X.env = (do
      let ov ← eval o X.env
      standAt apos.atName
      let (f, first) ← holding [ov] (getMethod ov m pl)
      callWith pos f first (backTo pos (starEach (e :: es) X.env)) (backToKw pos (keywordEach [] X.env))) := by rfl) : PE X (.Call (.Attribute o m apos) (e :: es) [] pos) (tMethS Ca m sp E ta t) := by
  constructor
  intro pins s σ H Q I h
  refine PySem.W.methodCall_KW (pl := pl) (thn (he.run pins s σ H _ I h) ?_) ht
  intro u s1 ⟨x, H1, I1, rx, a, dx, fs, ex, ea, hl, q⟩
  subst ex
  have eu : u = Value.ref a := rx
  subst eu
  refine getmeth_ok I1 ea c hm hl (PySem.W.callWith_K (first := [.ref a]) (h₀ := X.base) I.ok.mod.kin hm.kp (thn (ha.run pos pins s1 σ H1 _ I1 q) ?_) hst hpl)
  intro us s2 ⟨vs, H2, I2, r, q2⟩
  exact ⟨I2.kIn, run_fnS (us := .ref a :: us) (vs := .ref a :: vs) F hr hb (hx σ) I2 (.cons rfl r) q2⟩
theorem pe_methS0' {CX : CXT} {k : Nat} {Ca fa : Addr} {fd : FuncData} {ps : List Str} {sp : Sp} {E : L2.St → XK} {ta : TE} {m : Str} {apos : Pos} {pl : Sem Bool} (he : PE X o ta) (c : Cls X.K Ca) (hm : Meth X.K Ca m fa) (F : FnOk X.prog X.w X.K X.mg X.base CX k fa fd ps sp) (hr : Room k X.A)
    (hb : Binds X.K fd ps []) (hx : ∀ σ, PassesAt CX X σ (E σ))
    (ht : eval (.Call (.Attribute o m apos) [] [] pos) X.env = (do
      let ov ← eval o X.env
      standAt apos.atName
      let (f, first) ← holding [ov] (getMethod ov m pl)
      callWith pos f first (backTo pos (starEach [] X.env)) (backToKw pos (keywordEach [] X.env))) := by rfl) : PE X (.Call (.Attribute o m apos) [] [] pos) (tMethS Ca m sp E ta tNil) := by
  constructor
  intro pins s σ H Q I h
  refine PySem.W.methodCall_KW (pl := pl) (thn (he.run pins s σ H _ I h) ?_) ht
  intro u s1 ⟨x, H1, I1, rx, a, dx, fs, ex, ea, hl, q⟩
  subst ex
  have eu : u = Value.ref a := rx
  subst eu
  exact getmeth_ok I1 ea c hm hl (PySem.W.callWith_K0 (first := [.ref a]) I1.kIn hm.kp (run_fnS (us := [.ref a]) (vs := [.ref a]) F hr hb (hx σ) I1 (.cons rfl .nil) q))
theorem xe_meth {CX : CXT} {k n c : Nat} {fa : Addr} {fd : FuncData} {ps : List Str} {g : FM} {nm : Str} {apos : Pos} {pl : Sem Bool} (hnm : nm ∉ T.nms) (hcl : Cls X.K (T.cls c)) (hm : Meth X.K (T.cls c) nm fa) (F : FnOk X.prog X.w X.K X.mg X.base CX k fa fd ps (spM T X.K n g)) (hr : Room k X.A)
    (hb : Binds X.K fd ps []) (hx : ∀ σ, PassesAt CX X σ (WE W σ)) (hn : ∀ vs C, g vs C ≠ .bad → vs.length = n) (ho : PE X o (tX T X.K W mo)) (ha : PA X (e :: es) (tA T X.K W as)) (hst : starEach (e :: es) X.env = (false, eval e X.env) :: starEach es X.env := by rfl) (hpl : (backTo pos (starEach es X.env)).any (·.1) = false := by rfl)
    (ht : eval (.Call (.Attribute o nm apos) (e :: es) [] pos) X.env = (do
      let ov ← eval o X.env
      standAt apos.atName
      let (f, first) ← holding [ov] (getMethod ov nm pl)
      callWith pos f first (backTo pos (starEach (e :: es) X.env)) (backToKw pos (keywordEach [] X.env))) := by rfl) : PE X (.Call (.Attribute o nm apos) (e :: es) [] pos) (tX T X.K W (xMeth c g mo as)) :=
  PE.imp (pe_methS' ho hcl hm F hr hb hx ha hst hpl ht) fun _ _ _ h => xmeth_ok hnm hn h
theorem xe_meth0 {CX : CXT} {k n c : Nat} {fa : Addr} {fd : FuncData} {ps : List Str} {g : FM} {nm : Str} {apos : Pos} {pl : Sem Bool} (hnm : nm ∉ T.nms) (hcl : Cls X.K (T.cls c)) (hm : Meth X.K (T.cls c) nm fa) (F : FnOk X.prog X.w X.K X.mg X.base CX k fa fd ps (spM T X.K n g)) (hr : Room k X.A)
    (hb : Binds X.K fd ps []) (hx : ∀ σ, PassesAt CX X σ (WE W σ)) (hn : ∀ vs C, g vs C ≠ .bad → vs.length = n) (ho : PE X o (tX T X.K W mo))
    (ht : eval (.Call (.Attribute o nm apos) [] [] pos) X.env = (do
      let ov ← eval o X.env
      standAt apos.atName
      let (f, first) ← holding [ov] (getMethod ov nm pl)
      callWith pos f first (backTo pos (starEach [] X.env)) (backToKw pos (keywordEach [] X.env))) := by rfl) : PE X (.Call (.Attribute o nm apos) [] [] pos) (tX T X.K W (xMeth c g mo aNil)) := by
  refine PE.imp (pe_methS0' ho hcl hm F hr hb hx ht) fun σ H Q h => ?_
  obtain ⟨μ, l, C, r, rl, h⟩ := xmeth_ok hnm hn h
  refine ⟨μ, l, C, r, rl, ?_⟩
  cases ea : mo l C with
  | bad =>
    rw [ea] at h
    exact h
  | exc k fs l' C' =>
    rw [ea] at h
    exact h
  | ok v C1 =>
    rw [ea] at h
    intro μ1 H1 x st rel rv
    obtain ⟨a, dx, fs, h1, h2, h3, μ2, l2, C2, r2, rl2, h4⟩ := h μ1 H1 x st rel rv
    exact ⟨a, dx, fs, h1, h2, h3, h4 μ2 H1 [] r2.refl r2 .nil⟩
end
end Ex

set_option Elab.async false
set_option linter.all false
set_option maxRecDepth 100000
/-! Ex8: constructors, dicts. -/
namespace Ex
open PySem PySem.Spec PyProof.Rows L2 TL
variable {T : Tab} {K : PySem.W.Frag} {X : Cx} {μ : Mu} {C : CH} {H : Hp}

/-! ### a call that lets nothing out -/
abbrev E0 : XK := fun _ _ _ => False
def only : RE → RE
  | .ok v C => .ok v C
  | .exc _ _ _ _ => .bad
  | .bad => .bad
theorem only_sat {W : WX} {σ : L2.St} {Q : VK} {r : RE} (h : Sat T K W σ μ C H Q (only r)) : Sat T K (fun cls d _ H => E0 cls d H) [] μ C H Q r := by
  cases r with
  | ok v C2 => exact h
  | bad => exact h
  | exc k fs l' C2 => exact sat_bad h
/-- C(..) -/
def made (n : Nat) : RE → RE
  | .ok .non C => .ok (.ref n) C
  | .ok _ _ => .bad
  | .exc _ _ _ _ => .bad
  | .bad => .bad
def xMake (c : Nat) (f : FM) (as : AM) : EM := fun l C => match as l C with
  | .ok vs C1 => made C1.nx (f (.ref C1.nx :: vs) (C1.add (.ins c [])))
  | .exc k fs l' C' => .exc k fs l' C'
  | .bad => .bad
theorem upd2_new {x dx : Addr} {u v : HO} (h1 : H x = none) (h2 : H dx = none) (hd : dx ≠ x) : ∀ a w, H a = some w → upd (upd H dx u) x v a = some w := fun a w h => by
  rw [upd_ne (ne_of_none h h1), upd_ne (ne_of_none h h2)]
  exact h
theorem make_sat {W : WX} {c : Nat} {σ : L2.St} {Q : VK} {f : FM} {vs : List CV} {xs : List V} {x dx : Addr} (r : Rel T K μ C H) (rv : RVs K μ C.nx H vs xs) (h1 : H x = none) (h2 : H dx = none) (hd : dx ≠ x) (h : Sat T K W σ μ C H Q (made C.nx (f (.ref C.nx :: vs) (C.add (.ins c []))))) :
    ∃ μ' C' cs, Rel T K μ' C' (upd (upd H dx (.own x)) x (.ins (T.cls c) dx [])) ∧ RVs K μ' C'.nx (upd (upd H dx (.own x)) x (.ins (T.cls c) dx [])) cs (.ref x :: xs) ∧ f cs C' ≠ .bad ∧
      Sat T K (fun cls d _ H => E0 cls d H) [] μ' C' (upd (upd H dx (.own x)) x (.ins (T.cls c) dx [])) (fun v H2 => v = .non ∧ Q (.ref x) H2) (f cs C') ∧ cs.length = vs.length + 1 := by
  have s := upd2_new (u := .own x) (v := .ins (T.cls c) dx []) h1 h2 hd
  obtain ⟨r1, st⟩ := alloc (o := .ins c []) r h1 s ⟨dx, [], upd_same, .nil⟩
  have self : mu1 μ C.nx x C.nx = x := mu1_self μ C.nx x
  have rx : RV K (mu1 μ C.nx x) (C.add (.ins c [])).nx (upd (upd H dx (.own x)) x (.ins (T.cls c) dx [])) (.ref C.nx) (.ref x) := by
    have q : RV K (mu1 μ C.nx x) (C.nx + 1) (upd (upd H dx (.own x)) x (.ins (T.cls c) dx [])) (.ref C.nx) (.ref (mu1 μ C.nx x C.nx)) := .ref (Nat.lt_succ_self _)
    rw [self] at q
    exact q
  refine ⟨mu1 μ C.nx x, C.add (.ins c []), .ref C.nx :: vs, r1, .cons rx (rv.step st), fun z => by rw [z] at h; exact h, ?_, by rw [List.length_cons]⟩
  cases e : f (.ref C.nx :: vs) (C.add (.ins c [])) with
  | ok v C2 =>
    rw [e] at h
    intro μ' H' y st' rel' ry
    cases v with
    | non =>
      cases ry
      exact ⟨rfl, h μ' H' (.ref x) (st.trans st') rel' (rx.step st')⟩
    | _ => exact sat_bad h
  | bad =>
    rw [e] at h
    exact h
  | exc k fs l' C2 =>
    rw [e] at h
    exact sat_bad h
section
variable {W : WX} {e : Expr} {es : List Expr} {as : AM} {p pos : Pos}
theorem xe_make {CX : CXT} {k n c : Nat} {fa : Addr} {fd : FuncData} {ps : List Str} {g : FM} {nm : Str} (M : Mk X.K (T.cls c) fa) (F : FnOk X.prog X.w X.K X.mg X.base CX k fa fd ps (spM T X.K n g)) (hr : Room (k + 1) X.A) (hg : Gl X nm) (hm : X.mg nm = some (.ref (T.cls c)))
    (hb : Binds X.K fd ps []) (hx : Passes CX X E0) (hn : ∀ vs C, g vs C ≠ .bad → vs.length = n) (ha : PA X (e :: es) (tA T X.K W as)) (hdb : (nm == ("__debug__" : Str)) = false := by decide) (he : starEach (e :: es) X.env = (false, eval e X.env) :: starEach es X.env := by rfl)
    (hpl : (backTo pos (starEach es X.env)).any (·.1) = false := by rfl) : PE X (.Call (.Name nm p) (e :: es) [] pos) (tX T X.K W (xMake c g as)) := by
  refine PE.imp (pe_make M F hr hg hm hb .nil hx ha hdb he hpl) fun σ H Q h => ?_
  obtain ⟨μ, l, C, r, rl, h⟩ := h
  refine ⟨μ, l, C, r, rl, ?_⟩
  unfold xMake at h
  cases ea : as l C with
  | bad =>
    rw [ea] at h
    exact h
  | exc k fs l' C' =>
    rw [ea] at h
    exact h
  | ok vs C1 =>
    rw [ea] at h
    intro μ1 H1 xs st rel rvs x dx h1 h2 hd
    obtain ⟨μ', C', cs, q1, q2, q3, q4, q5⟩ := make_sat rel rvs h1 h2 hd (h.shift st)
    rw [List.append_nil]
    refine ⟨μ', C', cs, q1, q2, ?_, q4⟩
    rw [q2.length]
    exact hn cs C' q3
theorem xe_make0 {CX : CXT} {k n c : Nat} {fa : Addr} {fd : FuncData} {ps : List Str} {g : FM} {nm : Str} (M : Mk X.K (T.cls c) fa) (F : FnOk X.prog X.w X.K X.mg X.base CX k fa fd ps (spM T X.K n g)) (hr : Room (k + 1) X.A) (hg : Gl X nm) (hm : X.mg nm = some (.ref (T.cls c)))
    (hb : Binds X.K fd ps []) (hx : Passes CX X E0) (hn : ∀ vs C, g vs C ≠ .bad → vs.length = n) (hdb : (nm == ("__debug__" : Str)) = false := by decide) : PE X (.Call (.Name nm p) [] [] pos) (tX T X.K W (xMake c g aNil)) := by
  refine PE.imp (pe_make0 M F hr hg hm hb .nil hx hdb) fun σ H Q h => ?_
  obtain ⟨μ, l, C, r, rl, h⟩ := h
  intro x dx h1 h2 hd
  obtain ⟨μ', C', cs, q1, q2, q3, q4, q5⟩ := make_sat r .nil h1 h2 hd h
  refine ⟨μ', C', cs, q1, q2, ?_, q4⟩
  show ([V.ref x] : List V).length = n
  rw [q2.length]
  exact hn cs C' q3
end

/-! ### keys -/
def kOf : CV → Option Key
  | .int i => some (.inl i)
  | .str l => some (.inr (stC l))
  | _ => none
def ksOf : List CV → Option (List Key)
  | [] => some []
  | c :: r => match kOf c, ksOf r with
    | some k, some ks => some (k :: ks)
    | _, _ => none
def tkOf : CV → Option (List Key)
  | .tup cs => ksOf cs
  | _ => none
theorem keyRel_iff {c : CV} {k : Key} : keyRel c k ↔ kOf c = some k := by
  cases c <;> cases k <;> simp [keyRel, kOf, stC, eq_comm]
theorem keysRel_iff : ∀ {cs : List CV} {ks : List Key}, keysRel cs ks ↔ ksOf cs = some ks
  | [], [] => by simp [keysRel, ksOf]
  | [], _ :: _ => by simp [keysRel, ksOf]
  | c :: cs, [] => by
    constructor
    · intro h
      exact h.elim
    · intro h
      unfold ksOf at h
      split at h <;> cases h
  | c :: cs, k :: ks => by
    constructor
    · intro h
      have h1 := keyRel_iff.mp h.1
      have h2 := keysRel_iff.mp h.2
      simp [ksOf, h1, h2]
    · intro h
      unfold ksOf at h
      split at h
      · rename_i k' ks' e1 e2
        cases h
        exact ⟨keyRel_iff.mpr e1, keysRel_iff.mpr e2⟩
      · cases h
theorem tkeyRel_iff {c : CV} {k : List Key} : tkeyRel c k ↔ tkOf c = some k := by
  cases c <;> simp [tkeyRel, tkOf, keysRel_iff]
/-- equality of such keys -/
def eqL : List Nat → List Nat → Bool
  | [], [] => true
  | a :: x, b :: y => match Nat.beq a b with
    | true => eqL x y
    | false => false
  | _, _ => false
theorem eqL_ok : ∀ a b : List Nat, eqL a b = true ↔ a = b
  | [], [] => by simp [eqL]
  | [], _ :: _ => by simp [eqL]
  | _ :: _, [] => by simp [eqL]
  | a :: x, b :: y => by
    unfold eqL
    cases e : Nat.beq a b with
    | true =>
      rw [beq_t e]
      simp [eqL_ok x y]
    | false =>
      have := beq_f e
      simp [this]
def eqI (i j : Int) : Bool := match i, j with
  | .ofNat a, .ofNat b => Nat.beq a b
  | .negSucc a, .negSucc b => Nat.beq a b
  | _, _ => false
theorem eqI_ok (i j : Int) : eqI i j = true ↔ i = j := by
  cases i <;> cases j <;> simp [eqI] <;> omega
def eqK : CV → CV → Bool
  | .int i, .int j => eqI i j
  | .str a, .str b => eqL a b
  | _, _ => false
theorem stC_inj {a b : List Nat} : stC a = stC b ↔ a = b := by
  constructor
  · intro h
    have : (stC a).cps.toList = (stC b).cps.toList := by rw [h]
    simpa [stC] using this
  · intro h
    rw [h]
theorem eqK_ok {c d : CV} {k j : Key} (h1 : kOf c = some k) (h2 : kOf d = some j) : eqK c d = decide (k = j) := by
  rw [Bool.eq_iff_iff, decide_eq_true_eq]
  cases c <;> cases d <;> cases h1 <;> cases h2 <;> simp [eqK, eqI_ok, eqL_ok, stC_inj]
def eqKs : List CV → List CV → Bool
  | [], [] => true
  | a :: x, b :: y => match eqK a b with
    | true => eqKs x y
    | false => false
  | _, _ => false
theorem eqKs_ok : ∀ {c d : List CV} {k j : List Key}, ksOf c = some k → ksOf d = some j → eqKs c d = decide (k = j)
  | [], [], _, _, h1, h2 => by
    cases h1
    cases h2
    rfl
  | [], d :: ds, _, j, h1, h2 => by
    cases h1
    unfold ksOf at h2
    split at h2
    · cases h2
      rfl
    · cases h2
  | c :: cs, [], k, _, h1, h2 => by
    cases h2
    unfold ksOf at h1
    split at h1
    · cases h1
      rfl
    · cases h1
  | c :: cs, d :: ds, k, j, h1, h2 => by
    unfold ksOf at h1 h2
    split at h1
    · rename_i k1 k2 e1 e2
      split at h2
      · rename_i j1 j2 e3 e4
        cases h1
        cases h2
        unfold eqKs
        have q1 := eqK_ok e1 e3
        have q2 := eqKs_ok e2 e4
        cases e : eqK c d with
        | true =>
          rw [e] at q1
          have q1 := of_decide_eq_true q1.symm
          rw [q1]
          simp [q2]
        | false =>
          rw [e] at q1
          have q1 := of_decide_eq_false q1.symm
          simp [q1]
      · cases h2
    · cases h1
def eqT : CV → CV → Bool
  | .tup a, .tup b => eqKs a b
  | _, _ => false
theorem eqT_ok {c d : CV} {k j : List Key} (h1 : tkOf c = some k) (h2 : tkOf d = some j) : eqT c d = decide (k = j) := by
  cases c <;> try cases h1
  cases d <;> try cases h2
  exact eqKs_ok h1 h2

/-! ### tables: κ by a reading f, compared by q -/
section
variable {κ : Type} [DecidableEq κ] {f : CV → Option κ} {q : CV → CV → Bool} {nx : Nat}
structure TQ (f : CV → Option κ) (q : CV → CV → Bool) : Prop where
  h : ∀ {c d : CV} {k j : κ}, f c = some k → f d = some j → q c d = decide (k = j)
def lkV (q : CV → CV → Bool) : List (CV × CV) → CV → Option CV
  | [], _ => none
  | (k, v) :: r, c => match q k c with
    | true => some v
    | false => lkV q r c
def repV (q : CV → CV → Bool) : List (CV × CV) → CV → CV → List (CV × CV)
  | [], _, _ => []
  | (k, w) :: r, c, v => match q k c with
    | true => (k, v) :: repV q r c v
    | false => (k, w) :: repV q r c v
def putV (q : CV → CV → Bool) (kvs : List (CV × CV)) (c v : CV) : List (CV × CV) := match lkV q kvs c with
  | some _ => repV q kvs c v
  | none => kvs ++ [(c, v)]
def dropV (q : CV → CV → Bool) : List (CV × CV) → CV → List (CV × CV)
  | [], _ => []
  | (k, w) :: r, c => match q k c with
    | true => dropV q r c
    | false => (k, w) :: dropV q r c
abbrev PK (f : CV → Option κ) (K : PySem.W.Frag) (μ : Mu) (nx : Nat) (H : Hp) : List (CV × CV) → List (κ × V) → Prop := Paired fun p r => f p.1 = some r.1 ∧ RV K μ nx H p.2 r.2
theorem lk_ok (hq : TQ f q) {c : CV} {k : κ} (hk : f c = some k) : ∀ {kvs : List (CV × CV)} {kws : List (κ × V)}, PK f K μ nx H kvs kws →
    (∀ v, lkV q kvs c = some v → ∃ x, valV kws k = some x ∧ RV K μ nx H v x) ∧ (lkV q kvs c = none → valV kws k = none)
  | _, _, .nil => ⟨(fun v h => nomatch h), fun _ => rfl⟩
  | (a, w) :: kvs, (b, x) :: kws, .cons h t => by
    have ih := lk_ok hq hk t
    have e := hq.h h.1 hk
    unfold lkV
    cases eq : q a c with
    | true =>
      rw [eq] at e
      have e : b = k := of_decide_eq_true e.symm
      refine ⟨fun v hv => ?_, (fun hv => nomatch hv)⟩
      cases hv
      exact ⟨x, valV_pos e, h.2⟩
    | false =>
      rw [eq] at e
      have e : ¬ b = k := of_decide_eq_false e.symm
      rw [valV_neg e]
      exact ih
theorem drop_ok (hq : TQ f q) {c : CV} {k : κ} (hk : f c = some k) : ∀ {kvs : List (CV × CV)} {kws : List (κ × V)}, PK f K μ nx H kvs kws → PK f K μ nx H (dropV q kvs c) (dropK kws k)
  | _, _, .nil => .nil
  | (a, w) :: kvs, (b, x) :: kws, .cons h t => by
    have ih := drop_ok hq hk t
    have e := hq.h h.1 hk
    unfold dropV dropK
    rw [List.filter_cons]
    cases eq : q a c with
    | true =>
      rw [eq] at e
      have e : b = k := of_decide_eq_true e.symm
      simp only [e, ne_eq, not_true, decide_false, Bool.false_eq_true, if_false]
      exact ih
    | false =>
      rw [eq] at e
      have e : ¬ b = k := of_decide_eq_false e.symm
      simp only [ne_eq, e, not_false_iff, decide_true, if_true]
      exact .cons h ih
theorem rep_ok (hq : TQ f q) {c v : CV} {k : κ} {x : V} (hk : f c = some k) (hv : RV K μ nx H v x) : ∀ {kvs : List (CV × CV)} {kws : List (κ × V)}, PK f K μ nx H kvs kws →
    PK f K μ nx H (repV q kvs c v) (kws.map fun kv => if kv.1 = k then (kv.1, x) else kv)
  | _, _, .nil => .nil
  | (a, w) :: kvs, (b, y) :: kws, .cons h t => by
    have ih := rep_ok hq hk hv t
    have e := hq.h h.1 hk
    unfold repV
    rw [List.map_cons]
    cases eq : q a c with
    | true =>
      rw [eq] at e
      have e : b = k := of_decide_eq_true e.symm
      rw [if_pos e]
      exact .cons ⟨h.1, hv⟩ ih
    | false =>
      rw [eq] at e
      have e : ¬ b = k := of_decide_eq_false e.symm
      rw [if_neg e]
      exact .cons h ih
theorem paired_snoc {α β : Type} {R : α → β → Prop} {a : α} {b : β} (h : R a b) : ∀ {l : List α} {m : List β}, Paired R l m → Paired R (l ++ [a]) (m ++ [b])
  | _, _, .nil => .cons h .nil
  | _, _, .cons h1 h2 => .cons h1 (paired_snoc h h2)
theorem put_ok (hq : TQ f q) {c v : CV} {k : κ} {x : V} (hk : f c = some k) (hv : RV K μ nx H v x) {kvs : List (CV × CV)} {kws : List (κ × V)} (h : PK f K μ nx H kvs kws) :
    PK f K μ nx H (putV q kvs c v) (putK kws k x) := by
  obtain ⟨l1, l2⟩ := lk_ok hq hk h
  unfold putV putK
  rw [valV_any]
  cases e : lkV q kvs c with
  | some w =>
    obtain ⟨y, e2, _⟩ := l1 w e
    rw [e2]
    exact rep_ok hq hk hv h
  | none =>
    rw [l2 e]
    exact paired_snoc ⟨hk, hv⟩ h
end
theorem tqK : TQ kOf eqK := ⟨eqK_ok⟩
theorem tqT : TQ tkOf eqT := ⟨eqT_ok⟩
end Ex

set_option Elab.async false
set_option linter.all false
set_option maxRecDepth 100000
/-! Ex9: statements, targets, loops. -/
namespace Ex
open PySem PySem.Spec PyProof.Rows L2 TL
variable {T : Tab} {K : PySem.W.Frag} {X : Cx} {μ : Mu} {C : CH} {H : Hp}

/-! ### plain statements -/
def sNil : SM := fun l C => .nx l C
def sSeq (a b : SM) : SM := fun l C => match a l C with
  | .nx l1 C1 => b l1 C1
  | r => r
def sDrop (m : EM) : SM := fun l C => match m l C with
  | .ok _ C1 => .nx l C1
  | .exc k fs l' C' => .exc k fs l' C'
  | .bad => .bad
def sRet (m : EM) : SM := fun l C => match m l C with
  | .ok v C1 => .ret v C1
  | .exc k fs l' C' => .exc k fs l' C'
  | .bad => .bad
def sRetN : SM := fun _ C => .ret .non C
def sBad : SM := fun _ _ => .bad
def sIf (c : EM) (a b : SM) : SM := fun l C => match c l C with
  | .ok (.bl true) C1 => a l C1
  | .ok (.bl false) C1 => b l C1
  | .ok _ _ => .bad
  | .exc k fs l' C' => .exc k fs l' C'
  | .bad => .bad
section
variable {W : WX} {e c : Expr} {m mc : EM} {st : Stmt} {rest p q : List Stmt} {a b : SM} {pos : Pos}
theorem xs_nil : PSs X [] (tS T X.K W sNil) := PSs.imp pss_nil fun D σ H ⟨μ, l, C, r, rl, h⟩ => h μ H σ r.refl r rl
theorem xs_cons (h1 : PS X st (tS T X.K W a)) (h2 : PSs X rest (tS T X.K W b)) : PSs X (st :: rest) (tS T X.K W (sSeq a b)) := by
  refine PSs.imp (pss_cons h1 h2) fun D σ H h => ?_
  obtain ⟨μ, l, C, r, rl, h⟩ := h
  refine ⟨μ, l, C, r, rl, ?_⟩
  unfold sSeq at h
  cases ea : a l C with
  | nx l1 C1 =>
    rw [ea] at h
    intro μ1 H1 σ1 st rel rl1
    exact ⟨μ1, l1, C1, rel, rl1, h.shift st⟩
  | bad =>
    rw [ea] at h
    exact h
  | ret v C1 =>
    rw [ea] at h
    exact h
  | bk l1 C1 =>
    rw [ea] at h
    exact h
  | ct l1 C1 =>
    rw [ea] at h
    exact h
  | exc k fs l' C' =>
    rw [ea] at h
    exact h
theorem xs_drop (he : PE X e (tX T X.K W m)) (hs : swapsWith e none pos.line X.env = pure false := by rfl) : PS X (.Expr e pos) (tS T X.K W (sDrop m)) := by
  refine PS.imp (ps_expr he hs) fun D σ H h => ?_
  obtain ⟨μ, l, C, r, rl, h⟩ := h
  refine ⟨μ, l, C, r, rl, ?_⟩
  unfold sDrop at h
  cases ea : m l C with
  | ok v C1 =>
    rw [ea] at h
    exact fun μ1 H1 x st rel _ => h μ1 H1 σ st rel (rl.step st)
  | bad =>
    rw [ea] at h
    exact h
  | exc k fs l' C' =>
    rw [ea] at h
    exact h
theorem xs_ret (he : PE X e (tX T X.K W m)) : PS X (.Return (some e) pos) (tS T X.K W (sRet m)) := by
  refine PS.imp (ps_ret he) fun D σ H h => ?_
  obtain ⟨μ, l, C, r, rl, h⟩ := h
  refine ⟨μ, l, C, r, rl, ?_⟩
  unfold sRet at h
  cases ea : m l C with
  | ok v C1 =>
    rw [ea] at h
    exact h
  | bad =>
    rw [ea] at h
    exact h
  | exc k fs l' C' =>
    rw [ea] at h
    exact h
theorem xs_bad : PS X st (tS T X.K W sBad) := PS.imp ps_never fun D σ H ⟨_, _, _, _, _, h⟩ => h
theorem xss_bad : PSs X rest (tS T X.K W sBad) := PSs.imp pss_never fun D σ H ⟨_, _, _, _, _, h⟩ => h
theorem xs_if (hc : PT X c (tT T X.K W mc)) (ha : PSs X p (tS T X.K W a)) (hb : PSs X q (tS T X.K W b)) : PS X (.If c p q pos) (tS T X.K W (sIf mc a b)) := by
  refine PS.imp (ps_if hc ha hb) fun D σ H h => ?_
  obtain ⟨μ, l, C, r, rl, h⟩ := h
  refine ⟨μ, l, C, r, rl, ?_⟩
  unfold sIf at h
  cases ea : mc l C with
  | ok v C1 =>
    rw [ea] at h
    cases v with
    | bl t =>
      intro μ1 H1 x st rel rv
      cases rv
      refine ⟨t, rfl, ?_⟩
      cases t with
      | true =>
        rw [if_pos rfl]
        exact ⟨μ1, l, C1, rel, rl.step st, h.shift st⟩
      | false =>
        rw [if_neg Bool.false_ne_true]
        exact ⟨μ1, l, C1, rel, rl.step st, h.shift st⟩
    | _ => exact (show False from h).elim
  | bad =>
    rw [ea] at h
    exact h
  | exc k fs l' C' =>
    rw [ea] at h
    exact h
end

/-! ### targets -/
inductive Tg where
  | nm (i : Nat)
  | tp (is : List Nat)
  | tq (i : Nat) (js : List Nat)
def setC : CL → List Nat → List CV → Option CL
  | l, [], [] => some l
  | l, i :: is, v :: vs => setC (l.set i (some v)) is vs
  | _, _, _ => none
def setS : L2.St → List Nat → List V → L2.St
  | σ, i :: is, v :: vs => setS (σ.set i (some v)) is vs
  | σ, _, _ => σ
def stT (t : Tg) (v : CV) (l : CL) : Option CL := match t, v with
  | .nm i, v => some (l.set i (some v))
  | .tp is, .tup xs => setC l is xs
  | .tq i js, .tup [a, .tup ys] => setC (l.set i (some a)) js ys
  | _, _ => none
def Tg.in : Tg → List Nat → Prop
  | .nm i, vs => i ∈ vs
  | .tp is, vs => ∀ i ∈ is, i ∈ vs
  | .tq i js, vs => i ∈ vs ∧ ∀ j ∈ js, j ∈ vs
theorem setC_rl {nx : Nat} : ∀ {is : List Nat} {vs : List CV} {xs : List V} {l l' : CL} {σ : L2.St}, RL K μ nx H l σ → RVs K μ nx H vs xs → setC l is vs = some l' → RL K μ nx H l' (setS σ is xs) ∧ xs.length = is.length
  | [], _, _, l, l', σ, rl, .nil, h => by
    unfold setC at h
    cases h
    exact ⟨rl, rfl⟩
  | [], _, _, l, l', σ, rl, .cons _ _, h => by
    unfold setC at h
    cases h
  | i :: is, _, _, l, l', σ, rl, .nil, h => by
    unfold setC at h
    cases h
  | i :: is, v :: vs, x :: xs, l, l', σ, rl, .cons h1 h2, h => by
    unfold setC at h
    obtain ⟨q1, q2⟩ := setC_rl (rl.set i h1) h2 h
    exact ⟨q1, by rw [List.length_cons, List.length_cons, q2]⟩
theorem wipe_set {σ : L2.St} {i : Nat} {x : Option V} : ∀ {vs : List Nat}, i ∈ vs → wipe (σ.set i x) vs = wipe σ vs
  | v :: vs, h => by
    show (wipe (σ.set i x) vs).set v none = (wipe σ vs).set v none
    by_cases e : i ∈ vs
    · rw [wipe_set e]
    · have ev : i = v := (List.mem_cons.mp h).resolve_right e
      subst ev
      have out : ∀ ws : List Nat, i ∉ ws → wipe (σ.set i x) ws = (wipe σ ws).set i x := fun ws => by
        induction ws with
        | nil => exact fun _ => rfl
        | cons w ws ih =>
          intro no
          show (wipe (σ.set i x) ws).set w none = ((wipe σ ws).set w none).set i x
          rw [ih fun z => no (List.mem_cons_of_mem _ z)]
          exact List.set_comm _ _ fun z => no (z ▸ List.mem_cons_self)
      rw [out vs e, List.set_set]
theorem wipe_setS {vs : List Nat} : ∀ {is : List Nat} {xs : List V} {σ : L2.St}, (∀ i ∈ is, i ∈ vs) → wipe (setS σ is xs) vs = wipe σ vs
  | [], _, σ, _ => by
    unfold setS
    rfl
  | i :: is, [], σ, _ => rfl
  | i :: is, x :: xs, σ, h => by
    show wipe (setS (σ.set i (some x)) is xs) vs = _
    rw [wipe_setS fun j hj => h j (List.mem_cons_of_mem _ hj), wipe_set (h i List.mem_cons_self)]
variable (T K)
def tG (t : Tg) : TG := fun v σ H Q => ∃ μ C l c l', Rel T K μ C H ∧ RL K μ C.nx H l σ ∧ RV K μ C.nx H c v ∧ stT t c l = some l' ∧ ∀ σ', RL K μ C.nx H l' σ' → (∀ vs, t.in vs → wipe σ' vs = wipe σ vs) → Q σ' H
variable {T K}
theorem PG.imp {e : Expr} {t t' : TG} (h : PG X e t) (i : ∀ v σ H Q, t' v σ H Q → t v σ H Q) : PG X e t' := ⟨fun pins s σ H v u Q I r q => h.run pins s σ H v u Q I r (i _ _ _ _ q)⟩
theorem xg_nm {x : Str} {pos : Pos} (i : Nat) (hN : X.N.Nodup) (hi : X.N[i]? = some x) (hx : Loc X.env.scope x) (hf : X.fn x = true ∨ X.env.scope.names.lookup x = some .local := by first | exact .inl rfl | exact .inr rfl | assumption) : PG X (.Name x pos) (tG T X.K (.nm i)) := by
  refine PG.imp (pg_name hN hi hx hf) fun v σ H Q ⟨μ, C, l, c, l', r, rl, rv, e, h⟩ => ?_
  cases e
  exact h _ (rl.set i rv) fun vs hv => wipe_set hv
/-- names one after another -/
def gNs (is : List Nat) : TGs := fun vs σ H Q => vs.length = is.length ∧ Q (setS σ is vs) H
theorem PGs.imp {es : List Expr} {t t' : TGs} (h : PGs X es t) (i : ∀ vs σ H Q, t' vs σ H Q → t vs σ H Q) : PGs X es t' := ⟨fun pins s σ H v u Q I r q => h.run pins s σ H v u Q I r (i _ _ _ _ q)⟩
theorem gns_nil : PGs X [] (gNs []) := PGs.imp pgs_nil fun vs σ H Q ⟨h1, h2⟩ => by
  cases vs with
  | nil => exact ⟨rfl, h2⟩
  | cons a r => cases h1
theorem gns_cons {x : Str} {pos : Pos} {es : List Expr} {is : List Nat} (i : Nat) (hN : X.N.Nodup) (hi : X.N[i]? = some x) (hx : Loc X.env.scope x) (h : PGs X es (gNs is)) (hf : X.fn x = true ∨ X.env.scope.names.lookup x = some .local := by first | exact .inl rfl | exact .inr rfl | assumption)
    (hs : (assignEach (.Name x pos :: es) X.env).map (·.2) = assign (.Name x pos) X.env :: (assignEach es X.env).map (·.2) := by rfl) : PGs X (.Name x pos :: es) (gNs (i :: is)) := by
  refine PGs.imp (pgs_cons (pg_name hN hi hx hf) h hs) fun vs σ H Q ⟨h1, h2⟩ => ?_
  cases vs with
  | nil => cases h1
  | cons a r => exact ⟨a, r, rfl, by simpa using h1, h2⟩
theorem xg_tp {es : List Expr} {k : Nat} {is : List Nat} {pos : Pos} (hc : X.calm = true) (h : PGs X es (gNs is)) (hn : (assignEach es X.env).length = is.length := by rfl) (hst : (assignEach es X.env).findIdx? (·.1) = none := by rfl) :
    PG X (.Tuple es k pos) (tG T X.K (.tp is)) := by
  refine PG.imp (pg_tup (n := is.length) hc h hn hst) fun v σ H Q ⟨μ, C, l, c, l', r, rl, rv, e, q⟩ => ?_
  cases rv with
  | @tup a xs vs h1 h2 =>
    obtain ⟨q1, q2⟩ := setC_rl rl h2 e
    exact ⟨a, vs, rfl, SqT.of h1, q2, q2, q _ q1 fun ws hw => wipe_setS hw⟩
  | _ => cases e
theorem xg_tq {x : Str} {es : List Expr} {k k2 : Nat} {js : List Nat} {pos pos2 px : Pos} (i : Nat) (hc : X.calm = true) (hN : X.N.Nodup) (hi : X.N[i]? = some x) (hx : Loc X.env.scope x) (h : PGs X es (gNs js)) (hf : X.fn x = true ∨ X.env.scope.names.lookup x = some .local := by first | exact .inl rfl | exact .inr rfl | assumption)
    (hn : (assignEach es X.env).length = js.length := by rfl) (hst : (assignEach es X.env).findIdx? (·.1) = none := by rfl)
    (hs : (assignEach [.Name x px, .Tuple es k2 pos2] X.env).map (·.2) = assign (.Name x px) X.env :: (assignEach [.Tuple es k2 pos2] X.env).map (·.2) := by rfl) (hs2 : (assignEach [.Tuple es k2 pos2] X.env).map (·.2) = assign (.Tuple es k2 pos2) X.env :: (assignEach [] X.env).map (·.2) := by rfl)
    (hn2 : (assignEach [.Name x px, .Tuple es k2 pos2] X.env).length = 2 := by rfl) (hst2 : (assignEach [.Name x px, .Tuple es k2 pos2] X.env).findIdx? (·.1) = none := by rfl) : PG X (.Tuple [.Name x px, .Tuple es k2 pos2] k pos) (tG T X.K (.tq i js)) := by
  refine PG.imp (pg_tup (n := 2) hc (pgs_cons (pg_name hN hi hx hf) (pgs_cons (pg_tup (n := js.length) hc h hn hst) pgs_nil hs2) hs) hn2 hst2) fun v σ H Q ⟨μ, C, l, c, l', r, rl, rv, e, q⟩ => ?_
  cases rv with
  | @tup a xs vs h1 h2 =>
    unfold stT at e
    split at e
    · exact nomatch ‹Tg.tq i js = Tg.nm _›
    · exact nomatch ‹Tg.tq i js = Tg.tp _›
    · rename_i i' js' a' ys e1 e2
      cases e1
      cases e2
      cases h2 with
      | cons g1 g2 =>
        cases g2 with
        | cons g2 g3 =>
          cases g3
          cases g2 with
          | @tup a2 ys2 vs2 k1 k2' =>
            obtain ⟨q1, q2⟩ := setC_rl (rl.set i g1) k2' e
            exact ⟨a, _, rfl, SqT.of h1, rfl, _, _, rfl, _, _, rfl, ⟨a2, vs2, rfl, SqT.of k1, q2, q2, rfl, q _ q1 fun ws hw => (wipe_setS hw.2).trans (wipe_set hw.1)⟩⟩
    · cases e
  | _ => cases e
def sAsg (m : EM) (t : Tg) : SM := fun l C => match m l C with
  | .ok v C1 => (match stT t v l with
    | some l' => .nx l' C1
    | none => .bad)
  | .exc k fs l' C' => .exc k fs l' C'
  | .bad => .bad
section
variable {W : WX} {e tg : Expr} {m : EM} {t : Tg} {pos : Pos}
theorem asg_ok {D : Ends} {σ : L2.St} {H : Hp} (h : tS T K W (sAsg m t) D σ H) : tAsg (tX T K W m) (tG T K t) D σ H := by
  obtain ⟨μ, l, C, r, rl, h⟩ := h
  refine ⟨μ, l, C, r, rl, ?_⟩
  unfold sAsg at h
  cases ea : m l C with
  | ok v C1 =>
    rw [ea] at h
    intro μ1 H1 x st rel rv
    dsimp only at h
    cases et : stT t v l with
    | none =>
      rw [et] at h
      exact (show False from h).elim
    | some l' =>
      rw [et] at h
      exact ⟨μ1, C1, l, v, l', rel, rl.step st, rv, et, fun σ' rl' _ => h μ1 H1 σ' st rel rl'⟩
  | bad =>
    rw [ea] at h
    exact h
  | exc k fs l' C' =>
    rw [ea] at h
    exact h
theorem xs_set {x : Str} {pos' : Pos} (i : Nat) (hN : X.N.Nodup) (hi : X.N[i]? = some x) (hx : Loc X.env.scope x) (he : PE X e (tX T X.K W m)) (hs : swapsWith e (some (.Name x pos')) pos.line X.env = pure false := by rfl) (hf : X.fn x = true ∨ X.env.scope.names.lookup x = some .local := by first | exact .inl rfl | exact .inr rfl | assumption) :
    PS X (.Assign [.Name x pos'] e pos) (tS T X.K W (sAsg m (.nm i))) := by
  refine PS.imp (ps_set hN hi hx he hs hf) fun D σ H h => ?_
  obtain ⟨μ, l, C, r, rl, h⟩ := h
  refine ⟨μ, l, C, r, rl, ?_⟩
  unfold sAsg at h
  cases ea : m l C with
  | ok v C1 =>
    rw [ea] at h
    exact fun μ1 H1 x st rel rv => h μ1 H1 _ st rel ((rl.step st).set i rv)
  | bad =>
    rw [ea] at h
    exact h
  | exc k fs l' C' =>
    rw [ea] at h
    exact h
theorem xs_asg (he : PE X e (tX T X.K W m)) (hg : PG X tg (tG T X.K t)) (hs : swapsWithSole [tg] e pos.line X.env = pure false := by rfl) (hw : swappedStores [tg] e X.env = pure none := by rfl)
    (h1 : (assignEach [tg] X.env).map (·.2) = [assign tg X.env] := by rfl) : PS X (.Assign [tg] e pos) (tS T X.K W (sAsg m t)) := PS.imp (ps_asg he hg hs hw h1) fun D σ H h => asg_ok h
end

/-! ### what a loop walks -/
abbrev NX := Nat → CH → Option (Option CV)
variable (K)
/-- later; what is not ours may have changed -/
structure Lat (μ : Mu) (C : CH) (H : Hp) (μ' : Mu) (C' : CH) (H' : Hp) : Prop where
  nx : C.nx ≤ C'.nx
  ag : ∀ n, n < C.nx → μ' n = μ n
  sq : ∀ a vs, TupAt K H a vs → TupAt K H' a vs
variable {K}
theorem Step.lat {μ' : Mu} {C' : CH} {H' : Hp} (s : Step K μ C H μ' C' H') : Lat K μ C H μ' C' H' := ⟨s.nx, s.ag, s.sq⟩
theorem Lat.trans {μ1 μ2 : Mu} {C1 C2 : CH} {H1 H2 : Hp} (a : Lat K μ C H μ1 C1 H1) (b : Lat K μ1 C1 H1 μ2 C2 H2) : Lat K μ C H μ2 C2 H2 :=
  ⟨Nat.le_trans a.nx b.nx, fun n h => (b.ag n (Nat.lt_of_lt_of_le h a.nx)).trans (a.ag n h), fun x vs h => b.sq x vs (a.sq x vs h)⟩
theorem RV.lat {μ' : Mu} {C' : CH} {H' : Hp} (st : Lat K μ C H μ' C' H') {v : CV} {x : V} (r : RV K μ C.nx H v x) : RV K μ' C'.nx H' v x := r.mono st.nx st.ag st.sq
theorem RVs.lat {μ' : Mu} {C' : CH} {H' : Hp} (st : Lat K μ C H μ' C' H') {v : List CV} {x : List V} (r : RVs K μ C.nx H v x) : RVs K μ' C'.nx H' v x := r.mono st.nx st.ag st.sq
theorem RL.lat {μ' : Mu} {C' : CH} {H' : Hp} {l : CL} {σ : L2.St} (st : Lat K μ C H μ' C' H') (r : RL K μ C.nx H l σ) : RL K μ' C'.nx H' l σ := r.mono st.nx st.ag st.sq
variable (T K)
structure Wk (μ0 : Mu) (C0 : CH) (H0 : Hp) (J : It) (nxt : NX) : Prop where
  goes : ∀ (i : Nat) (v : CV) (μ : Mu) (C : CH) (H : Hp), nxt i C = some (some v) → Lat K μ0 C0 H0 μ C H → Rel T K μ C H → J.go i H ∧ ∀ x H', J.yld i H x H' → Rel T K μ C H' ∧ Step K μ C H μ C H' ∧ RV K μ C.nx H' v x
  stops : ∀ (i : Nat) (μ : Mu) (C : CH) (H : Hp), nxt i C = some none → Lat K μ0 C0 H0 μ C H → Rel T K μ C H → J.stop i H
variable {T K}
inductive RI where
  | ok (nxt : NX) (C : CH)
  | exc (k : Nat) (fs : List (Nat × CV)) (l : CL) (C : CH)
  | bad
abbrev IM := CL → CH → RI
variable (T K)
def SatI (W : WX) (σ : L2.St) (μ : Mu) (C : CH) (H : Hp) (R : It → Hp → Prop) : RI → Prop
  | .ok nxt C' => ∀ μ' H' J, Step K μ C H μ' C' H' → Rel T K μ' C' H' → Wk T K μ' C' H' J nxt → R J H'
  | .exc k fs l' C' => ∀ μ' H' σ' cls d, Step K μ C H μ' C' H' → Rel T K μ' C' H' → RL K μ' C'.nx H' l' σ' → XR T K μ' C'.nx H' k fs cls d → W cls d σ' H'
  | .bad => False
def tI (W : WX) (m : IM) : TI := fun σ H R => ∃ μ l C, Rel T K μ C H ∧ RL K μ C.nx H l σ ∧ SatI T K W σ μ C H R (m l C)
variable {T K}
theorem PI.imp {tg e : Expr} {t t' : TI} (h : PI X tg e t) (i : ∀ σ H R, t' σ H R → t σ H R) : PI X tg e t' := ⟨fun pins s σ H R I q => h.run pins s σ H R I (i _ _ _ q)⟩
def loop (nxt : NX) (t : Tg) (b : SM) : Nat → Nat → SM
  | 0, _ => fun _ _ => .bad
  | n + 1, i => fun l C => match nxt i C with
    | none => .bad
    | some none => .nx l C
    | some (some v) => (match stT t v l with
      | none => .bad
      | some l1 => (match b l1 C with
        | .nx l2 C2 => loop nxt t b n (i + 1) l2 C2
        | .ct l2 C2 => loop nxt t b n (i + 1) l2 C2
        | .bk l2 C2 => .nx l2 C2
        | .ret v C2 => .ret v C2
        | .exc k fs l' C' => .exc k fs l' C'
        | .bad => .bad))
def sFor (im : IM) (t : Tg) (b : SM) : SM := fun l C => match im l C with
  | .ok nxt C1 => loop nxt t b 1000000 0 l C1
  | .exc k fs l' C' => .exc k fs l' C'
  | .bad => .bad
section
variable {W : WX} {im : IM} {t : Tg} {b : SM}
theorem for_ok {D : Ends} {σ : L2.St} {H : Hp} (h : tS T K W (sFor im t b) D σ H) : tFor (tI T K W im) (tG T K t) (tS T K W b) D σ H := by
  obtain ⟨μ, l, C, r, rl, h⟩ := h
  refine ⟨μ, l, C, r, rl, ?_⟩
  unfold sFor at h
  cases ea : im l C with
  | bad =>
    rw [ea] at h
    exact h
  | exc k fs l' C' =>
    rw [ea] at h
    exact h
  | ok nxt C1 =>
    rw [ea] at h
    dsimp only at h
    intro μ1 H1 J st1 rel1 wk
    refine ⟨fun i m σ H => ∃ μ l C, Step K μ1 C1 H1 μ C H ∧ Rel T K μ C H ∧ RL K μ C.nx H l σ ∧ SatS T K W D μ C H (loop nxt t b m i l C), ⟨1000000, μ1, l, C1, rel1.refl, rel1, rl.step st1, h.shift st1⟩, ?_⟩
    rintro i m σ H ⟨μ, l, C, st, rel, rl, h⟩
    cases m with
    | zero => exact (show False from h).elim
    | succ m =>
      unfold loop at h
      cases en : nxt i C with
      | none =>
        rw [en] at h
        exact (show False from h).elim
      | some o =>
        rw [en] at h
        cases o with
        | none => exact .inl ⟨wk.stops i μ C H en st.lat rel, h μ H σ rel.refl rel rl⟩
        | some v =>
          dsimp only at h
          cases et : stT t v l with
          | none =>
            rw [et] at h
            exact (show False from h).elim
          | some l1 =>
            rw [et] at h
            dsimp only at h
            obtain ⟨go, yl⟩ := wk.goes i v μ C H en st.lat rel
            refine .inr ⟨go, fun σ' H' => ∃ m', m' < m + 1 ∧ ∃ μ l C, Step K μ1 C1 H1 μ C H' ∧ Rel T K μ C H' ∧ RL K μ C.nx H' l σ' ∧ SatS T K W D μ C H' (loop nxt t b m' (i + 1) l C), fun σ' H' q => q, fun x H' y => ?_⟩
            obtain ⟨rel2, st2, rv⟩ := yl x H' y
            refine ⟨μ, C, l, v, l1, rel2, rl.step st2, rv, et, fun σ' rl' _ => ⟨μ, l1, C, rel2, rl', ?_⟩⟩
            have h := h.shift st2
            cases eb : b l1 C with
            | nx l2 C2 =>
              rw [eb] at h
              intro μ3 H3 σ3 st3 rel3 rl3
              exact ⟨m, Nat.lt_succ_self _, μ3, l2, C2, (st.trans st2).trans st3, rel3, rl3, h.shift st3⟩
            | ct l2 C2 =>
              rw [eb] at h
              intro μ3 H3 σ3 st3 rel3 rl3
              exact ⟨m, Nat.lt_succ_self _, μ3, l2, C2, (st.trans st2).trans st3, rel3, rl3, h.shift st3⟩
            | bk l2 C2 =>
              rw [eb] at h
              exact h
            | ret v C2 =>
              rw [eb] at h
              exact h
            | exc k fs l' C' =>
              rw [eb] at h
              exact h
            | bad =>
              rw [eb] at h
              exact h
theorem xs_for {tg iter : Expr} {body : List Stmt} {pos : Pos} (hp : PassesOwn (model X.prog X.w) X.A X.env X.xe) (hc : X.calm = true) (hi : PI X tg iter (tI T X.K W im)) (hg : PG X tg (tG T X.K t)) (hb : PSs X body (tS T X.K W b)) (hs : ∀ x, foldedSetIterable iter X.env x = pure x := by intro _; rfl) :
    PS X (.For tg iter body [] pos) (tS T X.K W (sFor im t b)) := PS.imp (ps_for hp hc hi hg hb hs) fun D σ H h => for_ok h
end
end Ex

set_option Elab.async false
set_option linter.all false
set_option maxRecDepth 100000
/-! Ex10: enumerate over a tuple. -/
namespace PySem
open Sem (wp)
set_option maxHeartbeats 1000000 in
theorem exMeetsEnumT (b : Addr) (us : Array Value) (k : Nat) (dd : Option Addr) (ss : Array (Option Value)) :
    Meets (Builtin.«enumerate.__new__» ⟨[.type "enumerate", .ref b], []⟩) (fun _ R s => s.heap.get? b = some { cls := .type "tuple", dict := dd, data := .seq us k, slots := ss } ∧
      R (.ok (.ret (.ref (s.heap.push { cls := .type "tuple_iterator", data := .fields #[.ref b, .int 0 0] }).objs.size)))
        { s with heap := (s.heap.push { cls := .type "tuple_iterator", data := .fields #[.ref b, .int 0 0] }).push { cls := .type "enumerate", data := .fields #[.none, .bool false, .ref s.heap.objs.size, rawInt 0, .none, .none] } }) := by
  refine .of_wp fun prog w A R s h => ?_
  obtain ⟨hp, g, d, tk, os⟩ := s
  obtain ⟨ho, q⟩ := h
  have z := sub_enumerate
  have it : Heap.IsTuple (Shared.heap ⟨hp, g, d, tk, os⟩) b us := ⟨_, ho, rfl, k, rfl⟩
  wp_walk using AutoSeq1.wpAny_loadPart' ho
  refine wpAny_stack_any fun st => wpAny_pure ?_
  split
  · rename_i c _ _ _ _ _
    cases (c == Value.type "enumerate") <;> (wp_walk using AutoSeq1.wpAny_loadPart' ho, wpAny_pyIter_tuple it) <;> exact ⟨_, rfl, q⟩
  · wp_walk using AutoSeq1.wpAny_loadPart' ho, wpAny_pyIter_tuple it
    exact ⟨_, rfl, q⟩
section
variable {prog : Program} {w : World} {A : Around} {E : Value → Shared → Prop} {s : Shared}
theorem exCallEnumT {b : Addr} {us : Array Value} {Q : Value → Shared → Prop} (ht : s.heap.IsTuple b us)
    (h : ∀ h', IsEnum h' (s.heap.objs.size + 1) s.heap.objs.size 0 .none → h'.IsTupleIter s.heap.objs.size b 0 → (∀ a o, s.heap.get? a = some o → h'.get? a = some o) → Q (.ref (s.heap.objs.size + 1)) { s with heap := h' }) :
    wpAny (model prog w) A (call (.type "enumerate") [.ref b]) Q E s := by
  obtain ⟨⟨c, dd, dt, ss⟩, ho, hc, k, hd⟩ := ht
  have ec : c = .type "tuple" := hc
  have ed : dt = .seq us k := hd
  subst ec ed
  refine callType_new F.called_enumerate (by decide) (F.typeCall_enumerate_1 _) (F.newCall_enumerate_1 _) (fun obj => F.args_object_init_2 obj _) F.entry_enumerate_new (exMeetsEnumT b us k dd ss) ⟨ho, ?_⟩
  generalize hi : ({ cls := .type "tuple_iterator", data := .fields #[.ref b, .int 0 0] } : Obj) = oi
  generalize hj : ({ cls := .type "enumerate", data := .fields #[.none, .bool false, .ref s.heap.objs.size, rawInt 0, .none, .none] } : Obj) = oj
  have sz : (s.heap.push oi).objs.size = s.heap.objs.size + 1 := Heap.size_push ..
  have g1 : ((s.heap.push oi).push oj).get? (s.heap.objs.size + 1) = some oj := by
    have := Heap.get?_push_size (s.heap.push oi) (o := oj) (by rw [← hj]; rfl)
    rw [sz] at this
    exact this
  have g0 : ((s.heap.push oi).push oj).get? s.heap.objs.size = some oi := Heap.get?_push_of_some _ (Heap.get?_push_size _ (by rw [← hi]; rfl))
  have en : IsEnum ((s.heap.push oi).push oj) (s.heap.objs.size + 1) s.heap.objs.size 0 .none := by
    subst hj
    exact g1
  show _ ∧ _
  rw [sz]
  refine ⟨⟨_, en, rfl⟩, h _ en ⟨oi, g0, by rw [← hi], by rw [← hi]; rfl⟩ fun a o x => Heap.get?_push_of_some _ (Heap.get?_push_of_some _ x)⟩
end
theorem exDrawsT {prog : Program} {w : World} {A : Around} (hh : A.handled = none) (it b : Addr) (ne : b ≠ it) (us : Array Value) :
    Draws prog w A it [it, b] us.size (fun i v => us[i]? = some v) (fun i h => h.IsTupleIter it b i ∧ h.IsTuple b us) where
  live := fun _ _ st => st.1.elim fun o q => ⟨o, q.1⟩
  frame := fun i h h' st hk => by
    obtain ⟨⟨o, e1, e2⟩, ⟨u, e3, e4⟩⟩ := st
    exact ⟨⟨o, hk it (by simp) o e1, e2⟩, ⟨u, hk b (by simp) u e3, e4⟩⟩
  item := fun i s Q E hi st hQ => by
    refine RZ.nextOf_tuple_item st.1 st.2 (x := us[i]) (by simp [hi]) fun h' q sb => ?_
    exact hQ _ h' s.toks (by simp [hi]) ⟨q, st.2.extBut sb.extBut ne⟩ sb
  done := fun s Q E st hE => RZ.nextOf_tuple_end hh st.1 st.2 (by simp) hE
end PySem
namespace Ex
open PySem PySem.Spec PyProof.Rows L2
/-- enumerate(t), t a tuple -/
def IteT (K : PySem.W.Frag) (a : Addr) (xs : List V) : It :=
  ⟨fun i H => SqT K H a xs ∧ i < xs.length, fun i H v H' => ∃ p x, v = .ref p ∧ H p = none ∧ H' = upd H p (.tup [.int (i : Nat), x]) ∧ xs[i]? = some x, fun i H => SqT K H a xs ∧ i = xs.length⟩
theorem turn_enumT {P : Program} {w : World} {K : PySem.W.Frag} {elts : List Expr} {kk : Nat} {tpos : Pos} (a e it : Addr) (xs : List V) (hae : a ≠ e) (hai : a ≠ it) :
    Turn P w K (.Tuple elts kk tpos) (IteT K a xs) [e, it] e (fun i h => (∃ old, IsEnum h e it ((i : Nat) : Int) old) ∧ h.IsTupleIter it a i ∧ e ≠ it) where
  mem := List.mem_cons_self
  obj := fun i h st b hb => by
    obtain ⟨⟨old, he⟩, ⟨o, ho, hc, hd⟩, _⟩ := st
    rcases List.mem_cons.mp hb with rfl | hb
    · exact ⟨_, he, fun v q => nomatch q⟩
    · rw [List.mem_singleton.mp hb]
      exact ⟨o, ho, fun v q => by rw [hd] at q; cases q⟩
  keep := fun i h h' st k => by
    obtain ⟨⟨old, he⟩, ⟨o, ho, hc⟩, ne⟩ := st
    exact ⟨⟨old, k e (by simp) _ he⟩, ⟨o, k it (by simp) _ ho, hc⟩, ne⟩
  item := by
    intro X hP hw hK hc i pins s σ H E I hf st ⟨hq, hlt⟩
    subst hP hw hK
    obtain ⟨⟨old, he⟩, hit, ne⟩ := st
    obtain ⟨its, rv, ht, hz⟩ := I.tuple hq
    have hl : its.toArray.size = xs.length := by rw [List.size_toArray]; exact rv.length.symm
    have le : e < s.heap.objs.size := Heap.lt_size he
    have li : it < s.heap.objs.size := by
      obtain ⟨_, q, _⟩ := hit
      exact Heap.lt_size q
    have D := exDrawsT (prog := X.prog) (w := X.w) (A := X.A.in1) (I.ok.hd hc) it a hai its.toArray
    refine wpAny_pyNext_enum_itemD D he ⟨hit, ht⟩ (by rw [hl]; exact hlt) ne (fun z => ?_) fun u h' tk hu ho hs' hT hsz hk => ?_
    · rcases List.mem_cons.mp z with z | z
      · exact ne z
      · exact hae (List.mem_singleton.mp z).symm
    · obtain ⟨x, hx, ru⟩ : ∃ x, xs[i]? = some x ∧ RelV x u := by
        obtain ⟨w', hw', r'⟩ := rv.get (i := i) (List.getElem?_eq_getElem hlt)
        have : its.toArray[i]? = some w' := by simpa using hw'
        have e2 : w' = u := Option.some.inj (this.symm.trans hu)
        subst e2
        exact ⟨_, List.getElem?_eq_getElem hlt, r'⟩
      refine ⟨_, rfl, wpAny_letOwnedTupleGo_enum (s := { s with heap := h', toks := tk + 1 }) ho fun h'' he' sb => ?_⟩
      have hT2 : h''.get? s.heap.objs.size = some { cls := .type "tuple", data := .seq #[.int i tk, u] } := (sb.2 _ (Nat.ne_of_gt le)).trans hT
      have new : ObjOk X.prog X.w (upd H s.heap.objs.size (.tup [.int (i : Nat), x])) h'' s.heap.objs.size (.tup [.int (i : Nat), x]) :=
        ⟨by show 2 ≤ sizeLine; decide, [.int i tk, u], .cons ⟨_, rfl⟩ (.cons ru .nil), ⟨_, hT2, rfl, _, rfl⟩⟩
      have I1 : Inv X pins σ (upd H s.heap.objs.size (.tup [.int (i : Nat), x])) { s with heap := h'', toks := tk + 1 } := by
        refine I.turnedNew (ch := [e, it]) (fun b ob hb q => ?_) hf (Nat.le_refl _) new
        have n1 : b ≠ e := fun z => hb (by simp [z])
        have n2 : b ≠ it := fun z => hb (by simp [z])
        exact (sb.2 b n1).trans (hk b ob n1 n2 q)
      refine ⟨.ref s.heap.objs.size, _, I1, rfl, ⟨_, x, rfl, I.hok.fresh (Nat.le_refl _), rfl, hx⟩, ⟨⟨u, ?_⟩, ?_, ne⟩, fun b hb => ?_⟩
      · have e1 : ((i + 1 : Nat) : Int) = (i : Int) + 1 := by omega
        rw [e1]
        exact he'
      · obtain ⟨o, q1, q2⟩ := hs'.1
        exact ⟨o, (sb.2 it (Ne.symm ne)).trans q1, q2⟩
      · have lt : b < s.heap.objs.size := by
          rcases List.mem_cons.mp hb with rfl | hb
          · exact le
          · rw [List.mem_singleton.mp hb]
            exact li
        rw [upd_ne (Nat.ne_of_lt lt)]
        exact (hf b hb).1
  done := by
    intro X hP hw hK hc i pins s σ H E I hf st ⟨hq, hlt⟩
    subst hP hw hK
    obtain ⟨⟨old, he⟩, hit, ne⟩ := st
    obtain ⟨its, rv, ht, hz⟩ := I.tuple hq
    have hl : its.toArray.size = xs.length := by rw [List.size_toArray]; exact rv.length.symm
    obtain ⟨f0, f1, f2, f3, f4, f5⟩ := hf it (by simp)
    have D := exDrawsT (prog := X.prog) (w := X.w) (A := X.A.in1) (I.ok.hd hc) it a hai its.toArray
    refine wpAny_pyNext_enum_endD D he ?_ fun h' eb => ⟨rfl, I.turned (t' := s.toks) (fun b o hb q => eb b o hb q) f0 f1 f3 f4 f5⟩
    rw [hl, ← hlt]
    exact ⟨hit, ht⟩
  self := fun A i s Q E st h => let ⟨⟨_, he⟩, _⟩ := st; wpAny_pyIter_enum he h
def iEnumT (K : PySem.W.Frag) (ta : TA) : TI := fun σ H R => ta σ H fun vs H1 => ∃ a xs, vs = [.ref a] ∧ SqT K H1 a xs ∧ R (IteT K a xs) H1
theorem pi_enumT {X : Cx} {e : Expr} {ta : TA} {p pos tpos : Pos} {elts : List Expr} {kk : Nat} (hg : Gl X "enumerate") (hm : X.mg "enumerate" = none) (ha : PA X [e] ta) (hs : starEach [e] X.env = [(false, eval e X.env)] := by rfl) :
    PI X (.Tuple elts kk tpos) (.Call (.Name "enumerate" p) [e] [] pos) (iEnumT X.K ta) := by
  constructor
  intro pins s σ H R I h
  refine Call_ (ld_blt I hg hm boot_enumerate (PyProof.Rows.callWith_type1 (thn (ha.run pos pins s σ H _ I h) ?_) hs rfl))
  intro us s1 ⟨vs, H1, I1, r1, a, xs, ex, hq, q⟩
  subst ex
  rw [Vals.ref1 r1]
  obtain ⟨its, rv, ht, hz⟩ := I1.tuple hq
  have la : a < s1.heap.objs.size := by
    obtain ⟨o, e1, _⟩ := ht
    exact Heap.lt_size e1
  refine exCallEnumT ht fun h' he hit hk => wpAny_pyIter_enum he ?_
  refine ⟨s1.heap.objs.size + 1, [s1.heap.objs.size + 1, s1.heap.objs.size], _, _, H1, rfl, I1.kept (t' := s1.toks) hk, turn_enumT a (s1.heap.objs.size + 1) s1.heap.objs.size xs (Nat.ne_of_lt (Nat.lt_succ_of_lt la)) (Nat.ne_of_lt la), ⟨⟨.none, he⟩, hit, Nat.succ_ne_self _⟩, fun b hb => ?_, q⟩
  have le : s1.heap.objs.size ≤ b := by
    rcases List.mem_cons.mp hb with rfl | hb
    · exact Nat.le_succ _
    · rw [List.mem_singleton.mp hb]
      exact Nat.le_refl _
  exact I1.fpOk le (I1.hok.fresh le)
end Ex

set_option Elab.async false
set_option linter.all false
set_option maxRecDepth 100000
/-! Ex11: what is walked; comprehensions. -/
namespace Ex
open PySem PySem.Spec PyProof.Rows L2 TL
variable {T : Tab} {K : PySem.W.Frag} {X : Cx} {μ : Mu} {C : CH} {H : Hp}

/-! ### iterables -/
def nxT (xs : List CV) : NX := fun i _ => some (getC xs i)
def nxL (n : Nat) : NX := fun i C => match isLst (C.get n) with
  | some xs => some (getC xs i)
  | none => none
def nxR (lo : Int) (n : Nat) : NX := fun i _ => match Nat.blt i n with
  | true => some (some (.int (lo + (i : Nat))))
  | false => some none
def pairI (i : Nat) : Option CV → Option CV
  | some v => some (.tup [.int (i : Nat), v])
  | none => none
def nxET (xs : List CV) : NX := fun i _ => match pairI i (getC xs i) with
  | some v => some (some v)
  | none => (match Nat.beq i xs.length with
    | true => some none
    | false => none)
def nxEL (n : Nat) : NX := fun i C => match isLst (C.get n) with
  | some xs => some (pairI i (getC xs i))
  | none => none
def nxS (l : List Nat) : NX := fun i _ => match getC l i with
  | some c => some (some (.str [c]))
  | none => some none
theorem getC_none {α : Type} {l : List α} {i : Nat} (h : getC l i = none) : l.length ≤ i := by
  rw [getC_eq] at h
  exact List.getElem?_eq_none_iff.mp h
theorem wk_tup {a : Addr} {xs : List CV} {vs : List V} (h : TupAt K H a vs) (r : RVs K μ C.nx H xs vs) : Wk T K μ C H (Itt K a) (nxT xs) where
  goes := fun i v μ1 C1 H1 e st rel => by
    have e : getC xs i = some v := Option.some.inj e
    rw [getC_eq] at e
    obtain ⟨x, q1, q2⟩ := r.get e
    have hq : SqT K H1 a vs := SqT.of (st.sq _ _ h)
    refine ⟨⟨vs, x, hq, q1⟩, fun y H' ⟨e1, e2⟩ => ?_⟩
    subst e1
    have e3 : x = y := Option.some.inj (q1.symm.trans (e2 vs hq))
    subst e3
    exact ⟨rel, rel.refl, q2.lat st⟩
  stops := fun i μ1 C1 H1 e st rel => ⟨vs, SqT.of (st.sq _ _ h), by rw [r.length]; exact getC_none (Option.some.inj e)⟩
theorem wk_lst {n : Nat} (lt : n < C.nx) : Wk T K μ C H (Itl K (μ n)) (nxL n) where
  goes := fun i v μ1 C1 H1 e st rel => by
    unfold nxL at e
    cases e1 : isLst (C1.get n) with
    | none =>
      rw [e1] at e
      cases e
    | some xs =>
      rw [e1] at e
      have e : getC xs i = some v := Option.some.inj e
      rw [getC_eq] at e
      obtain ⟨vs, g1, r1⟩ := rel.obj n _ (isLst_ok e1)
      rw [st.ag n lt] at g1
      obtain ⟨x, q1, q2⟩ := r1.get e
      refine ⟨⟨vs, x, SqL.of g1, q1⟩, fun y H' ⟨e2, e3⟩ => ?_⟩
      subst e2
      have e4 : x = y := Option.some.inj (q1.symm.trans (e3 vs (SqL.of g1)))
      subst e4
      exact ⟨rel, rel.refl, q2⟩
  stops := fun i μ1 C1 H1 e st rel => by
    unfold nxL at e
    cases e1 : isLst (C1.get n) with
    | none =>
      rw [e1] at e
      cases e
    | some xs =>
      rw [e1] at e
      have e : getC xs i = none := Option.some.inj e
      obtain ⟨vs, g1, r1⟩ := rel.obj n _ (isLst_ok e1)
      rw [st.ag n lt] at g1
      exact ⟨vs, SqL.of g1, by rw [r1.length]; exact getC_none e⟩
theorem wk_rng {lo : Int} {n : Nat} : Wk T K μ C H (Itr lo n) (nxR lo n) where
  goes := fun i v μ1 C1 H1 e st rel => by
    unfold nxR at e
    cases e1 : Nat.blt i n with
    | false =>
      rw [e1] at e
      cases e
    | true =>
      rw [e1] at e
      cases e
      refine ⟨by show i < n; simpa using e1, fun y H' ⟨e2, e3⟩ => ?_⟩
      subst e2 e3
      exact ⟨rel, rel.refl, .int _⟩
  stops := fun i μ1 C1 H1 e st rel => by
    unfold nxR at e
    cases e1 : Nat.blt i n with
    | true =>
      rw [e1] at e
      cases e
    | false =>
      show n ≤ i
      cases Nat.lt_or_ge i n with
      | inl q =>
        have e2 : Nat.blt i n = true := by simpa using q
        rw [e1] at e2
        cases e2
      | inr q => exact q
theorem wk_str {l : List Nat} : Wk T K μ C H (Its (stC l)) (nxS l) where
  goes := fun i v μ1 C1 H1 e st rel => by
    unfold nxS at e
    cases e1 : getC l i with
    | none =>
      rw [e1] at e
      cases e
    | some c =>
      rw [e1] at e
      cases e
      rw [getC_eq] at e1
      obtain ⟨lt, e2⟩ := List.getElem?_eq_some_iff.mp e1
      refine ⟨by show i < l.toArray.size; simpa using lt, fun y H' ⟨e3, d, e4, e5⟩ => ?_⟩
      subst e3 e5
      have e6 : l[i]? = some d := by
        have : l.toArray[i]? = some d := e4
        simpa using this
      rw [e1] at e6
      cases e6
      exact ⟨rel, rel.refl, .str [c]⟩
  stops := fun i μ1 C1 H1 e st rel => by
    unfold nxS at e
    cases e1 : getC l i with
    | some c =>
      rw [e1] at e
      cases e
    | none =>
      have := getC_none e1
      show l.toArray.size ≤ i
      simpa using this
theorem pair_new {i : Nat} {v : CV} {x : V} {p : Addr} (r : Rel T K μ C H) (rv : RV K μ C.nx H v x) (hp : H p = none) :
    Rel T K μ C (upd H p (.tup [.int (i : Nat), x])) ∧ Step K μ C H μ C (upd H p (.tup [.int (i : Nat), x])) ∧ RV K μ C.nx (upd H p (.tup [.int (i : Nat), x])) (.tup [.int (i : Nat), v]) (.ref p) := by
  obtain ⟨r1, s1⟩ := same r (upd_new (u := .tup [.int (i : Nat), x]) hp)
  exact ⟨r1, s1, RV.tupNew hp (.cons (.int _) (.cons rv .nil))⟩
theorem pairI_some {i : Nat} {o : Option CV} {w : CV} (h : pairI i o = some w) : ∃ v, o = some v ∧ w = .tup [.int (i : Nat), v] := by
  cases o with
  | none => cases h
  | some v =>
    cases h
    exact ⟨v, rfl, rfl⟩
theorem pairI_none {i : Nat} {o : Option CV} (h : pairI i o = none) : o = none := by
  cases o with
  | none => rfl
  | some v => cases h
theorem wk_enT {a : Addr} {xs : List CV} {vs : List V} (h : TupAt K H a vs) (r : RVs K μ C.nx H xs vs) : Wk T K μ C H (IteT K a vs) (nxET xs) where
  goes := fun i v μ1 C1 H1 e st rel => by
    unfold nxET at e
    cases ep : pairI i (getC xs i) with
    | none =>
      rw [ep] at e
      dsimp only at e
      split at e <;> cases e
    | some u =>
    rw [ep] at e
    cases e
    obtain ⟨w, e, ev⟩ := pairI_some ep
    subst ev
    rw [getC_eq] at e
    obtain ⟨x, q1, q2⟩ := r.get e
    obtain ⟨lt, _⟩ := List.getElem?_eq_some_iff.mp q1
    refine ⟨⟨SqT.of (st.sq _ _ h), lt⟩, fun y H' ⟨p, z, e1, e2, e3, e4⟩ => ?_⟩
    subst e1 e3
    have e5 : x = z := Option.some.inj (q1.symm.trans e4)
    subst e5
    exact pair_new rel (q2.lat st) e2
  stops := fun i μ1 C1 H1 e st rel => by
    unfold nxET at e
    cases ep : pairI i (getC xs i) with
    | some u =>
      rw [ep] at e
      cases e
    | none =>
      rw [ep] at e
      dsimp only at e
      cases eb : Nat.beq i xs.length with
      | false =>
        rw [eb] at e
        cases e
      | true => exact ⟨SqT.of (st.sq _ _ h), by rw [r.length]; exact beq_t eb⟩
theorem wk_enL {n : Nat} (lt : n < C.nx) : Wk T K μ C H (Ite K (μ n)) (nxEL n) where
  goes := fun i v μ1 C1 H1 e st rel => by
    unfold nxEL at e
    cases e1 : isLst (C1.get n) with
    | none =>
      rw [e1] at e
      cases e
    | some xs =>
      rw [e1] at e
      obtain ⟨w, e', ev⟩ := pairI_some (Option.some.inj e)
      subst ev
      rw [getC_eq] at e'
      obtain ⟨vs, g1, r1⟩ := rel.obj n _ (isLst_ok e1)
      rw [st.ag n lt] at g1
      obtain ⟨x, q1, q2⟩ := r1.get e'
      refine ⟨⟨vs, x, SqL.of g1, q1⟩, fun y H' ⟨p, z, e2, e3, e4, e5⟩ => ?_⟩
      subst e2 e4
      have e6 : x = z := Option.some.inj (q1.symm.trans (e5 vs (SqL.of g1)))
      subst e6
      exact pair_new rel q2 e3
  stops := fun i μ1 C1 H1 e st rel => by
    unfold nxEL at e
    cases e1 : isLst (C1.get n) with
    | none =>
      rw [e1] at e
      cases e
    | some xs =>
      rw [e1] at e
      have e := pairI_none (Option.some.inj e)
      obtain ⟨vs, g1, r1⟩ := rel.obj n _ (isLst_ok e1)
      rw [st.ag n lt] at g1
      exact ⟨vs, SqL.of g1, by rw [r1.length]; exact getC_none e⟩

/-! ### the iterables' rules -/
def iSeqT (m : EM) : IM := fun l C => match m l C with
  | .ok (.tup xs) C1 => .ok (nxT xs) C1
  | .ok _ _ => .bad
  | .exc k fs l' C' => .exc k fs l' C'
  | .bad => .bad
def iSeqL (m : EM) : IM := fun l C => match m l C with
  | .ok (.ref n) C1 => (match isLst (C1.get n) with
    | some _ => .ok (nxL n) C1
    | none => .bad)
  | .ok _ _ => .bad
  | .exc k fs l' C' => .exc k fs l' C'
  | .bad => .bad
def iStrC (m : EM) : IM := fun l C => match m l C with
  | .ok (.str z) C1 => .ok (nxS z) C1
  | .ok _ _ => .bad
  | .exc k fs l' C' => .exc k fs l' C'
  | .bad => .bad
def ri1 (v : CV) (C : CH) : RI := match v with
  | .int j => (match smallI j with
    | true => .ok (nxR 0 j.toNat) C
    | false => .bad)
  | _ => .bad
def ri2 (v : CV) (C : CH) : RI := match v with
  | .tup xs => .ok (nxET xs) C
  | _ => .bad
def ri3 (v : CV) (C : CH) : RI := match v with
  | .ref n => (match isLst (C.get n) with
    | some _ => .ok (nxEL n) C
    | none => .bad)
  | _ => .bad
def iOne (g : CV → CH → RI) (as : AM) : IM := fun l C => match as l C with
  | .ok vs C1 => (match vs with
    | [v] => g v C1
    | _ => .bad)
  | .exc k fs l' C' => .exc k fs l' C'
  | .bad => .bad
section
variable {W : WX} {e a b : Expr} {m : EM} {as : AM} {tg : Expr} {p pos tpos : Pos} {elts : List Expr} {kk : Nat}
theorem xi_tup (he : PE X e (tX T X.K W m)) : PI X tg e (tI T X.K W (iSeqT m)) := by
  refine PI.imp (pi_tup he) fun σ H R ⟨μ, l, C, r, rl, h⟩ => ⟨μ, l, C, r, rl, ?_⟩
  unfold iSeqT at h
  cases ea : m l C with
  | bad =>
    rw [ea] at h
    exact h
  | exc k fs l' C' =>
    rw [ea] at h
    exact h
  | ok v C1 =>
    rw [ea] at h
    intro μ1 H1 x st rel rv
    cases rv with
    | @tup a xs vs h1 h2 => exact ⟨a, rfl, ⟨vs, SqT.of h1⟩, h μ1 H1 _ st rel (wk_tup h1 h2)⟩
    | _ => exact (show False from h).elim
theorem xi_lst (he : PE X e (tX T X.K W m)) : PI X tg e (tI T X.K W (iSeqL m)) := by
  refine PI.imp (pi_list he) fun σ H R ⟨μ, l, C, r, rl, h⟩ => ⟨μ, l, C, r, rl, ?_⟩
  unfold iSeqL at h
  cases ea : m l C with
  | bad =>
    rw [ea] at h
    exact h
  | exc k fs l' C' =>
    rw [ea] at h
    exact h
  | ok v C1 =>
    rw [ea] at h
    intro μ1 H1 x st rel rv
    cases rv with
    | @ref n lt =>
      dsimp only at h
      cases e1 : isLst (C1.get n) with
      | none =>
        rw [e1] at h
        exact (show False from h).elim
      | some xs =>
        rw [e1] at h
        obtain ⟨vs, g1, _⟩ := rel.obj n _ (isLst_ok e1)
        exact ⟨_, rfl, ⟨vs, SqL.of g1⟩, h μ1 H1 _ st rel (wk_lst lt)⟩
    | _ => exact (show False from h).elim
theorem xi_str (he : PE X e (tX T X.K W m)) : PI X tg e (tI T X.K W (iStrC m)) := by
  refine PI.imp (pi_str he) fun σ H R ⟨μ, l, C, r, rl, h⟩ => ⟨μ, l, C, r, rl, ?_⟩
  unfold iStrC at h
  cases ea : m l C with
  | bad =>
    rw [ea] at h
    exact h
  | exc k fs l' C' =>
    rw [ea] at h
    exact h
  | ok v C1 =>
    rw [ea] at h
    intro μ1 H1 x st rel rv
    cases rv with
    | str z => exact ⟨_, rfl, h μ1 H1 _ st rel wk_str⟩
    | _ => exact (show False from h).elim
theorem small62 {i : Int} (h : smallI i = true) : -(2 ^ 62) ≤ i ∧ i < 2 ^ 62 := by
  have := Nat.le_of_ble_eq_true h
  omega
/-- the argument's reading -/
theorem one_ok {g : CV → CH → RI} {σ : L2.St} {H : Hp} {R : It → Hp → Prop} {P : List V → Hp → Prop} (hg : ∀ μ C H v x, Rel T K μ C H → RV K μ C.nx H v x → SatI T K W0 [] μ C H R (g v C) → P [x] H) (h0 : ∀ v C k fs l C', g v C ≠ .exc k fs l C')
    (h : tI T K W (iOne g as) σ H R) : tA T K W as σ H P := by
  obtain ⟨μ, l, C, r, rl, h⟩ := h
  refine ⟨μ, l, C, r, rl, ?_⟩
  unfold iOne at h
  cases ea : as l C with
  | bad =>
    rw [ea] at h
    exact h
  | exc k fs l' C' =>
    rw [ea] at h
    exact h
  | ok vs C1 =>
    rw [ea] at h
    intro μ1 H1 xs st rel rvs
    cases rvs with
    | nil => exact (show False from h).elim
    | cons h1 h2 =>
      cases h2 with
      | nil =>
        rename_i v x
        refine hg μ1 C1 H1 v x rel h1 ?_
        dsimp only at h
        cases eg : g v C1 with
        | bad =>
          rw [eg] at h
          exact h
        | exc k fs l' C' => exact absurd eg (h0 _ _ _ _ _ _)
        | ok nxt C2 =>
          rw [eg] at h
          exact fun μ' H' J s => h μ' H' J (st.trans s)
      | cons _ _ => exact (show False from h).elim
theorem xi_range1 (hg : Gl X "range") (hm : X.mg "range" = none) (ha : PA X [a] (tA T X.K W as)) (hs : starEach [a] X.env = [(false, eval a X.env)] := by rfl) : PI X tg (.Call (.Name "range" p) [a] [] pos) (tI T X.K W (iOne ri1 as)) := by
  refine PI.imp (pi_range1 hg hm ha hs) fun σ H R h => one_ok (fun μ C H v x rel rv h => ?_) (fun v C k fs l C' z => ?_) h
  · cases rv with
    | int j =>
      unfold ri1 at h
      dsimp only at h
      cases e1 : smallI j with
      | false =>
        rw [e1] at h
        exact (show False from h).elim
      | true =>
        rw [e1] at h
        have b := small62 e1
        exact ⟨j, rfl, b.1, b.2, h μ H _ rel.refl rel wk_rng⟩
    | _ => exact (show False from h).elim
  · unfold ri1 at z
    split at z
    · split at z <;> cases z
    · cases z
theorem xi_enT (hg : Gl X "enumerate") (hm : X.mg "enumerate" = none) (ha : PA X [a] (tA T X.K W as)) (hs : starEach [a] X.env = [(false, eval a X.env)] := by rfl) : PI X (.Tuple elts kk tpos) (.Call (.Name "enumerate" p) [a] [] pos) (tI T X.K W (iOne ri2 as)) := by
  refine PI.imp (pi_enumT hg hm ha hs) fun σ H R h => one_ok (fun μ C H v x rel rv h => ?_) (fun v C k fs l C' z => ?_) h
  · cases rv with
    | @tup b xs vs h1 h2 => exact ⟨b, vs, rfl, SqT.of h1, h μ H _ rel.refl rel (wk_enT h1 h2)⟩
    | _ => exact (show False from h).elim
  · unfold ri2 at z
    split at z <;> cases z
theorem xi_enL (hg : Gl X "enumerate") (hm : X.mg "enumerate" = none) (ha : PA X [a] (tA T X.K W as)) (hs : starEach [a] X.env = [(false, eval a X.env)] := by rfl) : PI X (.Tuple elts kk tpos) (.Call (.Name "enumerate" p) [a] [] pos) (tI T X.K W (iOne ri3 as)) := by
  refine PI.imp (pi_enum hg hm ha hs) fun σ H R h => one_ok (fun μ C H v x rel rv h => ?_) (fun v C k fs l C' z => ?_) h
  · cases rv with
    | @ref n lt =>
      unfold ri3 at h
      dsimp only at h
      cases e1 : isLst (C.get n) with
      | none =>
        rw [e1] at h
        exact (show False from h).elim
      | some xs =>
        rw [e1] at h
        obtain ⟨vs, g1, _⟩ := rel.obj n _ (isLst_ok e1)
        exact ⟨_, vs, rfl, SqL.of g1, h μ H _ rel.refl rel (wk_enL lt)⟩
    | _ => exact (show False from h).elim
  · unfold ri3 at z
    split at z
    · split at z <;> cases z
    · cases z
end

/-! ### comprehensions -/
def wipeC (l : CL) : List Nat → CL
  | [] => l
  | v :: vs => (wipeC l vs).set v none
theorem wipe_rl {nx : Nat} {l : CL} {σ : L2.St} (r : RL K μ nx H l σ) : ∀ vs : List Nat, RL K μ nx H (wipeC l vs) (wipe σ vs)
  | [] => r
  | v :: vs => (wipe_rl r vs).wipe v
/-- c: the condition (none: always) -/
def lcGo (nxt : NX) (t : Tg) (c : Option EM) (e : EM) (l0 : CL) : Nat → Nat → List CV → CH → Option (List CV × CH)
  | 0, _, _, _ => none
  | n + 1, i, acc, C => match nxt i C with
    | none => none
    | some none => some (acc, C)
    | some (some v) => (match stT t v l0 with
      | none => none
      | some l1 => (match c with
        | none => (match e l1 C with
          | .ok y C2 => lcGo nxt t c e l0 n (i + 1) (y :: acc) C2
          | _ => none)
        | some cm => (match cm l1 C with
          | .ok (.bl true) C1 => (match e l1 C1 with
            | .ok y C2 => lcGo nxt t c e l0 n (i + 1) (y :: acc) C2
            | _ => none)
          | .ok (.bl false) C1 => lcGo nxt t c e l0 n (i + 1) acc C1
          | _ => none)))
def xLc (im : IM) (ws : List Nat) (t : Tg) (c : Option EM) (e : EM) : EM := fun l C => match im l C with
  | .ok nxt C1 => (match lcGo nxt t c e (wipeC l ws) 1000000 0 [] C1 with
    | some (acc, C2) => (match bnd acc.length with
      | true => .ok (.ref C2.nx) (C2.add (.lst acc.reverse))
      | false => .bad)
    | none => .bad)
  | .exc k fs l' C' => .exc k fs l' C'
  | .bad => .bad
def tCo (T : Tab) (K : PySem.W.Frag) : Option EM → TT
  | none => tYes
  | some m => tT T K W0 m
/-- a list that is not ours is written -/
theorem foreign (r : Rel T K μ C H) {D : Addr} {us ws : List V} (no : ¬ Own μ C D) (hD : H D = some (.lst us)) : Rel T K μ C (upd H D (.lst ws)) ∧ ∀ a vs, TupAt K H a vs → TupAt K (upd H D (.lst ws)) a vs := by
  have sq : ∀ a vs, TupAt K H a vs → TupAt K (upd H D (.lst ws)) a vs := fun a vs h => tupBut hD (fun _ z => nomatch z) (fun b o hb q => by rw [upd_ne hb]; exact q) h
  exact ⟨⟨fun m u h => (r.obj m u h).mono (Nat.le_refl _) (fun _ _ => rfl) sq (upd_ne fun z => no ⟨m, u, h, z⟩), r.inj, r.lt, r.dec, r.low⟩, sq⟩
/-- it is ours now -/
theorem adopt {μ0 : Mu} {C0 : CH} {H0 : Hp} (st : Step K μ0 C0 H0 μ C H) (r : Rel T K μ C H) {D : Addr} (h0 : H0 D = none) (no : ¬ Own μ C D) {acc : List CV} {vs : List V} (hD : H D = some (.lst vs)) (rv : RVs K μ C.nx H acc vs) :
    Rel T K (mu1 μ C.nx D) (C.add (.lst acc)) H ∧ Step K μ0 C0 H0 (mu1 μ C.nx D) (C.add (.lst acc)) H ∧ RV K (mu1 μ C.nx D) (C.nx + 1) H (.ref C.nx) (.ref D) := by
  have ag : ∀ m, m < C.nx → mu1 μ C.nx D m = μ m := fun m h => mu1_lt μ D h
  have old : ∀ m u, C.get m = some u → m ≠ C.nx := fun m u h => Nat.ne_of_lt (r.lt m u h)
  have inv : ∀ m u, (C.add (.lst acc)).get m = some u → (m = C.nx ∧ u = .lst acc) ∨ (m ≠ C.nx ∧ C.get m = some u) := fun m u h => by
    by_cases z : m = C.nx
    · subst z
      rw [get_add_self] at h
      exact .inl ⟨rfl, (Option.some.inj h).symm⟩
    · rw [get_add_ne C _ z] at h
      exact .inr ⟨z, h⟩
  have sq : ∀ a vs, TupAt K H a vs → TupAt K H a vs := fun _ _ h => h
  refine ⟨⟨fun m u h => ?_, fun m k u w h1 h2 e => ?_, fun m u h => ?_, ?_, ?_⟩, ⟨Nat.le_trans st.nx (Nat.le_succ _), fun m h => ?_, st.keep, st.there, fun m u h => ?_, st.sq⟩, ?_⟩
  · rcases inv m u h with ⟨rfl, rfl⟩ | ⟨z, h'⟩
    · rw [mu1_self]
      exact ⟨vs, hD, rv.mono (Nat.le_succ _) ag sq⟩
    · rw [mu1_ne μ D z]
      exact (r.obj m u h').mono (Nat.le_succ _) ag sq rfl
  · rcases inv m u h1 with ⟨rfl, rfl⟩ | ⟨z1, h1'⟩
    · rcases inv k w h2 with ⟨rfl, rfl⟩ | ⟨z2, h2'⟩
      · rfl
      · rw [mu1_self, mu1_ne μ D z2] at e
        exact absurd ⟨k, w, h2', e.symm⟩ no
    · rcases inv k w h2 with ⟨rfl, rfl⟩ | ⟨z2, h2'⟩
      · rw [mu1_self, mu1_ne μ D z1] at e
        exact absurd ⟨m, u, h1', e⟩ no
      · rw [mu1_ne μ D z1, mu1_ne μ D z2] at e
        exact r.inj m k u w h1' h2' e
  · rcases inv m u h with ⟨rfl, rfl⟩ | ⟨z, h'⟩
    · exact Nat.lt_succ_self _
    · exact Nat.lt_succ_of_lt (r.lt m u h')
  · show ((C.nx :: C.os.map (·.1)) : List Nat).Pairwise (fun a b => b < a)
    exact List.pairwise_cons.mpr ⟨fun a ha => r.low a ha, r.dec⟩
  · intro m hm
    have hm' : m ∈ C.nx :: C.os.map (·.1) := hm
    rcases List.mem_cons.mp hm' with rfl | hm'
    · exact Nat.lt_succ_self _
    · exact Nat.lt_succ_of_lt (r.low m hm')
  · rw [ag m (Nat.lt_of_lt_of_le h st.nx)]
    exact st.ag m h
  · rcases inv m u h with ⟨rfl, rfl⟩ | ⟨z, h'⟩
    · rw [mu1_self]
      exact .inr h0
    · rw [mu1_ne μ D z]
      exact st.fresh m u h'
  · have q : RV K (mu1 μ C.nx D) (C.nx + 1) H (.ref C.nx) (.ref (mu1 μ C.nx D C.nx)) := .ref (Nat.lt_succ_self _)
    rw [mu1_self] at q
    exact q
/-- what was not ours and stood is not ours later -/
theorem Step.notOwn {μ' : Mu} {C' : CH} {H' : Hp} (st : Step K μ C H μ' C' H') {D : Addr} {o : HO} (hD : H D = some o) (no : ¬ Own μ C D) : ¬ Own μ' C' D := fun ⟨n, u, h, e⟩ => by
  rcases st.fresh n u h with ⟨lt, u', h'⟩ | z
  · exact no ⟨n, u', h', (st.ag n lt).symm.trans e⟩
  · rw [e, hD] at z
    cases z
end Ex

set_option Elab.async false
set_option linter.all false
set_option maxRecDepth 100000
/-! Ex12: list comprehensions. -/
namespace Ex
open PySem PySem.Spec PyProof.Rows L2 TL
variable {T : Tab} {K : PySem.W.Frag} {X : Cx} {μ : Mu} {C : CH} {H : Hp}

theorem lc_len {nxt : NX} {t : Tg} {c : Option EM} {e : EM} {l0 : CL} : ∀ (n i : Nat) (acc : List CV) (C : CH) {accF : List CV} {CF : CH}, lcGo nxt t c e l0 n i acc C = some (accF, CF) → acc.length ≤ accF.length
  | 0, _, _, _, _, _, h => by
    unfold lcGo at h
    cases h
  | n + 1, i, acc, C, accF, CF, h => by
    unfold lcGo at h
    split at h
    · cases h
    · cases h
      exact Nat.le_refl _
    · split at h
      · cases h
      · split at h
        · split at h
          · have := lc_len n _ _ _ h
            rw [List.length_cons] at this
            omega
          · cases h
        · split at h
          · split at h
            · have := lc_len n _ _ _ h
              rw [List.length_cons] at this
              omega
            · cases h
          · exact lc_len n _ _ _ h
          · cases h
theorem wipe_sub {σ : L2.St} {ws : List Nat} : ∀ {us : List Nat}, (∀ u ∈ us, u ∈ ws) → wipe (wipe σ us) ws = wipe σ ws
  | [], _ => rfl
  | u :: us, h => by
    show wipe ((wipe σ us).set u none) ws = _
    rw [wipe_set (h u List.mem_cons_self), wipe_sub fun v hv => h v (List.mem_cons_of_mem _ hv)]
/-- what is left of a comprehension is well -/
def LcOk (T : Tab) (K : PySem.W.Frag) (μ : Mu) (C : CH) (H : Hp) (Q : VK) : Option (List CV × CH) → Prop
  | some (acc, C2) => acc.length ≤ 1000000 ∧ ∀ μ' H' x, Step K μ C H μ' (C2.add (.lst acc.reverse)) H' → Rel T K μ' (C2.add (.lst acc.reverse)) H' → RV K μ' (C2.nx + 1) H' (.ref C2.nx) x → Q x H'
  | none => False
theorem LcOk.shift {μ1 : Mu} {C1 : CH} {H1 : Hp} {Q : VK} {o : Option (List CV × CH)} (st : Step K μ C H μ1 C1 H1) (h : LcOk T K μ C H Q o) : LcOk T K μ1 C1 H1 Q o := by
  cases o with
  | none => exact h
  | some p => exact ⟨h.1, fun μ' H' x s => h.2 μ' H' x (st.trans s)⟩
section
variable {W : WX} {im : IM} {t : Tg} {c : Option EM} {m : EM} {ws : List Nat}
theorem lc_ok (tin : t.in ws) {σ : L2.St} {H : Hp} {Q : VK} (h : tX T K W (xLc im ws t c m) σ H Q) : tLc (tI T K W im) (tG T K t) (tCo T K c) (tX T K W0 m) ws σ H Q := by
  obtain ⟨μ, l, C, r, rl, h⟩ := h
  refine ⟨μ, l, C, r, rl, ?_⟩
  unfold xLc at h
  cases ea : im l C with
  | bad =>
    rw [ea] at h
    exact h
  | exc k fs l' C' =>
    rw [ea] at h
    exact h
  | ok nxt C1 =>
    rw [ea] at h
    dsimp only at h
    intro μ1 H1 J st1 rel1 wk D hD
    have rl1 := rl.step st1
    have start : LcOk T K μ1 C1 H1 Q (lcGo nxt t c m (wipeC l ws) 1000000 0 [] C1) := by
      have h := h.shift st1
      cases eg : lcGo nxt t c m (wipeC l ws) 1000000 0 [] C1 with
      | none =>
        rw [eg] at h
        exact h
      | some p =>
        obtain ⟨acc, C2⟩ := p
        rw [eg] at h
        dsimp only at h
        cases eb : bnd acc.length with
        | false =>
          rw [eb] at h
          exact (show False from h).elim
        | true =>
          rw [eb] at h
          exact ⟨Nat.le_of_ble_eq_true eb, h⟩
    have no1 : ¬ Own μ1 C1 D := fun ⟨n, u, e1, e2⟩ => by
      obtain ⟨w, e3, _⟩ := (rel1.obj n u e1).kind
      rw [e2, hD] at e3
      cases e3
    obtain ⟨r0, s0⟩ := same rel1 (upd_new (u := .lst []) hD)
    refine ⟨fun i n H => ∃ μ C acc accV, Step K μ1 C1 H1 μ C H ∧ Rel T K μ C H ∧ H D = some (.lst accV) ∧ RVs K μ C.nx H acc.reverse accV ∧ ¬ Own μ C D ∧ LcOk T K μ1 C1 H1 Q (lcGo nxt t c m (wipeC l ws) n i acc C),
      ⟨1000000, μ1, C1, [], [], s0, r0, upd_same, .nil, no1, start⟩, ?_⟩
    rintro i n H ⟨μ, C, acc, accV, st, rel, hV, rv, no, h⟩
    cases n with
    | zero => exact (show False from h).elim
    | succ n =>
      have len : ∀ accF CF, lcGo nxt t c m (wipeC l ws) (n + 1) i acc C = some (accF, CF) → acc.length ≤ accF.length := fun _ _ e => lc_len _ _ _ _ e
      have few : acc.length ≤ 1000000 := by
        cases e : lcGo nxt t c m (wipeC l ws) (n + 1) i acc C with
        | none =>
          rw [e] at h
          exact h.elim
        | some p =>
          rw [e] at h
          exact Nat.le_trans (len p.1 p.2 e) h.1
      have fewV : accV.length < sizeLine := by
        rw [rv.length, List.length_reverse, sizeLine_eq]
        omega
      unfold lcGo at h
      cases en : nxt i C with
      | none =>
        rw [en] at h
        exact h.elim
      | some o =>
        rw [en] at h
        cases o with
        | none =>
          obtain ⟨q1, q2, q3⟩ := adopt st rel hD no hV rv
          exact .inl ⟨wk.stops i μ C H en st.lat rel, h.2 _ _ _ q2 q1 q3⟩
        | some v =>
          dsimp only at h
          cases et : stT t v (wipeC l ws) with
          | none =>
            rw [et] at h
            exact h.elim
          | some l1 =>
            rw [et] at h
            dsimp only at h
            obtain ⟨go, yl⟩ := wk.goes i v μ C H en st.lat rel
            refine .inr ⟨go, fun H' => ∃ n', n' < n + 1 ∧ ∃ μ C acc accV, Step K μ1 C1 H1 μ C H' ∧ Rel T K μ C H' ∧ H' D = some (.lst accV) ∧ RVs K μ C.nx H' acc.reverse accV ∧ ¬ Own μ C D ∧ LcOk T K μ1 C1 H1 Q (lcGo nxt t c m (wipeC l ws) n' (i + 1) acc C), fun H' q => q, fun x H' y => ?_⟩
            obtain ⟨rel2, st2, rx⟩ := yl x H' y
            have hV2 : H' D = some (.lst accV) := st2.keep D _ hV no
            have no2 := st2.notOwn hV no
            have rlw : RL K μ C.nx H' (wipeC l ws) (wipe σ ws) := wipe_rl (rl1.step (st.trans st2)) ws
            refine ⟨μ, C, wipeC l ws, v, l1, rel2, rlw, rx, et, fun σ2 rl2 hw => ⟨(hw ws tin).trans (wipe_sub fun i hi => hi), ?_⟩⟩
            -- the element, from a later state
            have elt : ∀ (μ3 : Mu) (C3 : CH) (H3 : Hp), Step K μ C H' μ3 C3 H3 → Rel T K μ3 C3 H3 → LcOk T K μ1 C1 H1 Q (match m l1 C3 with
                | .ok y C2 => lcGo nxt t c m (wipeC l ws) n (i + 1) (y :: acc) C2
                | _ => none) → tX T K W0 m σ2 H3 fun y H4 => ∃ ac, H4 D = some (.lst ac) ∧ ac.length < sizeLine ∧ ∃ n', n' < n + 1 ∧ ∃ μ C acc accV, Step K μ1 C1 H1 μ C (upd H4 D (.lst (ac ++ [y]))) ∧ Rel T K μ C (upd H4 D (.lst (ac ++ [y]))) ∧ upd H4 D (.lst (ac ++ [y])) D = some (.lst accV) ∧
                  RVs K μ C.nx (upd H4 D (.lst (ac ++ [y]))) acc.reverse accV ∧ ¬ Own μ C D ∧ LcOk T K μ1 C1 H1 Q (lcGo nxt t c m (wipeC l ws) n' (i + 1) acc C) := by
              intro μ3 C3 H3 st3 rel3 h3
              refine ⟨μ3, l1, C3, rel3, rl2.step st3, ?_⟩
              cases em : m l1 C3 with
              | bad =>
                rw [em] at h3
                exact h3.elim
              | exc k fs l' C' =>
                rw [em] at h3
                exact h3.elim
              | ok y C4 =>
                rw [em] at h3
                intro μ4 H4 yv st4 rel4 ry
                have no3 := st3.notOwn hV2 no2
                have hV3 := st3.keep D _ hV2 no2
                have no4 := st4.notOwn hV3 no3
                have hV4 := st4.keep D _ hV3 no3
                obtain ⟨rel5, sq5⟩ := foreign rel4 (ws := accV ++ [yv]) no4 hV4
                have stF : Step K μ1 C1 H1 μ4 C4 H4 := ((st.trans st2).trans st3).trans st4
                have ne : ∀ a o, H1 a = some o → a ≠ D := fun a o e z => by
                  rw [z, hD] at e
                  cases e
                refine ⟨accV, hV4, fewV, n, Nat.lt_succ_self n, μ4, C4, y :: acc, accV ++ [yv], ⟨stF.nx, stF.ag, fun a o e no => ?_, fun a o e => ?_, stF.fresh, fun a vs e => ?_⟩, rel5, upd_same, ?_, no4, h3⟩
                · rw [upd_ne (ne a o e)]
                  exact stF.keep a o e no
                · obtain ⟨o', e'⟩ := stF.there a o e
                  exact ⟨o', by rw [upd_ne (ne a o e)]; exact e'⟩
                · exact sq5 a vs (stF.sq a vs e)
                · rw [List.reverse_cons]
                  have r4 : RVs K μ4 C4.nx H4 acc.reverse accV := rv.step ((st2.trans st3).trans st4)
                  exact (r4.append (.cons ry .nil)).mono (Nat.le_refl _) (fun _ _ => rfl) sq5
            cases c with
            | none => exact elt μ C H' rel2.refl rel2 h
            | some cm =>
              refine ⟨μ, l1, C, rel2, rl2, ?_⟩
              dsimp only at h
              cases ec : cm l1 C with
              | bad =>
                rw [ec] at h
                exact h.elim
              | exc k fs l' C' =>
                rw [ec] at h
                exact h.elim
              | ok z C3 =>
                rw [ec] at h
                cases z with
                | bl b =>
                  intro μ3 H3 zv st3 rel3 rz
                  cases rz
                  refine ⟨b, rfl, ?_⟩
                  cases b with
                  | true => exact elt μ3 C3 H3 st3 rel3 h
                  | false =>
                    have no3 := st3.notOwn hV2 no2
                    have hV3 := st3.keep D _ hV2 no2
                    exact ⟨n, Nat.lt_succ_self n, μ3, C3, acc, accV, (st.trans st2).trans st3, rel3, hV3, rv.step (st2.trans st3), no3, h⟩
                | _ => exact h.elim
theorem xe_lc {elt tg iter : Expr} {ifs : List Expr} {scope : Scope} {own : List (Str × Nat)} {pos : Pos} (hc : X.calm = true) (hN : X.N.Nodup) (ok : BlkOk X.N X.env.scope scope own) (tin : t.in (own.map (·.2))) (hi : PI X tg iter (tI T X.K W im))
    (hg : ∀ (s : Shared) (H : Hp) (C : Addr) (cl : List (Str × Addr)) (fp : List Addr), PG (X.blk s H scope (compEnvC scope cl C X.env) fp) tg (tG T X.K t)) (ht : ∀ (s : Shared) (H : Hp) (C : Addr) (cl : List (Str × Addr)) (fp : List Addr), PTs (X.blk s H scope (compEnvC scope cl C X.env) fp) ifs (tCo T X.K c))
    (he : ∀ (s : Shared) (H : Hp) (C : Addr) (cl : List (Str × Addr)) (fp : List Addr), PE (X.blk s H scope (compEnvC scope cl C X.env) fp) elt (tX T X.K W0 m)) (hs : ∀ x, foldedSetIterable iter X.env x = pure x := by intro _; rfl) :
    PE X (.ListComp elt [⟨tg, iter, ifs, 0⟩] scope pos) (tX T X.K W (xLc im (own.map (·.2)) t c m)) := PE.imp (pe_lc hc hN hi ok hg ht he hs) fun σ H Q h => lc_ok tin h
theorem xs_setLc {i : Nat} {y : Str} {py spos : Pos} {elt tg iter : Expr} {ifs : List Expr} {scope : Scope} {own : List (Str × Nat)} {pos : Pos} (hc : X.calm = true) (hN : X.N.Nodup) (hy : X.N[i]? = some y) (hyl : X.env.scope.names.lookup y = some .local)
    (hsw : swapsWith (.ListComp elt [⟨tg, iter, ifs, 0⟩] scope pos) (some (.Name y py)) spos.line X.env = pure true) (ok : BlkOk X.N X.env.scope scope own) (tin : t.in (own.map (·.2))) (hi : PI X tg iter (tI T X.K W im))
    (hg : ∀ (s : Shared) (H : Hp) (C : Addr) (cl : List (Str × Addr)) (fp : List Addr), PG (X.blk s H scope (compEnvC scope cl C X.env) fp) tg (tG T X.K t)) (ht : ∀ (s : Shared) (H : Hp) (C : Addr) (cl : List (Str × Addr)) (fp : List Addr), PTs (X.blk s H scope (compEnvC scope cl C X.env) fp) ifs (tCo T X.K c))
    (he : ∀ (s : Shared) (H : Hp) (C : Addr) (cl : List (Str × Addr)) (fp : List Addr), PE (X.blk s H scope (compEnvC scope cl C X.env) fp) elt (tX T X.K W0 m)) (hs : ∀ x, foldedSetIterable iter X.env x = pure x := by intro _; rfl) :
    PS X (.Assign [.Name y py] (.ListComp elt [⟨tg, iter, ifs, 0⟩] scope pos) spos) (tS T X.K W (sAsg (xLc im (own.map (·.2)) t c m) (.nm i))) := by
  refine PS.imp (ps_setLc hc hN hy hyl hsw hi ok hg ht he hs) fun D σ H h => ?_
  have q : tX T X.K W (xLc im (own.map (·.2)) t c m) σ H fun x H1 => gName i x σ H1 D.nx := by
    obtain ⟨μ, l, C, r, rl, h⟩ := h
    refine ⟨μ, l, C, r, rl, ?_⟩
    unfold sAsg at h
    cases ea : xLc im (own.map (·.2)) t c m l C with
    | ok v C1 =>
      rw [ea] at h
      exact fun μ1 H1 x st rel rv => h μ1 H1 _ st rel ((rl.step st).set i rv)
    | bad =>
      rw [ea] at h
      exact h
    | exc k fs l' C' =>
      rw [ea] at h
      exact h
  exact lc_ok tin q
theorem xc_none {X : Cx} : PTs X [] (tCo T X.K none) := pts_nil
theorem xc_some {X : Cx} {e : Expr} {m : EM} (h : PT X e (tT T X.K W0 m)) : PTs X [e] (tCo T X.K (some m)) := pts_one h
end
end Ex

set_option Elab.async false
set_option linter.all false
set_option maxRecDepth 100000
/-! Ex13: comprehensions with two fors. -/
namespace Ex
open PySem PySem.Spec PyProof.Rows L2 TL
variable {T : Tab} {K : PySem.W.Frag} {X : Cx} {μ : Mu} {C : CH} {H : Hp}

/-- the state within a comprehension whose list lies at D; it began at μ1 C1 H1 -/
structure In (T : Tab) (K : PySem.W.Frag) (μ1 : Mu) (C1 : CH) (H1 : Hp) (D : Addr) (μ : Mu) (C : CH) (H : Hp) (acc : List CV) : Prop where
  st : Step K μ1 C1 H1 μ C H
  rel : Rel T K μ C H
  no : ¬ Own μ C D
  lst : ∃ accV, H D = some (.lst accV) ∧ RVs K μ C.nx H acc.reverse accV
def onO (F : List CV → CH → Prop) : Option (List CV × CH) → Prop
  | some (a, C) => F a C
  | none => False
theorem In.on {μ1 : Mu} {C1 : CH} {H1 : Hp} {D : Addr} {acc : List CV} {μ' : Mu} {C' : CH} {H' : Hp} (s : In T K μ1 C1 H1 D μ C H acc) (t : Step K μ C H μ' C' H') (r : Rel T K μ' C' H') : In T K μ1 C1 H1 D μ' C' H' acc := by
  obtain ⟨v, h1, h2⟩ := s.lst
  exact ⟨s.st.trans t, r, t.notOwn h1 s.no, v, t.keep D _ h1 s.no, h2.step t⟩
section
variable {t : Tg} {c : Option EM} {m : EM} {ws : List Nat} {nxt : NX} {J : It} {μ1 μb : Mu} {C1 Cb : CH} {H1 Hb : Hp} {D : Addr} {l0 : CL} {σ0 : L2.St} {F : List CV → CH → Prop} {Nd : Hp → Prop}
theorem lc_walk (tin : t.in ws) (hD : H1 D = none) (wk : Wk T K μb Cb Hb J nxt) (rl0 : RL K μb Cb.nx Hb l0 (wipe σ0 ws)) (few : ∀ a C, F a C → a.length ≤ 1000000) (hF : ∀ μ C H acc, In T K μ1 C1 H1 D μ C H acc → F acc C → Nd H)
    {acc0 : List CV} (s0 : In T K μ1 C1 H1 D μb Cb Hb acc0) (h0 : onO F (lcGo nxt t c m l0 1000000 0 acc0 Cb)) :
    ∃ W : Nat → Nat → Hp → Prop, (∃ n, W 0 n Hb) ∧ ∀ i n H, W i n H → (J.stop i H ∧ Nd H) ∨ (J.go i H ∧ ∃ Nx : Hp → Prop, (∀ H', Nx H' → ∃ n', n' < n ∧ W (i + 1) n' H') ∧ ∀ x H', J.yld i H x H' → tG T K t x (wipe σ0 ws) H' fun σ2 H2 => wipe σ2 ws = wipe σ0 ws ∧ tCo T K c σ2 H2 fun b H3 =>
      if b = true then tX T K W0 m σ2 H3 fun y H4 => ∃ acc, H4 D = some (.lst acc) ∧ acc.length < sizeLine ∧ Nx (upd H4 D (.lst (acc ++ [y]))) else Nx H3) := by
  refine ⟨fun i n H => ∃ μ C acc, Lat K μb Cb Hb μ C H ∧ In T K μ1 C1 H1 D μ C H acc ∧ onO F (lcGo nxt t c m l0 n i acc C), ⟨1000000, μb, Cb, acc0, ⟨Nat.le_refl _, fun _ _ => rfl, fun _ _ h => h⟩, s0, h0⟩, ?_⟩
  rintro i n H ⟨μ, C, acc, lt, s, h⟩
  cases n with
  | zero => exact h.elim
  | succ n =>
    obtain ⟨accV, hV, rv⟩ := s.lst
    have few : acc.length ≤ 1000000 := by
      cases e : lcGo nxt t c m l0 (n + 1) i acc C with
      | none =>
        rw [e] at h
        exact h.elim
      | some p =>
        rw [e] at h
        exact Nat.le_trans (lc_len _ _ _ _ e) (few p.1 p.2 h)
    have fewV : accV.length < sizeLine := by
      rw [rv.length, List.length_reverse, sizeLine_eq]
      omega
    unfold lcGo at h
    cases en : nxt i C with
    | none =>
      rw [en] at h
      exact h.elim
    | some o =>
      rw [en] at h
      cases o with
      | none => exact .inl ⟨wk.stops i μ C H en lt s.rel, hF μ C H acc s h⟩
      | some v =>
        dsimp only at h
        cases et : stT t v l0 with
        | none =>
          rw [et] at h
          exact h.elim
        | some l1 =>
          rw [et] at h
          dsimp only at h
          obtain ⟨go, yl⟩ := wk.goes i v μ C H en lt s.rel
          refine .inr ⟨go, fun H' => ∃ n', n' < n + 1 ∧ ∃ μ C acc, Lat K μb Cb Hb μ C H' ∧ In T K μ1 C1 H1 D μ C H' acc ∧ onO F (lcGo nxt t c m l0 n' (i + 1) acc C), fun H' q => q, fun x H' y => ?_⟩
          obtain ⟨rel2, st2, rx⟩ := yl x H' y
          have s2 := s.on st2 rel2
          have lt2 := lt.trans st2.lat
          refine ⟨μ, C, l0, v, l1, rel2, rl0.lat lt2, rx, et, fun σ2 rl2 hw => ⟨(hw ws tin).trans (wipe_sub fun i hi => hi), ?_⟩⟩
          have elt : ∀ (μ3 : Mu) (C3 : CH) (H3 : Hp), Step K μ C H' μ3 C3 H3 → Rel T K μ3 C3 H3 → onO F (match m l1 C3 with
              | .ok y C2 => lcGo nxt t c m l0 n (i + 1) (y :: acc) C2
              | _ => none) → tX T K W0 m σ2 H3 fun y H4 => ∃ ac, H4 D = some (.lst ac) ∧ ac.length < sizeLine ∧ ∃ n', n' < n + 1 ∧ ∃ μ C acc, Lat K μb Cb Hb μ C (upd H4 D (.lst (ac ++ [y]))) ∧ In T K μ1 C1 H1 D μ C (upd H4 D (.lst (ac ++ [y]))) acc ∧ onO F (lcGo nxt t c m l0 n' (i + 1) acc C) := by
            intro μ3 C3 H3 st3 rel3 h3
            refine ⟨μ3, l1, C3, rel3, rl2.step st3, ?_⟩
            cases em : m l1 C3 with
            | bad =>
              rw [em] at h3
              exact h3.elim
            | exc k fs l' C' =>
              rw [em] at h3
              exact h3.elim
            | ok y C4 =>
              rw [em] at h3
              intro μ4 H4 yv st4 rel4 ry
              have s4 := (s2.on st3 rel3).on st4 rel4
              obtain ⟨accV4, hV4, rv4⟩ := s4.lst
              have fewV4 : accV4.length < sizeLine := by
                rw [rv4.length, List.length_reverse, sizeLine_eq]
                omega
              obtain ⟨rel5, sq5⟩ := foreign rel4 (ws := accV4 ++ [yv]) s4.no hV4
              have stF := s4.st
              have ne : ∀ a o, H1 a = some o → a ≠ D := fun a o e z => by
                rw [z, hD] at e
                cases e
              refine ⟨accV4, hV4, fewV4, n, Nat.lt_succ_self n, μ4, C4, y :: acc, ?_, ⟨⟨stF.nx, stF.ag, fun a o e no => ?_, fun a o e => ?_, stF.fresh, fun a vs e => ?_⟩, rel5, s4.no, accV4 ++ [yv], upd_same, ?_⟩, h3⟩
              · have q := (lt2.trans st3.lat).trans st4.lat
                exact ⟨q.nx, q.ag, fun a vs e => sq5 a vs (q.sq a vs e)⟩
              · rw [upd_ne (ne a o e)]
                exact stF.keep a o e no
              · obtain ⟨o', e'⟩ := stF.there a o e
                exact ⟨o', by rw [upd_ne (ne a o e)]; exact e'⟩
              · exact sq5 a vs (stF.sq a vs e)
              · rw [List.reverse_cons]
                exact (rv4.append (.cons ry .nil)).mono (Nat.le_refl _) (fun _ _ => rfl) sq5
          cases c with
          | none => exact elt μ C H' rel2.refl rel2 h
          | some cm =>
            refine ⟨μ, l1, C, rel2, rl2, ?_⟩
            dsimp only at h
            cases ec : cm l1 C with
            | bad =>
              rw [ec] at h
              exact h.elim
            | exc k fs l' C' =>
              rw [ec] at h
              exact h.elim
            | ok z C3 =>
              rw [ec] at h
              cases z with
              | bl b =>
                intro μ3 H3 zv st3 rel3 rz
                cases rz
                refine ⟨b, rfl, ?_⟩
                cases b with
                | true => exact elt μ3 C3 H3 st3 rel3 h
                | false => exact ⟨n, Nat.lt_succ_self n, μ3, C3, acc, lt2.trans st3.lat, s2.on st3 rel3, h⟩
              | _ => exact h.elim
end

/-- two fors; the outer condition c, the inner c1 -/
def lc2Go (nxt : NX) (t : Tg) (c : Option EM) (im1 : IM) (ws1 : List Nat) (t1 : Tg) (c1 : Option EM) (e : EM) (l0 : CL) : Nat → Nat → List CV → CH → Option (List CV × CH)
  | 0, _, _, _ => none
  | n + 1, i, acc, C => match nxt i C with
    | none => none
    | some none => some (acc, C)
    | some (some v) => (match stT t v l0 with
      | none => none
      | some l1 => (match c with
        | none => (match im1 l1 C with
          | .ok nxt1 C2 => (match lcGo nxt1 t1 c1 e (wipeC l1 ws1) 1000000 0 acc C2 with
            | some (acc', C3) => lc2Go nxt t c im1 ws1 t1 c1 e l0 n (i + 1) acc' C3
            | none => none)
          | _ => none)
        | some cm => (match cm l1 C with
          | .ok (.bl true) C1 => (match im1 l1 C1 with
            | .ok nxt1 C2 => (match lcGo nxt1 t1 c1 e (wipeC l1 ws1) 1000000 0 acc C2 with
              | some (acc', C3) => lc2Go nxt t c im1 ws1 t1 c1 e l0 n (i + 1) acc' C3
              | none => none)
            | _ => none)
          | .ok (.bl false) C1 => lc2Go nxt t c im1 ws1 t1 c1 e l0 n (i + 1) acc C1
          | _ => none)))
def xLc2 (im : IM) (ws : List Nat) (t : Tg) (c : Option EM) (im1 : IM) (ws1 : List Nat) (t1 : Tg) (c1 : Option EM) (e : EM) : EM := fun l C => match im l C with
  | .ok nxt C1 => (match lc2Go nxt t c im1 ws1 t1 c1 e (wipeC l ws) 1000000 0 [] C1 with
    | some (acc, C2) => (match bnd acc.length with
      | true => .ok (.ref C2.nx) (C2.add (.lst acc.reverse))
      | false => .bad)
    | none => .bad)
  | .exc k fs l' C' => .exc k fs l' C'
  | .bad => .bad
theorem lc2_len {nxt : NX} {t : Tg} {c : Option EM} {im1 : IM} {ws1 : List Nat} {t1 : Tg} {c1 : Option EM} {e : EM} {l0 : CL} : ∀ (n i : Nat) (acc : List CV) (C : CH) {accF : List CV} {CF : CH}, lc2Go nxt t c im1 ws1 t1 c1 e l0 n i acc C = some (accF, CF) → acc.length ≤ accF.length
  | 0, _, _, _, _, _, h => by
    unfold lc2Go at h
    cases h
  | n + 1, i, acc, C, accF, CF, h => by
    unfold lc2Go at h
    split at h
    · cases h
    · cases h
      exact Nat.le_refl _
    · split at h
      · cases h
      · split at h
        · split at h
          · split at h
            · rename_i e1
              exact Nat.le_trans (lc_len _ _ _ _ e1) (lc2_len n _ _ _ h)
            · cases h
          · cases h
        · split at h
          · split at h
            · split at h
              · rename_i e1
                exact Nat.le_trans (lc_len _ _ _ _ e1) (lc2_len n _ _ _ h)
              · cases h
            · cases h
          · exact lc2_len n _ _ _ h
          · cases h
section
variable {W : WX} {im im1 : IM} {t t1 : Tg} {c c1 : Option EM} {m : EM} {ws ws1 : List Nat}
theorem lc2_ok (tin : t.in ws) (tin1 : t1.in ws1) {σ : L2.St} {H : Hp} {Q : VK} (h : tX T K W (xLc2 im ws t c im1 ws1 t1 c1 m) σ H Q) : tLc2 (tI T K W im) (tG T K t) (tCo T K c) (tI T K W0 im1) (tG T K t1) (tCo T K c1) (tX T K W0 m) ws ws1 σ H Q := by
  obtain ⟨μ, l, C, r, rl, h⟩ := h
  refine ⟨μ, l, C, r, rl, ?_⟩
  unfold xLc2 at h
  cases ea : im l C with
  | bad =>
    rw [ea] at h
    exact h
  | exc k fs l' C' =>
    rw [ea] at h
    exact h
  | ok nxt C1 =>
    rw [ea] at h
    dsimp only at h
    intro μ1 H1 J st1 rel1 wk D hD
    have rl1 := rl.step st1
    have start : LcOk T K μ1 C1 H1 Q (lc2Go nxt t c im1 ws1 t1 c1 m (wipeC l ws) 1000000 0 [] C1) := by
      have h := h.shift st1
      cases eg : lc2Go nxt t c im1 ws1 t1 c1 m (wipeC l ws) 1000000 0 [] C1 with
      | none =>
        rw [eg] at h
        exact h
      | some p =>
        obtain ⟨acc, C2⟩ := p
        rw [eg] at h
        dsimp only at h
        cases eb : bnd acc.length with
        | false =>
          rw [eb] at h
          exact (show False from h).elim
        | true =>
          rw [eb] at h
          exact ⟨Nat.le_of_ble_eq_true eb, h⟩
    have no1 : ¬ Own μ1 C1 D := fun ⟨n, u, e1, e2⟩ => by
      obtain ⟨w, e3, _⟩ := (rel1.obj n u e1).kind
      rw [e2, hD] at e3
      cases e3
    obtain ⟨r0, s0⟩ := same rel1 (upd_new (u := .lst []) hD)
    refine ⟨fun i n H => ∃ μ C acc, Lat K μ1 C1 H1 μ C H ∧ In T K μ1 C1 H1 D μ C H acc ∧ LcOk T K μ1 C1 H1 Q (lc2Go nxt t c im1 ws1 t1 c1 m (wipeC l ws) n i acc C), ⟨1000000, μ1, C1, [], s0.lat, ⟨s0, r0, no1, [], upd_same, .nil⟩, start⟩, ?_⟩
    rintro i n H ⟨μ, C, acc, lt, s, h⟩
    cases n with
    | zero => exact h.elim
    | succ n =>
      unfold lc2Go at h
      cases en : nxt i C with
      | none =>
        rw [en] at h
        exact h.elim
      | some o =>
        rw [en] at h
        cases o with
        | none =>
          obtain ⟨accV, hV, rv⟩ := s.lst
          obtain ⟨q1, q2, q3⟩ := adopt s.st s.rel hD s.no hV rv
          exact .inl ⟨wk.stops i μ C H en lt s.rel, h.2 _ _ _ q2 q1 q3⟩
        | some v =>
          dsimp only at h
          cases et : stT t v (wipeC l ws) with
          | none =>
            rw [et] at h
            exact h.elim
          | some l1 =>
            rw [et] at h
            dsimp only at h
            obtain ⟨go, yl⟩ := wk.goes i v μ C H en lt s.rel
            refine .inr ⟨go, fun H' => ∃ n', n' < n + 1 ∧ ∃ μ C acc, Lat K μ1 C1 H1 μ C H' ∧ In T K μ1 C1 H1 D μ C H' acc ∧ LcOk T K μ1 C1 H1 Q (lc2Go nxt t c im1 ws1 t1 c1 m (wipeC l ws) n' (i + 1) acc C), fun H' q => q, fun x H' y => ?_⟩
            obtain ⟨rel2, st2, rx⟩ := yl x H' y
            have s2 := s.on st2 rel2
            have lt2 := lt.trans st2.lat
            have rlw : RL K μ C.nx H' (wipeC l ws) (wipe σ ws) := wipe_rl (rl1.lat lt2) ws
            refine ⟨μ, C, wipeC l ws, v, l1, rel2, rlw, rx, et, fun σ2 rl2 hw => ⟨(hw ws tin).trans (wipe_sub fun i hi => hi), ?_⟩⟩
            -- the inner loop, from a later state
            have inner : ∀ (μ3 : Mu) (C3 : CH) (H3 : Hp), Step K μ C H' μ3 C3 H3 → Rel T K μ3 C3 H3 → LcOk T K μ1 C1 H1 Q (match im1 l1 C3 with
                | .ok nxt1 C2 => (match lcGo nxt1 t1 c1 m (wipeC l1 ws1) 1000000 0 acc C2 with
                  | some (acc', C3) => lc2Go nxt t c im1 ws1 t1 c1 m (wipeC l ws) n (i + 1) acc' C3
                  | none => none)
                | _ => none) → tI T K W0 im1 σ2 H3 fun J1 H4 => ∃ W1 : Nat → Nat → Hp → Prop, (∃ k, W1 0 k H4) ∧ ∀ j k H, W1 j k H → (J1.stop j H ∧ ∃ n', n' < n + 1 ∧ ∃ μ C acc, Lat K μ1 C1 H1 μ C H ∧ In T K μ1 C1 H1 D μ C H acc ∧ LcOk T K μ1 C1 H1 Q (lc2Go nxt t c im1 ws1 t1 c1 m (wipeC l ws) n' (i + 1) acc C)) ∨
                  (J1.go j H ∧ ∃ Nx1 : Hp → Prop, (∀ H', Nx1 H' → ∃ k', k' < k ∧ W1 (j + 1) k' H') ∧ ∀ x H', J1.yld j H x H' → tG T K t1 x (wipe σ2 ws1) H' fun σ3 H5 => wipe σ3 ws1 = wipe σ2 ws1 ∧ tCo T K c1 σ3 H5 fun b H6 =>
                    if b = true then tX T K W0 m σ3 H6 fun y H7 => ∃ acc, H7 D = some (.lst acc) ∧ acc.length < sizeLine ∧ Nx1 (upd H7 D (.lst (acc ++ [y]))) else Nx1 H6) := by
              intro μ3 C3 H3 st3 rel3 h3
              refine ⟨μ3, l1, C3, rel3, rl2.step st3, ?_⟩
              cases ei : im1 l1 C3 with
              | bad =>
                rw [ei] at h3
                exact h3.elim
              | exc k fs l' C' =>
                rw [ei] at h3
                exact h3.elim
              | ok nxt1 C4 =>
                rw [ei] at h3
                dsimp only at h3
                intro μ4 H4 J1 st4 rel4 wk1
                have s4 := (s2.on st3 rel3).on st4 rel4
                have lt4 := (lt2.trans st3.lat).trans st4.lat
                refine lc_walk (F := fun a C => LcOk T K μ1 C1 H1 Q (lc2Go nxt t c im1 ws1 t1 c1 m (wipeC l ws) n (i + 1) a C)) (Nd := fun H => ∃ n', n' < n + 1 ∧ ∃ μ C acc, Lat K μ1 C1 H1 μ C H ∧ In T K μ1 C1 H1 D μ C H acc ∧ LcOk T K μ1 C1 H1 Q (lc2Go nxt t c im1 ws1 t1 c1 m (wipeC l ws) n' (i + 1) acc C))
                  tin1 hD wk1 (wipe_rl ((rl2.step st3).step st4) ws1) (fun a C q => ?_) (fun μ C H a si q => ⟨n, Nat.lt_succ_self n, μ, C, a, si.st.lat, si, q⟩) s4 ?_
                · cases e : lc2Go nxt t c im1 ws1 t1 c1 m (wipeC l ws) n (i + 1) a C with
                  | none =>
                    rw [e] at q
                    exact q.elim
                  | some p =>
                    rw [e] at q
                    exact Nat.le_trans (lc2_len _ _ _ _ e) q.1
                · cases e : lcGo nxt1 t1 c1 m (wipeC l1 ws1) 1000000 0 acc C4 with
                  | none =>
                    rw [e] at h3
                    exact h3.elim
                  | some p =>
                    rw [e] at h3
                    exact h3
            cases c with
            | none => exact inner μ C H' rel2.refl rel2 h
            | some cm =>
              refine ⟨μ, l1, C, rel2, rl2, ?_⟩
              dsimp only at h
              cases ec : cm l1 C with
              | bad =>
                rw [ec] at h
                exact h.elim
              | exc k fs l' C' =>
                rw [ec] at h
                exact h.elim
              | ok z C3 =>
                rw [ec] at h
                cases z with
                | bl b =>
                  intro μ3 H3 zv st3 rel3 rz
                  cases rz
                  refine ⟨b, rfl, ?_⟩
                  cases b with
                  | true => exact inner μ3 C3 H3 st3 rel3 h
                  | false => exact ⟨n, Nat.lt_succ_self n, μ3, C3, acc, lt2.trans st3.lat, s2.on st3 rel3, h⟩
                | _ => exact h.elim
theorem xe_lc2 {elt tg iter tg1 iter1 : Expr} {ifs ifs1 : List Expr} {scope : Scope} {own : List (Str × Nat)} {pos : Pos} (hc : X.calm = true) (hN : X.N.Nodup) (ok : BlkOk X.N X.env.scope scope own) (hv : ∀ i ∈ ws1, i ∈ own.map (·.2)) (tin : t.in (own.map (·.2))) (tin1 : t1.in ws1) (hi : PI X tg iter (tI T X.K W im))
    (hg : ∀ (s : Shared) (H : Hp) (C : Addr) (cl : List (Str × Addr)) (fp : List Addr), PG (X.blk s H scope (compEnvC scope cl C X.env) fp) tg (tG T X.K t)) (ht : ∀ (s : Shared) (H : Hp) (C : Addr) (cl : List (Str × Addr)) (fp : List Addr), PTs (X.blk s H scope (compEnvC scope cl C X.env) fp) ifs (tCo T X.K c))
    (hi1 : ∀ (s : Shared) (H : Hp) (C : Addr) (cl : List (Str × Addr)) (fp : List Addr), PI (X.blk s H scope (compEnvC scope cl C X.env) fp) tg1 iter1 (tI T X.K W0 im1))
    (hg1 : ∀ (s : Shared) (H : Hp) (C : Addr) (cl : List (Str × Addr)) (fp : List Addr), PG (X.blk s H scope (compEnvC scope cl C X.env) fp) tg1 (tG T X.K t1)) (ht1 : ∀ (s : Shared) (H : Hp) (C : Addr) (cl : List (Str × Addr)) (fp : List Addr), PTs (X.blk s H scope (compEnvC scope cl C X.env) fp) ifs1 (tCo T X.K c1))
    (he : ∀ (s : Shared) (H : Hp) (C : Addr) (cl : List (Str × Addr)) (fp : List Addr), PE (X.blk s H scope (compEnvC scope cl C X.env) fp) elt (tX T X.K W0 m)) (hs : ∀ x, foldedSetIterable iter X.env x = pure x := by intro _; rfl) (hs1 : ∀ env x, foldedSetIterable iter1 env x = pure x := by intro _ _; rfl) :
    PE X (.ListComp elt [⟨tg, iter, ifs, 0⟩, ⟨tg1, iter1, ifs1, 0⟩] scope pos) (tX T X.K W (xLc2 im (own.map (·.2)) t c im1 ws1 t1 c1 m)) := PE.imp (pe_lc2 hc hN hi ok hv hg ht hi1 hg1 ht1 he hs hs1) fun σ H Q h => lc2_ok tin tin1 h
end
end Ex

set_option Elab.async false
set_option linter.all false
set_option maxRecDepth 100000
/-! Ex14: dicts, attributes, augmented stores, a while that is not entered. -/
namespace Ex
open PySem PySem.Spec PyProof.Rows L2 TL
variable {T : Tab} {K : PySem.W.Frag} {X : Cx} {μ : Mu} {C : CH} {H : Hp}

theorem pk_of {nx : Nat} {kvs : List (CV × CV)} {kws : List (Key × V)} (h : Paired (fun (p : CV × CV) (q : Key × V) => keyRel p.1 q.1 ∧ RV K μ nx H p.2 q.2) kvs kws) : PK kOf K μ nx H kvs kws := Paired.mapQ h fun _ _ z => ⟨keyRel_iff.mp z.1, z.2⟩
theorem pk_to {nx : Nat} {kvs : List (CV × CV)} {kws : List (Key × V)} (h : PK kOf K μ nx H kvs kws) : Paired (fun (p : CV × CV) (q : Key × V) => keyRel p.1 q.1 ∧ RV K μ nx H p.2 q.2) kvs kws := Paired.mapQ h fun _ _ z => ⟨keyRel_iff.mpr z.1, z.2⟩
theorem pt_of {nx : Nat} {kvs : List (CV × CV)} {kws : List (List Key × V)} (h : Paired (fun (p : CV × CV) (q : List Key × V) => tkeyRel p.1 q.1 ∧ RV K μ nx H p.2 q.2) kvs kws) : PK tkOf K μ nx H kvs kws := Paired.mapQ h fun _ _ z => ⟨tkeyRel_iff.mp z.1, z.2⟩
theorem pt_to {nx : Nat} {kvs : List (CV × CV)} {kws : List (List Key × V)} (h : PK tkOf K μ nx H kvs kws) : Paired (fun (p : CV × CV) (q : List Key × V) => tkeyRel p.1 q.1 ∧ RV K μ nx H p.2 q.2) kvs kws := Paired.mapQ h fun _ _ z => ⟨tkeyRel_iff.mpr z.1, z.2⟩
theorem kV_of {nx : Nat} {v : CV} {x : V} {k : Key} (r : RV K μ nx H v x) (h : kOf v = some k) : x = kV k := by
  cases r <;> cases h <;> rfl
theorem kVs_of {nx : Nat} : ∀ {vs : List CV} {xs : List V} {ks : List Key}, RVs K μ nx H vs xs → ksOf vs = some ks → xs = ks.map kV
  | _, _, _, .nil, h => by
    cases h
    rfl
  | v :: vs, _, ks, .cons h1 h2, h => by
    unfold ksOf at h
    split at h
    · rename_i k ks' e1 e2
      cases h
      rw [kV_of h1 e1, kVs_of h2 e2]
      rfl
    · cases h
theorem tk_of {nx : Nat} {v : CV} {x : V} {k : List Key} (r : RV K μ nx H v x) (h : tkOf v = some k) : ∃ b, x = .ref b ∧ H b = some (.tup (k.map kV)) := by
  cases r with
  | tup h1 h2 =>
    have e := kVs_of h2 h
    rw [e] at h1
    exact ⟨_, rfl, h1⟩
  | _ => cases h

/-- what the dict d holds at k: none: no such thing may be asked -/
def getD (d k : CV) (C : CH) : Option (Option CV) := match d with
  | .ref n => (match C.get n with
    | some (.dK kvs) => (match kOf k with
      | some _ => some (lkV eqK kvs k)
      | none => none)
    | some (.dT kvs) => (match tkOf k with
      | some _ => some (lkV eqT kvs k)
      | none => none)
    | _ => none)
  | _ => none
def RVo (K : PySem.W.Frag) (μ : Mu) (nx : Nat) (H : Hp) (o : Option CV) (r : Option V) : Prop := (∀ v, o = some v → ∃ x, r = some x ∧ RV K μ nx H v x) ∧ (o = none → r = none)
theorem RVo.some {nx : Nat} {o : Option CV} {r : Option V} (h : RVo K μ nx H o r) : r.isSome = o.isSome := by
  cases o with
  | none =>
    rw [h.2 rfl]
    rfl
  | some v =>
    obtain ⟨x, e, _⟩ := h.1 v rfl
    rw [e]
    rfl
theorem getD_ok (r : Rel T K μ C H) {d k : CV} {x y : V} (rd : RV K μ C.nx H d x) (rk : RV K μ C.nx H k y) {o : Option CV} (h : getD d k C = some o) : ∃ a z, x = .ref a ∧ DGet H a y z ∧ RVo K μ C.nx H o z := by
  cases rd with
  | @ref n lt =>
    unfold getD at h
    dsimp only at h
    cases eo : C.get n with
    | none =>
      rw [eo] at h
      cases h
    | some ob =>
      rw [eo] at h
      have q := r.obj n ob eo
      cases ob with
      | dK kvs =>
        dsimp only at h
        cases ek : kOf k with
        | none =>
          rw [ek] at h
          cases h
        | some kk =>
          rw [ek] at h
          obtain ⟨kws, g, p⟩ := q
          have l := lk_ok tqK ek (pk_of p)
          have ey := kV_of rk ek
          subst ey
          cases h
          exact ⟨_, _, rfl, DGet.k g, l⟩
      | dT kvs =>
        dsimp only at h
        cases ek : tkOf k with
        | none =>
          rw [ek] at h
          cases h
        | some kk =>
          rw [ek] at h
          obtain ⟨kws, g, p⟩ := q
          have l := lk_ok tqT ek (pt_of p)
          obtain ⟨b, ey, eb⟩ := tk_of rk ek
          subst ey
          cases h
          exact ⟨_, _, rfl, DGet.t g eb, l⟩
      | _ => cases h
  | _ => cases h
/-- d[k] = v -/
def putD (d k v : CV) (C : CH) : Option CH := match d with
  | .ref n => (match C.get n with
    | some (.dK kvs) => (match kOf k, bnd kvs.length with
      | some _, true => some (C.set n (.dK (putV eqK kvs k v)))
      | _, _ => none)
    | some (.dT kvs) => (match tkOf k, bnd kvs.length with
      | some _, true => some (C.set n (.dT (putV eqT kvs k v)))
      | _, _ => none)
    | _ => none)
  | _ => none
theorem chK (r : Rel T K μ C H) {n : Nat} {kvs nvs : List (CV × CV)} {kws : List (Key × V)} (hn : C.get n = some (.dK kvs)) (p : PK kOf K μ C.nx H nvs kws) : Rel T K μ (C.set n (.dK nvs)) (upd H (μ n) (.dK kws)) ∧ Step K μ C H μ (C.set n (.dK nvs)) (upd H (μ n) (.dK kws)) := by
  obtain ⟨w, ew, _, k1, k2⟩ := (r.obj n _ hn).kind
  have sq : ∀ a vs, TupAt K H a vs → TupAt K (upd H (μ n) (.dK kws)) a vs := fun a ws h => tupBut ew k1 (fun b u hb q => by rw [upd_ne hb]; exact q) h
  exact change r hn rfl ⟨kws, upd_same, Paired.mapQ (pk_to p) fun _ _ z => ⟨z.1, z.2.mono (Nat.le_refl _) (fun _ _ => rfl) sq⟩⟩
theorem chT (r : Rel T K μ C H) {n : Nat} {kvs nvs : List (CV × CV)} {kws : List (List Key × V)} (hn : C.get n = some (.dT kvs)) (p : PK tkOf K μ C.nx H nvs kws) : Rel T K μ (C.set n (.dT nvs)) (upd H (μ n) (.dT kws)) ∧ Step K μ C H μ (C.set n (.dT nvs)) (upd H (μ n) (.dT kws)) := by
  obtain ⟨w, ew, _, k1, k2⟩ := (r.obj n _ hn).kind
  have sq : ∀ a vs, TupAt K H a vs → TupAt K (upd H (μ n) (.dT kws)) a vs := fun a ws h => tupBut ew k1 (fun b u hb q => by rw [upd_ne hb]; exact q) h
  exact change r hn rfl ⟨kws, upd_same, Paired.mapQ (pt_to p) fun _ _ z => ⟨z.1, z.2.mono (Nat.le_refl _) (fun _ _ => rfl) sq⟩⟩
theorem putD_ok (r : Rel T K μ C H) {d k v : CV} {x y z : V} (rd : RV K μ C.nx H d x) (rk : RV K μ C.nx H k y) (rv : RV K μ C.nx H v z) {C' : CH} (h : putD d k v C = some C') : ∃ a H', x = .ref a ∧ DPut H a y z H' ∧ Rel T K μ C' H' ∧ Step K μ C H μ C' H' := by
  cases rd with
  | @ref n lt =>
    unfold putD at h
    dsimp only at h
    cases eo : C.get n with
    | none =>
      rw [eo] at h
      cases h
    | some ob =>
      rw [eo] at h
      have q := r.obj n ob eo
      cases ob with
      | dK kvs =>
        dsimp only at h
        cases ek : kOf k with
        | none =>
          simp only [ek] at h
          cases h
        | some kk =>
          cases eb : bnd kvs.length with
          | false =>
            simp only [ek, eb] at h
            cases h
          | true =>
            simp only [ek, eb] at h
            obtain ⟨kws, g, p⟩ := q
            have ey := kV_of rk ek
            subst ey
            cases h
            obtain ⟨q1, q2⟩ := chK r eo (put_ok tqK ek rv (pk_of p))
            exact ⟨_, _, rfl, DPut.k g (by rw [paired_len p]; exact bnd_lt eb), q1, q2⟩
      | dT kvs =>
        dsimp only at h
        cases ek : tkOf k with
        | none =>
          simp only [ek] at h
          cases h
        | some kk =>
          cases eb : bnd kvs.length with
          | false =>
            simp only [ek, eb] at h
            cases h
          | true =>
            simp only [ek, eb] at h
            obtain ⟨kws, g, p⟩ := q
            obtain ⟨b, ey, eb2⟩ := tk_of rk ek
            subst ey
            cases h
            obtain ⟨q1, q2⟩ := chT r eo (put_ok tqT ek rv (pt_of p))
            exact ⟨_, _, rfl, DPut.t g eb2 (by rw [paired_len p]; exact bnd_lt eb), q1, q2⟩
      | _ => cases h
  | _ => cases h
section
variable {W : WX} {o i e : Expr} {mo mi mv : EM} {pos tpos p p2 : Pos}
/-- two expressions, one after the other -/
theorem two_ok {f : CV → CV → CH → RE} {σ : L2.St} {H : Hp} {Q : VK} {P : V → V → Hp → Prop} {ma mb : EM} (hf : ∀ v w C k fs l C', f v w C ≠ .exc k fs l C') (hP : ∀ μ C H v w x y, Rel T K μ C H → RV K μ C.nx H v x → RV K μ C.nx H w y → Sat T K W0 [] μ C H Q (f v w C) → P x y H)
    (h : tX T K W (fun l C => match ma l C with
      | .ok v C1 => (match mb l C1 with
        | .ok w C2 => f v w C2
        | .exc k fs l' C' => .exc k fs l' C'
        | .bad => .bad)
      | .exc k fs l' C' => .exc k fs l' C'
      | .bad => .bad) σ H Q) : tX T K W ma σ H fun x H1 => tX T K W mb σ H1 fun y H2 => P x y H2 := by
  obtain ⟨μ, l, C, r, rl, h⟩ := h
  refine ⟨μ, l, C, r, rl, ?_⟩
  dsimp only at h
  cases ea : ma l C with
  | bad =>
    rw [ea] at h
    exact h
  | exc k fs l' C' =>
    rw [ea] at h
    exact h
  | ok v C1 =>
    rw [ea] at h
    intro μ1 H1 x st rel rv
    refine ⟨μ1, l, C1, rel, rl.step st, ?_⟩
    have h := h.shift st
    cases eb : mb l C1 with
    | bad =>
      simp only [eb] at h
      exact h
    | exc k fs l' C' =>
      simp only [eb] at h
      exact h
    | ok w C2 =>
      simp only [eb] at h
      intro μ2 H2 y st2 rel2 rw'
      refine hP μ2 C2 H2 v w x y rel2 (rv.step st2) rw' ?_
      have h := h.shift st2
      cases ef : f v w C2 with
      | ok z C3 =>
        rw [ef] at h
        exact h
      | bad =>
        rw [ef] at h
        exact h
      | exc k fs l' C' => exact absurd ef (hf _ _ _ _ _ _ _)
def dGetF (d k : CV) (C : CH) : RE := match getD d k C with
  | some (some v) => .ok v C
  | _ => .bad
def xDGet (md mk : EM) : EM := fun l C => match md l C with
  | .ok v C1 => (match mk l C1 with
    | .ok w C2 => dGetF v w C2
    | .exc k fs l' C' => .exc k fs l' C'
    | .bad => .bad)
  | .exc k fs l' C' => .exc k fs l' C'
  | .bad => .bad
theorem xe_dget (hu : X.A.units + 65 < cLine) (ho : PE X o (tX T X.K W mo)) (hi : PE X i (tX T X.K W mi)) (hs : NoSl i := by intro _ _; rfl) : PE X (.Subscript o i pos) (tX T X.K W (xDGet mo mi)) := by
  refine PE.imp (pe_dget (by omega) ho hi hs) fun σ H Q h => two_ok (f := dGetF) (fun v w C k fs l C' z => ?_) (fun μ C H v w x y r rv rw' h => ?_) h
  · unfold dGetF at z
    split at z <;> cases z
  · unfold dGetF at h
    cases e : getD v w C with
    | none =>
      rw [e] at h
      exact sat_bad h
    | some oo =>
      rw [e] at h
      cases oo with
      | none => exact sat_bad h
      | some u =>
        obtain ⟨a, z, e1, e2, e3⟩ := getD_ok r rv rw' e
        obtain ⟨q, e4, rq⟩ := e3.1 u rfl
        subst e4
        exact ⟨a, q, e1, e2, sat_c h r rq⟩
def dInF (b : Bool) (k d : CV) (C : CH) : RE := match getD d k C with
  | some o => .ok (.bl (match b with
    | true => o.isSome
    | false => !o.isSome)) C
  | none => .bad
def xDIn (b : Bool) (mk md : EM) : EM := fun l C => match mk l C with
  | .ok v C1 => (match md l C1 with
    | .ok w C2 => dInF b v w C2
    | .exc k fs l' C' => .exc k fs l' C'
    | .bad => .bad)
  | .exc k fs l' C' => .exc k fs l' C'
  | .bad => .bad
theorem din_ok {b : Bool} {P : V → V → Hp → Prop} {σ : L2.St} {H : Hp} {Q : VK} (hP : ∀ μ C H (o : Option CV) x y a z, Rel T K μ C H → y = .ref a → DGet H a x z → z.isSome = o.isSome → Q (.bl (match b with
    | true => o.isSome
    | false => !o.isSome)) H → P x y H) (h : tX T K W (xDIn b mi mo) σ H Q) : tX T K W mi σ H fun x H1 => tX T K W mo σ H1 fun y H2 => P x y H2 := by
  refine two_ok (f := dInF b) (fun v w C k fs l C' z => ?_) (fun μ C H v w x y r rv rw' h => ?_) h
  · unfold dInF at z
    split at z <;> cases z
  · unfold dInF at h
    cases e : getD w v C with
    | none =>
      rw [e] at h
      exact sat_bad h
    | some oo =>
      rw [e] at h
      obtain ⟨a, z, e1, e2, e3⟩ := getD_ok r rw' rv e
      exact hP μ C H oo x y a z r e1 e2 e3.some (sat_c h r (.bl _))
theorem xt_din (hu : X.A.units + 65 < cLine) (hi : PE X i (tX T X.K W mi)) (ho : PE X o (tX T X.K W mo)) (hm : behindInMarks .In o = false := by rfl) : PT X (.Compare i [.In] [o] pos) (tT T X.K W (xDIn true mi mo)) := by
  refine PT.imp (pt_cmp (pc_din (by omega) hi ho) hm) fun σ H Q h => ?_
  refine din_ok (P := fun y x H2 => ∃ a o, x = .ref a ∧ DGet H2 a y o ∧ ∃ c, V.bl o.isSome = .bl c ∧ Q c H2) (fun μ C H o x y a z r e1 e2 e3 q => ?_) h
  obtain ⟨b, eb, q⟩ := q
  cases eb
  exact ⟨a, z, e1, e2, _, rfl, by rw [e3]; exact q⟩
theorem xt_dnin (hu : X.A.units + 65 < cLine) (hi : PE X i (tX T X.K W mi)) (ho : PE X o (tX T X.K W mo)) (hm : behindInMarks .NotIn o = false := by rfl) : PT X (.Compare i [.NotIn] [o] pos) (tT T X.K W (xDIn false mi mo)) := by
  refine PT.imp (pt_cmp (pc_dnotin (by omega) hi ho) hm) fun σ H Q h => ?_
  refine din_ok (P := fun y x H2 => ∃ a o, x = .ref a ∧ DGet H2 a y o ∧ ∃ c, V.bl (!o.isSome) = .bl c ∧ Q c H2) (fun μ C H o x y a z r e1 e2 e3 q => ?_) h
  obtain ⟨b, eb, q⟩ := q
  cases eb
  exact ⟨a, z, e1, e2, _, rfl, by rw [e3]; exact q⟩

/-- d[k] = v -/
def sDPutC (md mk mv : EM) : SM := fun l C => match mv l C with
  | .ok u C1 => (match md l C1 with
    | .ok v C2 => (match mk l C2 with
      | .ok w C3 => (match putD v w u C3 with
        | some C4 => .nx l C4
        | none => .bad)
      | .exc k fs l' C' => .exc k fs l' C'
      | .bad => .bad)
    | .exc k fs l' C' => .exc k fs l' C'
    | .bad => .bad)
  | .exc k fs l' C' => .exc k fs l' C'
  | .bad => .bad
theorem xs_dput (hu : X.A.units + 65 < cLine) (ho : PE X o (tX T X.K W mo)) (hi : PE X i (tX T X.K W mi)) (hv : PE X e (tX T X.K W mv)) (hs : swapsWith e (some (.Subscript o i tpos)) pos.line X.env = pure false := by rfl) : PS X (.Assign [.Subscript o i tpos] e pos) (tS T X.K W (sDPutC mo mi mv)) := by
  refine PS.imp (ps_dput (by omega) ho hi hv hs) fun D σ H h => ?_
  obtain ⟨μ, l, C, r, rl, h⟩ := h
  refine ⟨μ, l, C, r, rl, ?_⟩
  unfold sDPutC at h
  cases ea : mv l C with
  | bad =>
    rw [ea] at h
    exact h
  | exc k fs l' C' =>
    rw [ea] at h
    exact h
  | ok u C1 =>
    rw [ea] at h
    intro μ1 H1 z st1 rel1 rz
    refine ⟨μ1, l, C1, rel1, rl.step st1, ?_⟩
    have h := h.shift st1
    cases eb : mo l C1 with
    | bad =>
      simp only [eb] at h
      exact h
    | exc k fs l' C' =>
      simp only [eb] at h
      exact h
    | ok v C2 =>
      simp only [eb] at h
      intro μ2 H2 x st2 rel2 rx
      refine ⟨μ2, l, C2, rel2, (rl.step st1).step st2, ?_⟩
      have h := h.shift st2
      cases ec : mi l C2 with
      | bad =>
        simp only [ec] at h
        exact h
      | exc k fs l' C' =>
        simp only [ec] at h
        exact h
      | ok w C3 =>
        simp only [ec] at h
        intro μ3 H3 y st3 rel3 ry
        have h := h.shift st3
        cases ed : putD v w u C3 with
        | none =>
          rw [ed] at h
          exact (show False from h).elim
        | some C4 =>
          rw [ed] at h
          obtain ⟨a, H', q1, q2, q3, q4⟩ := putD_ok rel3 (rx.step st3) ry ((rz.step st2).step st3) ed
          exact ⟨a, H', q1, q2, h μ3 H' σ q4 q3 ((((rl.step st1).step st2).step st3).step q4)⟩
/-- del d[k], keys that are ints or texts -/
def delD (d k : CV) (C : CH) : Option CH := match d with
  | .ref n => (match C.get n with
    | some (.dK kvs) => (match kOf k, lkV eqK kvs k with
      | some _, some _ => some (C.set n (.dK (dropV eqK kvs k)))
      | _, _ => none)
    | _ => none)
  | _ => none
def sDelC (md mk : EM) : SM := fun l C => match md l C with
  | .ok v C2 => (match mk l C2 with
    | .ok w C3 => (match delD v w C3 with
      | some C4 => .nx l C4
      | none => .bad)
    | .exc k fs l' C' => .exc k fs l' C'
    | .bad => .bad)
  | .exc k fs l' C' => .exc k fs l' C'
  | .bad => .bad
theorem xs_ddel (ho : PE X o (tX T X.K W mo)) (hi : PE X i (tX T X.K W mi)) : PS X (.Delete [.Subscript o i tpos] pos) (tS T X.K W (sDelC mo mi)) := by
  refine PS.imp (ps_ddel ho hi) fun D σ H h => ?_
  obtain ⟨μ, l, C, r, rl, h⟩ := h
  refine ⟨μ, l, C, r, rl, ?_⟩
  unfold sDelC at h
  cases eb : mo l C with
  | bad =>
    simp only [eb] at h
    exact h
  | exc k fs l' C' =>
    simp only [eb] at h
    exact h
  | ok v C2 =>
    simp only [eb] at h
    intro μ2 H2 x st2 rel2 rx
    refine ⟨μ2, l, C2, rel2, rl.step st2, ?_⟩
    have h := h.shift st2
    cases ec : mi l C2 with
    | bad =>
      simp only [ec] at h
      exact h
    | exc k fs l' C' =>
      simp only [ec] at h
      exact h
    | ok w C3 =>
      simp only [ec] at h
      intro μ3 H3 y st3 rel3 ry
      have h := h.shift st3
      cases ed : delD v w C3 with
      | none =>
        rw [ed] at h
        exact (show False from h).elim
      | some C4 =>
        rw [ed] at h
        have rx := rx.step st3
        cases rx with
        | @ref n lt =>
          unfold delD at ed
          dsimp only at ed
          cases eo : C3.get n with
          | none =>
            rw [eo] at ed
            cases ed
          | some ob =>
            rw [eo] at ed
            cases ob with
            | dK kvs =>
              dsimp only at ed
              cases ek : kOf w with
              | none =>
                simp only [ek] at ed
                cases ed
              | some kk =>
                cases el : lkV eqK kvs w with
                | none =>
                  simp only [ek, el] at ed
                  cases ed
                | some z =>
                  simp only [ek, el] at ed
                  cases ed
                  obtain ⟨kws, g, p⟩ := rel3.obj n _ eo
                  have l1 := (lk_ok tqK ek (pk_of p)).1 z el
                  obtain ⟨zz, e1, _⟩ := l1
                  obtain ⟨q1, q2⟩ := chK rel3 eo (drop_ok tqK ek (pk_of p))
                  exact ⟨_, kws, kk, rfl, g, kV_of ry ek, by rw [e1]; rfl, h μ3 _ σ q2 q1 (((rl.step st2).step st3).step q2)⟩
            | _ => cases ed
        | _ => cases ed
/-- {} -/
def xNewK : EM := fun _ C => .ok (.ref C.nx) (C.add (.dK []))
def xNewT : EM := fun _ C => .ok (.ref C.nx) (C.add (.dT []))
theorem new_sat {W : WX} {σ : L2.St} {Q : VK} {o : CO} (h : Sat T K W σ μ C H Q (.ok (.ref C.nx) (C.add o))) (r : Rel T K μ C H) {p : Addr} {u : HO} (hp : H p = none) (ho : OR T K (mu1 μ C.nx p) (C.nx + 1) (upd H p u) p o) : Q (.ref p) (upd H p u) := by
  obtain ⟨h1, h2⟩ := alloc r hp (upd_new (u := u) hp) ho
  have q : RV K (mu1 μ C.nx p) (C.nx + 1) (upd H p u) (.ref C.nx) (.ref (mu1 μ C.nx p C.nx)) := .ref (Nat.lt_succ_self _)
  rw [mu1_self] at q
  exact h _ _ _ h2 h1 q
theorem xe_newK : PE X (.Dict [] [] pos) (tX T X.K W xNewK) := PE.imp pe_dnewK fun σ H Q ⟨μ, l, C, r, rl, h⟩ p hp => new_sat h r hp ⟨[], upd_same, .nil⟩
theorem xe_newT : PE X (.Dict [] [] pos) (tX T X.K W xNewT) := PE.imp pe_dnewT fun σ H Q ⟨μ, l, C, r, rl, h⟩ p hp => new_sat h r hp ⟨[], upd_same, .nil⟩
/-- dict(d) -/
def fDict : FC := fun vs C => match vs with
  | [.ref n] => (match C.get n with
    | some (.dK kvs) => some (.ref C.nx, C.add (.dK kvs))
    | _ => none)
  | _ => none
theorem or_dict : CallR X (.type "dict") (rMc T X.K fDict) := by
  intro pins s σ H xs us Q I rx ⟨μ, C, vs, r, rv, h⟩
  unfold fDict at h
  split at h
  · rename_i n
    obtain ⟨x, e, q⟩ := rvs1 rv
    subst e
    cases q with
    | ref lt =>
      cases eo : C.get n with
      | none =>
        rw [eo] at h
        exact sat_bad h
      | some ob =>
        rw [eo] at h
        cases ob with
        | dK kvs =>
          obtain ⟨kws, g, p⟩ := r.obj n _ eo
          refine call_dictD pins s σ H _ us Q I rx ⟨_, kws, rfl, .inl g, fun a ha => new_sat h r ha ⟨kws, upd_same, Paired.mapQ p fun _ _ z => ⟨z.1, z.2.mono (Nat.le_succ _) (fun m h => mu1_lt μ a h) fun _ _ h => upd_new ha _ _ h⟩⟩⟩
        | _ => exact sat_bad h
  · exact sat_bad h

/-! ### o.f = v -/
def putN : List (Nat × CV) → Nat → CV → List (Nat × CV)
  | [], i, v => [(i, v)]
  | (k, w) :: r, i, v => match Nat.beq k i with
    | true => (k, v) :: r
    | false => (k, w) :: putN r i v
theorem putN_ok {nx : Nat} {i : Nat} {f : Str} (hf : T.nms[i]? = some f) {v : CV} {x : V} (rv : RV K μ nx H v x) : ∀ {fs : List (Nat × CV)} {gs : List (Str × V)}, Paired (fun (p : Nat × CV) (q : Str × V) => T.nms[p.1]? = some q.1 ∧ RV K μ nx H p.2 q.2) fs gs →
    Paired (fun (p : Nat × CV) (q : Str × V) => T.nms[p.1]? = some q.1 ∧ RV K μ nx H p.2 q.2) (putN fs i v) (putF f x gs)
  | _, _, .nil => .cons ⟨hf, rv⟩ .nil
  | (k, w) :: fs, (z, y) :: gs, .cons h1 h2 => by
    unfold putN
    show Paired _ _ (if z = f then (z, x) :: gs else (z, y) :: putF f x gs)
    cases e : Nat.beq k i with
    | true =>
      rw [beq_t e] at h1 ⊢
      have ez : z = f := Option.some.inj (h1.1.symm.trans hf)
      rw [if_pos ez]
      exact .cons ⟨h1.1, rv⟩ h2
    | false =>
      have ne : ¬ z = f := fun ez => beq_f e (nth_inj T.nd h1.1 (ez ▸ hf))
      rw [if_neg ne]
      exact .cons h1 (putN_ok hf rv h2)
/-- the object's new field -/
def setF (c i : Nat) (o v : CV) (C : CH) : Option CH := match insO c o C with
  | some (n, fs) => (match Nat.ble fs.length 100 with
    | true => some (C.set n (.ins c (putN fs i v)))
    | false => none)
  | none => none
theorem setF_ok {c i : Nat} {f : Str} (hf : T.nms[i]? = some f) (r : Rel T K μ C H) {o v : CV} {x y : V} (ro : RV K μ C.nx H o x) (rv : RV K μ C.nx H v y) {C' : CH} (h : setF c i o v C = some C') :
    ∃ a dx gs, x = .ref a ∧ H a = some (.ins (T.cls c) dx gs) ∧ gs.length < 1000 ∧ Rel T K μ C' (upd H a (.ins (T.cls c) dx (putF f y gs))) ∧ Step K μ C H μ C' (upd H a (.ins (T.cls c) dx (putF f y gs))) := by
  unfold setF at h
  cases e1 : insO c o C with
  | none =>
    rw [e1] at h
    cases h
  | some p =>
    obtain ⟨n, fs⟩ := p
    rw [e1] at h
    dsimp only at h
    cases e2 : Nat.ble fs.length 100 with
    | false =>
      rw [e2] at h
      cases h
    | true =>
      rw [e2] at h
      cases h
      obtain ⟨_, q1, hn, dx, gs, g, p⟩ := insO_ok r ro e1
      obtain ⟨w, ew, _, k1, k2⟩ := (r.obj n _ hn).kind
      have sq : ∀ a vs, TupAt K H a vs → TupAt K (upd H (μ n) (.ins (T.cls c) dx (putF f y gs))) a vs := fun a ws h => tupBut ew k1 (fun b u hb q => by rw [upd_ne hb]; exact q) h
      obtain ⟨h1, h2⟩ := change (o' := .ins c (putN fs i v)) r hn rfl ⟨dx, putF f y gs, upd_same, Paired.mapQ (putN_ok hf rv p) fun _ _ z => ⟨z.1, z.2.mono (Nat.le_refl _) (fun _ _ => rfl) sq⟩⟩
      have := Nat.le_of_ble_eq_true e2
      exact ⟨_, dx, gs, q1, g, by rw [paired_len p]; omega, h1, h2⟩
def sFldC (c i : Nat) (mo mv : EM) : SM := fun l C => match mv l C with
  | .ok v C1 => (match mo l C1 with
    | .ok o C2 => (match setF c i o v C2 with
      | some C3 => .nx l C3
      | none => .bad)
    | .exc k fs l' C' => .exc k fs l' C'
    | .bad => .bad)
  | .exc k fs l' C' => .exc k fs l' C'
  | .bad => .bad
theorem xs_fld {f : Str} (c i : Nat) (hf : T.nms[i]? = some f) (hc : Cls X.K (T.cls c)) (hn : NoAttr X.K (T.cls c) f) (ho : PE X o (tX T X.K W mo)) (hv : PE X e (tX T X.K W mv)) (hs : swapsWith e (some (.Attribute o f tpos)) pos.line X.env = pure false := by rfl) :
    PS X (.Assign [.Attribute o f tpos] e pos) (tS T X.K W (sFldC c i mo mv)) := by
  refine PS.imp (ps_fld ho hv hs) fun D σ H h => ?_
  obtain ⟨μ, l, C, r, rl, h⟩ := h
  refine ⟨μ, l, C, r, rl, ?_⟩
  unfold sFldC at h
  cases eb : mv l C with
  | bad =>
    simp only [eb] at h
    exact h
  | exc k fs l' C' =>
    simp only [eb] at h
    exact h
  | ok v C2 =>
    simp only [eb] at h
    intro μ2 H2 y st2 rel2 ry
    refine ⟨μ2, l, C2, rel2, rl.step st2, ?_⟩
    have h := h.shift st2
    cases ec : mo l C2 with
    | bad =>
      simp only [ec] at h
      exact h
    | exc k fs l' C' =>
      simp only [ec] at h
      exact h
    | ok w C3 =>
      simp only [ec] at h
      intro μ3 H3 x st3 rel3 rx
      have h := h.shift st3
      cases ed : setF c i w v C3 with
      | none =>
        rw [ed] at h
        exact (show False from h).elim
      | some C4 =>
        rw [ed] at h
        obtain ⟨a, dx, gs, q1, q2, q3, q4, q5⟩ := setF_ok hf rel3 rx (ry.step st3) ed
        exact ⟨a, _, dx, gs, q1, q2, hc, hn, q3, h μ3 _ σ q5 q4 (((rl.step st2).step st3).step q5)⟩

/-! ### x += e -/
def sAug (i : Nat) (f : CV → CV → CH → O2) (m : EM) : SM := fun l C => match nthO l i with
  | some v => (match m l C with
    | .ok w C1 => (match f v w C1 with
      | some (z, C2) => .nx (l.set i (some z)) C2
      | none => .bad)
    | .exc k fs l' C' => .exc k fs l' C'
    | .bad => .bad)
  | none => .bad
end
end Ex

set_option Elab.async false
set_option linter.all false
set_option maxRecDepth 100000
/-! Ex15: augmented stores, a while that is not entered, several targets, sorted lists. -/
namespace Ex
open PySem PySem.Spec PyProof.Rows L2 TL
variable {T : Tab} {K : PySem.W.Frag} {X : Cx} {μ : Mu} {C : CH} {H : Hp}

def fAddI : F2 := fun v w C => match v, w with
  | .int i, .int j => cI (i + j) C
  | _, _ => none
theorem ip_add : PIp X .Add (rM2 T X.K fAddI) := by
  intro pins s σ H x y v u Q I rx ry ⟨μ, C, a, b, r, ra, rb, h⟩
  cases ra <;> cases rb <;> try exact sat_bad h
  exact iop_add pins s σ H _ _ v u Q I rx ry ⟨_, _, rfl, rfl, h.q r (.int _)⟩
theorem ip_sub : PIp X .Sub (rM2 T X.K fSub) := by
  intro pins s σ H x y v u Q I rx ry ⟨μ, C, a, b, r, ra, rb, h⟩
  cases ra <;> cases rb <;> try exact sat_bad h
  exact iop_sub pins s σ H _ _ v u Q I rx ry ⟨_, _, rfl, rfl, h.q r (.int _)⟩
section
variable {W : WX} {e c : Expr} {m mc : EM} {pos tpos : Pos} {body : List Stmt}
theorem xs_aug {x : Str} {op : Operator} {f : F2} (i : Nat) (hN : X.N.Nodup) (hi : X.N[i]? = some x) (hx : Loc X.env.scope x) (he : PE X e (tX T X.K W m)) (ho : PIp X op (rM2 T X.K f)) (hf : X.fn x = true ∨ X.env.scope.names.lookup x = some .local := by first | exact .inl rfl | exact .inr rfl | assumption) :
    PS X (.AugAssign (.Name x tpos) op e pos) (tS T X.K W (sAug i f m)) := by
  refine PS.imp (ps_aug hN hi hx he ho hf) fun D σ H h => ?_
  obtain ⟨μ, l, C, r, rl, h⟩ := h
  unfold sAug at h
  cases en : nthO l i with
  | none =>
    rw [en] at h
    exact (show False from h).elim
  | some v =>
    rw [en] at h
    dsimp only at h
    obtain ⟨x, e1, rx⟩ := rl.at_ i v (nthO_ok en)
    refine ⟨x, e1, μ, l, C, r, rl, ?_⟩
    cases ea : m l C with
    | bad =>
      rw [ea] at h
      exact h
    | exc k fs l' C' =>
      rw [ea] at h
      exact h
    | ok w C1 =>
      rw [ea] at h
      intro μ1 H1 y st rel ry
      dsimp only at h
      refine ⟨μ1, C1, v, w, rel, rx.step st, ry, ?_⟩
      have h := h.shift st
      cases ef : f v w C1 with
      | none =>
        rw [ef] at h
        exact (show False from h).elim
      | some p =>
        obtain ⟨z, C2⟩ := p
        rw [ef] at h
        exact fun μ2 H2 q st2 rel2 rq => h μ2 H2 _ st2 rel2 (((rl.step st).step st2).set i rq)
/-- a while whose test is false at once -/
def sWhile0 (c : EM) : SM := fun l C => match c l C with
  | .ok (.bl false) C1 => .nx l C1
  | .ok _ _ => .bad
  | .exc k fs l' C' => .exc k fs l' C'
  | .bad => .bad
theorem xs_while0 (hp : PassesOwn (model X.prog X.w) X.A X.env X.xe) (hc : PT X c (tT T X.K W mc)) : PS X (.While c body [] pos) (tS T X.K W (sWhile0 mc)) := by
  refine PS.imp (ps_while hp hc pss_never) fun D σ H h => ?_
  refine ⟨fun _ σ' H' => σ' = σ ∧ H' = H, ⟨0, rfl, rfl⟩, ?_⟩
  rintro n σ' H' ⟨rfl, rfl⟩
  obtain ⟨μ, l, C, r, rl, h⟩ := h
  refine ⟨μ, l, C, r, rl, ?_⟩
  unfold sWhile0 at h
  cases ea : mc l C with
  | bad =>
    rw [ea] at h
    exact h
  | exc k fs l' C' =>
    rw [ea] at h
    exact h
  | ok v C1 =>
    rw [ea] at h
    cases v with
    | bl b =>
      cases b with
      | true => exact (show False from h).elim
      | false =>
        intro μ1 H1 x st rel rv
        cases rv
        refine ⟨false, rfl, ?_⟩
        show D.nx σ' H1
        exact h μ1 H1 _ st rel (rl.step st)
    | _ => exact (show False from h).elim
end

/-! ### several targets: names and fields of slot 0 -/
inductive Tf where
  | nm (i : Nat)
  | fl (c i : Nat)
def setTf : List Tf → List CV → CL → CH → Option (CL × CH)
  | [], [], l, C => some (l, C)
  | .nm i :: ts, v :: vs, l, C => setTf ts vs (l.set i (some v)) C
  | .fl c i :: ts, v :: vs, l, C => match nthO l 0 with
    | some o => (match setF c i o v C with
      | some C1 => setTf ts vs l C1
      | none => none)
    | none => none
  | _, _, _, _ => none
variable (T K)
def gTf (ts : List Tf) : TGs := fun vs σ H Q => ∃ μ C l cs l' C', Rel T K μ C H ∧ RL K μ C.nx H l σ ∧ RVs K μ C.nx H cs vs ∧ setTf ts cs l C = some (l', C') ∧ ∀ μ' H' σ', Step K μ C H μ' C' H' → Rel T K μ' C' H' → RL K μ' C'.nx H' l' σ' → Q σ' H'
def gFl (c i : Nat) : TG := fun v σ H Q => ∃ μ C l cv o C', Rel T K μ C H ∧ RL K μ C.nx H l σ ∧ RV K μ C.nx H cv v ∧ nthO l 0 = some o ∧ setF c i o cv C = some C' ∧ ∀ μ' H', Step K μ C H μ' C' H' → Rel T K μ' C' H' → Q σ H'
variable {T K}
theorem pg_fl {o : Expr} {f : Str} {pos : Pos} (c i : Nat) (hf : T.nms[i]? = some f) (hc : Cls X.K (T.cls c)) (hn : NoAttr X.K (T.cls c) f) (ho : PE X o (tVar 0)) : PG X (.Attribute o f pos) (gFl T X.K c i) := by
  constructor
  intro pins s σ H v u Q I r ⟨μ, C, l, cv, ov, C', rel, rl, rv, en, es, h⟩
  obtain ⟨x, e1, rx⟩ := rl.at_ 0 ov (nthO_ok en)
  obtain ⟨a, dx, gs, q1, q2, q3, q4, q5⟩ := setF_ok hf rel rx rv es
  rw [arm_assign_Attribute]
  refine wpAny_bind (wpAny_holding (thn (ho.run pins s σ H (fun y H' => y = x ∧ H' = H) I ⟨x, e1, rfl, rfl⟩) ?_))
  intro w s1 ⟨y, H1, I1, r1, ey, eH⟩
  subst ey eH
  rw [q1] at r1
  have ew : w = Value.ref a := r1
  subst ew
  refine wpAny_bind (wpAny_standAt (wpAny_bind (wpAny_holding (setattr_ok I1 q2 hc hn q3 r ?_))))
  exact fun s2 I2 => wpAny_release ⟨σ, _, I2, h μ _ q5 q4⟩
theorem gtf_nil : PGs X [] (gTf T X.K []) := PGs.imp pgs_nil fun vs σ H Q ⟨μ, C, l, cs, l', C', rel, rl, rv, e, h⟩ => by
  cases cs with
  | nil =>
    cases rv
    cases e
    exact ⟨rfl, h μ H σ rel.refl rel rl⟩
  | cons _ _ => cases e
theorem gtf_nm {x : Str} {pos : Pos} {es : List Expr} {ts : List Tf} (i : Nat) (hN : X.N.Nodup) (hi : X.N[i]? = some x) (hx : Loc X.env.scope x) (h : PGs X es (gTf T X.K ts)) (hf : X.fn x = true ∨ X.env.scope.names.lookup x = some .local := by first | exact .inl rfl | exact .inr rfl | assumption)
    (hs : (assignEach (.Name x pos :: es) X.env).map (·.2) = assign (.Name x pos) X.env :: (assignEach es X.env).map (·.2) := by rfl) : PGs X (.Name x pos :: es) (gTf T X.K (.nm i :: ts)) := by
  refine PGs.imp (pgs_cons (pg_name hN hi hx hf) h hs) fun vs σ H Q ⟨μ, C, l, cs, l', C', rel, rl, rv, e, q⟩ => ?_
  cases cs with
  | nil => cases e
  | cons v cs =>
    cases rv with
    | cons r1 r2 => exact ⟨_, _, rfl, μ, C, l.set i (some v), cs, l', C', rel, rl.set i r1, r2, e, q⟩
theorem gtf_fl {o : Expr} {f : Str} {pos : Pos} {es : List Expr} {ts : List Tf} (c i : Nat) (hf : T.nms[i]? = some f) (hc : Cls X.K (T.cls c)) (hn : NoAttr X.K (T.cls c) f) (ho : PE X o (tVar 0)) (h : PGs X es (gTf T X.K ts))
    (hs : (assignEach (.Attribute o f pos :: es) X.env).map (·.2) = assign (.Attribute o f pos) X.env :: (assignEach es X.env).map (·.2) := by rfl) : PGs X (.Attribute o f pos :: es) (gTf T X.K (.fl c i :: ts)) := by
  refine PGs.imp (pgs_cons (pg_fl c i hf hc hn ho) h hs) fun vs σ H Q ⟨μ, C, l, cs, l', C', rel, rl, rv, e, q⟩ => ?_
  cases cs with
  | nil => cases e
  | cons v cs =>
    cases rv with
    | cons r1 r2 =>
      unfold setTf at e
      cases en : nthO l 0 with
      | none =>
        rw [en] at e
        cases e
      | some ov =>
        rw [en] at e
        dsimp only at e
        cases es : setF c i ov v C with
        | none =>
          rw [es] at e
          cases e
        | some C1 =>
          rw [es] at e
          exact ⟨_, _, rfl, μ, C, l, v, ov, C1, rel, rl, r1, en, es, fun μ1 H1 st rel1 => ⟨μ1, C1, l, cs, l', C', rel1, rl.step st, r2.step st, e, fun μ2 H2 σ2 st2 => q μ2 H2 σ2 (st.trans st2)⟩⟩
def sAsgT (m : EM) (ts : List Tf) : SM := fun l C => match m l C with
  | .ok (.tup vs) C1 => (match setTf ts vs l C1 with
    | some (l', C2) => .nx l' C2
    | none => .bad)
  | .ok _ _ => .bad
  | .exc k fs l' C' => .exc k fs l' C'
  | .bad => .bad
theorem setTf_len : ∀ {ts : List Tf} {vs : List CV} {l l' : CL} {C C' : CH}, setTf ts vs l C = some (l', C') → vs.length = ts.length
  | [], [], _, _, _, _, _ => rfl
  | [], _ :: _, _, _, _, _, h => by
    unfold setTf at h
    cases h
  | .nm i :: ts, [], _, _, _, _, h => by
    unfold setTf at h
    cases h
  | .fl c i :: ts, [], _, _, _, _, h => by
    unfold setTf at h
    cases h
  | .nm i :: ts, v :: vs, _, _, _, _, h => by
    unfold setTf at h
    rw [List.length_cons, List.length_cons, setTf_len h]
  | .fl c i :: ts, v :: vs, l, _, C, _, h => by
    unfold setTf at h
    cases en : nthO l 0 with
    | none =>
      rw [en] at h
      cases h
    | some ov =>
      rw [en] at h
      dsimp only at h
      cases es : setF c i ov v C with
      | none =>
        rw [es] at h
        cases h
      | some C1 =>
        rw [es] at h
        rw [List.length_cons, List.length_cons, setTf_len h]
theorem xs_asgT {W : WX} {e : Expr} {m : EM} {es : List Expr} {k : Nat} {ts : List Tf} {pos tp : Pos} (hc : X.calm = true) (he : PE X e (tX T X.K W m)) (h : PGs X es (gTf T X.K ts)) (hn : (assignEach es X.env).length = ts.length := by rfl) (hst : (assignEach es X.env).findIdx? (·.1) = none := by rfl)
    (hs : swapsWithSole [.Tuple es k tp] e pos.line X.env = pure false := by rfl) (hw : swappedStores [.Tuple es k tp] e X.env = pure none := by rfl) (h1 : (assignEach [.Tuple es k tp] X.env).map (·.2) = [assign (.Tuple es k tp) X.env] := by rfl) :
    PS X (.Assign [.Tuple es k tp] e pos) (tS T X.K W (sAsgT m ts)) := by
  refine PS.imp (ps_asg he (pg_tup (n := ts.length) hc h hn hst) hs hw h1) fun D σ H q => ?_
  obtain ⟨μ, l, C, r, rl, q⟩ := q
  refine ⟨μ, l, C, r, rl, ?_⟩
  unfold sAsgT at q
  cases ea : m l C with
  | bad =>
    rw [ea] at q
    exact q
  | exc k fs l' C' =>
    rw [ea] at q
    exact q
  | ok v C1 =>
    rw [ea] at q
    intro μ1 H1 x st rel rv
    cases rv with
    | @tup a vs xs h1 h2 =>
      dsimp only at q
      cases et : setTf ts vs l C1 with
      | none =>
        rw [et] at q
        exact (show False from q).elim
      | some p =>
        obtain ⟨l', C2⟩ := p
        rw [et] at q
        have q := q.shift st
        exact ⟨a, xs, rfl, SqT.of h1, by rw [h2.length]; exact setTf_len et, μ1, C1, l, vs, l', C2, rel, rl.step st, h2, et, fun μ2 H2 σ2 st2 rel2 rl2 => q μ2 H2 σ2 st2 rel2 rl2⟩
    | _ => exact (show False from q).elim

/-! ### sorted(list) -/
abbrev Dat := CV × PyData
def ltD (a b : Dat) : Bool := PySem.W.dataLe false Prod.snd a b && !PySem.W.dataLe false Prod.snd b a
def insD (x : Dat) : List Dat → List Dat
  | [] => [x]
  | y :: r => match ltD x y with
    | true => x :: y :: r
    | false => y :: insD x r
def srtD : List Dat → List Dat
  | [] => []
  | x :: r => insD x (srtD r)
/-- strictly in order -/
def strict : List Dat → Bool
  | [] => true
  | [_] => true
  | x :: y :: r => ltD x y && strict (y :: r)
def alikeD : List PyData → Bool
  | [] => true
  | d :: r => PySem.W.alike d d && (allB (fun e => PySem.W.alike d e && PySem.W.alike e d) r && alikeD r)
def plainTup : PyData → Bool
  | .tuple (_ :: _) => true
  | _ => false
def notTup : PyData → Bool
  | .tuple _ => false
  | .none => false
  | _ => true
theorem srt_perm : ∀ l : List Dat, (srtD l).Perm l
  | [] => .refl _
  | x :: r => by
    have ins : ∀ l : List Dat, (insD x l).Perm (x :: l) := fun l => by
      induction l with
      | nil => exact .refl _
      | cons y r ih =>
        unfold insD
        cases ltD x y with
        | true => exact .refl _
        | false => exact (List.Perm.cons y ih).trans (.swap x y r)
    exact (ins _).trans (List.Perm.cons x (srt_perm r))
theorem leT : PySem.W.TotalLe (PySem.W.dataLe false (Prod.snd : Dat → PyData)) := PySem.W.sortLe_total _ _ _
theorem strict_pw : ∀ {l : List Dat}, strict l = true → l.Pairwise fun a b => ltD a b = true
  | [], _ => .nil
  | [_], _ => List.pairwise_singleton _ _
  | x :: y :: r, h => by
    unfold strict at h
    rw [Bool.and_eq_true] at h
    have ih := strict_pw h.2
    refine List.pairwise_cons.mpr ⟨fun z hz => ?_, ih⟩
    rcases List.mem_cons.mp hz with rfl | hz
    · exact h.1
    · have h2 := (List.pairwise_cons.mp ih).1 z hz
      unfold ltD at h h2 ⊢
      simp only [Bool.and_eq_true, Bool.not_eq_true'] at h h2 ⊢
      refine ⟨leT.trans _ _ _ h.1.1 h2.1, ?_⟩
      cases e : PySem.W.dataLe false Prod.snd z x with
      | false => rfl
      | true =>
        have := leT.trans _ _ _ h2.1 e
        rw [h.1.2] at this
        cases this
theorem srt_eq {l : List Dat} (h : strict (srtD l) = true) : l.mergeSort (PySem.W.dataLe false Prod.snd) = srtD l := by
  have pw := strict_pw h
  have p1 : (l.mergeSort (PySem.W.dataLe false Prod.snd)).Perm (srtD l) := (List.mergeSort_perm l _).trans (srt_perm l).symm
  refine List.Perm.eq_of_pairwise (le := fun a b => PySem.W.dataLe false Prod.snd a b = true) (fun a b ha hb h1 h2 => ?_) ?_ ?_ p1
  · have ha' : a ∈ srtD l := p1.subset ha
    by_cases e : a = b
    · exact e
    · exfalso
      have key : ∀ {m : List Dat}, m.Pairwise (fun a b => ltD a b = true) → a ∈ m → b ∈ m → ltD a b = true ∨ ltD b a = true := fun {m} pm => by
        induction pm with
        | nil => intro z; cases z
        | @cons x r hx _ ih =>
          intro za zb
          rcases List.mem_cons.mp za with ea | za'
          · rcases List.mem_cons.mp zb with eb | zb'
            · exact absurd (ea.trans eb.symm) e
            · exact .inl (ea ▸ hx b zb')
          · rcases List.mem_cons.mp zb with eb | zb'
            · exact .inr (eb ▸ hx a za')
            · exact ih za' zb'
      rcases key pw ha' hb with z | z
      · unfold ltD at z
        rw [h2] at z
        simp at z
      · unfold ltD at z
        rw [h1] at z
        simp at z
  · exact List.pairwise_mergeSort (fun a b c h1 h2 => leT.trans a b c h1 h2) (fun a b => by
      rcases leT.total a b with z | z <;> simp [z]) l
  · refine pw.imp fun {a b} z => ?_
    unfold ltD at z
    rw [Bool.and_eq_true] at z
    exact z.1
theorem alikeD_ok : ∀ {ds : List PyData}, alikeD ds = true → PySem.W.AllAlike ds
  | [], _ => fun d hd => nomatch hd
  | d :: r, h => by
    unfold alikeD at h
    rw [Bool.and_eq_true, Bool.and_eq_true, allB_eq, List.all_eq_true] at h
    obtain ⟨h1, h2, h3⟩ := h
    have ih := alikeD_ok h3
    intro a ha b hb
    rcases List.mem_cons.mp ha with ea | ha'
    · rcases List.mem_cons.mp hb with eb | hb'
      · rw [ea, eb]
        exact h1
      · have := h2 b hb'
        rw [Bool.and_eq_true] at this
        rw [ea]
        exact this.1
    · rcases List.mem_cons.mp hb with eb | hb'
      · have := h2 a ha'
        rw [Bool.and_eq_true] at this
        rw [eb]
        exact this.2
      · exact ih a ha' b hb'
theorem sortable_ok {ds : List PyData} (h : (allB plainTup ds || allB notTup ds) = true) : PySem.W.Sortable ds := by
  rw [Bool.or_eq_true, allB_eq, allB_eq, List.all_eq_true, List.all_eq_true] at h
  rcases h with h | h
  · refine .inl fun d hd => ?_
    have := h d hd
    unfold plainTup at this
    split at this
    · exact ⟨_, _, rfl⟩
    · cases this
  · refine .inr fun d hd => ?_
    have := h d hd
    unfold notTup at this
    refine ⟨fun z => ?_, fun xs z => ?_⟩
    · rw [z] at this
      cases this
    · rw [z] at this
      cases this
/-- the items in order -/
def sortC (xs : List CV) (C : CH) : Option (List CV) := match toDs C FU xs with
  | some ds => (match alikeD ds, allB plainTup ds || allB notTup ds, strict (srtD (xs.zip ds)), allB (fun d => Nat.ble d.depth 8) ds, bnd xs.length with
    | true, true, true, true, true => some ((srtD (xs.zip ds)).map Prod.fst)
    | _, _, _, _, _ => none)
  | none => none

/-- the values of a list, by the items -/
theorem pick_vals {nx : Nat} {R : V → Dat → Prop} : ∀ {out : List Value} {bs : List Dat}, PySem.W.EachIs (fun u b => ∃ x, RelV x u ∧ RV K μ nx H b.1 x) out bs → ∃ xs, Vals xs out ∧ RVs K μ nx H (bs.map Prod.fst) xs
  | _, _, .nil => ⟨[], .nil, .nil⟩
  | _, _, .cons ⟨x, h1, h2⟩ t => by
    obtain ⟨xs, q1, q2⟩ := pick_vals (R := R) t
    exact ⟨x :: xs, .cons h1 q1, .cons h2 q2⟩
theorem each_vals {nx : Nat} {h : Heap} : ∀ {vs : List CV} {xs : List V} {us : List Value} {ds : List PyData} {as : List Addr}, RVs K μ nx H vs xs → Vals xs us → ReadsAll h us ds as → vs.length = ds.length → PySem.W.EachIs (fun u (b : Dat) => ∃ x, RelV x u ∧ RV K μ nx H b.1 x) us (vs.zip ds) ∧ PySem.W.EachIs (fun u (b : Dat) => ∃ as, Reads h u b.2 as) us (vs.zip ds)
  | _, _, _, _, _, .nil, .nil, r, e => by
    cases r
    exact ⟨.nil, .nil⟩
  | _, _, _, _, _, .cons r1 r2, .cons v1 v2, .cons d1 d2, e => by
    obtain ⟨q1, q2⟩ := each_vals r2 v2 d2 (by simpa using e)
    exact ⟨.cons ⟨_, v1, r1⟩ q1, .cons ⟨_, d1⟩ q2⟩
theorem toDs_len : ∀ (n : Nat) {vs : List CV} {ds : List PyData}, toDs C n vs = some ds → vs.length = ds.length
  | n, [], ds, h => by
    unfold toDs at h
    cases h
    rfl
  | 0, _ :: _, ds, h => by
    unfold toDs at h
    cases h
  | n + 1, v :: vs, ds, h => by
    unfold toDs at h
    cases e1 : toD C n v with
    | none =>
      rw [e1] at h
      cases h
    | some d =>
      rw [e1] at h
      dsimp only at h
      cases e2 : toDs C n vs with
      | none =>
        rw [e2] at h
        cases h
      | some es =>
        rw [e2] at h
        cases h
        rw [List.length_cons, List.length_cons, toDs_len n e2]
theorem sortC_ok {xs ys : List CV} (h : sortC xs C = some ys) : ∃ ds, toDs C FU xs = some ds ∧ PySem.W.AllAlike ds ∧ PySem.W.Sortable ds ∧ (∀ d ∈ ds, d.depth ≤ 8) ∧ xs.length ≤ 1000000 ∧ ys = ((xs.zip ds).mergeSort (PySem.W.dataLe false Prod.snd)).map Prod.fst := by
  unfold sortC at h
  cases e1 : toDs C FU xs with
  | none =>
    rw [e1] at h
    cases h
  | some ds =>
    rw [e1] at h
    dsimp only at h
    split at h
    · rename_i a1 a2 a3 a4 a5
      cases h
      rw [allB_eq, List.all_eq_true] at a4
      exact ⟨ds, rfl, alikeD_ok a1, sortable_ok a2, fun d hd => Nat.le_of_ble_eq_true (a4 d hd), Nat.le_of_ble_eq_true a5, by rw [srt_eq a3]⟩
    · cases h
def fSorted : FC := fun vs C => match vs with
  | [.ref n] => (match isLst (C.get n) with
    | some xs => (match sortC xs C with
      | some ys => some (.ref C.nx, C.add (.lst ys))
      | none => none)
    | none => none)
  | [.tup _] => none
  | _ => none
theorem or_sorted (hu : X.A.units + 65 < cLine) : CallR X (.builtin "sorted") (rMc T X.K fSorted) := by
  intro pins s σ H xs us Q I rx ⟨μ, C, vs, r, rv, h⟩
  unfold fSorted at h
  split at h
  · rename_i n
    obtain ⟨x, e, q⟩ := rvs1 rv
    subst e
    cases q with
    | ref lt =>
      cases e1 : isLst (C.get n) with
      | none =>
        rw [e1] at h
        exact sat_bad h
      | some ys =>
        rw [e1] at h
        dsimp only at h
        cases e2 : sortC ys C with
        | none =>
          rw [e2] at h
          exact sat_bad h
        | some zs =>
          rw [e2] at h
          obtain ⟨ws, g1, r1⟩ := r.obj n _ (isLst_ok e1)
          obtain ⟨ds, d1, d2, d3, d4, d5, d6⟩ := sortC_ok e2
          obtain ⟨its, rvl, pl, hz⟩ := I.list (SqL.of g1)
          obtain ⟨as, rd⟩ := Dp.readsAll I ds _ its (toDs_ok r FU r1 d1) rvl
          have hl := toDs_len FU d1
          obtain ⟨q1, q2⟩ := each_vals r1 rvl rd hl
          rw [Vals.ref1 rx]
          have hzip : (ys.zip ds).map Prod.snd = ds := by rw [List.map_snd_zip]; omega
          have few : (ys.zip ds).length ≤ 1000000 := by
            rw [List.length_zip]
            omega
          refine PySem.W.sorted_data (enc := Prod.snd) pl.isList q1 q2 (by rw [hzip]; exact d2) (by rw [hzip]; exact d3) (by rw [sizeLine_eq]; omega) (fun b hb => ?_) fun out hlen he => ?_
          · have := d4 b.2 (by rw [← hzip]; exact List.mem_map.mpr ⟨b, hb, rfl⟩)
            omega
          · obtain ⟨xs, k1, k2⟩ := pick_vals (R := fun _ _ => True) he
            rw [← d6] at k2
            obtain ⟨ep, he'⟩ := PyProof.Rows.sortedAll_at s.heap its out.toArray
            have kl : xs.length ≤ sizeLine := by
              have e3 : xs.length = out.length := k1.length
              rw [e3, hlen, sizeLine_eq]
              omega
            have hp : H (s.heap.objs.size + 1) = none := I.hok.fresh (Nat.le_succ _)
            exact ⟨.ref _, upd H (s.heap.objs.size + 1) (.lst xs), I.laid (t' := s.toks) (fun _ _ => PyProof.Rows.sortedAll_old) (Nat.le_succ _) ⟨kl, out, ep, k1, he'⟩, rfl, h.qL r k2 _ hp⟩
  · exact sat_bad h
  · exact sat_bad h
end Ex

set_option Elab.async false
set_option linter.all false
set_option maxRecDepth 100000
/-! Ex16: sorted of what is gathered first; of dicts. -/
namespace Ex
open PySem PySem.Spec PyProof.Rows L2 TL
variable {T : Tab} {K : PySem.W.Frag} {X : Cx} {μ : Mu} {C : CH} {H : Hp}

theorem srt_eqP {l m : List Dat} (p : m.Perm l) (h : strict (srtD l) = true) : m.mergeSort (PySem.W.dataLe false Prod.snd) = srtD l := by
  have pw := strict_pw h
  have p1 : (m.mergeSort (PySem.W.dataLe false Prod.snd)).Perm (srtD l) := ((List.mergeSort_perm m _).trans p).trans (srt_perm l).symm
  have lep : (srtD l).Pairwise (fun a b => PySem.W.dataLe false Prod.snd a b = true) := pw.imp fun {a b} z => by
    unfold ltD at z
    rw [Bool.and_eq_true] at z
    exact z.1
  rw [← srt_eq h]
  have s2 : ∀ k : List Dat, (k.mergeSort (PySem.W.dataLe false Prod.snd)).Pairwise (fun a b => PySem.W.dataLe false Prod.snd a b = true) := fun k => List.pairwise_mergeSort (fun a b c h1 h2 => leT.trans a b c h1 h2) (fun a b => by
    rcases leT.total a b with z | z <;> simp [z]) k
  rw [srt_eq h]
  refine List.Perm.eq_of_pairwise (le := fun a b => PySem.W.dataLe false Prod.snd a b = true) (fun a b ha hb h1 h2 => ?_) (s2 m) lep p1
  by_cases e : a = b
  · exact e
  · exfalso
    have key : ∀ {m : List Dat}, m.Pairwise (fun a b => ltD a b = true) → a ∈ m → b ∈ m → ltD a b = true ∨ ltD b a = true := fun {m} pm => by
      induction pm with
      | nil => intro z; cases z
      | @cons x r hx _ ih =>
        intro za zb
        rcases List.mem_cons.mp za with ea | za'
        · rcases List.mem_cons.mp zb with eb | zb'
          · exact absurd (ea.trans eb.symm) e
          · exact .inl (ea ▸ hx b zb')
        · rcases List.mem_cons.mp zb with eb | zb'
          · exact .inr (eb ▸ hx a za')
          · exact ih za' zb'
    rcases key pw (p1.subset ha) hb with z | z
    · unfold ltD at z
      rw [h2] at z
      simp at z
    · unfold ltD at z
      rw [h1] at z
      simp at z


section
variable {pins : List (Addr × Obj)} {σ : L2.St} {s : Shared}
/-- sorted(x): x's items gathered into a list, the list sorted -/
theorem sorted_coll {a : Addr} {bs : List Dat} {nx : Nat} {Q : VK} (I : Inv X pins σ H s) (hu : X.A.units + 65 < cLine) (hal : PySem.W.AllAlike (bs.map Prod.snd)) (hk : PySem.W.Sortable (bs.map Prod.snd)) (hd : ∀ b ∈ bs, b.2.depth ≤ 8) (hL : bs.length ≤ 1000000) (hst : strict (srtD bs) = true)
    (hcol : ∀ R : List Value → Shared → Prop, (∀ (s' : Shared) (acc : List Value) (bs' : List Dat), bs'.Perm bs → Inv X pins σ H s' →
      PySem.W.EachIs (fun u (b : Dat) => ∃ x, RelV x u ∧ RV X.K μ nx H b.1 x) acc bs' → PySem.W.EachIs (fun u (b : Dat) => ∃ as, Reads s'.heap u b.2 as) acc bs' → R acc s') → wpAny (model X.prog X.w) X.A.in1 (collect (.ref a)) R X.xe s)
    (q : ∀ xs p, H p = none → RVs X.K μ nx H ((srtD bs).map Prod.fst) xs → Q (.ref p) (upd H p (.lst xs))) : wpAny (model X.prog X.w) X.A (call (.builtin "sorted") [.ref a]) (EP X pins σ Q) X.xe s := by
  refine Calls.call_function_entry PyProof.Rows.kind_sorted PyProof.Rows.plain_sorted PyProof.Rows.entry_sorted (PyProof.Rows.args_sorted1 _) ?_
  unfold Builtin.«sorted»
  refine wpAny_bind (m := checkCount "sorted" 1 1 _) (wpAny_pure (wpAny_bind (hcol _ ?_)))
  intro s1 acc bs' pm I1 e er
  have hl : acc.length = bs.length := e.length.trans pm.length_eq
  have small : acc.length ≤ sizeLine := by
    rw [hl, sizeLine_eq]
    omega
  refine wpAny_bind (wpAny_newList ?_ small)
  have hoL : (s1.heap.push (seqObj "list" acc.toArray 0)).get? s1.heap.objs.size = some (seqObj "list" acc.toArray 0) := Heap.get?_push_size _ rfl
  have old : ∀ b o, s1.heap.get? b = some o → (PySem.W.sortingHeap (s1.heap.push (seqObj "list" acc.toArray 0)) s1.heap.objs.size acc).get? b = some o := fun b o h => PySem.W.sortingHeap_old (Nat.ne_of_lt (Heap.lt_size h)) (Heap.get?_push_of_some _ h)
  have er' : PySem.W.EachIs (fun u (b : Dat) => ∃ as, Reads (PySem.W.sortingHeap (s1.heap.push (seqObj "list" acc.toArray 0)) s1.heap.objs.size acc) u b.2 as) acc bs' := er.mono fun _ _ ⟨as, r⟩ => ⟨as, PyProof.Rows.Reads.keeps old r⟩
  have mapP : (bs'.map Prod.snd).Perm (bs.map Prod.snd) := pm.map _
  have hal' : PySem.W.AllAlike (bs'.map Prod.snd) := fun d hd d' hd' => hal d (mapP.subset hd) d' (mapP.subset hd')
  have hk' : PySem.W.Sortable (bs'.map Prod.snd) := by
    rcases hk with h | h
    · exact .inl fun d hd => h d (mapP.subset hd)
    · exact .inr fun d hd => h d (mapP.subset hd)
  have S := PySem.W.SortsAt.data (prog := X.prog) (w := X.w) (A := X.A.in1.in1) (s := { s1 with heap := PySem.W.sortingHeap (s1.heap.push (seqObj "list" acc.toArray 0)) s1.heap.objs.size acc })
    (PySem.W.each_map (R := fun v d => ∃ as, Reads (PySem.W.sortingHeap (s1.heap.push (seqObj "list" acc.toArray 0)) s1.heap.objs.size acc) v d as) Prod.snd er') hal' hk' (PySem.W.bound_map fun b hb => by
      have := hd b (pm.subset hb)
      show X.A.units + 1 + 1 + _ < _
      omega)
  refine wpAny_bind (wpAny_holding (wpAny_call_entry PyProof.Rows.slot_list_sort ⟨_, hoL, rfl⟩ PyProof.Rows.entry_list_sort (PySem.W.list_sort_vals (s := { s1 with heap := s1.heap.push (seqObj "list" acc.toArray 0) }) hoL S small ⟨_, rfl, ?_⟩) (PyProof.Rows.args_list_sort _)))
  have out := PySem.W.sortVals_data (enc := Prod.snd) false e er' hal'
  rw [srt_eqP pm hst] at out
  generalize ho : PySem.W.sortVals (PySem.W.dataKind (PySem.W.sortingHeap (s1.heap.push (seqObj "list" acc.toArray 0)) s1.heap.objs.size acc) (bs'.map Prod.snd)) false acc acc = ov at out ⊢
  obtain ⟨xs, v1, v2⟩ := pick_vals (R := fun _ _ => True) out
  obtain ⟨ep, at_⟩ := PyProof.Rows.sortedHeap_at (vs := acc) (out := ov.toArray) hoL
  have hp : H s1.heap.objs.size = none := I1.hok.fresh (Nat.le_refl _)
  have kl : xs.length ≤ sizeLine := by
    rw [v2.length, List.length_map, (srt_perm bs).length_eq, sizeLine_eq]
    omega
  have kept : ∀ b o, s1.heap.get? b = some o → (PyProof.Rows.sortedHeap (s1.heap.push (seqObj "list" acc.toArray 0)) s1.heap.objs.size acc ov.toArray).get? b = some o := fun b o h1 => by
    have lt := Heap.lt_size h1
    rw [PyProof.Rows.sortedHeap_old (Nat.ne_of_lt lt) (by rw [size_push']; exact Nat.lt_succ_of_lt lt)]
    exact Heap.get?_push_of_some _ h1
  exact wpAny_pure ⟨_, rfl, .ref s1.heap.objs.size, upd H s1.heap.objs.size (.lst xs), I1.laid (t' := s1.toks) kept (Nat.le_refl _) ⟨kl, ov, ep, v1, at_⟩, rfl, q xs _ hp v2⟩
end

/-! ### sorted(dict) -/
theorem key_rv {nx : Nat} : ∀ {c : CV} {k : Key}, kOf c = some k → RV K μ nx H c (kV k)
  | .int i, _, h => by
    cases h
    exact .int i
  | .str l, _, h => by
    cases h
    exact .str l
  | .non, _, h => by cases h
  | .bl _, _, h => by cases h
  | .tup _, _, h => by cases h
  | .ref _, _, h => by cases h
theorem keys_rvs {nx : Nat} : ∀ {cs : List CV} {ks : List Key}, ksOf cs = some ks → RVs K μ nx H cs (ks.map kV)
  | [], _, h => by
    cases h
    exact .nil
  | c :: cs, ks, h => by
    unfold ksOf at h
    split at h
    · rename_i k ks' e1 e2
      cases h
      exact .cons (key_rv e1) (keys_rvs e2)
    · cases h
theorem dkeys_rv {nx : Nat} : ∀ {kvs : List (CV × CV)} {kws : List (Key × V)}, PK kOf K μ nx H kvs kws → RVs K μ nx H (kvs.map Prod.fst) (kws.map fun p => kV p.1)
  | _, _, .nil => .nil
  | _, _, .cons h t => .cons (key_rv h.1) (dkeys_rv t)
theorem tkeys_rv {nx : Nat} : ∀ {kvs : List (CV × CV)} {kws : List (List Key × V)} {bs : List Addr}, PK tkOf K μ nx H kvs kws → IsKeys H kws bs → RVs K μ nx H (kvs.map Prod.fst) (bs.map V.ref)
  | _, _, _, .nil, h => by
    cases h
    exact .nil
  | (c, v) :: kvs, _, _, .cons h t, hb => by
    cases hb with
    | cons h1 h2 =>
      refine .cons ?_ (tkeys_rv t h2)
      obtain ⟨e, _⟩ := h
      cases c with
      | tup cs => exact .tup h1 (keys_rvs e)
      | _ => cases e
theorem kw_vals : ∀ {kws : List (Key × V)} {acc : List Value}, acc.length = kws.length → (∀ (j : Nat) (u : Value), acc[j]? = some u → ∃ p : Key × V, kws[j]? = some p ∧ RelV (kV p.1) u) → Vals (kws.map fun p => kV p.1) acc
  | [], [], _, _ => .nil
  | [], _ :: _, h, _ => nomatch h
  | _ :: _, [], h, _ => nomatch h
  | p :: r, u :: us, h, g => by
    refine .cons ?_ (kw_vals (by simpa using h) fun j w e => ?_)
    · obtain ⟨q, e1, e2⟩ := g 0 u rfl
      cases e1
      exact e2
    · obtain ⟨q, e1, e2⟩ := g (j + 1) w (by simpa using e)
      exact ⟨q, by simpa using e1, e2⟩
def dkeys (v : CV) (C : CH) : Option (List CV) := match v with
  | .ref n => (match C.get n with
    | some (.dK kvs) => some (kvs.map Prod.fst)
    | some (.dT kvs) => some (kvs.map Prod.fst)
    | _ => none)
  | _ => none
def fSortedD : FC := fun vs C => match vs with
  | [v] => (match dkeys v C with
    | some ks => (match sortC ks C with
      | some ys => some (.ref C.nx, C.add (.lst ys))
      | none => none)
    | none => none)
  | _ => none
theorem bool_key {k : Key} {v : Value} (h : (mixKind X.prog X.w).is k v = true) : RelV (kV k) v := by
  cases k with
  | inl i =>
    have h' : Value.isInt i v = true := h
    cases v <;> first | cases h' | skip
    rename_i j t
    have : j = i := by simpa [Value.isInt] using h'
    subst this
    exact ⟨t, rfl⟩
  | inr z =>
    obtain ⟨t, e⟩ := Value.isStrOf_shape (x := z) (v := v) h
    exact ⟨t, e⟩
section
variable {pins : List (Addr × Obj)} {σ : L2.St} {s : Shared}
/-- from the keys as values to the result -/
theorem sortedD_fin {a : Addr} {ks : List CV} {ys : List CV} {xs : List V} {Q : VK} (I : Inv X pins σ H s) (hu : X.A.units + 65 < cLine) (r : Rel T X.K μ C H) (rk : RVs X.K μ C.nx H ks xs) (e : sortC ks C = some ys) (h : Sat T X.K W0 [] μ C H Q (fin (some (.ref C.nx, C.add (.lst ys)))))
    (hcol : ∀ R : List Value → Shared → Prop, (∀ (s' : Shared) (acc : List Value), Inv X pins σ H s' → Vals xs acc → R acc s') → wpAny (model X.prog X.w) X.A.in1 (collect (.ref a)) R X.xe s) :
    wpAny (model X.prog X.w) X.A (call (.builtin "sorted") [.ref a]) (EP X pins σ Q) X.xe s := by
  have e0 := e
  obtain ⟨ds, d1, d2, d3, d4, d5, d6⟩ := sortC_ok e
  have hl := toDs_len FU d1
  have hzip : (ks.zip ds).map Prod.snd = ds := by rw [List.map_snd_zip]; omega
  have hst : strict (srtD (ks.zip ds)) = true ∧ ys = (srtD (ks.zip ds)).map Prod.fst := by
    unfold sortC at e0
    rw [d1] at e0
    dsimp only at e0
    split at e0
    · rename_i a3 _ _
      cases e0
      exact ⟨by assumption, rfl⟩
    · cases e0
  refine sorted_coll (bs := ks.zip ds) (nx := C.nx) (μ := μ) I hu (by rw [hzip]; exact d2) (by rw [hzip]; exact d3) (fun b hb => d4 b.2 (by rw [← hzip]; exact List.mem_map.mpr ⟨b, hb, rfl⟩)) (by rw [List.length_zip]; omega) hst.1 (fun R hR => hcol R fun s' acc I1 rv => ?_) fun zs p hp rz => ?_
  · obtain ⟨as, rd⟩ := Dp.readsAll I1 ds _ acc (toDs_ok r FU rk d1) rv
    obtain ⟨q1, q2⟩ := each_vals rk rv rd hl
    exact hR s' acc _ (.refl _) I1 q1 q2
  · rw [← hst.2] at rz
    exact h.qL r rz p hp
end
theorem or_sortedD (hc : X.calm = true) (hu : X.A.units + 65 < cLine) : CallR X (.builtin "sorted") (rMc T X.K fSortedD) := by
  intro pins s σ H xs us Q I rx ⟨μ, C, vs, r, rv, h⟩
  unfold fSortedD at h
  split at h
  · rename_i v
    obtain ⟨x, e, q⟩ := rvs1 rv
    subst e
    cases ek : dkeys v C with
    | none =>
      rw [ek] at h
      exact sat_bad h
    | some ks =>
      rw [ek] at h
      dsimp only at h
      cases es : sortC ks C with
      | none =>
        rw [es] at h
        exact sat_bad h
      | some ys =>
        rw [es] at h
        cases q with
        | @ref n lt =>
          rw [Vals.ref1 rx]
          unfold dkeys at ek
          dsimp only at ek
          cases eo : C.get n with
          | none =>
            rw [eo] at ek
            cases ek
          | some ob =>
            rw [eo] at ek
            have qo := r.obj n ob eo
            cases ob with
            | dK kvs =>
              cases ek
              obtain ⟨kws, g, p⟩ := qo
              obtain ⟨z, lo, vs', rel, dd⟩ := dk_rd I.hok (.inl g)
              obtain ⟨ep, hat⟩ := dd.dictAt
              have hl : kws.length = vs'.length := rel.length
              refine sortedD_fin I hu r (dkeys_rv (pk_of p)) es h fun R hR => PySem.W.kdu_collect (A := X.A.in1) (PySem.W.kdl_dict (knd := mixKind X.prog X.w) (kvs := vs') (ep := ep) lo) (I.ok.hd hc) hat (by rw [← hl]; exact z) fun h' tk acc hk hacc => ?_
              refine hR { s with heap := h', toks := tk } acc.toList (I.kept hk) ?_
              refine kw_vals (by rw [Array.length_toList, hacc.1, hl]) fun j u eu => ?_
              obtain ⟨k, x, e1, e2⟩ := hacc.2 j u (by rw [← Array.getElem?_toList]; exact eu)
              have e3 : (vs'.map (·.1))[j]? = some k := by rw [List.getElem?_map, e1]; rfl
              rw [← rel.keys, List.getElem?_map] at e3
              cases e4 : kws[j]? with
              | none =>
                rw [e4] at e3
                cases e3
              | some pq =>
                rw [e4] at e3
                have e5 : pq.1 = k := Option.some.inj e3
                exact ⟨pq, rfl, by rw [e5]; exact bool_key e2⟩
            | dT kvs =>
              cases ek
              obtain ⟨kws, g, p⟩ := qo
              obtain ⟨z, lo, ks, pr, o, es', ep, ho, hx, hdt, he, hn⟩ := (show ObjOk X.prog X.w H s.heap _ (.dT kws) from I.hok _ _ g)
              have l1 : es'.size = ks.length := size_of_entries he
              have l2 : kws.length = ks.length := Paired.length pr
              refine sortedD_fin I hu r (tkeys_rv (pt_of p) (isKeys_of pr)) es h fun R hR => PySem.W.kdu_collect (A := X.A.in1) (kdl_raw lo hx hdt) (I.ok.hd hc) ho (by omega) fun h' tk acc hk hacc => ?_
              refine hR { s with heap := h', toks := tk } acc.toList (I.kept hk) ?_
              have len : acc.toList.length = ks.length := by rw [Array.length_toList, hacc.1, l1]
              have ea : acc.toList = (ks.map fun x => x.2.1).map Value.ref := by
                apply List.ext_getElem?
                intro j
                rw [List.getElem?_map, List.getElem?_map]
                cases hj : acc.toList[j]? with
                | none =>
                  have := List.getElem?_eq_none_iff.mp hj
                  rw [List.getElem?_eq_none (by omega)]
                  rfl
                | some u =>
                  obtain ⟨en, e1, e2⟩ := hacc.2 j u (by rw [← Array.getElem?_toList]; exact hj)
                  have e3 := entry_at he j
                  rw [e1] at e3
                  cases e4 : ks[j]? with
                  | none =>
                    rw [e4] at e3
                    cases e3
                  | some kk =>
                    rw [e4] at e3
                    have e5 : en = entryOfKey (tupleKind (mixKind X.prog X.w)) kk := Option.some.inj e3
                    rw [e2, e5]
                    rfl
              rw [ea]
              exact L2.vals_refs _
            | _ => cases ek
        | _ => cases ek
  · exact sat_bad h
end Ex

set_option Elab.async false
set_option linter.all false
set_option maxRecDepth 100000
/-! Ex17: more rules. -/
namespace Ex
open PySem PySem.Spec PyProof.Rows L2 TL
variable {T : Tab} {K : PySem.W.Frag} {X : Cx} {μ : Mu} {C : CH} {H : Hp}

/-! ### a list or a tuple -/
def iSeqA (m : EM) : IM := fun l C => match m l C with
  | .ok (.tup xs) C1 => .ok (nxT xs) C1
  | .ok (.ref n) C1 => (match isLst (C1.get n) with
    | some _ => .ok (nxL n) C1
    | none => .bad)
  | .ok _ _ => .bad
  | .exc k fs l' C' => .exc k fs l' C'
  | .bad => .bad
section
variable {W : WX} {e : Expr} {m : EM} {tg : Expr} {pos : Pos}
theorem xi_seq (he : PE X e (tX T X.K W m)) : PI X tg e (tI T X.K W (iSeqA m)) := by
  refine ⟨fun pins s σ H R I ⟨μ, l, C, r, rl, h⟩ => ?_⟩
  unfold iSeqA at h
  cases ea : m l C with
  | bad =>
    rw [ea] at h
    exact h.elim
  | exc k fs l' C' =>
    rw [ea] at h
    refine (xi_tup (tg := tg) he).run pins s σ H R I ⟨μ, l, C, r, rl, ?_⟩
    unfold iSeqT
    rw [ea]
    exact h
  | ok v C1 =>
    rw [ea] at h
    cases v with
    | tup xs =>
      refine (xi_tup (tg := tg) he).run pins s σ H R I ⟨μ, l, C, r, rl, ?_⟩
      unfold iSeqT
      rw [ea]
      exact h
    | ref n =>
      refine (xi_lst (tg := tg) he).run pins s σ H R I ⟨μ, l, C, r, rl, ?_⟩
      unfold iSeqL
      rw [ea]
      exact h
    | _ => exact (show False from h).elim
theorem xs_doc {x : Str} {j : Nat} {p p' : Pos} : PS X (.Expr (.Constant (.str x) j p) p') (tS T X.K W sNil) := PS.imp ps_doc fun D σ H ⟨μ, l, C, r, rl, h⟩ => h μ H σ r.refl r rl
theorem xs_pass : PS X (.Pass pos) (tS T X.K W sNil) := PS.imp ps_pass fun D σ H ⟨μ, l, C, r, rl, h⟩ => h μ H σ r.refl r rl
theorem xs_retN : PS X (.Return none pos) (tS T X.K W sRetN) := PS.imp ps_retN fun D σ H ⟨μ, l, C, r, rl, h⟩ => h μ H _ r.refl r .non
end

end Ex

set_option Elab.async false
set_option linter.all false
set_option maxRecDepth 100000
/-! Ex18: dict.setdefault; the values of a dict. -/
namespace Ex
open PySem PySem.Spec PyProof.Rows L2 TL
variable {T : Tab} {K : PySem.W.Frag} {X : Cx} {μ : Mu} {C : CH} {H : Hp}

section
variable {pins : List (Addr × Obj)} {σ : L2.St} {s : Shared} {a b : Addr} {u r : Value} {d : V} {A : Around} {E : Value → Shared → Prop}
theorem d_setdT {kvs : List (List L2.Key × V)} {k : List L2.Key} {Q : Value → Shared → Prop} (hu : A.units + 65 < cLine) (I : Inv X pins σ H s) (e : H a = some (.dT kvs)) (eb : H b = some (.tup (k.map kV))) (rd : RelV d r) (hl : kvs.length < sizeLine)
    (h1 : ∀ v, valV kvs k = some v → ∀ (w' : Value) (s' : Shared), Inv X pins σ H s' → RelV v w' → Q w' s') (h2 : valV kvs k = none → ∀ (w' : Value) (s' : Shared), Inv X pins σ (upd H a (.dT (putK kvs k d))) s' → RelV d w' → Q w' s') :
    wpAny (model X.prog X.w) A (call (.builtin "dict.setdefault") [.ref a, .ref b, r]) Q E s := by
  obtain ⟨z, hd, xs, rel, dd⟩ := dt_of I.hok e
  have hz : xs.length ≤ sizeLine := by rw [← Paired.length rel]; exact z
  have q := rel.val k
  refine call_setdefault_heap (hsz := hz) (tupleKind_room_in1 (by omega)) (key_of I.hok eb) hd dd (fun p hp => ?_) fun hn h' dd' hs => ?_
  · rw [hp] at q
    cases q0 : valV kvs k with
    | none =>
      rw [q0] at q
      exact (show False from q).elim
    | some v0 =>
      rw [q0] at q
      exact h1 v0 q0 _ _ (I.tok _) q
  · rw [hn] at q
    cases q0 : valV kvs k with
    | some v0 =>
      rw [q0] at q
      exact (show False from q).elim
    | none =>
      have hl2 : (putK kvs k d).length ≤ sizeLine := by
        have := length_putK kvs k d
        omega
      obtain ⟨o, es, ep, ho, g2, g3, g4, _, g5⟩ := dd'
      refine h2 q0 _ _ (d_write I (by rw [e]; exact True.intro) hs ⟨o, ho⟩ ⟨hl2, hd, _, (rel.put k eb rd).keeps fun c ys ec => ?_, o, es, ep, ho, g2, g3, g4, g5⟩) rd
      rw [upd_ne (ne_of ec e (fun z => nomatch z))]
      exact ec
end

/-! ### d.setdefault(k, v) -/
def fSetd : FC := fun vs C => match vs with
  | [.ref n, k, v] => (match C.get n with
    | some (.dT kvs) => (match tkOf k, bnd kvs.length with
      | some _, true => (match lkV eqT kvs k with
        | some w => some (w, C)
        | none => some (v, C.set n (.dT (putV eqT kvs k v))))
      | _, _ => none)
    | _ => none)
  | _ => none
theorem mr_setd (hu : X.A.units + 65 < cLine) : MtR X "dict.setdefault" (rMm T X.K fSetd) := by
  intro pins s σ H x xs v us Q I rx rxs ⟨μ, C, vs, r, rv, h⟩
  unfold fSetd at h
  split at h
  · rename_i n k w
    cases rv with
    | cons r1 rv =>
      cases rv with
      | cons r2 rv =>
        cases rv with
        | cons r3 rv =>
          cases rv
          cases r1 with
          | ref lt =>
            cases eo : C.get n with
            | none =>
              rw [eo] at h
              exact sat_bad h
            | some ob =>
              rw [eo] at h
              cases ob with
              | dT kvs =>
                dsimp only at h
                cases ek : tkOf k with
                | none =>
                  simp only [ek] at h
                  exact sat_bad h
                | some kk =>
                  cases eb : bnd kvs.length with
                  | false =>
                    simp only [ek, eb] at h
                    exact sat_bad h
                  | true =>
                    simp only [ek, eb] at h
                    obtain ⟨kws, g, p⟩ := r.obj n _ eo
                    obtain ⟨b, ey, eb2⟩ := tk_of r2 ek
                    obtain ⟨l1, l2⟩ := lk_ok tqT ek (pt_of p)
                    subst ey
                    cases rx
                    obtain ⟨u1, u2, rfl, q1, q2⟩ := vals2 rxs
                    cases q1
                    refine d_setdT hu I g eb2 q2 (by rw [paired_len p]; exact bnd_lt eb) (fun v0 hv w' s' I' rw' => ?_) fun hn w' s' I' rw' => ?_
                    · cases el : lkV eqT kvs k with
                      | none =>
                        rw [l2 el] at hv
                        cases hv
                      | some c =>
                        rw [el] at h
                        obtain ⟨x0, e0, rx0⟩ := l1 c el
                        rw [hv] at e0
                        cases e0
                        exact ⟨v0, H, I', rw', h _ _ _ r.refl r rx0⟩
                    · cases el : lkV eqT kvs k with
                      | some c =>
                        obtain ⟨x0, e0, _⟩ := l1 c el
                        rw [hn] at e0
                        cases e0
                      | none =>
                        rw [el] at h
                        obtain ⟨q1, q2⟩ := chT r eo (put_ok tqT ek r3 (pt_of p))
                        exact ⟨_, _, I', rw', h _ _ _ q2 q1 (r3.step q2)⟩
              | _ => exact sat_bad h
  · exact sat_bad h

/-! ### the values of a dict, by its keys -/
def valsOf (kvs : List (CV × CV)) : List (CV × CV) → Option (List CV)
  | [] => some []
  | (k, _) :: r => match lkV eqT kvs k, valsOf kvs r with
    | some v, some vs => some (v :: vs)
    | _, _ => none
theorem valsOf_at {kvs : List (CV × CV)} : ∀ {ps : List (CV × CV)} {vs : List CV}, valsOf kvs ps = some vs → vs.length = ps.length ∧ ∀ (i : Nat) (p : CV × CV), ps[i]? = some p → ∃ v, lkV eqT kvs p.1 = some v ∧ vs[i]? = some v
  | [], vs, h => by
    cases h
    exact ⟨rfl, fun i p e => by simp at e⟩
  | (k, w) :: ps, vs, h => by
    unfold valsOf at h
    split at h
    · rename_i v us e1 e2
      cases h
      obtain ⟨q1, q2⟩ := valsOf_at e2
      refine ⟨by rw [List.length_cons, List.length_cons, q1], fun i p e => ?_⟩
      cases i with
      | zero =>
        cases e
        exact ⟨v, e1, rfl⟩
      | succ i =>
        obtain ⟨u, z1, z2⟩ := q2 i p (by simpa using e)
        exact ⟨u, z1, by simpa using z2⟩
    · cases h
def xDVals (i j : Nat) : EM := fun l C => match nthO l i with
  | some (.ref n) => (match C.get n with
    | some (.dT kvs) => (match bnd kvs.length, valsOf kvs kvs, Nat.blt j l.length with
      | true, some vs, true => .ok (.ref C.nx) (C.add (.lst vs))
      | _, _, _ => .bad)
    | _ => .bad)
  | _ => .bad
theorem pget {α β : Type} {F : α → β → Prop} : ∀ {l₁ : List α} {l₂ : List β} {j : Nat} {x : β}, Paired F l₁ l₂ → l₂[j]? = some x → ∃ y, l₁[j]? = some y ∧ F y x
  | _, _, j, x, .nil, h => by simp at h
  | _, _, 0, x, .cons (a := y) f _, h => by
    simp at h
    subst h
    exact ⟨y, rfl, f⟩
  | _, _, j + 1, x, .cons _ t, h => by
    obtain ⟨y, e, q⟩ := pget (j := j) t (by simpa using h)
    exact ⟨y, by simpa using e, q⟩
theorem RVs.take1 {nx : Nat} {vs : List CV} {xs : List V} {i : Nat} {v : CV} {x : V} (h : RVs K μ nx H (vs.take i) xs) (e : vs[i]? = some v) (r : RV K μ nx H v x) : RVs K μ nx H (vs.take (i + 1)) (xs ++ [x]) := by
  have lt : i < vs.length := (List.getElem?_eq_some_iff.mp e).1
  have : vs.take (i + 1) = vs.take i ++ [v] := by rw [List.take_succ, e]; rfl
  rw [this]
  exact h.append (.cons r .nil)
theorem xe_dvals {W : WX} {d x : Str} {scope : Scope} {pos p1 p2 p3 p4 p5 : Pos} {i j : Nat} (hu : X.A.units + 65 < cLine) (hc : X.calm = true) (hN : X.N.Nodup) (ij : j ≠ i) (ok : BlkOk X.N X.env.scope scope [(x, j)]) (hd : PE X (.Name d p5) (tVar i))
    (hg : ∀ (s : Shared) (H : Hp) (C : Addr) (cl : List (Str × Addr)) (fp : List Addr), PG (X.blk s H scope (compEnvC scope cl C X.env) fp) (.Name x p4) (gName j))
    (hd1 : ∀ (s : Shared) (H : Hp) (C : Addr) (cl : List (Str × Addr)) (fp : List Addr), PE (X.blk s H scope (compEnvC scope cl C X.env) fp) (.Name d p1) (tVar i))
    (hx : ∀ (s : Shared) (H : Hp) (C : Addr) (cl : List (Str × Addr)) (fp : List Addr), PE (X.blk s H scope (compEnvC scope cl C X.env) fp) (.Name x p2) (tVar j))
    (hs : ∀ y, foldedSetIterable (.Name d p5) X.env y = pure y := by intro _; rfl) :
    PE X (.ListComp (.Subscript (.Name d p1) (.Name x p2) p3) [⟨.Name x p4, .Name d p5, [], 0⟩] scope pos) (tX T X.K W (xDVals i j)) := by
  refine PE.imp (pe_lock (pe_lc hc hN (pi_keys hd) ok hg (fun _ _ _ _ _ => pts_nil) (fun s H C cl fp => pe_dget (by show X.A.units + 1 < cLine; omega) (hd1 s H C cl fp) (hx s H C cl fp) (by intro _ _; rfl)) hs)) fun σ H Q ⟨μ, l, C, r, rl, h⟩ => ?_
  unfold xDVals at h
  cases en : nthO l i with
  | none =>
    rw [en] at h
    exact (show False from h).elim
  | some v =>
    rw [en] at h
    cases v with
    | ref n =>
      dsimp only at h
      cases eo : C.get n with
      | none =>
        rw [eo] at h
        exact (show False from h).elim
      | some ob =>
        rw [eo] at h
        cases ob with
        | dT kvs =>
          dsimp only at h
          cases eb : bnd kvs.length with
          | false =>
            simp only [eb] at h
            exact (show False from h).elim
          | true =>
            cases ev : valsOf kvs kvs with
            | none =>
              simp only [eb, ev] at h
              exact (show False from h).elim
            | some vs =>
             cases el : Nat.blt j l.length with
             | false =>
              simp only [eb, ev, el] at h
              exact (show False from h).elim
             | true =>
              simp only [eb, ev, el] at h
              obtain ⟨kws, g, p⟩ := r.obj n _ eo
              have pk := pt_of p
              obtain ⟨xx, e1, rx⟩ := rl.at_ i _ (nthO_ok en)
              obtain ⟨v1, v2⟩ := valsOf_at ev
              have hl : kws.length = kvs.length := paired_len p
              have ex : xx = .ref (μ n) := by
                cases rx
                rfl
              subst ex
              refine ⟨μ n, .dT kws, g, trivial, fun od => ?_⟩
              refine ⟨.ref (μ n), e1, μ n, od, rfl, .inr ⟨kws, upd_same, fun D hD => ?_⟩⟩
              have nD : D ≠ μ n := fun z => by rw [z, upd_same] at hD; cases hD
              have hD0 : H D = none := by rw [upd_ne nD] at hD; exact hD
              refine lc_it (walk_keysT (d := μ n) (o := od) (kvs := kws)) (fun i H1 => ∃ acc, H1 = upd (upd H (μ n) (.frz od (.dT kws))) D (.lst acc) ∧ RVs X.K μ C.nx H (vs.take i) acc) ⟨[], rfl, .nil⟩ (fun i H1 _ ⟨acc, e, _⟩ => by rw [e, upd_ne (Ne.symm nD), upd_same]) (fun k x H1 H' lt ⟨acc, e, ra⟩ ⟨e2, kk, w, q, e3, e4, e5⟩ => ?_) (fun H1 ⟨acc, e, ra⟩ => ?_)
              · subst e2 e4
                obtain ⟨pc, e6, e7, _⟩ := pget pk e3
                obtain ⟨w0, e8, e9⟩ := v2 k pc e6
                obtain ⟨y, e10, ry⟩ := (lk_ok tqT e7 pk).1 w0 e8
                have jl : j < σ.length := by
                  rw [rl.len]
                  simpa using el
                refine ⟨?_, ?_⟩
                · show ((σ.set j none).set j (some (.ref q))).set j none = σ.set j none
                  rw [List.set_set, List.set_set]
                · show tDGet (tVar i) (tVar j) _ _ _
                  refine ⟨.ref (μ n), ?_, .ref q, ?_, μ n, y, rfl, .inr ⟨kws, kk, q, .inr ⟨od, ?_⟩, rfl, e5, e10.symm⟩, acc, ?_, ?_, acc ++ [y], ?_, ra.take1 e9 ry⟩
                  · show ((σ.set j none).set j (some (.ref q)))[i]? = _
                    rw [List.set_set, List.getElem?_set_ne ij]
                    exact e1
                  · show ((σ.set j none).set j (some (.ref q)))[j]? = _
                    rw [List.set_set, List.getElem?_set_self jl]
                  · rw [e, upd_ne (Ne.symm nD), upd_same]
                  · rw [e, upd_same]
                  · rw [ra.length, List.length_take, sizeLine_eq]
                    have := bnd_lt eb
                    rw [sizeLine_eq] at this
                    omega
                  · rw [e, upd_upd]
              · rw [e]
                refine ⟨by rw [upd_ne (Ne.symm nD), upd_same], ?_⟩
                have ra2 : RVs X.K μ C.nx H vs acc := by
                  have : vs.take kws.length = vs := List.take_of_length_le (by omega)
                  rw [this] at ra
                  exact ra
                obtain ⟨a1, a2, a3⟩ := allocL r hD0 ra2
                have eq : upd (upd (upd H (μ n) (.frz od (.dT kws))) D (.lst acc)) (μ n) (.dT kws) = upd H D (.lst acc) := by
                  funext b
                  by_cases z : b = μ n
                  · rw [z, upd_same, upd_ne (Ne.symm nD), g]
                  · rw [upd_ne z]
                    by_cases z2 : b = D
                    · rw [z2, upd_same, upd_same]
                    · rw [upd_ne z2, upd_ne z2, upd_ne z]
                rw [eq]
                exact h _ _ _ a2 a1 a3
        | _ => exact (show False from h).elim
    | _ => exact (show False from h).elim
end Ex

set_option Elab.async false
set_option linter.all false
set_option maxRecDepth 100000
set_option maxHeartbeats 4000000
/-! Ex19: sets whose elements are tuples of any keys. -/
namespace Ex.NS
open PySem PySem.Spec PyProof.Rows L2

/-- an element: its place, what it is as a key -/
abbrev EK := Addr × NestedKey
mutual
/-- no text in it: its hash is the same in every run -/
def byV : NestedKey → Bool
  | .none => true
  | .num _ => true
  | .text _ => false
  | .tup ks => byVs ks
def byVs : List NestedKey → Bool
  | [] => true
  | k :: ks => byV k && byVs ks
end
structure El (h : Heap) (p : EK) : Prop where
  is : NestedIs h p.2 (.ref p.1)
  dp : p.2.depth ≤ 8
  bv : byV p.2 = true
theorem El.keep {h h' : Heap} {p : EK} (x : El h p) (k : ∀ c o, h.get? c = some o → h'.get? c = some o) : El h' p :=
  ⟨NestedIs.at (fun b o _ _ e _ => k b o e) _ _ x.is, x.dp, x.bv⟩
theorem El.but {h h' : Heap} {p : EK} {a : Addr} {o : Obj} {es : Array (Int × Value)} {ep : Nat} {t : SetTable} (x : El h p) (e : h.get? a = some o) (d : o.data = .set es ep t) (k : Heap.SameBut a h h') : El h' p := by
  refine ⟨NestedIs.at (fun b ob vs n e2 d2 => ?_) _ _ x.is, x.dp, x.bv⟩
  have ne : b ≠ a := fun z => by
    rw [z, e] at e2
    cases e2
    rw [d] at d2
    cases d2
  exact (k.2 b ne).trans e2

section
variable {P : Program} {w : World} {A : Around} {E : Value → Shared → Prop} {s : Shared}
mutual
/-- no key's class is one of a class statement -/
theorem plainCls : ∀ (n : Nat) (k : NestedKey) (v : Value) (A : Around) (Q : Bool → Shared → Prop), NestedIs s.heap k v → k.depth ≤ n → Q false s → wpAny (model P w) A (ofAClassStatement n v) Q E s
  | n, .none, _, A, Q, x, _, q => by
    cases x
    cases n <;> exact wpAny_pure q
  | n, .num i, _, A, Q, x, _, q => by
    cases x <;> cases n <;> exact wpAny_pure q
  | n, .text z, _, A, Q, x, _, q => by
    cases x
    cases n <;> exact wpAny_pure q
  | 0, .tup ks, _, A, Q, x, le, q => by
    unfold NestedKey.depth at le
    omega
  | n + 1, .tup ks, _, A, Q, x, le, q => by
    unfold NestedKey.depth at le
    cases x with
    | @tup b o vs m _ e c d all =>
      have ty : s.TypeIs (.ref b) "tuple" := ⟨o, e, c⟩
      unfold ofAClassStatement
      refine wpAny_bind (wpAny_typeOf ty ?_)
      dsimp only
      rw [if_pos (show (("tuple" : String) == "tuple") = true by decide)]
      refine wpAny_bind (wpAny_pure ?_)
      rw [if_neg (show ¬ (!true) = true by decide)]
      show wpAny (model P w) A (seqItems? (.ref b) >>= _) Q E s
      refine wpAny_bind (wpAny_seqItems e d ?_)
      dsimp only
      refine wpAny_bind ?_
      show wpAny (model P w) A (forIn vs _ _) _ E s
      rw [← Array.forIn_toList]
      refine plainClss n ks vs.toList A _ all (by omega) ?_
      exact wpAny_pure q
theorem plainClss : ∀ (n : Nat) (ks : List NestedKey) (vs : List Value) (A : Around) (Q : Option Bool × Unit → Shared → Prop), NestedAll s.heap ks vs → NestedKey.depthAll ks ≤ n → Q (none, ()) s →
    wpAny (model P w) A (forIn vs ((none, ()) : Option Bool × Unit) fun y _ => do
      if ← ofAClassStatement n y then pure (ForInStep.done (some true, ())) else pure (ForInStep.yield (none, ()))) Q E s
  | n, [], _, A, Q, x, _, q => by
    cases x
    exact wpAny_pure q
  | n, k :: ks, _, A, Q, x, le, q => by
    cases x with
    | cons x1 x2 =>
      unfold NestedKey.depthAll at le
      rw [List.forIn_cons]
      refine wpAny_bind (wpAny_bind (plainCls n k _ A _ x1 (by omega) ?_))
      rw [if_neg Bool.false_ne_true]
      exact wpAny_pure (plainClss n ks _ A Q x2 (by omega) q)
end
mutual
theorem valHash : ∀ (n : Nat) (k : NestedKey) (v : Value) (A : Around) (Q : Bool → Shared → Prop), NestedIs s.heap k v → k.depth ≤ n → byV k = true → Q true s → wpAny (model P w) A (hashByValue n v) Q E s
  | n, .none, _, A, Q, x, _, _, q => by
    cases x
    cases n <;> exact wpAny_pure q
  | n, .num i, _, A, Q, x, _, _, q => by
    cases x <;> cases n <;> exact wpAny_pure q
  | n, .text z, _, A, Q, x, _, b, q => by
    unfold byV at b
    cases b
  | 0, .tup ks, _, A, Q, x, le, _, q => by
    unfold NestedKey.depth at le
    omega
  | n + 1, .tup ks, _, A, Q, x, le, bv, q => by
    unfold NestedKey.depth at le
    unfold byV at bv
    cases x with
    | @tup b o vs m _ e c d all =>
      have ty : s.TypeIs (.ref b) "tuple" := ⟨o, e, c⟩
      unfold hashByValue
      refine wpAny_bind (wpAny_specialOf ty F.slot_tuple_hash.lookup ?_)
      show wpAny (model P w) A (seqItems? (.ref b) >>= _) Q E s
      refine wpAny_bind (wpAny_seqItems e d ?_)
      refine wpAny_bind ?_
      show wpAny (model P w) A (forIn vs _ _) _ E s
      rw [← Array.forIn_toList]
      refine valHashs n ks vs.toList A _ all (by omega) bv ?_
      exact wpAny_pure q
theorem valHashs : ∀ (n : Nat) (ks : List NestedKey) (vs : List Value) (A : Around) (Q : Option Bool × Unit → Shared → Prop), NestedAll s.heap ks vs → NestedKey.depthAll ks ≤ n → byVs ks = true → Q (none, ()) s →
    wpAny (model P w) A (forIn vs ((none, ()) : Option Bool × Unit) fun y _ => do
      if (!(← hashByValue n y)) = true then pure (ForInStep.done (some false, ())) else pure (ForInStep.yield (none, ()))) Q E s
  | n, [], _, A, Q, x, _, _, q => by
    cases x
    exact wpAny_pure q
  | n, k :: ks, _, A, Q, x, le, bv, q => by
    cases x with
    | cons x1 x2 =>
      unfold NestedKey.depthAll at le
      unfold byVs at bv
      rw [Bool.and_eq_true] at bv
      rw [List.forIn_cons]
      refine wpAny_bind (wpAny_bind (valHash n k _ A _ x1 (by omega) bv.1 ?_))
      rw [if_neg (by decide)]
      exact wpAny_pure (valHashs n ks _ A Q x2 (by omega) bv.2 q)
end
/-- a search among them shows nothing -/
theorem unseen {p : EK} {A : Around} {Q : Bool → Shared → Prop} (x : El s.heap p) (q : Q false s) : ∀ (ys : List Value), (∀ y ∈ ys, ∃ z : EK, y = .ref z.1 ∧ El s.heap z) → wpAny (model P w) A (searchCouldBeSeen (.ref p.1) ys) Q E s := by
  intro ys hys
  unfold searchCouldBeSeen
  refine wpAny_bind ?_
  refine wpAny_forIn_list _ (fun left r s' => r.1 = none ∧ s' = s ∧ ∀ y ∈ left, ∃ z : EK, y = .ref z.1 ∧ El s.heap z) _ ?_ ?_ _ _ ⟨rfl, rfl, hys⟩
  · rintro v left r s' ⟨hr, rfl, all⟩
    obtain ⟨z, rfl, ez⟩ := all v List.mem_cons_self
    have more : ∀ y ∈ left, ∃ z : EK, y = .ref z.1 ∧ El s'.heap z := fun y hy => all y (List.mem_cons_of_mem _ hy)
    dsimp only
    by_cases c : (p.1 == z.1 || (carriedByValue (.ref p.1) && carriedByValue (.ref z.1))) = true
    · rw [if_pos c]
      exact wpAny_pure ⟨rfl, rfl, more⟩
    · rw [if_neg c]
      refine wpAny_bind (quiet_key _ _ 8 _ x.is x.dp _ _ _ ?_)
      rw [if_neg (by decide)]
      refine wpAny_bind (quiet_key _ _ 8 _ ez.is ez.dp _ _ _ ?_)
      rw [if_neg (by decide)]
      refine wpAny_bind (plainCls 8 _ _ _ _ x.is x.dp ?_)
      rw [if_neg (by decide)]
      refine wpAny_bind (plainCls 8 _ _ _ _ ez.is ez.dp ?_)
      rw [if_neg (by decide)]
      exact wpAny_pure ⟨rfl, rfl, more⟩
  · rintro ⟨r1, r2⟩ s' ⟨hr, rfl, _⟩
    cases (show r1 = none from hr)
    exact wpAny_pure q
end

/-! ### the state of such a set -/
abbrev kh (w : World) (p : EK) : Int := p.2.hash w
abbrev khs (w : World) (L : List EK) : List Int := L.map (kh w)
def ent (w : World) (p : EK) : Int × Value := (kh w p, .ref p.1)
structure Ste (w : World) (h : Heap) (a : Addr) (L : List EK) (es : Array (Int × Value)) (ep : Nat) (t : SetTable) : Prop where
  obj : ∃ o, h.get? a = some o ∧ o.ExactSet ∧ o.data = .set es ep t
  ens : es.toList = L.map (ent w)
  tab : TabOk t (khs w L)
  nod : (L.map (·.2)).Nodup
  els : ∀ p ∈ L, El h p
  pln : t.plain = true
  led : w.params.followText "set-order" = true ∨ t.led = true
  air : L.length * 5 < t.mask * 3
  few : L.length < 64
variable {w : World} {h : Heap} {a : Addr} {L : List EK} {es : Array (Int × Value)} {ep : Nat} {t : SetTable}
theorem ens_size (e : es.toList = L.map (ent w)) : es.size = L.length := by
  rw [← Array.length_toList, e, List.length_map]
theorem ens_at (e : es.toList = L.map (ent w)) {i : Nat} {p : EK} (q : L[i]? = some p) : es[i]? = some (ent w p) := by
  rw [← Array.getElem?_toList, e, List.getElem?_map, q]
  rfl
theorem Ste.place (R : Ste w h a L es ep t) : t.place.size = L.length := by
  have q := R.tab.sz
  rwa [List.length_map] at q
theorem fits_of (z : t.place.size = es.size) (d : t.dummies = #[]) (le : es.size ≤ t.mask) : t.fits es.size = true := by
  unfold SetTable.fits SetTable.fill
  rw [d, Bool.and_eq_true, beq_iff_eq, decide_eq_true_eq]
  exact ⟨z, by rw [z]; exact le⟩
theorem Ste.fits (R : Ste w h a L es ep t) : t.fits es.size = true := by
  have q1 := R.place
  have q2 := ens_size R.ens
  have q3 := R.air
  exact fits_of (q1.trans q2.symm) R.tab.dm (by omega)
theorem Ste.whole (R : Ste w h a L es ep t) : ¬ t.gaveWay = true := by
  unfold SetTable.gaveWay
  rw [mask_odd R.tab.mok]
  decide
/-- the c-th probe for the hash k -/
abbrev prb (t : SetTable) (k : Int) (c : Nat) : SetTable.Probe := nth t.mask (runAt t.mask (SetTable.bits k % (t.mask + 1)) (SetTable.bits k)) c
theorem prb_add (t : SetTable) (k : Int) (c q : Nat) : nth t.mask (prb t k c) q = prb t k (c + q) := (nth_add t.mask c _ q).symm
theorem prb_dummy (t : SetTable) (k : Int) (c : Nat) : (prb t k c).dummy = none := by
  have all : ∀ (n : Nat) (p : SetTable.Probe), p.dummy = none → (nth t.mask p n).dummy = none := fun n => by
    induction n with
    | zero => exact fun p e => e
    | succ n ih =>
      intro p e
      refine ih (adv t.mask p) ?_
      unfold adv
      split <;> exact e
  exact all c _ rfl
/-- what is met from the c-th probe on -/
theorem meets {hs : List Int} (T : TabOk t hs) (f : Nat → Int) {k : Int} {K c : Nat} (hK : K < 10 * SetTable.turns t.mask) (nK : way t.mask k K ∉ t.place.toList) (bK : ∀ q, q < K → way t.mask k q ∈ t.place.toList) (le : c ≤ K) :
    (∃ q i, c ≤ q ∧ q < K ∧ t.place.toList[i]? = some (way t.mask k q) ∧ f i = k ∧ (∀ q' i', c ≤ q' → q' < q → t.place.toList[i']? = some (way t.mask k q') → f i' ≠ k) ∧ t.probe f k (prb t k c) = some (.candidate (way t.mask k q) i (prb t k (q + 1)))) ∨
    ((∀ q' i', c ≤ q' → q' < K → t.place.toList[i']? = some (way t.mask k q') → f i' ≠ k) ∧ t.probe f k (prb t k c) = some (.empty (way t.mask k K) none)) := by
  have at_ : ∀ q, (nth t.mask (prb t k c) q).j = way t.mask k (c + q) := fun q => congrArg SetTable.Probe.j (prb_add t k c q)
  rcases go_spec t T.ris T.dm f k (10 * SetTable.turns t.mask) (K - c) (prb t k c) (prb_dummy t k c) (by omega) (fun q hq => by rw [at_]; exact bK _ (by omega)) (by rw [at_, show c + (K - c) = K by omega]; exact nK) with ⟨q, i, h1, h2, h3, h4, h5⟩ | ⟨h4, h5⟩
  · rw [at_] at h2 h5
    rw [prb_add] at h5
    exact .inl ⟨c + q, i, by omega, by omega, h2, h3, fun q' i' l1 l2 e => h4 (q' - c) i' (by omega) (by rw [at_, show c + (q' - c) = q' by omega]; exact e), h5⟩
  · rw [at_, show c + (K - c) = K by omega] at h5
    exact .inr ⟨fun q' i' l1 l2 e => h4 (q' - c) i' (by omega) (by rw [at_, show c + (q' - c) = q' by omega]; exact e), h5⟩
section
variable {P : Program} {A : Around} {E : Value → Shared → Prop} {s : Shared}
/-- the search for x, from the c-th probe on -/
theorem seek (R : Ste w s.heap a L es ep t) {x : EK} (hx : El s.heap x) (hu : A.units + 8 < cLine) {K : Nat} (hK : K < 10 * SetTable.turns t.mask) (nK : way t.mask (kh w x) K ∉ t.place.toList) (bK : ∀ q, q < K → way t.mask (kh w x) q ∈ t.place.toList) {Q : SetFound → Shared → Prop}
    (yes : x.2 ∈ L.map (·.2) → Q (.there none) s) (no : x.2 ∉ L.map (·.2) → Q (.free (way t.mask (kh w x) K) false) s) : ∀ (n c : Nat) (st : Option SetTable.Probe), st.getD (t.probeStart (kh w x)) = prb t (kh w x) c → c ≤ K → K - c < n →
      (∀ (i : Nat) (p : EK), L[i]? = some p → p.2 = x.2 → ∃ c', c ≤ c' ∧ c' < K ∧ t.place.toList[i]? = some (way t.mask (kh w x) c')) → wpAny (model P w) A (setSearchFrom a (.ref x.1) (kh w x) true n st) Q E s := by
  intro n
  induction n with
  | zero => exact fun c _ _ _ l _ => absurd l (Nat.not_lt_zero _)
  | succ n ih =>
    intro c st est le lt ahead
    obtain ⟨o, ho, _, hd⟩ := R.obj
    rw [setSearchFrom_succ]
    refine wpAny_bind (wpAny_setState_of ho hd R.fits ?_)
    dsimp only
    rw [if_neg R.whole]
    have hf : ∀ (i : Nat) (p : EK), L[i]? = some p → (fun i => (es[i]?.map (·.1)).getD 0) i = kh w p := fun i p e => by
      dsimp only
      rw [ens_at R.ens e]
      rfl
    rw [est]
    rcases meets R.tab (fun i => (es[i]?.map (·.1)).getD 0) hK nK bK le with ⟨q, i, l1, l2, pl, fi, none_, pr⟩ | ⟨none_, pr⟩
    · rw [pr]
      dsimp only
      obtain ⟨p, hp⟩ : ∃ p, L[i]? = some p := by
        have z1 := (List.getElem?_eq_some_iff.mp pl).1
        rw [Array.length_toList, R.place] at z1
        exact ⟨_, List.getElem?_eq_getElem z1⟩
      have pm := List.mem_of_getElem? hp
      have main : wpAny (model P w) A (searchRest a (.ref x.1) (kh w x) true n es t (way t.mask (kh w x) q) i (prb t (kh w x) (q + 1))) Q E s := by
        unfold searchRest
        rw [ens_at R.ens hp]
        show wpAny (model P w) A (holding [Value.ref p.1] (eqBool (.ref p.1) (.ref x.1)) >>= _) Q E s
        refine wpAny_bind (wpAny_holding ((nestedKind P w).eqBool (x := p.2) (y := x.2) hu ⟨(R.els p pm).is, (R.els p pm).dp⟩ ⟨hx.is, hx.dp⟩ ?_))
        refine wpAny_bind (wpAny_setState_of ho hd R.fits ?_)
        dsimp only
        by_cases eq : p.2 = x.2
        · rw [if_pos (by simp [eq])]
          exact wpAny_pure (yes (List.mem_map.mpr ⟨p, pm, eq⟩))
        · rw [if_neg (by simp [eq]), sameMem]
          have sl : t.slot (way t.mask (kh w x) q) = .live i := slot_live R.tab.ris pl
          simp only [if_true, sl, ens_at R.ens hp]
          show wpAny (model P w) A (isSame (.ref p.1) (.ref p.1) >>= _) Q E s
          refine wpAny_bind (wpAny_isSame_ref_self (wpAny_bind (wpAny_pure ?_)))
          simp only [if_true]
          rw [if_neg (by simp [eq])]
          refine ih (q + 1) _ rfl (by omega) (by omega) fun i0 p0 e0 k0 => ?_
          obtain ⟨c', g1, g2, g3⟩ := ahead i0 p0 e0 k0
          refine ⟨c', ?_, g2, g3⟩
          rcases Nat.lt_trichotomy c' q with z | z | z
          · exact absurd ((hf i0 p0 e0).trans (congrArg (NestedKey.hash w) k0)) (none_ c' i0 g1 z g3)
          · rw [z] at g3
            have s0 := slot_live R.tab.ris g3
            rw [sl] at s0
            injection s0 with s0
            rw [← s0, hp] at e0
            exact absurd ((congrArg Prod.snd (Option.some.inj e0)).trans k0) eq
          · exact z
      by_cases led : t.led = true
      · rw [if_neg (by simp [led])]
        exact main
      · rw [if_pos (by simp [led])]
        refine wpAny_bind (unseen hx ?_ _ fun y hy => ?_)
        · rw [if_neg Bool.false_ne_true]
          exact main
        · obtain ⟨e, he, ee⟩ := List.mem_map.mp hy
          have he2 : e ∈ es.toList := by
            have : e ∈ es ∧ e.1 = kh w x := by simpa using he
            simpa using this.1
          rw [R.ens] at he2
          obtain ⟨z, hz, ez⟩ := List.mem_map.mp he2
          exact ⟨z, by rw [← ee, ← ez]; rfl, R.els z hz⟩
    · rw [pr]
      dsimp only
      refine wpAny_pure (no fun m => ?_)
      obtain ⟨p0, m0, k0⟩ := List.mem_map.mp m
      obtain ⟨i0, l0, e0⟩ := List.getElem_of_mem m0
      have e0' : L[i0]? = some p0 := by rw [List.getElem?_eq_getElem l0, e0]
      obtain ⟨c', g1, g2, g3⟩ := ahead i0 p0 e0' k0
      exact none_ c' i0 g1 g2 g3 ((hf i0 p0 e0').trans (congrArg (NestedKey.hash w) k0))
theorem seeks (R : Ste w s.heap a L es ep t) {x : EK} (hx : El s.heap x) (hu : A.units + 8 < cLine) {Q : SetFound → Shared → Prop} (yes : x.2 ∈ L.map (·.2) → Q (.there none) s)
    (no : ∀ K, x.2 ∉ L.map (·.2) → way t.mask (kh w x) K ∉ t.place.toList → (∀ q, q < K → way t.mask (kh w x) q ∈ t.place.toList) → Q (.free (way t.mask (kh w x) K) false) s) : wpAny (model P w) A (setSearch a (.ref x.1) (kh w x) true) Q E s := by
  have air := R.air
  obtain ⟨K, hK, nK, bK⟩ := R.tab.first (by rw [List.length_map]; omega) (kh w x)
  have few : K < 100000 := by
    refine Nat.lt_of_lt_of_le hK ?_
    unfold SetTable.turns
    rcases R.tab.mok with e | e | e <;> rw [e] <;> decide
  unfold setSearch
  refine seek R hx hu hK nK bK yes (fun z => no K z nK bK) 100000 0 none rfl (Nat.zero_le _) (by omega) fun i p e k => ?_
  have il : i < t.place.toList.length := by
    rw [Array.length_toList, R.place]
    exact (List.getElem?_eq_some_iff.mp e).1
  obtain ⟨q, l, z⟩ := R.tab.before nK (i := i) (h := kh w x) (by rw [List.getElem?_map, e]; exact congrArg (fun z => some (NestedKey.hash w z)) k) (List.getElem?_eq_getElem il)
  exact ⟨q, Nat.zero_le _, l, by rw [List.getElem?_eq_getElem il, z]⟩
end

/-! ### laying anew, adding -/
theorem ent_ins (L : List EK) (n : Nat) (x : EK) : (L.take n ++ x :: L.drop n).map (ent w) = (L.map (ent w)).take n ++ ent w x :: (L.map (ent w)).drop n := by
  rw [List.map_append, List.map_cons, List.map_take, List.map_drop]
theorem range_pick {α : Type} (l : List α) : (List.range l.length).filterMap (fun i => l[i]?) = l := by
  have go : ∀ n, n ≤ l.length → (List.range n).filterMap (fun i => l[i]?) = l.take n := fun n => by
    induction n with
    | zero => exact fun _ => rfl
    | succ n ih =>
      intro lt
      rw [List.range_succ, List.filterMap_append, ih (by omega), List.take_succ, List.filterMap_cons, List.getElem?_eq_getElem lt]
      rfl
  rw [go _ (Nat.le_refl _), List.take_length]
/-- the entries in another order -/
theorem reorder (e : es.toList = L.map (ent w)) (order : Array Nat) (p : order.toList.Perm (List.range L.length)) :
    ∃ L2 : List EK, (order.filterMap fun i => es[i]?).toList = L2.map (ent w) ∧ L2.Perm L ∧ khs w L2 = order.toList.map fun i => (es.map (·.1)).getD i 0 := by
  have go : ∀ l : List Nat, (∀ i ∈ l, i < L.length) → (l.filterMap fun i => es[i]?) = (l.filterMap fun i => L[i]?).map (ent w) ∧ khs w (l.filterMap fun i => L[i]?) = l.map fun i => (es.map (·.1)).getD i 0 := fun l => by
    induction l with
    | nil => exact fun _ => ⟨rfl, rfl⟩
    | cons i l ih =>
      intro all
      have lt := all i List.mem_cons_self
      obtain ⟨z1, z2⟩ := ih fun j hj => all j (List.mem_cons_of_mem _ hj)
      have q1 : L[i]? = some L[i] := List.getElem?_eq_getElem lt
      have q2 := ens_at e q1
      have q3 : (es.map (·.1)).getD i 0 = kh w L[i] := by
        have : (es.map (·.1))[i]? = some (kh w L[i]) := by
          rw [Array.getElem?_map, q2]
          rfl
        rw [Array.getD_eq_getD_getElem?, this]
        rfl
      refine ⟨?_, ?_⟩
      · rw [List.filterMap_cons_some q2, List.filterMap_cons_some q1, z1, List.map_cons]
      · rw [List.filterMap_cons_some q1, List.map_cons, ← z2, q3]
        rfl
  obtain ⟨z1, z2⟩ := go order.toList fun i hi => List.mem_range.mp (p.mem_iff.mp hi)
  refine ⟨order.toList.filterMap fun i => L[i]?, ?_, ?_, z2⟩
  · rw [Array.toList_filterMap]
    exact z1
  · have z3 := p.filterMap fun i => L[i]?
    rwa [range_pick] at z3
section
variable {P : Program} {A : Around} {E : Value → Shared → Prop} {s : Shared}
theorem relay {o : Obj} (ho : s.heap.get? a = some o) (hex : o.ExactSet) (hd : o.data = .set es ep t) (hen : es.toList = L.map (ent w)) (hz : t.place.size = es.size) (hdm : t.dummies = #[]) (hle : es.size ≤ t.mask) (nod : (L.map (·.2)).Nodup) (els : ∀ p ∈ L, El s.heap p) (pln : t.plain = true)
    (led : w.params.followText "set-order" = true ∨ t.led = true) (few : L.length < 64) {n M : Nat} (hM : SetTable.sizeAbove n - 1 = M) (mok : MaskOk M) (h128 : SetTable.sizeAbove n ≤ 128) (air : L.length * 5 < M * 3) {Q : Unit → Shared → Prop}
    (q : ∀ h' L' es' ep' t', Heap.SameBut a s.heap h' → Ste w h' a L' es' ep' t' → L'.Perm L → Q () { s with heap := h' }) : wpAny (model P w) A (setRelay a n) Q E s := by
  have sz := ens_size hen
  obtain ⟨t', order, e1, pm, T, e2, e3, e4, e5⟩ := relaid_ok t (hs := es.map (·.1)) (wanted := n) hM mok (by rw [Array.size_map, sz]; omega)
  rw [Array.size_map, sz] at pm
  obtain ⟨L2, r1, r2, r3⟩ := reorder hen order pm
  rw [← r3] at T
  have sz2 : (order.filterMap fun i => es[i]?).size = es.size := (ens_size r1).trans (r2.length_eq.trans sz.symm)
  rw [setRelay_eq]
  refine wpAny_bind (wpAny_setState_of ho hd (fits_of hz hdm hle) ?_)
  dsimp only
  rw [if_neg (by rw [sizeLine_eq]; omega)]
  rw [e1]
  dsimp only
  refine wpAny_bind ?_
  rw [if_neg (by rw [sz2]; simp)]
  refine wpAny_pure ?_
  dsimp only
  refine wpAny_storeSet_of ho hd ?_ (by rw [sz2, sz, sizeLine_eq]; omega)
  have sb : Heap.SameBut a s.heap (s.heap.update a (Obj.putSet (order.filterMap fun i => es[i]?) t')) := Heap.SameBut.update ..
  exact q _ L2 _ (ep + 1) t' sb ⟨⟨_, store_at ho hd, ⟨hex.1, hex.2.1, hex.2.2⟩, rfl⟩, r1, T, (r2.map (·.2)).nodup_iff.mpr nod, fun p hp => (els p (r2.mem_iff.mp hp)).but ho hd sb, e4.trans pln, by rw [e3]; exact led, by rw [r2.length_eq, e2]; exact air, by rw [r2.length_eq]; exact few⟩ r2
theorem add (R : Ste w s.heap a L es ep t) {x : EK} (hx : El s.heap x) (hu : A.units + 8 < cLine) (room : L.length + 1 < 64) {Q : Bool → Shared → Prop}
    (q : ∀ b h' L' es' ep' t', Heap.SameBut a s.heap h' → Ste w h' a L' es' ep' t' → (x.2 ∈ L.map (·.2) → L' = L) → (x.2 ∉ L.map (·.2) → L'.Perm (x :: L)) → Q b { s with heap := h' }) : wpAny (model P w) A (setAddHashed a (.ref x.1) (kh w x)) Q E s := by
  obtain ⟨o, ho, hex, hd⟩ := R.obj
  have sz := ens_size R.ens
  have air := R.air
  unfold setAddHashed
  refine wpAny_holding ?_
  rw [show (100000 : Nat) = 99999 + 1 from rfl, setAddHashedIn_succ]
  refine wpAny_bind (wpAny_setState_of ho hd R.fits ?_)
  dsimp only
  rw [if_neg (by simp [byScan, Value.scannable])]
  refine wpAny_bind (seeks R hx hu (fun m => ?_) fun K m nK bK => ?_)
  · exact wpAny_pure (q false s.heap L es ep t (Heap.SameBut.refl a s.heap) R (fun _ => rfl) fun z => absurd m z)
  · dsimp only
    refine wpAny_bind (wpAny_setState_of ho hd R.fits ?_)
    dsimp only
    obtain ⟨q1, q2, q3, q4, q5, q6, q7, q8, q9⟩ := R.tab.put nK bK
    have pl1 : (t.put (way t.mask (kh w x) K)).1.plain = true := q6.trans R.pln
    generalize t.put (way t.mask (kh w x) K) = tp at q1 q3 q4 q5 q6 q9 pl1 ⊢
    obtain ⟨t1, n⟩ := tp
    dsimp only at q1 q3 q4 q5 q6 q9 pl1 ⊢
    rw [← q1] at q2 q3
    have hv : ∀ (Q' : Bool → Shared → Prop), Q' true s → wpAny (model P w) A (hashByValue 8 (.ref x.1)) Q' E s := fun Q' z => valHash 8 _ _ A Q' hx.is hx.dp hx.bv z
    have hin : (SetTable.insertAt es n (ent w x)).toList = (L.take n ++ x :: L.drop n).map (ent w) := by
      rw [SetTable.toList_insertAt, ent_ins, R.ens]
    have pm := put_perm L n x
    have T1 : TabOk t1 (khs w (L.take n ++ x :: L.drop n)) := by
      have : khs w (L.take n ++ x :: L.drop n) = (khs w L).take n ++ kh w x :: (khs w L).drop n := by
        unfold khs
        rw [List.map_append, List.map_cons, List.map_take, List.map_drop]
      rw [this]
      exact q3
    have nod1 : ((L.take n ++ x :: L.drop n).map (·.2)).Nodup := by
      refine (pm.map (·.2)).nodup_iff.mpr ?_
      rw [List.map_cons]
      exact List.nodup_cons.mpr ⟨m, R.nod⟩
    have q9' : t1.fill = L.length + 1 := by rw [q9, List.length_map]
    have main : ∀ (es1 : Array (Int × Value)) (L1 : List EK), es1.toList = L1.map (ent w) → L1.Perm (x :: L) → TabOk t1 (khs w L1) → (L1.map (·.2)).Nodup →
        wpAny (model P w) A (do
          storeSet a es1 t1
          if (!false && t1.tooFull) = true then setRelay a (SetTable.grown (es.size + 1))
          return true) Q E s := by
      intro es1 L1 hin pm T1 nod1
      have len : L1.length = L.length + 1 := pm.length_eq
      have sz1 := ens_size hin
      refine wpAny_bind (wpAny_storeSet_of ho hd ?_ (by rw [sz1, len, sizeLine_eq]; omega))
      have sb : Heap.SameBut a s.heap (s.heap.update a (Obj.putSet es1 t1)) := Heap.SameBut.update ..
      have ho1 := store_at (es' := es1) (t' := t1) ho hd
      generalize s.heap.update a (Obj.putSet es1 t1) = h1 at sb ho1 ⊢
      have els1 : ∀ p ∈ L1, El h1 p := fun p hp => by
        rcases List.mem_cons.mp (pm.mem_iff.mp hp) with e | hp
        · rw [e]
          exact hx.but ho hd sb
        · exact (R.els p hp).but ho hd sb
      have led1 : w.params.followText "set-order" = true ∨ t1.led = true := by
        rw [q5]
        exact R.led
      have full : t1.tooFull = decide ((L.length + 1) * 5 ≥ t1.mask * 3) := by
        unfold SetTable.tooFull
        rw [q9']
      cases hf : t1.tooFull with
      | true =>
        rw [if_pos (by decide)]
        rw [hf, q4] at full
        have full := of_decide_eq_true full.symm
        have two : (t.mask = 7 ∧ L.length = 4) ∨ (t.mask = 31 ∧ L.length = 18) := by
          rcases R.tab.mok with e | e | e
          · rw [e] at full air
            exact .inl ⟨e, by omega⟩
          · rw [e] at full air
            exact .inr ⟨e, by omega⟩
          · rw [e] at full air
            omega
        rw [sz]
        have go : ∀ M, SetTable.sizeAbove (SetTable.grown (L.length + 1)) - 1 = M → MaskOk M → SetTable.sizeAbove (SetTable.grown (L.length + 1)) ≤ 128 → L1.length * 5 < M * 3 → wpAny (model P w) A (setRelay a (SetTable.grown (L.length + 1)) >>= fun _ => pure true) Q E { s with heap := h1 } := fun M g1 g2 g3 g4 => by
          refine wpAny_bind (relay (s := { s with heap := h1 }) ho1 ⟨hex.1, hex.2.1, hex.2.2⟩ rfl hin ?_ T1.dm ?_ nod1 els1 pl1 led1 (by omega) g1 g2 g3 g4 fun h2 L2 es2 ep2 t2 sb2 R2 pm2 => wpAny_pure (q true h2 L2 es2 ep2 t2 (sb.trans sb2) R2 (fun z => absurd z m) fun _ => pm2.trans pm))
          · have z := T1.sz
            rw [List.length_map] at z
            rw [z, sz1]
          · rw [sz1, len, q4]
            rcases two with ⟨e, e2⟩ | ⟨e, e2⟩ <;> omega
        rcases two with ⟨e, e2⟩ | ⟨e, e2⟩
        · exact go 31 (by rw [e2, size_20]) (.inr (.inl rfl)) (by rw [e2, size_20]; decide) (by omega)
        · exact go 127 (by rw [e2, size_76]) (.inr (.inr rfl)) (by rw [e2, size_76]; decide) (by omega)
      | false =>
        rw [if_neg (by decide)]
        rw [hf] at full
        have air1 := of_decide_eq_false full.symm
        exact wpAny_pure (q true h1 L1 es1 (ep + 1) t1 sb ⟨⟨_, ho1, ⟨hex.1, hex.2.1, hex.2.2⟩, rfl⟩, hin, T1, nod1, els1, pl1, led1, by omega, by omega⟩ (fun z => absurd z m) fun _ => pm)
    rw [if_pos pl1]
    refine wpAny_bind (hv _ ?_)
    rw [if_pos rfl]
    exact main _ _ hin pm T1 nod1
end

/-! ### set.update's loop -/
/-- what is in after i items -/
structure In (ks : List EK) (i : Nat) (L : List EK) : Prop where
  sub : ∀ p ∈ L, p ∈ ks.take i
  all : ∀ p ∈ ks.take i, p.2 ∈ L.map (·.2)
  len : L.length ≤ i
theorem In.next {ks : List EK} {i : Nat} {L' : List EK} {x : EK} (g : In ks i L) (e : ks[i]? = some x) (c1 : x.2 ∈ L.map (·.2) → L' = L) (c2 : x.2 ∉ L.map (·.2) → L'.Perm (x :: L)) : In ks (i + 1) L' := by
  have tk : ks.take (i + 1) = ks.take i ++ [x] := take_next e
  by_cases c : x.2 ∈ L.map (·.2)
  · rw [c1 c]
    refine ⟨fun p hp => by rw [tk]; exact List.mem_append_left _ (g.sub p hp), fun p hp => ?_, Nat.le_succ_of_le g.len⟩
    rw [tk] at hp
    rcases List.mem_append.mp hp with z | z
    · exact g.all p z
    · rw [List.mem_singleton.mp z]
      exact c
  · have pm := c2 c
    refine ⟨fun p hp => ?_, fun p hp => ?_, by rw [pm.length_eq, List.length_cons]; exact Nat.succ_le_succ g.len⟩
    · rw [tk]
      rcases List.mem_cons.mp (pm.mem_iff.mp hp) with z | z
      · exact List.mem_append_right _ (List.mem_singleton.mpr z)
      · exact List.mem_append_left _ (g.sub p z)
    · rw [(pm.map (·.2)).mem_iff, List.map_cons]
      rw [tk] at hp
      rcases List.mem_append.mp hp with z | z
      · exact List.mem_cons_of_mem _ (g.all p z)
      · rw [List.mem_singleton.mp z]
        exact List.mem_cons_self
theorem ste_fresh (e : h.get? a = some { cls := .type "set", dict := none, data := .set #[] 0 (.fresh 0 0 (!w.params.followText "set-order")) }) : Ste w h a [] #[] 0 (.fresh 0 0 (!w.params.followText "set-order")) where
  obj := ⟨_, e, ⟨rfl, rfl, rfl⟩, rfl⟩
  ens := rfl
  tab := ⟨List.Pairwise.nil, rfl, rfl, .inl rfl, (fun x hx => nomatch hx), fun i h j hi => by simp at hi⟩
  nod := List.nodup_nil
  els := fun p hp => nomatch hp
  pln := rfl
  led := by
    cases z : w.params.followText "set-order" with
    | true => exact .inl rfl
    | false => exact .inr rfl
  air := by show 0 * 5 < 7 * 3; decide
  few := by decide
section
variable {P : Program} {A : Around} {E : Value → Shared → Prop} {s : Shared}
theorem looped {I : Addr} {fp wr : List Addr} {G : Array GenState → Array GenState → Prop} {Pv : Nat → Value → Prop} {Q : Nat → Shared → Prop} {R : Result → Shared → Prop} (ks : List EK) (W : WalksS P w A.in1 I fp wr G ks.length Pv Q) (S : Addr) (nS : S ∉ fp) (few : ks.length < 64)
    (val : ∀ i v, Pv i v → ∃ p, ks[i]? = some p ∧ v = .ref p.1) (h0 : Heap) (els : ∀ p ∈ ks, El h0 p) (S0 : h0.get? S = none) (w0 : ∀ b ∈ wr, h0.get? b = none) (hu : A.in1.units + 8 < cLine) : ∀ (k i : Nat) (s : Shared), ks.length - i = k → i ≤ ks.length → Q i s → (∀ b o, h0.get? b = some o → s.heap.get? b = some o) →
      (∃ L es ep t, Ste w s.heap S L es ep t ∧ In ks i L) → (∀ s' L es ep t, Moved (S :: wr) G s s' → Ste w s'.heap S L es ep t → In ks ks.length L → (∀ b o, h0.get? b = some o → s'.heap.get? b = some o) → R (.ok (.ret .none)) s') →
      codeAny (model P w) A (.builtin "set.update.loop" ⟨[.ref S, .ref I], []⟩) R s := by
  have nw : S ∉ wr := fun z => nS (W.sub _ z)
  have wid : ∀ b ∈ wr, b ∈ S :: wr := fun b hb => List.mem_cons_of_mem _ hb
  have kept : ∀ {s s' : Shared}, Moved wr G s s' → (∀ b o, h0.get? b = some o → s.heap.get? b = some o) → ∀ b o, h0.get? b = some o → s'.heap.get? b = some o := fun m k b o e => m.heap b o (fun z => by rw [w0 b z] at e; cases e) (k b o e)
  have carry : ∀ {s s' : Shared} {i : Nat} {L : List EK} {es : Array (Int × Value)} {ep : Nat} {t : SetTable}, Moved wr G s s' → (∀ b o, h0.get? b = some o → s'.heap.get? b = some o) → Ste w s.heap S L es ep t → In ks i L → Ste w s'.heap S L es ep t := fun m k R g => by
    obtain ⟨o, e, r⟩ := R.obj
    exact ⟨⟨o, m.heap S o nw e, r⟩, R.ens, R.tab, R.nod, fun p hp => (els p (List.mem_of_mem_take (g.sub p hp))).keep k, R.pln, R.led, R.air, R.few⟩
  intro k
  induction k with
  | zero =>
    intro i s ek le st kp ⟨L, es, ep, t, R0, g⟩ fin
    have ei : i = ks.length := by omega
    subst ei
    refine codeAny_builtin F.entry_set_update_loop ?_
    rw [Around.under_plainId F.plain_set_update_loop _]
    show wpAny _ A.in1 (pyNext (.ref I) >>= _) _ _ s
    refine wpAny_bind (W.done s _ _ st fun s' m => ?_)
    have kp' := kept m kp
    exact wpAny_pure (fin s' L es ep t (m.mono wid) (carry m kp' R0 g) g kp')
  | succ k ih =>
    intro i s ek le st kp ⟨L, es, ep, t, R0, g⟩ fin
    have lt : i < ks.length := by omega
    refine codeAny_builtin F.entry_set_update_loop ?_
    rw [Around.under_plainId F.plain_set_update_loop _]
    show wpAny _ A.in1 (pyNext (.ref I) >>= _) _ _ s
    refine wpAny_bind (W.item i s _ _ lt st fun v s' pv st' m => ?_)
    obtain ⟨p, ep', rfl⟩ := val i v pv
    have kp' := kept m kp
    have R1 := carry m kp' R0 g
    have ex : El s'.heap p := (els p (List.mem_of_getElem? ep')).keep kp'
    show wpAny _ A.in1 (holding [Value.ref p.1] (setAdd S (.ref p.1)) >>= _) _ _ s'
    refine wpAny_bind (wpAny_holding ?_)
    unfold setAdd
    refine wpAny_holding (wpAny_bind (pyHash_key p.2 _ _ _ _ ex.is (by have := ex.dp; omega) ?_))
    refine add (s := { s' with toks := s'.toks + p.2.draws }) R1 ex hu (by have := g.len; omega) fun b h' L' es' ep2 t' sb R2 c1 c2 => ?_
    have kp2 : ∀ b o, h0.get? b = some o → h'.get? b = some o := fun b o e => (sb.2 b (fun z => by rw [z, S0] at e; cases e)).trans (kp' b o e)
    refine wpAny_pure ⟨plainId_quiet F.plain_set_update_loop _, ih (i + 1) _ (by omega) lt (W.frame _ s' _ _ st' (Nat.le_add_right _ _) fun b hb o e => ?_) kp2 ⟨L', es', ep2, t', R2, g.next ep' c1 c2⟩ fun s2 L2 es2 ep3 t2 m2 R3 g3 kp3 => ?_⟩
    · rw [sb.2 b (fun z : b = S => nS (by rw [← z]; exact hb))]
      exact e
    · refine fin s2 L2 es2 ep3 t2 (Moved.trans W.gtrans ((m.mono wid).then_heap (Nat.le_add_right _ _) fun b o hb e => ?_) m2) R3 g3 kp3
      rw [sb.2 b (fun z : b = S => hb (by rw [z]; exact List.mem_cons_self))]
      exact e
/-- a set that was just made, empty -/
abbrev set0 (w : World) : Obj := { cls := .type "set", dict := none, data := .set #[] 0 (.fresh 0 0 (!w.params.followText "set-order")) }
theorem none_above {h : Heap} {b : Addr} (le : h.objs.size ≤ b) : h.get? b = none := by
  cases e : h.get? b with
  | none => rfl
  | some o => exact absurd (Nat.lt_of_lt_of_le (Heap.lt_size e) le) (Nat.lt_irrefl _)
/-- set(list), by what its loop does -/
theorem setCall {l : Addr} {items : Array Value} {G : Heap → Prop} {Q : Value → Shared → Prop} (hh : A.handled = none) (hl : s.heap.IsList l items)
    (loop : ∀ (A' : Around) (s1 : Shared) (I : Addr) (R : Result → Shared → Prop), A'.handled = none → A'.units ≤ A.units + 4 → s1.heap = (s.heap.push (set0 w)).push { cls := .type "list_iterator", data := .fields #[.ref l, .int 0 0] } → I = (s.heap.push (set0 w)).objs.size →
      (∀ s', Moved [s.heap.objs.size, I] (fun g g' => g' = g) s1 s' → G s'.heap → R (.ok (.ret .none)) s') → codeAny (model P w) A' (.builtin "set.update.loop" ⟨[.ref s.heap.objs.size, .ref I], []⟩) R s1)
    (q : ∀ (h' : Heap) (tk : Nat), G h' → (∀ b o, s.heap.get? b = some o → h'.get? b = some o) → Q (.ref s.heap.objs.size) { s with heap := h', toks := tk }) : wpAny (model P w) A (call (.type "set") [.ref l]) Q E s := by
  obtain ⟨c, tl, hmro⟩ := F.called_set.mro
  have hmade := F.called_set.made
  have hsub := F.called_set.sub
  refine wpAny_call (codeAny_of_tree ?_)
  show wpAny _ _ (callAny (.type "set") _) _ _ _
  refine wpAny_pure ⟨Code.quiet_builtin _ (by decide +kernel), codeAny_builtin F.entry_type_call ?_⟩
  rw [Around.under_plain (weight_type_call_type "set" [.ref l] []) rfl]
  have h1 := F.called_set.notType
  have h2 := F.called_set.canCreate
  have hct := F.typeCall_set_1 (.ref l)
  repeat (any_goals (first | assumption | wp_step))
  refine codeAny_mono (code_set_led1 (.ref l) (E := E) (Q₁ := fun u s1 => u = .ref s.heap.objs.size ∧ s1 = { s with heap := s.heap.push (set0 w) }) ⟨rfl, rfl⟩) fun r s1 hr => ?_
  cases r with
  | error e => exact hr
  | ok fl =>
    cases fl with
    | ret obj =>
      obtain ⟨rfl, rfl⟩ := hr
      have hS : (s.heap.push (set0 w)).get? s.heap.objs.size = some (set0 w) := Heap.get?_push_size _ rfl
      have hT : Shared.TypeIs { s with heap := s.heap.push (set0 w) } (.ref s.heap.objs.size) "set" := ⟨_, hS, rfl⟩
      have hli := F.called_set.init.lookup
      have hbi := F.called_set.init.bind (.ref s.heap.objs.size)
      repeat (any_goals (first | assumption | wp_step))
      refine codeAny_mono (codeAny_call_builtin (R := wants (fun r s2 => r = .none ∧ ∃ h' tk, s2 = { s with heap := h', toks := tk } ∧ G h' ∧ ∀ b o, s.heap.get? b = some o → h'.get? b = some o) E) F.called_set.init.plain F.entry_set_init (check_set_init_1 hT ?_)) fun r2 s2 hr2 => ?_
      · obtain ⟨⟨ocls, odict, odata, oslots⟩, hol, hcl, nl, hdl⟩ := hl
        simp only at hcl hdl
        subst hcl hdl
        have hol' : (s.heap.push (set0 w)).get? l = some { cls := .type "list", dict := odict, data := .seq items nl, slots := oslots } := Heap.get?_push_of_some _ hol
        have hsls := F.sub_list_set
        have hslf := F.sub_list_frozenset
        have hne : (Value.type "list" == Value.type "dict") = false := by decide
        have hl1 : (s.heap.push (set0 w)).IsList l items := ⟨_, hol', rfl, nl, rfl⟩
        unfold Builtin.«set.__init__» noKeywords Builtin.Frozenset.updateFrom
        generalize hPI : pyIter = PI
        wp_walk
        subst hPI
        refine wpAny_pyIter_list hl1 ?_
        refine wpAny_bind (wpAny_runValue ?_)
        refine loop _ _ _ _ (by simp [hh]) (by simp only [Around.in1_units]; omega) rfl rfl fun s' m gs => ?_
        obtain ⟨h', g2, d', tk', os'⟩ := s'
        have eg : g2 = s.gens := m.gens
        have ed : d' = s.drawn := m.drawn
        have eo : os' = s.os := m.os
        subst eg ed eo
        refine wpAny_pure ?_
        refine wpAny_pure ⟨rfl, h', tk', rfl, gs, fun b o e => ?_⟩
        have lt := Heap.lt_size e
        refine m.heap b o ?_ (Heap.get?_push_of_some _ (Heap.get?_push_of_some _ e))
        have z1 : (s.heap.push (set0 w)).objs.size = s.heap.objs.size + 1 := Heap.size_push ..
        intro z
        rcases List.mem_cons.mp z with z | z
        · exact Nat.lt_irrefl _ (Nat.lt_of_lt_of_eq lt z.symm)
        · have z2 := List.mem_singleton.mp z
          rw [z1] at z2
          rw [z2] at lt
          exact Nat.lt_irrefl _ (Nat.lt_of_succ_lt lt)
      · cases r2 with
        | error e => exact hr2
        | ok fl2 =>
          cases fl2 with
          | ret r =>
            obtain ⟨rfl, h', tk, rfl, g', k'⟩ := hr2
            repeat (any_goals (first | assumption | wp_step))
            exact q _ _ g' k'
          | _ => exact hr2.elim
    | _ => exact hr.elim
end
end Ex.NS

set_option Elab.async false
set_option linter.all false
set_option maxRecDepth 100000
/-! Ex20: defs by their mirrors. -/
namespace Ex
open PySem PySem.Spec PyProof.Rows L2
variable {T : Tab} {K : PySem.W.Frag} {P : Program} {w : World} {mg : Str → Option Value} {base : Heap}

def repN : Nat → CL
  | 0 => []
  | n + 1 => none :: repN n
def begC : Nat → List CV → CL
  | n, [] => repN n
  | n, v :: vs => some v :: begC (n - 1) vs
/-- p: what came into being in it is let go -/
def popB (p : Bool) (m : Nat) (C : CH) : CH := match p with
  | true => C.pop m
  | false => C
def endR (p : Bool) (m : Nat) : RS → RE
  | .ret v C => .ok v (popB p m C)
  | .nx _ C => .ok .non (popB p m C)
  | .exc k fs _ C => .exc k fs [] C
  | _ => .bad
/-- a def of n parameters, len names, the body b -/
def runM (p : Bool) (n len : Nat) (b : SM) : FM := fun cs C => match Nat.beq cs.length n with
  | true => endR p C.nx (b (begC len cs) C)
  | false => .bad
/-- one that lets nothing out -/
def runN (p : Bool) (n len : Nat) (b : SM) : FM := fun cs C => only (runM p n len b cs C)
theorem repN_eq : ∀ n, repN n = List.replicate n none
  | 0 => rfl
  | n + 1 => by
    unfold repN
    rw [repN_eq n, List.replicate_succ]
theorem begC_eq : ∀ (n : Nat) (cs : List CV), begC n cs = cs.map some ++ List.replicate (n - cs.length) none
  | n, [] => repN_eq n
  | n, v :: vs => by
    unfold begC
    rw [begC_eq (n - 1) vs, List.map_cons, List.cons_append, List.length_cons]
    congr 3
    omega
theorem start_rl {μ : Mu} {nx : Nat} {H : Hp} {cs : List CV} {vs : List V} {N : List Str} (r : RVs K μ nx H cs vs) : RL K μ nx H (begC N.length cs) (L2.start N vs) := by
  have hl := r.length
  rw [begC_eq]
  unfold L2.start
  refine ⟨by simp [hl], fun i v h => ?_⟩
  by_cases lt : i < cs.length
  · rw [List.getElem?_append_left (by simpa using lt), List.getElem?_map] at h
    cases e : cs[i]? with
    | none =>
      rw [e] at h
      cases h
    | some c =>
      rw [e] at h
      cases h
      obtain ⟨x, q1, q2⟩ := r.get e
      refine ⟨x, ?_, q2⟩
      rw [List.getElem?_append_left (by simpa [hl] using lt), List.getElem?_map, q1]
      rfl
  · rw [List.getElem?_append_right (by simpa using lt), List.getElem?_replicate] at h
    split at h <;> cases h
/-- as a def's promise -/
theorem sp_len {n : Nat} {m : FM} {vs : List V} {H : Hp} {Q : VK} {E : XK} {ps : List Str} (hp : ps.length = n) (h : spM T K n m vs H Q E) : vs.length = ps.length := by
  obtain ⟨_, _, _, _, _, e, _⟩ := h
  exact e.trans hp.symm
theorem popB_ok {μ : Mu} {C : CH} {H : Hp} {p : Bool} {m : Nat} (r : Rel T K μ C H) : Rel T K μ (popB p m C) H ∧ Step K μ C H μ (popB p m C) H := by
  cases p with
  | true => exact popped r m
  | false => exact ⟨r, r.refl⟩
theorem popB_nx {p : Bool} {m : Nat} {C : CH} : (popB p m C).nx = C.nx := by
  cases p <;> rfl
theorem fn_start {p : Bool} {n len : Nat} {b : SM} {vs : List V} {H : Hp} {Q : VK} {E : XK} {N : List Str} (hN : N.length = len) (h : spM T K n (runM p n len b) vs H Q E) :
    tS T K (fun cls d _ H => E cls d H) b { nx := fun _ H' => Q .non H', rt := Q } (L2.start N vs) H := by
  obtain ⟨μ, C, cs, r, rv, hl, h⟩ := h
  subst hN
  refine ⟨μ, begC N.length cs, C, r, start_rl rv, ?_⟩
  unfold runM at h
  cases e : Nat.beq cs.length n with
  | false =>
    rw [e] at h
    exact sat_bad h
  | true =>
    rw [e] at h
    dsimp only at h
    cases eb : b (begC N.length cs) C with
    | ret v C1 =>
      rw [eb] at h
      intro μ' H' x st rel rx
      obtain ⟨p1, p2⟩ := popB_ok (p := p) (m := C.nx) rel
      exact h μ' H' x (st.trans p2) p1 (by rw [popB_nx]; exact rx)
    | nx l1 C1 =>
      rw [eb] at h
      intro μ' H' σ' st rel rl
      obtain ⟨p1, p2⟩ := popB_ok (p := p) (m := C.nx) rel
      exact h μ' H' _ (st.trans p2) p1 .non
    | exc k fs l1 C1 =>
      rw [eb] at h
      intro μ' H' σ' cls d st rel rl x
      exact h μ' H' [] cls d st rel ⟨rfl, fun i v z => by cases i <;> cases z⟩ x
    | bk l1 C1 =>
      rw [eb] at h
      exact sat_bad h
    | ct l1 C1 =>
      rw [eb] at h
      exact sat_bad h
    | bad =>
      rw [eb] at h
      exact sat_bad h
theorem fn_start0 {p : Bool} {n len : Nat} {b : SM} {vs : List V} {H : Hp} {Q : VK} {E : XK} {N : List Str} (hN : N.length = len) (h : spM T K n (runN p n len b) vs H Q E) :
    tS T K W0 b { nx := fun _ H' => Q .non H', rt := Q } (L2.start N vs) H := by
  obtain ⟨μ, C, cs, r, rv, hl, h⟩ := h
  have q := only_sat (r := runM p n len b cs C) h
  exact fn_start (E := Ex.E0) hN ⟨μ, C, cs, r, rv, hl, q⟩
theorem run_bad {p : Bool} {n len : Nat} {b : SM} (vs : List CV) (C : CH) (h : runM p n len b vs C ≠ .bad) : vs.length = n := by
  unfold runM at h
  cases e : Nat.beq vs.length n with
  | false =>
    rw [e] at h
    exact absurd rfl h
  | true => exact beq_t e
theorem runN_bad {p : Bool} {n len : Nat} {b : SM} (vs : List CV) (C : CH) (h : runN p n len b vs C ≠ .bad) : vs.length = n := by
  refine run_bad (p := p) (len := len) (b := b) vs C fun z => h ?_
  unfold runN
  rw [z]
  rfl
def memB (i : Nat) : List Nat → Bool
  | [] => false
  | j :: r => match Nat.beq i j with
    | true => true
    | false => memB i r
theorem memB_ok {i : Nat} : ∀ {l : List Nat}, memB i l = true → i ∈ l
  | [], h => by cases h
  | j :: r, h => by
    unfold memB at h
    cases e : Nat.beq i j with
    | true =>
      rw [beq_t e]
      exact List.mem_cons_self
    | false =>
      rw [e] at h
      exact List.mem_cons_of_mem _ (memB_ok h)
def tinB (t : Tg) (ws : List Nat) : Bool := match t with
  | .nm i => memB i ws
  | .tp is => is.all fun i => memB i ws
  | .tq i js => memB i ws && js.all fun j => memB j ws
theorem tin_of {t : Tg} {ws : List Nat} (h : tinB t ws = true) : t.in ws := by
  cases t with
  | nm i => exact memB_ok h
  | tp is => exact fun i hi => memB_ok (List.all_eq_true.mp h i hi)
  | tq i js =>
    unfold tinB at h
    rw [Bool.and_eq_true, List.all_eq_true] at h
    exact ⟨memB_ok h.1, fun j hj => memB_ok (h.2 j hj)⟩
/-- a def keeps its promise; what a caller needs of it -/
def Good (P : Program) (w : World) (K : PySem.W.Frag) (mg : Str → Option Value) (base : Heap) (CX : CXT) (k : Nat) (f : Addr) (ps : List Str) (sp : Sp) : Prop := ∃ fd, FnOk P w K mg base CX k f fd ps sp ∧ Binds K fd ps [] ∧ PySem.W.keepIn K (.ref f) = true
theorem pass00 {X : Cx} {E : L2.St → XK} (σ : L2.St) : PassesAt CX0 X σ (E σ) := fun _ _ _ _ _ _ h => h.elim
theorem good_of {name qual : Str} {params : Arguments} {body : List Stmt} {scope : Scope} {f : Addr} {fd : FuncData} {N ps : List Str} {k n len : Nat} {p : Bool} {b : SM} (F : FunD K name qual params body scope [] [] f fd) (S : FnScope N ps scope) (hN : N.length = len) (hp : ps.length = n)
    (hb : ∀ (kV doc pm : Value) (an : Option Addr) (cdv ct : Value) (us : List Value), us.length = ps.length → bindArgs (PySem.W.fnOf name qual params body scope .none kV doc pm an cdv ct) ⟨us, []⟩ = pure (ps.zip us))
    (hbody : ∀ (cdv : Value) (A : Around) (outer : List Env) (s : Shared) (H : Hp) (E : XK), Room k (A.deeper (envOfC qual scope s.heap.objs.size f cdv)) → (A.deeper (envOfC qual scope s.heap.objs.size f cdv)).units + 65 < cLine → PSs (cxOf CX0 P w K mg base N qual scope f cdv A outer s H E).nox body (tS T K W0 b)) :
    Good P w K mg base CX0 (k + 1) f ps (spM T K n (runN p n len b)) :=
  ⟨fd, F.ok S (fun vs H Q E h => sp_len hp h) fun cdv A outer s H vs Q E hr h => ⟨tS T K W0 b, PSs.nox (hbody cdv A outer s H E hr (by have := hr.un; omega)), fn_start0 hN h⟩, F.bindsN hb, F.kp⟩
end Ex

set_option Elab.async false
set_option linter.all false
set_option maxRecDepth 100000
/-! Ex21: calls of defs by what is known of them. -/
namespace Ex
open PySem PySem.Spec PyProof.Rows L2
variable {T : Tab} {X : Cx} {W : WX}
def fNeg : FC := fun vs C => match vs with
  | [.int i] => cI (-i) C
  | _ => none
def xNeg (m : EM) : EM := fun l C => match m l C with
  | .ok (.int i) C1 => .ok (.int (-i)) C1
  | .ok _ _ => .bad
  | .exc k fs l' C' => .exc k fs l' C'
  | .bad => .bad
section
variable {e o : Expr} {es : List Expr} {m mo : EM} {as : AM} {p pos apos : Pos} {x : Str}
theorem xe_neg (he : PE X e (tX T X.K W m)) : PE X (.UnaryOp .USub e pos) (tX T X.K W (xNeg m)) := by
  refine PE.imp (pe_un un_neg he) fun σ H Q ⟨μ, l, C, r, rl, h⟩ => ⟨μ, l, C, r, rl, ?_⟩
  unfold xNeg at h
  cases ea : m l C with
  | bad =>
    rw [ea] at h
    exact h
  | exc k fs l' C' =>
    rw [ea] at h
    exact h
  | ok v C1 =>
    rw [ea] at h
    intro μ1 H1 x st rel rv
    cases rv with
    | int i => exact ⟨i, rfl, h μ1 H1 _ st rel (.int _)⟩
    | _ => exact sat_bad h
theorem xe_callG {k j n : Nat} {f : Addr} {ps : List Str} {b : FM} (h : Good X.prog X.w X.K X.mg X.base CX0 k f ps (spM T X.K n b)) (hr : Room j X.A) (hj : k ≤ j) (hg : Gl X x) (hm : X.mg x = some (.ref f)) (hn : ∀ vs C, b vs C ≠ .bad → vs.length = n) (ha : PA X (e :: es) (tA T X.K W as))
    (hdb : (x == ("__debug__" : Str)) = false := by decide) (he : starEach (e :: es) X.env = (false, eval e X.env) :: starEach es X.env := by rfl) (hpl : (backTo pos (starEach es X.env)).any (·.1) = false := by rfl) : PE X (.Call (.Name x p) (e :: es) [] pos) (tX T X.K W (xFn b as)) := by
  obtain ⟨fd, F, hb, hk⟩ := h
  exact xe_call F (hr.mono hj) hg hm hk hb (fun σ => pass00 σ) hn ha hdb he hpl
theorem xe_methG {k j n c : Nat} {f : Addr} {ps : List Str} {b : FM} {nm : Str} {pl : Sem Bool} (h : Good X.prog X.w X.K X.mg X.base CX0 k f ps (spM T X.K n b)) (hr : Room j X.A) (hj : k ≤ j) (hnm : nm ∉ T.nms) (hcl : Cls X.K (T.cls c)) (hm : Meth X.K (T.cls c) nm f) (hn : ∀ vs C, b vs C ≠ .bad → vs.length = n)
    (ho : PE X o (tX T X.K W mo)) (ha : PA X (e :: es) (tA T X.K W as)) (hst : starEach (e :: es) X.env = (false, eval e X.env) :: starEach es X.env := by rfl) (hpl : (backTo pos (starEach es X.env)).any (·.1) = false := by rfl)
    (ht : eval (.Call (.Attribute o nm apos) (e :: es) [] pos) X.env = (do
      let ov ← eval o X.env
      standAt apos.atName
      let (f, first) ← holding [ov] (getMethod ov nm pl)
      callWith pos f first (backTo pos (starEach (e :: es) X.env)) (backToKw pos (keywordEach [] X.env))) := by rfl) : PE X (.Call (.Attribute o nm apos) (e :: es) [] pos) (tX T X.K W (xMeth c b mo as)) := by
  obtain ⟨fd, F, hb, hk⟩ := h
  exact xe_meth hnm hcl hm F (hr.mono hj) hb (fun σ => pass00 σ) hn ho ha hst hpl ht
theorem xe_methG0 {k j n c : Nat} {f : Addr} {ps : List Str} {b : FM} {nm : Str} {pl : Sem Bool} (h : Good X.prog X.w X.K X.mg X.base CX0 k f ps (spM T X.K n b)) (hr : Room j X.A) (hj : k ≤ j) (hnm : nm ∉ T.nms) (hcl : Cls X.K (T.cls c)) (hm : Meth X.K (T.cls c) nm f) (hn : ∀ vs C, b vs C ≠ .bad → vs.length = n)
    (ho : PE X o (tX T X.K W mo))
    (ht : eval (.Call (.Attribute o nm apos) [] [] pos) X.env = (do
      let ov ← eval o X.env
      standAt apos.atName
      let (f, first) ← holding [ov] (getMethod ov nm pl)
      callWith pos f first (backTo pos (starEach [] X.env)) (backToKw pos (keywordEach [] X.env))) := by rfl) : PE X (.Call (.Attribute o nm apos) [] [] pos) (tX T X.K W (xMeth c b mo aNil)) := by
  obtain ⟨fd, F, hb, hk⟩ := h
  exact xe_meth0 hnm hcl hm F (hr.mono hj) hb (fun σ => pass00 σ) hn ho ht
theorem xe_makeG {k j n c : Nat} {f : Addr} {ps : List Str} {b : FM} {nm : Str} (h : Good X.prog X.w X.K X.mg X.base CX0 k f ps (spM T X.K n b)) (hr : Room j X.A) (hj : k + 1 ≤ j) (M : Mk X.K (T.cls c) f) (hg : Gl X nm) (hm : X.mg nm = some (.ref (T.cls c))) (hn : ∀ vs C, b vs C ≠ .bad → vs.length = n)
    (ha : PA X (e :: es) (tA T X.K W as)) (hdb : (nm == ("__debug__" : Str)) = false := by decide) (he : starEach (e :: es) X.env = (false, eval e X.env) :: starEach es X.env := by rfl) (hpl : (backTo pos (starEach es X.env)).any (·.1) = false := by rfl) : PE X (.Call (.Name nm p) (e :: es) [] pos) (tX T X.K W (xMake c b as)) := by
  obtain ⟨fd, F, hb, hk⟩ := h
  exact xe_make M F (hr.mono hj) hg hm hb (fun _ _ _ _ _ _ _ z => z.elim) hn ha hdb he hpl
theorem xe_makeG0 {k j n c : Nat} {f : Addr} {ps : List Str} {b : FM} {nm : Str} (h : Good X.prog X.w X.K X.mg X.base CX0 k f ps (spM T X.K n b)) (hr : Room j X.A) (hj : k + 1 ≤ j) (M : Mk X.K (T.cls c) f) (hg : Gl X nm) (hm : X.mg nm = some (.ref (T.cls c))) (hn : ∀ vs C, b vs C ≠ .bad → vs.length = n)
    (hdb : (nm == ("__debug__" : Str)) = false := by decide) : PE X (.Call (.Name nm p) [] [] pos) (tX T X.K W (xMake c b aNil)) := by
  obtain ⟨fd, F, hb, hk⟩ := h
  exact xe_make0 M F (hr.mono hj) hg hm hb (fun _ _ _ _ _ _ _ z => z.elim) hn hdb
end
end Ex

set_option Elab.async false
set_option linter.all false
set_option maxRecDepth 100000
/-! Ex22: sorted(set(list)). -/
namespace Ex
open PySem PySem.Spec PyProof.Rows L2 TL
variable {T : Tab} {K : PySem.W.Frag} {X : Cx} {μ : Mu} {C : CH} {H : Hp}

mutual
/-- as a key: ints, None and tuples of such -/
def nkOf : CV → Option NestedKey
  | .non => some .none
  | .int i => some (.num i)
  | .tup xs => match nksOf xs with
    | some ks => some (.tup ks)
    | none => none
  | .bl _ => none
  | .str _ => none
  | .ref _ => none
def nksOf : List CV → Option (List NestedKey)
  | [] => some []
  | c :: r => match nkOf c with
    | some k => (match nksOf r with
      | some ks => some (k :: ks)
      | none => none)
    | none => none
end
mutual
def cvOf : NestedKey → CV
  | .none => .non
  | .num i => .int i
  | .text x => .str x.cps.toList
  | .tup ks => .tup (cvsOf ks)
def cvsOf : List NestedKey → List CV
  | [] => []
  | k :: ks => cvOf k :: cvsOf ks
end
mutual
theorem cv_nk : ∀ {c : CV} {k : NestedKey}, nkOf c = some k → cvOf k = c ∧ NS.byV k = true
  | .non, k, h => by
    unfold nkOf at h
    cases h
    exact ⟨by unfold cvOf; rfl, by unfold NS.byV; rfl⟩
  | .int i, k, h => by
    unfold nkOf at h
    cases h
    exact ⟨by unfold cvOf; rfl, by unfold NS.byV; rfl⟩
  | .tup xs, k, h => by
    unfold nkOf at h
    cases e : nksOf xs with
    | none =>
      rw [e] at h
      cases h
    | some ks =>
      rw [e] at h
      cases h
      obtain ⟨q1, q2⟩ := cvs_nk e
      exact ⟨by unfold cvOf; rw [q1], by unfold NS.byV; exact q2⟩
  | .bl _, k, h => by
    unfold nkOf at h
    cases h
  | .str _, k, h => by
    unfold nkOf at h
    cases h
  | .ref _, k, h => by
    unfold nkOf at h
    cases h
theorem cvs_nk : ∀ {cs : List CV} {ks : List NestedKey}, nksOf cs = some ks → cvsOf ks = cs ∧ NS.byVs ks = true
  | [], ks, h => by
    unfold nksOf at h
    cases h
    exact ⟨by unfold cvsOf; rfl, by unfold NS.byVs; rfl⟩
  | c :: r, ks, h => by
    unfold nksOf at h
    cases e1 : nkOf c with
    | none =>
      rw [e1] at h
      cases h
    | some k =>
      rw [e1] at h
      dsimp only at h
      cases e2 : nksOf r with
      | none =>
        rw [e2] at h
        cases h
      | some ks' =>
        rw [e2] at h
        cases h
        obtain ⟨q1, q2⟩ := cv_nk e1
        obtain ⟨q3, q4⟩ := cvs_nk e2
        exact ⟨by unfold cvsOf; rw [q1, q3], by unfold NS.byVs; rw [q2, q4]; rfl⟩
end
section
variable {pins : List (Addr × Obj)} {σ : L2.St} {s : Shared}
mutual
theorem nk_is (I : Inv X pins σ H s) {nx : Nat} : ∀ {c : CV} {k : NestedKey} {x : V} {u : Value}, nkOf c = some k → RV X.K μ nx H c x → RelV x u → NestedIs s.heap k u
  | .non, k, x, u, h, r, q => by
    unfold nkOf at h
    cases h
    cases r
    cases q
    exact .none
  | .int i, k, x, u, h, r, q => by
    unfold nkOf at h
    cases h
    cases r
    obtain ⟨t, rfl⟩ := q
    exact .int i t
  | .tup xs, k, x, u, h, r, q => by
    unfold nkOf at h
    cases e : nksOf xs with
    | none =>
      rw [e] at h
      cases h
    | some ks =>
      rw [e] at h
      cases h
      cases r with
      | tup g rs =>
        cases q
        obtain ⟨its, rv, ⟨o, ho, hc, n, hd⟩, _⟩ := I.tuple (SqT.of g)
        exact .tup ho hc hd (nks_is I e rs (by simpa using rv))
  | .bl _, k, _, _, h, _, _ => by
    unfold nkOf at h
    cases h
  | .str _, k, _, _, h, _, _ => by
    unfold nkOf at h
    cases h
  | .ref _, k, _, _, h, _, _ => by
    unfold nkOf at h
    cases h
theorem nks_is (I : Inv X pins σ H s) {nx : Nat} : ∀ {cs : List CV} {ks : List NestedKey} {xs : List V} {us : List Value}, nksOf cs = some ks → RVs X.K μ nx H cs xs → Vals xs us → NestedAll s.heap ks us
  | [], ks, xs, us, h, r, q => by
    unfold nksOf at h
    cases h
    cases r
    cases q
    exact .nil
  | c :: cs, ks, xs, us, h, r, q => by
    unfold nksOf at h
    cases e1 : nkOf c with
    | none =>
      rw [e1] at h
      cases h
    | some k =>
      rw [e1] at h
      dsimp only at h
      cases e2 : nksOf cs with
      | none =>
        rw [e2] at h
        cases h
      | some ks' =>
        rw [e2] at h
        cases h
        cases r with
        | cons r1 r2 =>
          cases q with
          | cons q1 q2 => exact .cons (nk_is I e1 r1 q1) (nks_is I e2 r2 q2)
end
end
/-- each key once -/
def memK (k : NestedKey) : List NestedKey → Bool
  | [] => false
  | j :: r => match NestedKey.beq k j with
    | true => true
    | false => memK k r
def ddK : List NestedKey → List NestedKey
  | [] => []
  | k :: r => match memK k r with
    | true => ddK r
    | false => k :: ddK r
theorem memK_ok {k : NestedKey} : ∀ {l : List NestedKey}, memK k l = true ↔ k ∈ l
  | [] => ⟨(fun h => nomatch h), (fun h => nomatch h)⟩
  | j :: r => by
    have ih := memK_ok (k := k) (l := r)
    unfold memK
    cases e : NestedKey.beq k j with
    | true => exact ⟨fun _ => by rw [NestedKey.eq_of_beq k j e]; exact List.mem_cons_self, fun _ => rfl⟩
    | false =>
      show memK k r = true ↔ _
      rw [ih, List.mem_cons]
      refine ⟨.inr, fun h => h.resolve_left fun z => ?_⟩
      rw [z, NestedKey.beq_self] at e
      cases e
theorem ddK_ok : ∀ l : List NestedKey, (ddK l).Nodup ∧ ∀ k, k ∈ ddK l ↔ k ∈ l
  | [] => ⟨List.nodup_nil, fun _ => Iff.rfl⟩
  | j :: r => by
    obtain ⟨q1, q2⟩ := ddK_ok r
    unfold ddK
    cases e : memK j r with
    | true =>
      refine ⟨q1, fun k => ?_⟩
      show k ∈ ddK r ↔ _
      rw [q2, List.mem_cons]
      exact ⟨.inr, fun h => h.elim (fun z => z ▸ memK_ok.mp e) id⟩
    | false =>
      refine ⟨List.nodup_cons.mpr ⟨fun z => ?_, q1⟩, fun k => by rw [List.mem_cons, List.mem_cons, q2]⟩
      rw [memK_ok.mpr ((q2 j).mp z)] at e
      cases e
theorem dd_perm {l m : List NestedKey} (nd : l.Nodup) (h : ∀ k, k ∈ l ↔ k ∈ m) : l.Perm (ddK m) := (List.perm_ext_iff_of_nodup nd (ddK_ok m).1).mpr fun k => (h k).trans ((ddK_ok m).2 k).symm

/-- a set's members, as values in the table's order -/
def SetOb (w : World) (p : Addr) (us : List Value) : HO := .ext fun h => ∃ o es ep t, h.get? p = some o ∧ o.ExactSet ∧ o.data = .set es ep t ∧ es.toList.map (·.2) = us ∧ t.fits es.size = true ∧ es.size < scanBound ∧ Ris t.place.toList ∧ (w.params.followText "set-order" = true ∨ t.led = true)
theorem setOb_ok {P : Program} {w : World} {H : Hp} {h : Heap} {p : Addr} {us : List Value} (x : ∃ o es ep t, h.get? p = some o ∧ o.ExactSet ∧ o.data = .set es ep t ∧ es.toList.map (·.2) = us ∧ t.fits es.size = true ∧ es.size < scanBound ∧ Ris t.place.toList ∧ (w.params.followText "set-order" = true ∨ t.led = true)) : ObjOk P w H h p (SetOb w p us) :=
  ⟨x, let ⟨o, _, _, _, e, _⟩ := x; ⟨o, e⟩, fun _ _ z k => let ⟨o, es, ep, t, e, r⟩ := z; ⟨o, es, ep, t, k o e, r⟩⟩

def allV (f : CV → Bool) : List CV → Bool
  | [] => true
  | c :: r => match f c with
    | true => allV f r
    | false => false
theorem allV_ok {f : CV → Bool} : ∀ {l : List CV}, allV f l = true → ∀ c ∈ l, f c = true
  | [], _, _, h => nomatch h
  | c :: r, h, d, hd => by
    unfold allV at h
    cases e : f c with
    | true =>
      rw [e] at h
      rcases List.mem_cons.mp hd with z | z
      · rw [z, e]
      · exact allV_ok h d z
    | false =>
      rw [e] at h
      cases h
def isI : CV → Bool
  | .int _ => true
  | _ => false
def isTu : CV → Bool
  | .tup _ => true
  | _ => false
def okS (xs : List CV) (ks : List NestedKey) : Bool := (allV isI xs && Nat.ble xs.length 1000) || (allV isTu xs && (Nat.blt xs.length 64 && Nat.ble (NestedKey.depthAll ks) 8))
/-- what stands in set(list) -/
def setCs (xs : List CV) : Option (List CV) := match nksOf xs with
  | some ks => (match okS xs ks with
    | true => some ((ddK ks).map cvOf)
    | false => none)
  | none => none
variable (T K)
def rSet (w : World) : List V → Hp → VK → Prop := fun xs H Q => ∃ (μ : Mu) (C : CH) (n : Nat) (zs cs : List CV), xs = [.ref (μ n)] ∧ Rel T K μ C H ∧ isLst (C.get n) = some zs ∧ setCs zs = some cs ∧
  ∀ p us cs' ws, H p = none → cs'.Perm cs → RVs K μ C.nx H cs' ws → Vals ws us → Q (.ref p) (upd H p (SetOb w p us))
variable {T K}

theorem ints_only {nx : Nat} : ∀ {zs : List CV} {xs : List V}, allV isI zs = true → RVs K μ nx H zs xs → ∃ ns : List Int, zs = ns.map CV.int ∧ xs = ns.map V.int ∧ nksOf zs = some (ns.map NestedKey.num)
  | [], _, _, r => by
    cases r
    exact ⟨[], rfl, rfl, by unfold nksOf; rfl⟩
  | c :: zs, _, h, r => by
    unfold allV at h
    cases c with
    | int i =>
      cases r with
      | cons r1 r2 =>
        cases r1
        obtain ⟨ns, q1, q2, q3⟩ := ints_only h r2
        refine ⟨i :: ns, by rw [q1]; rfl, by rw [q2]; rfl, ?_⟩
        unfold nksOf
        rw [q3]
        unfold nkOf
        rfl
    | _ => cases h
section
variable {pins : List (Addr × Obj)} {σ : L2.St} {s : Shared}
theorem tups_only (I : Inv X pins σ H s) {nx : Nat} : ∀ {zs : List CV} {xs : List V} {us : List Value} {ks : List NestedKey}, allV isTu zs = true → RVs X.K μ nx H zs xs → Vals xs us → nksOf zs = some ks → NestedKey.depthAll ks ≤ 8 →
    ∃ L : List NS.EK, us = L.map (fun p => Value.ref p.1) ∧ ks = L.map (·.2) ∧ ∀ p ∈ L, NS.El s.heap p ∧ RV X.K μ nx H (cvOf p.2) (.ref p.1)
  | [], _, _, ks, _, r, q, e, _ => by
    cases r
    cases q
    unfold nksOf at e
    cases e
    exact ⟨[], rfl, rfl, fun p hp => nomatch hp⟩
  | c :: zs, _, _, ks, h, r, q, e, d => by
    unfold allV at h
    cases c with
    | tup cs =>
      cases r with
      | cons r1 r2 =>
        cases q with
        | cons q1 q2 =>
          unfold nksOf at e
          cases e1 : nkOf (.tup cs) with
          | none =>
            rw [e1] at e
            cases e
          | some k =>
            rw [e1] at e
            dsimp only at e
            cases e2 : nksOf zs with
            | none =>
              rw [e2] at e
              cases e
            | some ks' =>
              rw [e2] at e
              cases e
              unfold NestedKey.depthAll at d
              obtain ⟨L, g1, g2, g3⟩ := tups_only I h r2 q2 e2 (by omega)
              have ni := nk_is I e1 r1 q1
              obtain ⟨c1, c2⟩ := cv_nk e1
              have rr := r1
              cases r1 with
              | @tup a _ _ g rs =>
                cases q1
                refine ⟨(a, k) :: L, by rw [g1]; rfl, by rw [g2]; rfl, fun p hp => ?_⟩
                rcases List.mem_cons.mp hp with z | z
                · rw [z]
                  exact ⟨⟨ni, by show k.depth ≤ 8; omega, c2⟩, by show RV X.K μ nx H (cvOf k) (.ref a); rw [c1]; exact rr⟩
                · exact g3 p z
    | _ => cases h
theorem rvs_map {α : Type} {nx : Nat} {f : α → CV} {g : α → V} : ∀ {l : List α}, (∀ p ∈ l, RV K μ nx H (f p) (g p)) → RVs K μ nx H (l.map f) (l.map g)
  | [], _ => .nil
  | p :: l, h => .cons (h p List.mem_cons_self) (rvs_map fun q hq => h q (List.mem_cons_of_mem _ hq))
theorem vals_ref {l : List NS.EK} : Vals (l.map fun p => V.ref p.1) (l.map fun p => Value.ref p.1) := by
  induction l with
  | nil => exact .nil
  | cons p l ih => exact .cons rfl ih
theorem vals_int {l : List (Int × Value)} (h : ∀ e ∈ l, GoodE e) : Vals (l.map fun e => V.int (keyOf e)) (l.map (·.2)) := by
  induction l with
  | nil => exact .nil
  | cons e l ih =>
    refine .cons ?_ (ih fun x hx => h x (List.mem_cons_of_mem _ hx))
    obtain ⟨k, t, e1, _⟩ := h e List.mem_cons_self
    refine ⟨t, ?_⟩
    show e.2 = .int (keyOf e) t
    unfold keyOf
    rw [e1]
theorem nodup_num {l : List Int} (h : l.Nodup) : (l.map NestedKey.num).Nodup := by
  induction l with
  | nil => exact List.nodup_nil
  | cons i l ih =>
    rw [List.nodup_cons] at h
    rw [List.map_cons]
    refine List.nodup_cons.mpr ⟨fun z => ?_, ih h.2⟩
    obtain ⟨j, hj, e⟩ := List.mem_map.mp z
    injection e with e
    exact h.1 (e ▸ hj)
theorem or_set (hc : X.calm = true) (hu : X.A.units + 65 < cLine) : CallR X (.type "set") (rSet T X.K X.w) := by
  intro pins s σ H xs us Q I rx ⟨μ, C, n, zs, cs, ex, r, e1, e2, q⟩
  subst ex
  rw [Vals.ref1 rx]
  obtain ⟨vs, g, rv⟩ := r.obj n _ (isLst_ok e1)
  obtain ⟨its, rvi, pl, hz⟩ := I.list (SqL.of g)
  have hh := I.ok.hd hc
  have hn : H s.heap.objs.size = none := I.hok.fresh (Nat.le_refl _)
  unfold setCs at e2
  cases ek : nksOf zs with
  | none =>
    rw [ek] at e2
    cases e2
  | some ks =>
    rw [ek] at e2
    dsimp only at e2
    cases ok : okS zs ks with
    | false =>
      rw [ok] at e2
      cases e2
    | true =>
      rw [ok] at e2
      cases e2
      unfold okS at ok
      rw [Bool.or_eq_true, Bool.and_eq_true, Bool.and_eq_true, Bool.and_eq_true] at ok
      rcases ok with ⟨a1, a2⟩ | ⟨a1, a2, a3⟩
      · obtain ⟨ns, z1, z2, z3⟩ := ints_only a1 rv
        have len : ns.length ≤ 1000 := by
          have := Nat.le_of_ble_eq_true a2
          rw [z1, List.length_map] at this
          exact this
        have hia : IntsAre its.toArray.toList ns := by
          rw [z2] at rvi
          exact ints_of_vals rvi
        have il : its.toArray.size = ns.length := by
          have := IntsAre.length hia
          rw [Array.length_toList] at this
          exact this
        have ekk : ks = ns.map NestedKey.num := Option.some.inj (ek.symm.trans z3)
        refine NS.setCall (items := its.toArray) (G := fun h => ∃ c, SetR X.w h s.heap.objs.size (fun j => decide (j ∈ ns)) c) hh pl.isList (fun A' s1 J R hA hU hs1 hJ fin => ?_) fun h' tk ⟨c, R1⟩ k => ?_
        · have lS := (show _ from Heap.lt_size (show s.heap.get? _ = some _ from pl.isList.choose_spec.1))
          have z1' : (s.heap.push (NS.set0 X.w)).objs.size = s.heap.objs.size + 1 := Heap.size_push ..
          have nJ : μ n ≠ J := by
            rw [hJ, z1']
            exact Nat.ne_of_lt (Nat.lt_succ_of_lt lS)
          have nS : s.heap.objs.size ∉ [J, μ n] := by
            rw [hJ, z1']
            intro z
            rcases List.mem_cons.mp z with z | z
            · exact Nat.succ_ne_self _ z.symm
            · exact Nat.ne_of_gt lS (List.mem_singleton.mp z)
          have l1 : (s.heap.push (NS.set0 X.w)).IsList (μ n) its.toArray := pl.isList.at fun o e => Heap.get?_push_of_some _ e
          refine set_update_ints ((Walks.list (A := A'.in1) (by simp [hA]) J (μ n) nJ its.toArray).toS) s.heap.objs.size nS ns il (by unfold scanBound; omega) (fun i v hv => ?_) (its.toArray.size - 0) 0 s1 rfl (Nat.zero_le _) ?_ ?_ fun s' c m _ R2 => fin s' m ⟨c, R2⟩
          · have hi : i < ns.length := by
              rw [← il]
              exact (Array.getElem?_eq_some_iff.mp hv).1
            obtain ⟨t, e⟩ := PyProof.Rows.IntsAre.int_at hia i v (by rw [Array.getElem?_toList]; exact hv)
            refine ⟨ns[i], t, List.getElem?_eq_getElem hi, ?_⟩
            rw [e, List.getD_eq_getElem?_getD, List.getElem?_eq_getElem hi]
            rfl
          · rw [hs1, hJ]
            exact ⟨⟨_, Heap.get?_push_size _ rfl, rfl, rfl⟩, l1.at fun o e => Heap.get?_push_of_some _ e⟩
          · refine ⟨0, Nat.le_refl 0, setR_new_at ?_⟩
            rw [hs1]
            exact Heap.get?_push_of_some _ (Heap.get?_push_size _ rfl)
        · obtain ⟨o, es, ep, t, ho, hex, hdt, gd, nd, hm, hb, hf, hn2, hr, hl⟩ := R1
          refine ⟨.ref s.heap.objs.size, upd H s.heap.objs.size (SetOb X.w s.heap.objs.size (es.toList.map (·.2))), I.laid (t' := tk) k (Nat.le_refl _) (setOb_ok ⟨o, es, ep, t, ho, hex, hdt, rfl, hf, hb, hr, hl⟩), rfl, ?_⟩
          refine q _ _ (((es.toList.map keyOf).map NestedKey.num).map cvOf) (es.toList.map fun e => V.int (keyOf e)) hn ?_ ?_ (vals_int gd)
          · refine (dd_perm (nodup_num nd) fun k => ?_).map _
            rw [ekk, List.mem_map, List.mem_map]
            refine ⟨fun ⟨j, hj, e⟩ => ⟨j, of_decide_eq_true ((hm j).mpr hj), e⟩, fun ⟨j, hj, e⟩ => ⟨j, (hm j).mp (decide_eq_true hj), e⟩⟩
          · rw [List.map_map, List.map_map]
            refine rvs_map fun e _ => ?_
            show RV X.K μ C.nx H (cvOf (.num (keyOf e))) _
            unfold cvOf
            exact .int _
      · obtain ⟨L0, z1, z2, z3⟩ := tups_only I a1 rv rvi ek (Nat.le_of_ble_eq_true a3)
        have few : L0.length < 64 := by
          have h1 := Nat.le_of_ble_eq_true a2
          have h2 := rvi.length
          have h3 := rv.length
          rw [z1, List.length_map] at h2
          omega
        have il : its.toArray.size = L0.length := by
          rw [List.size_toArray, z1, List.length_map]
        refine NS.setCall (items := its.toArray) (G := fun h => ∃ L es ep t, NS.Ste X.w h s.heap.objs.size L es ep t ∧ NS.In L0 L0.length L) hh pl.isList (fun A' s1 J R hA hU hs1 hJ fin => ?_) fun h' tk ⟨L, es, ep, t, R1, gi⟩ k => ?_
        · have lS := (show _ from Heap.lt_size (show s.heap.get? _ = some _ from pl.isList.choose_spec.1))
          have z1' : (s.heap.push (NS.set0 X.w)).objs.size = s.heap.objs.size + 1 := Heap.size_push ..
          have nJ : μ n ≠ J := by
            rw [hJ, z1']
            exact Nat.ne_of_lt (Nat.lt_succ_of_lt lS)
          have nS : s.heap.objs.size ∉ [J, μ n] := by
            rw [hJ, z1']
            intro z
            rcases List.mem_cons.mp z with z | z
            · exact Nat.succ_ne_self _ z.symm
            · exact Nat.ne_of_gt lS (List.mem_singleton.mp z)
          have l1 : (s.heap.push (NS.set0 X.w)).IsList (μ n) its.toArray := pl.isList.at fun o e => Heap.get?_push_of_some _ e
          have W := (Walks.list (prog := X.prog) (w := X.w) (A := A'.in1) (by simp [hA]) J (μ n) nJ its.toArray).toS
          rw [il] at W
          refine NS.looped L0 W s.heap.objs.size nS few (fun i v hv => ?_) s.heap (fun p hp => (z3 p hp).1) (NS.none_above (Nat.le_refl _)) (fun b hb => ?_) (by simp only [Around.in1_units]; omega) (L0.length - 0) 0 s1 rfl (Nat.zero_le _) ?_ (fun b o e => ?_) ?_ fun s' L es ep t m R2 gi _ => fin s' m ⟨L, es, ep, t, R2, gi⟩
          · have hv' : its[i]? = some v := by
              rw [← Array.getElem?_toList] at hv
              exact hv
            rw [z1, List.getElem?_map] at hv'
            cases e : L0[i]? with
            | none =>
              rw [e] at hv'
              cases hv'
            | some p =>
              rw [e] at hv'
              exact ⟨p, rfl, (Option.some.inj hv').symm⟩
          · rw [List.mem_singleton.mp hb, hJ, z1']
            exact NS.none_above (Nat.le_succ _)
          · rw [hs1, hJ]
            exact ⟨⟨_, Heap.get?_push_size _ rfl, rfl, rfl⟩, l1.at fun o e => Heap.get?_push_of_some _ e⟩
          · rw [hs1]
            exact Heap.get?_push_of_some _ (Heap.get?_push_of_some _ e)
          · refine ⟨[], #[], 0, _, NS.ste_fresh ?_, ⟨(fun p hp => nomatch hp), (fun p hp => by simp at hp), Nat.le_refl _⟩⟩
            rw [hs1]
            exact Heap.get?_push_of_some _ (Heap.get?_push_size _ rfl)
        · have ms : es.toList.map (·.2) = L.map fun p => Value.ref p.1 := by
            rw [R1.ens, List.map_map]
            rfl
          have sub : ∀ p ∈ L, p ∈ L0 := fun p hp => List.mem_of_mem_take (gi.sub p hp)
          obtain ⟨o, ho, hex, hd⟩ := R1.obj
          refine ⟨.ref s.heap.objs.size, upd H s.heap.objs.size (SetOb X.w s.heap.objs.size (L.map fun p => Value.ref p.1)), I.laid (t' := tk) k (Nat.le_refl _) (setOb_ok ⟨o, es, ep, t, ho, hex, hd, ms, R1.fits, ?_, R1.tab.ris, R1.led⟩), rfl, ?_⟩
          · rw [NS.ens_size R1.ens]
            have := R1.few
            unfold scanBound
            omega
          · refine q _ _ ((L.map (·.2)).map cvOf) (L.map fun p => V.ref p.1) hn ?_ ?_ vals_ref
            · refine (dd_perm R1.nod fun k => ?_).map _
              rw [z2]
              refine ⟨fun h => ?_, fun h => ?_⟩
              · obtain ⟨p, hp, e⟩ := List.mem_map.mp h
                exact List.mem_map.mpr ⟨p, sub p hp, e⟩
              · obtain ⟨p, hp, e⟩ := List.mem_map.mp h
                rw [← e]
                exact gi.all p (by rw [List.take_length]; exact hp)
            · rw [List.map_map]
              exact rvs_map fun p hp => (z3 p (sub p hp)).2
end

/-! ### sorted(set) -/
theorem toDs_at : ∀ (n : Nat) {vs : List CV} {ds : List PyData}, toDs C n vs = some ds → ∀ b ∈ vs.zip ds, ∃ m, toD C m b.1 = some b.2
  | n, [], ds, h, b, hb => by cases hb
  | 0, _ :: _, ds, h, b, hb => by
    unfold toDs at h
    cases h
  | n + 1, c :: cs, ds, h, b, hb => by
    unfold toDs at h
    cases e1 : toD C n c with
    | none =>
      rw [e1] at h
      cases h
    | some d =>
      rw [e1] at h
      dsimp only at h
      cases e2 : toDs C n cs with
      | none =>
        rw [e2] at h
        cases h
      | some ds' =>
        rw [e2] at h
        cases h
        rw [List.zip_cons_cons] at hb
        rcases List.mem_cons.mp hb with z | z
        · rw [z]
          exact ⟨n, e1⟩
        · exact toDs_at n e2 b z
theorem each_perm {α β : Type} {R : α → β → Prop} {out us : List α} (p : out.Perm us) : ∀ {bs : List β}, PySem.W.EachIs R us bs → ∃ bs', bs'.Perm bs ∧ PySem.W.EachIs R out bs' := by
  induction p with
  | nil => exact fun h => ⟨_, .refl _, h⟩
  | cons x _ ih =>
    intro bs h
    cases h with
    | cons h1 h2 =>
      obtain ⟨bs', q1, q2⟩ := ih h2
      exact ⟨_ :: bs', q1.cons _, .cons h1 q2⟩
  | swap x y l =>
    intro bs h
    cases h with
    | cons h1 h2 =>
      cases h2 with
      | cons h3 h4 => exact ⟨_, .swap _ _ _, .cons h3 (.cons h1 h4)⟩
  | trans _ _ ih1 ih2 =>
    intro bs h
    obtain ⟨b1, q1, q2⟩ := ih2 h
    obtain ⟨b2, q3, q4⟩ := ih1 q2
    exact ⟨b2, q3.trans q1, q4⟩
section
variable {pins : List (Addr × Obj)} {σ : L2.St} {s : Shared}
theorem each_of (I : Inv X pins σ H s) (r : Rel T X.K μ C H) : ∀ {bs : List Dat} {ws : List V} {us : List Value}, (∀ b ∈ bs, ∃ m, toD C m b.1 = some b.2) → RVs X.K μ C.nx H (bs.map Prod.fst) ws → Vals ws us →
    PySem.W.EachIs (fun u (b : Dat) => (∃ x, RelV x u ∧ RV X.K μ C.nx H b.1 x) ∧ ∃ as, Reads s.heap u b.2 as) us bs
  | [], _, _, _, rw', v => by
    cases rw'
    cases v
    exact .nil
  | b :: bs, _, _, h, rw', v => by
    cases rw' with
    | cons r1 r2 =>
      cases v with
      | cons v1 v2 =>
        obtain ⟨m, e⟩ := h b List.mem_cons_self
        exact .cons ⟨⟨_, v1, r1⟩, Dp.reads I _ _ _ (toD_ok r m r1 e) v1⟩ (each_of I r (fun c hc => h c (List.mem_cons_of_mem _ hc)) r2 v2)
end
variable (T K)
def rSrt (w : World) : List V → Hp → VK → Prop := fun xs H Q => ∃ (μ : Mu) (C : CH) (p : Addr) (us : List Value) (ws : List V) (cs' cs ys : List CV), xs = [.ref p] ∧ H p = some (SetOb w p us) ∧ Rel T K μ C H ∧ cs'.Perm cs ∧ RVs K μ C.nx H cs' ws ∧ Vals ws us ∧ sortC cs C = some ys ∧
  Sat T K W0 [] μ C H Q (fin (some (.ref C.nx, C.add (.lst ys))))
variable {T K}
theorem or_srt (hc : X.calm = true) (hu : X.A.units + 65 < cLine) : CallR X (.builtin "sorted") (rSrt T X.K X.w) := by
  intro pins s σ H xs vs Q I rx ⟨μ, C, p, us, ws, cs', cs, ys, ex, hp, r, pm, rv, va, e, h⟩
  subst ex
  rw [Vals.ref1 rx]
  have e0 := e
  obtain ⟨ds, d1, d2, d3, d4, d5, d6⟩ := sortC_ok e
  have hl := toDs_len FU d1
  have hzip : (cs.zip ds).map Prod.snd = ds := by rw [List.map_snd_zip]; omega
  have hfst : (cs.zip ds).map Prod.fst = cs := by rw [List.map_fst_zip]; omega
  have hst : strict (srtD (cs.zip ds)) = true ∧ ys = (srtD (cs.zip ds)).map Prod.fst := by
    unfold sortC at e0
    rw [d1] at e0
    dsimp only at e0
    split at e0
    · cases e0
      exact ⟨by assumption, rfl⟩
    · cases e0
  obtain ⟨bs', b1, b2⟩ := perm_lift Prod.fst pm (cs.zip ds) hfst
  have mem : ∀ b ∈ bs', ∃ m, toD C m b.1 = some b.2 := fun b hb => toDs_at FU d1 b (b1.mem_iff.mp hb)
  refine sorted_coll (bs := cs.zip ds) (nx := C.nx) (μ := μ) I hu (by rw [hzip]; exact d2) (by rw [hzip]; exact d3) (fun b hb => d4 b.2 (by rw [← hzip]; exact List.mem_map.mpr ⟨b, hb, rfl⟩)) (by rw [List.length_zip]; omega) hst.1 (fun R hR => ?_) fun zs a ha rz => ?_
  · obtain ⟨o, es, ep, t, ho, hex, hdt, hus, hf, hsz, hr, hled⟩ := (show ObjOk X.prog X.w H s.heap p (SetOb X.w p us) from I.hok p _ hp).1
    refine collect_set (A := X.A.in1) (I.ok.hd hc) ⟨o, ho, hex.1, hdt⟩ hf hsz hr hled fun s' out k hz hg ho2 po => ?_
    rw [hus] at po
    have I1 : Inv X pins σ H s' := I.call' (ch := []) ho2 (Un.kept k) (I.hok.kept k) (by rw [hg]; exact I.bare) (fun _ z => nomatch z)
    have ea := each_of I1 r mem (by rw [b2]; exact rv) va
    obtain ⟨b3, b4, b5⟩ := each_perm po ea
    exact hR s' out b3 (b4.trans b1) I1 (b5.mono fun _ _ z => z.1) (b5.mono fun _ _ z => z.2)
  · rw [← hst.2] at rz
    exact h.qL r rz a ha
/-! ### sorted(set(list)) -/
def xSortSet (m : EM) : EM := fun l C => match m l C with
  | .ok (.ref n) C1 => (match isLst (C1.get n) with
    | some xs => (match setCs xs with
      | some cs => (match sortC cs C1 with
        | some ys => .ok (.ref C1.nx) (C1.add (.lst ys))
        | none => .bad)
      | none => .bad)
    | none => .bad)
  | .ok _ _ => .bad
  | .exc k fs l' C' => .exc k fs l' C'
  | .bad => .bad
theorem xe_sortSet {W : WX} {e : Expr} {m : EM} {p p2 pos pos2 : Pos} (hu : X.A.units + 65 < cLine) (hc : X.calm = true) (hg : Gl X "sorted") (hm : X.mg "sorted" = none) (hg2 : Gl X "set") (hm2 : X.mg "set" = none) (he : PE X e (tX T X.K W m)) (hs : starEach [e] X.env = (false, eval e X.env) :: starEach [] X.env := by rfl) (hpl : (backTo pos2 (starEach [] X.env)).any (·.1) = false := by rfl)
    (hs1 : starEach [.Call (.Name "set" p2) [e] [] pos2] X.env = (false, eval (.Call (.Name "set" p2) [e] [] pos2) X.env) :: starEach [] X.env := by rfl) (hpl1 : (backTo pos (starEach [] X.env)).any (·.1) = false := by rfl) :
    PE X (.Call (.Name "sorted" p) [.Call (.Name "set" p2) [e] [] pos2] [] pos) (tX T X.K W (xSortSet m)) := by
  refine PE.imp (pe_callB (or_srt (T := T) hc hu) hg hm boot_sorted (pa_cons (pe_callTy (or_set (T := T) hc hu) hg2 hm2 boot_set (pa_cons he pa_nil hs) (he := hs) (hpl := hpl)) pa_nil hs1) (he := hs1) (hpl := hpl1)) fun σ H Q ⟨μ, l, C, r, rl, h⟩ => ?_
  refine ⟨μ, l, C, r, rl, ?_⟩
  unfold xSortSet at h
  cases ea : m l C with
  | bad =>
    rw [ea] at h
    exact h
  | exc k fs l' C' =>
    rw [ea] at h
    exact h
  | ok v C1 =>
    rw [ea] at h
    cases v with
    | ref n =>
      dsimp only at h
      cases e1 : isLst (C1.get n) with
      | none =>
        rw [e1] at h
        exact sat_bad h
      | some xs =>
        rw [e1] at h
        dsimp only at h
        cases e2 : setCs xs with
        | none =>
          rw [e2] at h
          exact sat_bad h
        | some cs =>
          rw [e2] at h
          dsimp only at h
          cases e3 : sortC cs C1 with
          | none =>
            rw [e3] at h
            exact sat_bad h
          | some ys =>
            rw [e3] at h
            intro μ1 H1 x st rel rx
            cases rx with
            | ref lt =>
              show rSet T X.K X.w [.ref (μ1 n)] H1 (fun y H2 => rSrt T X.K X.w [y] H2 Q)
              refine ⟨μ1, C1, n, xs, cs, rfl, rel, e1, e2, fun p us cs' ws hp pm rv va => ?_⟩
              show rSrt T X.K X.w [.ref p] _ Q
              have up : ∀ a o, H1 a = some o → upd H1 p (SetOb X.w p us) a = some o := upd_new hp
              obtain ⟨r2, s2⟩ := same rel up
              refine ⟨μ1, C1, p, us, ws, cs', cs, ys, rfl, upd_same, r2, pm, rv.step s2, va, e3, ?_⟩
              have h2 := h.shift (st.trans s2)
              exact h2
    | _ => exact sat_bad h
end Ex

set_option Elab.async false
set_option linter.all false
set_option maxRecDepth 100000
set_option maxHeartbeats 2000000
/-! Ex23: dict(list of pairs), the keys tuples. -/
namespace Ex
open PySem PySem.Spec PyProof.Rows L2 TL
variable {T : Tab} {K : PySem.W.Frag} {X : Cx} {μ : Mu} {C : CH} {H : Hp}
abbrev TKm (P : Program) (w : World) : HeapKind P w (List L2.Key) := tupleKind (mixKind P w)
abbrev PT := List L2.Key × Addr × Value
abbrev stAll (acc rest : List PT) : List PT := rest.foldl (fun a q => storedH a q.1 q.2.1 q.2.2) acc
theorem st_mem {acc : List PT} {q x : PT} (h : x ∈ storedH acc q.1 q.2.1 q.2.2) : (∃ y ∈ acc, y.1 = x.1 ∧ y.2.1 = x.2.1) ∨ x = q := by
  unfold storedH at h
  split at h
  · obtain ⟨y, hy, e⟩ := List.mem_map.mp h
    refine .inl ⟨y, hy, ?_⟩
    rw [← e]
    unfold putAt
    split <;> exact ⟨rfl, rfl⟩
  · rcases List.mem_append.mp h with z | z
    · exact .inl ⟨x, z, rfl, rfl⟩
    · exact .inr (List.mem_singleton.mp z)
theorem st_len (acc : List PT) (q : PT) : (storedH acc q.1 q.2.1 q.2.2).length ≤ acc.length + 1 := by
  unfold storedH
  split
  · rw [List.length_map]
    omega
  · rw [List.length_append, List.length_singleton]
    omega
section
variable {P : Program} {w : World} {A : Around} {E : Value → Shared → Prop}
theorem tk_keep {h h' : Heap} {k : List L2.Key} {b : Addr} (x : (TKm P w).is h k b) (g : ∀ c o, h.get? c = some o → h'.get? c = some o) : (TKm P w).is h' k b := by
  obtain ⟨o, its, n, e, r⟩ := x
  exact ⟨o, its, n, g b o e, r⟩
theorem dictAt {h h' h0 : Heap} {S : Addr} {acc : List PT} (d : h.DictOfH (TKm P w) S acc) (k : ∀ o, h.get? S = some o → h'.get? S = some o) (ks : ∀ x ∈ acc, (TKm P w).is h0 x.1 x.2.1) (g : ∀ c o, h0.get? c = some o → h'.get? c = some o) : h'.DictOfH (TKm P w) S acc := by
  obtain ⟨o, es, ep, e, hc, hd, he, _, hn⟩ := d
  exact ⟨o, es, ep, k o e, hc, hd, he, fun x hx => tk_keep (ks x hx) g, hn⟩
theorem pairLoop {R : Result → Shared → Prop} {S I l : Addr} {items : Array Value} {res : Value} (hh : A.handled = none) (hu : A.units + 20 < cLine) (h0 : Heap) (hl : h0.IsList l items) (S0 : h0.get? S = none) (I0 : h0.get? I = none) (SI : S ≠ I) :
    ∀ (rest : List PT) (i : Nat) (acc : List PT) (ix : Int) (t : Tok) (s : Shared), items.size = i + rest.length → acc.length + rest.length ≤ sizeLine → (∀ (j : Nat) (q : PT), rest[j]? = some q → ∃ b, items[i + j]? = some (.ref b) ∧ IsTup h0 b #[.ref q.2.1, q.2.2]) →
      (∀ x ∈ acc, (TKm P w).is h0 x.1 x.2.1) → (∀ x ∈ rest, (TKm P w).is h0 x.1 x.2.1) → (∀ b o, h0.get? b = some o → s.heap.get? b = some o) → s.heap.IsListIter I l i → s.heap.DictOfH (TKm P w) S acc →
      (∀ h' tk, h'.DictOfH (TKm P w) S (stAll acc rest) → (∀ b o, h0.get? b = some o → h'.get? b = some o) → R (.ok (.ret res)) { s with heap := h', toks := tk }) →
      codeAny (model P w) A (.builtin "dict.update.loop" ⟨[.ref S, .ref I, .int ix t, res], []⟩) R s := by
  have nI : ∀ b o, h0.get? b = some o → b ≠ I := fun b o e z => by rw [z, I0] at e; cases e
  have nS : ∀ b o, h0.get? b = some o → b ≠ S := fun b o e z => by rw [z, S0] at e; cases e
  intro rest
  induction rest with
  | nil =>
    intro i acc ix t s sz ln tu ka kr g it d fin
    refine codeAny_builtin ud_entry ?_
    rw [Around.under_plainId ud_plain _]
    show wpAny _ A.in1 (pyNext (.ref I) >>= _) _ _ s
    have hl1 : s.heap.IsList l items := hl.at fun o e => g l o e
    refine wpAny_bind (wpAny_pyNext_list_end (A := A.in1) hh it hl1 (Array.getElem?_eq_none (by simpa using Nat.le_of_eq sz)) fun h' he => ?_)
    show wpAny _ A.in1 (Builtin.Dict.addKeywords S [] >>= _) _ _ _
    refine wpAny_bind (wpAny_pure (wpAny_pure ?_))
    have g' : ∀ b o, h0.get? b = some o → h'.get? b = some o := fun b o e => he b o (nI b o e) (g b o e)
    exact fin h' s.toks (dictAt d (fun o e => he S o SI e) ka g') g'
  | cons q rest ih =>
    intro i acc ix t s sz ln tu ka kr g it d fin
    obtain ⟨b, hb, tb⟩ := tu 0 q rfl
    rw [List.length_cons] at sz ln
    refine codeAny_builtin ud_entry ?_
    rw [Around.under_plainId ud_plain _]
    show wpAny _ A.in1 (pyNext (.ref I) >>= _) _ _ s
    have hl1 : s.heap.IsList l items := hl.at fun o e => g l o e
    refine wpAny_bind (wpAny_pyNext_list_item (x := .ref b) it hl1 (by simpa using hb) fun h1 it1 sb1 => ?_)
    have g1 : ∀ b o, h0.get? b = some o → h1.get? b = some o := fun b o e => (sb1.2 b (nI b o e)).trans (g b o e)
    obtain ⟨o, ho, hc, n, hd⟩ := tb
    show wpAny _ A.in1 (holding [Value.ref b] _ >>= _) _ _ _
    refine wpAny_bind (wpAny_holding ?_)
    refine wpAny_bind (wpAny_tryCatch ?_)
    unfold Builtin.Dict.pairItems
    refine wpAny_bind (wpAny_typeOf (T := "tuple") ⟨o, g1 b o ho, hc⟩ ?_)
    rw [if_pos (by first | decide | rfl | simp)]
    refine wpAny_bind (wpAny_seqItems (g1 b o ho) hd (wpAny_pure ?_))
    show wpAny _ A.in1 (holding [Value.ref q.2.1, q.2.2] (dictSet S (.ref q.2.1) q.2.2)) _ _ _
    have d1 : h1.DictOfH (TKm P w) S acc := dictAt d (fun o e => (sb1.2 S SI).trans e) ka g1
    have kq := kr q List.mem_cons_self
    refine wpAny_holding (wpAny_dictSet_heap (knd := TKm P w) (k := q.1) (tupleKind_room_in1 (by omega)) (tk_keep kq g1) d1 (fun h2 d2 sb2 => ?_) (by omega))
    have g2 : ∀ b o, h0.get? b = some o → h2.get? b = some o := fun b o e => (sb2.2 b (nS b o e)).trans (g1 b o e)
    refine wpAny_pure ⟨plainId_quiet ud_plain _, ih (i + 1) _ (ix + 1) 0 _ (by omega) ?_ (fun j q' e => ?_) (fun x hx => ?_) (fun x hx => kr x (List.mem_cons_of_mem _ hx)) g2 ?_ d2 fun h' tk d' g' => fin h' tk d' g'⟩
    · have := st_len acc q
      omega
    · obtain ⟨b', e1, e2⟩ := tu (j + 1) q' (by simpa using e)
      exact ⟨b', by rw [show i + 1 + j = i + (j + 1) by omega]; exact e1, e2⟩
    · rcases st_mem hx with ⟨y, hy, e1, e2⟩ | e
      · rw [← e1, ← e2]
        exact ka y hy
      · rw [e]
        exact kq
    · exact it1.at fun o' e => (sb2.2 I (Ne.symm SI)).trans e
theorem dictPairs {s : Shared} {l : Addr} {ol : Obj} {items : Array Value} {n : Nat} {prs : List PT} {Q : Value → Shared → Prop} (hh : A.handled = none) (hu : A.units + 65 < cLine) (hl : s.heap.get? l = some ol) (hc : ol.cls = .type "list") (hd : ol.dict = none) (hdat : ol.data = .seq items n) (sz : items.size = prs.length) (ln : prs.length ≤ sizeLine)
    (tu : ∀ (j : Nat) (q : PT), prs[j]? = some q → ∃ b, items[j]? = some (.ref b) ∧ IsTup s.heap b #[.ref q.2.1, q.2.2]) (ks : ∀ x ∈ prs, (TKm P w).is s.heap x.1 x.2.1)
    (q : ∀ h' tk, h'.DictOfH (TKm P w) s.heap.objs.size (stAll [] prs) → (∀ b o, s.heap.get? b = some o → h'.get? b = some o) → Q (.ref s.heap.objs.size) { s with heap := h', toks := tk }) : wpAny (model P w) A (call (.type "dict") [.ref l]) Q E s := by
  refine callType_codes (Q₁ := fun u s1 => u = .ref s.heap.objs.size ∧ s1 = { s with heap := s.heap.push { cls := .type "dict", data := .dict #[] } }) PySem.F.kt_called_dict (PySem.F.kt_typeCall_dict_1 _) PySem.F.entry_dict_init (kt_code_dict_new _ ⟨rfl, rfl⟩) ?_
  rintro u s1 ⟨rfl, rfl⟩
  have k0 : ∀ b o, s.heap.get? b = some o → (s.heap.push { cls := .type "dict", data := .dict #[] }).get? b = some o := fun b o e => Heap.get?_push_of_some _ e
  have eS : (s.heap.push { cls := .type "dict", data := .dict #[] }).get? s.heap.objs.size = some { cls := .type "dict", data := .dict #[] } := Heap.get?_push_size _ rfl
  refine ⟨⟨_, eS, rfl⟩, PySem.F.args_dict_init_2 _ _, ?_⟩
  unfold Builtin.«dict.__init__»
  refine wpAny_bind ?_
  unfold Builtin.Dict.selfAndRest
  refine wpAny_bind (wpAny_notOrdered_dict ⟨_, eS, rfl⟩ ?_)
  show wpAny _ _ (pure (s.heap.objs.size, [Value.ref l])) _ _ _
  refine wpAny_pure ?_
  show wpAny _ _ (Builtin.Dict.updateFrom "dict.__init__" s.heap.objs.size (.ref l) [] .none) _ _ _
  unfold Builtin.Dict.updateFrom
  refine wpAny_bind (wpAny_typeOf (T := "list") ⟨ol, k0 _ _ hl, hc⟩ ?_)
  rw [if_pos (by first | decide | rfl | simp)]
  refine wpAny_bind (miss_list (k0 _ _ hl) hc hdat hd hh fun h1 tk1 k1 => ?_)
  rw [if_pos (show (none : Option Value).isNone = true from rfl)]
  refine wpAny_bind (wpAny_rule ?_)
  have hl1 : h1.IsList l items := ⟨ol, k1 _ _ (k0 _ _ hl), hc, n, hdat⟩
  have lS : s.heap.objs.size < h1.objs.size := Heap.lt_size (k1 _ _ eS)
  refine wpAny_bind (wpAny_pyIter_list hl1 ?_)
  have k2 : ∀ b o, h1.get? b = some o → (h1.push { cls := .type "list_iterator", data := .fields #[.ref l, .int 0 0] }).get? b = some o := fun b o e => Heap.get?_push_of_some _ e
  have none_ : ∀ b, s.heap.objs.size ≤ b → s.heap.get? b = none := fun b le => by
    cases e : s.heap.get? b with
    | none => rfl
    | some o => exact absurd (Nat.lt_of_lt_of_le (Heap.lt_size e) le) (Nat.lt_irrefl _)
  have main := pairLoop (P := P) (w := w) (A := A.in1) (R := wants (fun r s2 => r = .none ∧ Q (.ref s.heap.objs.size) s2) E) (S := s.heap.objs.size) (I := h1.objs.size) (l := l) (items := items) (res := Value.none) hh (by simp only [Around.in1_units]; omega) s.heap ⟨ol, hl, hc, n, hdat⟩ (none_ _ (Nat.le_refl _)) (none_ _ (Nat.le_of_lt lS)) (Nat.ne_of_lt lS) prs 0 [] 0 0
    { s with heap := h1.push { cls := .type "list_iterator", data := .fields #[.ref l, .int 0 0] }, toks := tk1 } (by rw [sz, Nat.zero_add]) (by rw [List.length_nil, Nat.zero_add]; exact ln) (fun j q e => by rw [Nat.zero_add]; exact tu j q e) (fun x hx => nomatch hx) ks (fun b o e => k2 _ _ (k1 _ _ (k0 _ _ e)))
    ⟨_, Heap.get?_push_size _ rfl, rfl, rfl⟩ ⟨_, #[], 0, k2 _ _ (k1 _ _ eS), ⟨rfl, rfl, rfl⟩, rfl, rfl, (fun x hx => nomatch hx), List.nodup_nil⟩ fun h' tk d' g' => ⟨rfl, q h' tk d' g'⟩
  first
    | exact wpAny_pure ⟨plainId_quiet ud_plain _, main⟩
    | exact wpAny_bind (wpAny_pure (wpAny_pure ⟨plainId_quiet ud_plain _, main⟩))
end

/-! ### dict(list of pairs), by its mirror -/
def pairsOf : List (CV × CV) → List CV → Option (List (CV × CV))
  | acc, [] => some acc
  | acc, .tup [k, v] :: r => (match tkOf k with
    | some _ => pairsOf (putV eqT acc k v) r
    | none => none)
  | _, _ => none
def fDictP : FC := fun vs C => match vs with
  | [.ref n] => (match isLst (C.get n) with
    | some xs => (match bnd xs.length, pairsOf [] xs with
      | true, some kvs => some (.ref C.nx, C.add (.dT kvs))
      | _, _ => none)
    | none => none)
  | _ => none
section
variable {pins : List (Addr × Obj)} {σ : L2.St} {s : Shared}
theorem pairs_in (I : Inv X pins σ H s) {nx : Nat} : ∀ {xs : List CV} {vs : List V} {us : List Value} {acc kvs : List (CV × CV)} {akv : List (List L2.Key × V)} {axs : List PT}, pairsOf acc xs = some kvs → RVs X.K μ nx H xs vs → Vals vs us → PK tkOf X.K μ nx H acc akv → KT H akv axs →
    ∃ (prs : List PT) (kws : List (List L2.Key × V)), prs.length = us.length ∧ PK tkOf X.K μ nx H kvs kws ∧ KT H kws (stAll axs prs) ∧ (∀ (j : Nat) (q : PT), prs[j]? = some q → ∃ b, us[j]? = some (.ref b) ∧ IsTup s.heap b #[.ref q.2.1, q.2.2]) ∧ ∀ x ∈ prs, (TKm X.prog X.w).is s.heap x.1 x.2.1
  | [], _, _, acc, kvs, akv, axs, h, r, v, pa, ka => by
    cases r
    cases v
    unfold pairsOf at h
    cases h
    exact ⟨[], akv, rfl, pa, ka, (fun j q e => by simp at e), fun x hx => nomatch hx⟩
  | c :: xs, _, _, acc, kvs, akv, axs, h, r, v, pa, ka => by
    unfold pairsOf at h
    split at h
    · rename_i h0
      cases h0
    · rename_i kk vv rr h0
      cases h0
      cases ek : tkOf kk with
      | none =>
        rw [ek] at h
        cases h
      | some key =>
        rw [ek] at h
        dsimp only at h
        cases r with
        | cons r1 r2 =>
          cases v with
          | cons v1 v2 =>
            cases r1 with
            | @tup b _ _ g rs =>
              cases v1
              cases rs with
              | cons rk rs =>
                cases rs with
                | cons rv rs =>
                  cases rs
                  obtain ⟨a, ea, ga⟩ := tk_of rk ek
                  subst ea
                  obtain ⟨its, rvi, ht, _⟩ := I.tuple (SqT.of g)
                  obtain ⟨u, y, ei, ru, ry⟩ := vals2 rvi
                  subst ei
                  cases ru
                  have pk1 := put_ok tqT ek rv pa
                  have kt1 := ka.put key ga ry
                  obtain ⟨prs, kws, q1, q2, q3, q4, q5⟩ := pairs_in I h r2 v2 pk1 kt1
                  refine ⟨(key, a, y) :: prs, kws, by rw [List.length_cons, List.length_cons, q1], q2, q3, fun j q e => ?_, fun x hx => ?_⟩
                  · cases j with
                    | zero =>
                      cases e
                      exact ⟨b, rfl, ht⟩
                    | succ j =>
                      obtain ⟨b', e1, e2⟩ := q4 j q (by simpa using e)
                      exact ⟨b', by simpa using e1, e2⟩
                  · rcases List.mem_cons.mp hx with z | z
                    · rw [z]
                      exact key_of I.hok ga
                    · exact q5 x z
    · cases h
end
theorem stAll_len : ∀ (prs acc : List PT), (stAll acc prs).length ≤ acc.length + prs.length
  | [], acc => Nat.le_refl _
  | q :: prs, acc => by
    have h1 := stAll_len prs (storedH acc q.1 q.2.1 q.2.2)
    have h2 := st_len acc q
    show (stAll (storedH acc q.1 q.2.1 q.2.2) prs).length ≤ _
    rw [List.length_cons]
    omega
theorem or_dictP (hc : X.calm = true) (hu : X.A.units + 65 < cLine) : CallR X (.type "dict") (rMc T X.K fDictP) := by
  intro pins s σ H xs us Q I rx ⟨μ, C, vs, r, rv, h⟩
  unfold fDictP at h
  split at h
  · rename_i n
    obtain ⟨x, e, q⟩ := rvs1 rv
    subst e
    cases q with
    | ref lt =>
      rw [Vals.ref1 rx]
      cases e1 : isLst (C.get n) with
      | none =>
        rw [e1] at h
        exact sat_bad h
      | some zs =>
        rw [e1] at h
        dsimp only at h
        cases e2 : bnd zs.length with
        | false =>
          simp only [e2] at h
          exact sat_bad h
        | true =>
          cases e3 : pairsOf [] zs with
          | none =>
            simp only [e2, e3] at h
            exact sat_bad h
          | some kvs =>
            simp only [e2, e3] at h
            obtain ⟨ws, g, rw'⟩ := r.obj n _ (isLst_ok e1)
            obtain ⟨its, rvi, pl, hz⟩ := I.list (SqL.of g)
            obtain ⟨prs, kws, q1, q2, q3, q4, q5⟩ := pairs_in I e3 rw' rvi .nil (.nil : KT H [] [])
            obtain ⟨o, m, ho, hcl, hd, hdat⟩ := pl
            have il : its.length = zs.length := (Vals.length rvi).symm.trans rw'.length
            have bn := Nat.le_of_ble_eq_true e2
            have ln : prs.length ≤ sizeLine := by
              rw [q1, il, sizeLine_eq]
              omega
            refine dictPairs (prs := prs) (I.ok.hd hc) hu ho hcl hd hdat (by simp [q1]) ln (fun j q e => ?_) q5 fun h' tk d' k => ?_
            · obtain ⟨b, z1, z2⟩ := q4 j q e
              exact ⟨b, by simpa using z1, z2⟩
            · have hn : H s.heap.objs.size = none := I.hok.fresh (Nat.le_refl _)
              have hm : (s.heap.objs.size == sysModules) = false := beq_eq_false_iff_ne.mpr (Nat.ne_of_gt I.big)
              have l1 : kws.length = (stAll [] prs).length := Paired.length q3
              have l2 := stAll_len prs []
              obtain ⟨od, es, ep, ho', c1, c2, c3, _, c4⟩ := d'
              refine ⟨.ref s.heap.objs.size, upd H s.heap.objs.size (.dT kws), I.laid (t' := tk) k (Nat.le_refl _) (show ObjOk X.prog X.w _ _ _ (.dT kws) from ⟨by rw [l1]; rw [List.length_nil] at l2; omega, hm, _, q3.keeps fun c ys e => upd_new hn _ _ e, od, es, ep, ho', c1, c2, c3, c4⟩), rfl, ?_⟩
              exact new_sat h r hn ⟨kws, upd_same, Paired.mapQ (pt_to q2) fun _ _ z => ⟨z.1, z.2.mono (Nat.le_succ _) (fun m h => mu1_lt μ _ h) fun _ _ h => upd_new hn _ _ h⟩⟩
  · exact sat_bad h
end Ex

set_option Elab.async false
set_option linter.all false
set_option maxRecDepth 100000
/-! Ex24: sorted(tuple). -/
namespace Ex
open PySem PySem.Spec PyProof.Rows L2 TL
variable {T : Tab} {X : Cx}
def fSortedT : FC := fun vs C => match vs with
  | [.tup ks] => (match sortC ks C with
    | some ys => some (.ref C.nx, C.add (.lst ys))
    | none => none)
  | _ => none
theorem or_sortedT (hu : X.A.units + 65 < cLine) : CallR X (.builtin "sorted") (rMc T X.K fSortedT) := by
  intro pins s σ H xs us Q I rx ⟨μ, C, vs, r, rv, h⟩
  unfold fSortedT at h
  split at h
  · rename_i ks
    obtain ⟨x, e, q⟩ := rvs1 rv
    subst e
    cases es : sortC ks C with
    | none =>
      rw [es] at h
      exact sat_bad h
    | some ys =>
      rw [es] at h
      cases q with
      | @tup a _ ws g rk =>
        rw [Vals.ref1 rx]
        obtain ⟨its, rvl, ⟨o, ho, hc, n, hd⟩, hz⟩ := I.tuple (SqT.of g)
        refine sortedD_fin I hu r rk es h fun R hR => wpAny_collect_seq (A := X.A.in1) a (.inr rfl) ho hc hd (fun h' k => hR { s with heap := h' } _ (I.kept (t' := s.toks) k) (by simpa using rvl)) (by rw [List.size_toArray, ← rvl.length]; exact hz)
  · exact sat_bad h
end Ex

set_option Elab.async false
set_option linter.all false
set_option maxRecDepth 100000
set_option maxHeartbeats 2000000
/-! Ex30: an own exception's __init__ that begins with super().__init__(e). -/
namespace Ex
open PySem PySem.Spec PyProof.Rows L2

abbrev clsS : Str := "__class__"
/-- the frame of such a def -/
abbrev envS (qual : Str) (scope : Scope) (L f : Addr) (cdv : Value) (cc : Addr) : Env := PySem.W.envX qual scope L f cdv [(clsS, cc)]
/-- the class at C, its __init__ at f, the cell of its name at cc, the code object at cda -/
structure Sup (P : Program) (K : PySem.W.Frag) (C f cc cda : Addr) (name qual : Str) (params : Arguments) (body : List Stmt) (scope : Scope) (fd : FuncData) : Prop where
  T : OexC K C
  fn : ∃ (oc : Value) (od : Option Addr) (dV kV doc pm : Value) (an : Option Addr) (ct : Value) (osl : Array (Option Value)), fd = PySem.W.fnX name qual params body scope [(clsS, cc)] dV kV doc pm an (.ref cda) ct ∧ K.lookup f = some ⟨oc, od, .func fd, osl⟩
  code : PySem.W.codeIn K (.ref cda) qual = true
  file : ∃ (ccl : Value) (cdd : Option Addr) (vs : Array Value) (ccs : Array (Option Value)) (fl : Str) (tf : Tok), K.lookup cda = some ⟨ccl, cdd, .fields vs, ccs⟩ ∧ vs[2]? = some (.str fl tf) ∧ ((P.main.file : Str) == fl) = true
  cell : ∃ (cl : Value) (cld : Option Addr) (csl : Array (Option Value)), K.lookup cc = some ⟨cl, cld, .cell (some (.ref C)), csl⟩
  sub : PySem.W.mroIn K C (.ref C) = some true
  sup : PySem.W.ks_superIn K C C "__init__" = some (some (.builtin "ValueError.__init__"))
  opq : PySem.W.nsIn K cStatics "thirdparty.any" = some none
  ve : PySem.W.subIn K (.ref C) (.type "ValueError") = some true
  top : (P.main.scope.names.lookup ("super" : Str)).isSome = false
structure SupScope (N ps : List Str) (sc : Scope) : Prop where
  kind : sc.kind = .function
  co : sc.isCoroutine = false
  gen : sc.isGenerator = false
  nd : N.Nodup
  pre : N.take ps.length = ps
  par : ∀ x ∈ ps, sc.names.lookup x = some .local
  free : ∀ y ∈ sc.names, y.2 = .free → y.1 = clsS
  cell : ∀ y ∈ sc.names, y.2 ≠ .cell
  cls : sc.names.lookup clsS = some .free
  sup : sc.names.lookup ("super" : Str) = some .globalImplicit
/-- the context of its body -/
abbrev cxS (CX : CXT) (P : Program) (w : World) (K : PySem.W.Frag) (mg : Str → Option Value) (base : Heap) (N : List Str) (qual : Str) (scope : Scope) (f : Addr) (cd : Value) (cc : Addr) (A : Around) (outer : List Env) (s : Shared) (H : Hp) (E : XK) (cm : Bool) (pn : List (Addr × Obj)) : Cx where
  prog := P
  w := w
  K := K
  mg := mg
  base := base
  A := A.deeper (envS qual scope s.heap.objs.size f cd cc)
  N := N
  s_0 := s
  H_0 := H
  env := envS qual scope s.heap.objs.size f cd cc
  outer := outer
  stack := envS qual scope s.heap.objs.size f cd cc :: outer
  ex := []
  calm := cm
  fn := fun x => !(x == clsS)
  pn := pn
  xe := fun e s' => wpAny (model P w) (A.deeper (envS qual scope s.heap.objs.size f cd cc)) (leaving (envS qual scope s.heap.objs.size f cd cc) e) (fun _ s'' => CX outer H s E e s'') (fun e' s'' => CX outer H s E e' s'') s'
theorem rev_zip : ∀ {ps : List Str} {us : List Value} {i : Nat} {x : Str} {u : Value}, ps.Nodup → ps[i]? = some x → us[i]? = some u → (ps.zip us).reverse.lookup x = some u
  | [], _, _, _, _, _, h, _ => by simp at h
  | _ :: _, [], _, _, _, _, _, h => by simp at h
  | p :: ps, v :: us, i, x, u, nd, h1, h2 => by
    rw [List.nodup_cons] at nd
    rw [List.zip_cons_cons, List.reverse_cons, List.lookup_append]
    cases i with
    | zero =>
      simp at h1 h2
      subst h1 h2
      have : (ps.zip us).reverse.lookup p = none := by
        rw [List.lookup_eq_none_iff]
        intro q hq
        have m := (List.of_mem_zip (List.mem_reverse.mp hq)).1
        have ne : p ≠ q.1 := fun z => nd.1 (z ▸ m)
        simpa using ne
      rw [this]
      simp
    | succ i =>
      rw [rev_zip nd.2 (by simpa using h1) (by simpa using h2)]
      rfl
section
variable {CX : CXT} {P : Program} {w : World} {K : PySem.W.Frag} {mg : Str → Option Value} {base : Heap} {N ps : List Str} {name qual : Str} {params : Arguments} {body : List Stmt} {scope : Scope} {fd : FuncData} {C f cc cda : Addr}
theorem inv_sup {cm : Bool} {pn : List (Addr × Obj)} {A : Around} {outer : List Env} {s : Shared} {H : Hp} {E : XK} {us : List Value} {vs : List V} {h0 : Heap} {tk : Nat} (F : Sup P K C f cc cda name qual params body scope fd) (S : SupScope N ps scope) (hd : cm = true → A.handled = none) (hpn : ∀ p ∈ pn, L2H.PinOk outer H s p) (e0 : Env0 P w K mg base A outer s H) (hl : vs.length = ps.length) (r : Vals vs us)
    (hns : h0.Ns s.heap.objs.size fun x => (ps.zip us).reverse.lookup x) (hk : ∀ b o, s.heap.get? b = some o → h0.get? b = some o) : Inv (cxS CX P w K mg base N qual scope f (.ref cda) cc A outer s H E cm pn) [] (L2.start N vs) H { s with heap := h0, toks := tk } := by
  have hpl : ps.length ≤ N.length := by
    have := congrArg List.length S.pre
    rw [List.length_take] at this
    omega
  obtain ⟨cl, cld, csl, lc⟩ := F.cell
  have bc := e0.mod.kin _ _ lc
  have one : ∀ x c, (envS qual scope s.heap.objs.size f (.ref cda) cc).cells.lookup x = some c → x = clsS ∧ c = cc := fun x c h => by
    have h' : List.lookup x [(clsS, cc)] = some c := h
    rw [List.lookup_cons] at h'
    split at h'
    · rename_i z
      exact ⟨by simpa using z, (Option.some.inj h').symm⟩
    · cases h'
  refine ⟨⟨e0.mod, S.kind, rfl, rfl, Nat.le_refl _, fun x y c h1 h2 => (one x c h1).1.trans (one y c h2).1.symm, fun y hy => ?_, fun y c hf h => ?_, hd, Around.frames_deeper e0.frames, .inr ⟨rfl, rfl⟩, (fun b z => nomatch z), e0.bs, e0.bsz, (fun b _ _ z => nomatch z), (fun b z => nomatch z), e0.funs, e0.frf⟩,
    rfl, e0.bare, Un.kept hk, ⟨_, hns, fun i y v h1 h2 h3 => ?_⟩, fun y c h => ?_, e0.hok.fresh (Nat.le_refl _), fun y c h => ?_, fun p hp => ?_, e0.hok.kept hk, ?_⟩
  · have hy : scope.names.lookup y = some .cell ∨ scope.names.lookup y = some .free := hy
    rcases hy with hy | hy
    · exact absurd rfl (S.cell _ (PySem.mem_of_lookup hy))
    · have := S.free _ (PySem.mem_of_lookup hy) rfl
      subst this
      exact ⟨cc, by simp⟩
  · have := (one y c h).1
    subst this
    simp at hf
  · have hi : i < vs.length := by
      unfold L2.start at h2
      by_cases hi : i < vs.length
      · exact hi
      · rw [List.getElem?_append_right (by simpa using hi), List.getElem?_replicate] at h2
        split at h2 <;> cases h2
    have ha : vs[i]? = some v := by
      unfold L2.start at h2
      rw [List.getElem?_append_left (by simpa using hi), List.getElem?_map] at h2
      cases e : vs[i]? with
      | none =>
        rw [e] at h2
        cases h2
      | some a =>
        rw [e] at h2
        cases h2
        rfl
    obtain ⟨u, hu, rv⟩ := r.get ha
    have hp : ps[i]? = some y := by
      rw [← S.pre, List.getElem?_take_of_lt (by omega)]
      exact h1
    have ndP : ps.Nodup := by
      rw [← S.pre]
      exact S.nd.sublist (List.take_sublist _ _)
    exact ⟨u, rv, .inl ⟨S.par y (List.mem_of_getElem? hp), rev_zip ndP hp hu⟩⟩
  · obtain ⟨_, rfl⟩ := one y c h
    exact ⟨some (.ref C), _, hk _ _ (e0.bs _ _ bc).1, rfl⟩
  · obtain ⟨_, rfl⟩ := one y c h
    exact (e0.bs _ _ bc).2
  · have hp' : p ∈ pn := by simpa using hp
    have q := hpn p hp'
    exact ⟨hk p.1 p.2 q.get, q.free, Nat.ne_of_lt (Heap.lt_size q.get), q.nofs, q.nocell⟩
  · unfold L2.start
    show _ = N.length
    rw [List.length_append, List.length_map, List.length_replicate]
    omega
end

/-! ### super().__init__(e) -/
section
variable {CX : CXT} {P : Program} {w : World} {K : PySem.W.Frag} {mg : Str → Option Value} {base : Heap} {N ps : List Str} {name qual : Str} {params : Arguments} {body bod : List Stmt} {scope : Scope} {fd : FuncData} {C f cc cda : Addr} {A : Around} {outer : List Env} {s0 : Shared} {H0 : Hp} {E0 : XK} {cm : Bool} {pn : List (Addr × Obj)}
theorem OexC.cd (T : OexC K C) : ∃ cd, PySem.W.clsIn K C = some cd := by
  obtain ⟨nm, q, N, bs, bm, sn, sub, ab, col, dd, k0, k1, k2, k3, k5, hC, _⟩ := T.cls
  exact ⟨_, by unfold PySem.W.clsIn; rw [hC]⟩
theorem OexC.at (T : OexC K C) {h : Heap} (X : K.In h) : ∃ oD cd, h.get? C = some oD ∧ oD.data = .cls cd := by
  obtain ⟨nm, q, N, bs, bm, sn, sub, ab, col, dd, k0, k1, k2, k3, k5, hC, _⟩ := T.cls
  exact ⟨_, _, X _ _ hC, rfl⟩
theorem callMw {u e t0 : Addr} {rest : List Value} {h : Heap} {g : Array GenState} {d : Drawn} {t : Nat} {os : OsState} {A : Around} {E : Value → Shared → Prop} {Q : Value → Shared → Prop} (T : OexC K C) (X : K.In h) (he : h.get? e = some ({ cls := .ref C, dict := none, data := .fields #[.ref t0, .none, .none, .none, .bool false, .none] } : Obj)) (hu : h.get? u = some (PySem.W.kxs_mw "ValueError.__init__" e)) (few : rest.length ≤ sizeLine)
    (q : ∀ h' t1, (∀ b o, b ≠ e → h.get? b = some o → h'.get? b = some o) → h'.get? e = some ({ cls := .ref C, dict := none, data := .fields #[.ref t1, .none, .none, .none, .bool false, .none] } : Obj) → Q .none ⟨h', g, d, t, os⟩) : wpAny (model P w) A (call (.ref u) rest) Q E ⟨h, g, d, t, os⟩ := by
  obtain ⟨nm, qq, N, bs, bm, sn, sub, ab, col, dd, k0, k1, k2, k3, k5, hC, _⟩ := T.cls
  refine wpAny_call (codeAny_of_tree ?_)
  show wpAny _ A.in1 (callAny (.ref u) ⟨rest, []⟩) _ _ _
  simp only [callAny]
  refine wpAny_bind (wpAny_load hu ?_)
  simp only [PySem.W.kxs_mw, show (Value.type "method-wrapper" == Value.type "method" || Value.type "method-wrapper" == Value.type "builtin_function_or_method" || Value.type "method-wrapper" == Value.type "method-wrapper") = true by decide, if_true]
  refine PySem.W.KFB.if_so (by decide) ?_
  refine wpAny_bind (PySem.W.check_bound_init F.excBase_ValueError.toExcCallFacts (X _ _ hC) he rfl ?_)
  refine wpAny_bind (wpAny_pure (wpAny_pure ?_))
  refine ⟨plainId_quiet F.excBase_ValueError.init.plain _, codeAny_builtin F.excBase_ValueError.initEntry ?_⟩
  exact PySem.W.exc_init_tree (cls := .ref C) (t0 := t0) (dv := none) (c2 := .none) (c3 := .none) (b4 := .bool false) he few fun h' k e' _ => q h' _ k e'
theorem super_stmt {pl : Sem Bool} {pins : List (Addr × Obj)} {σ : L2.St} {H : Hp} {s : Shared} {a : Addr} {e : Expr} {te : TE} {p0 p1 p2 p3 p4 : Pos} {Q : Hp → Prop} (F : Sup P K C f cc cda name qual params bod scope fd) (S : SupScope N ps scope)
    (hp : (params.posonlyargs ++ params.args).head?.map (·.arg) = some ("self" : Str)) (h0 : N[0]? = some ("self" : Str)) (hls : scope.names.lookup ("self" : Str) = some .local) (hsup : mg "super" = none) (I : Inv (cxS CX P w K mg base N qual scope f (.ref cda) cc A outer s0 H0 E0 cm pn) pins σ H s) (hσ : σ[0]? = some (some (.ref a))) (ha : H a = some (exo a C none))
    (he : PE (cxS CX P w K mg base N qual scope f (.ref cda) cc A outer s0 H0 E0 cm pn) e te) (h : te σ H fun y H1 => H1 a = some (exo a C none) ∧ Q H1) (hsw : swapsWith (.Call (.Attribute (.Call (.Name "super" p0) [] [] p1) "__init__" p2) [e] [] p3) none p4.line (envS qual scope s0.heap.objs.size f (.ref cda) cc) = pure false := by rfl)
    (hst : starEach [e] (envS qual scope s0.heap.objs.size f (.ref cda) cc) = (false, eval e (envS qual scope s0.heap.objs.size f (.ref cda) cc)) :: starEach [] (envS qual scope s0.heap.objs.size f (.ref cda) cc) := by rfl)
    (hev : eval (.Call (.Attribute (.Call (.Name "super" p0) [] [] p1) "__init__" p2) [e] [] p3) (envS qual scope s0.heap.objs.size f (.ref cda) cc) = (do
      let ov ← attributeBase (.Call (.Name "super" p0) [] [] p1) "__init__" (envS qual scope s0.heap.objs.size f (.ref cda) cc) (eval (.Call (.Name "super" p0) [] [] p1) (envS qual scope s0.heap.objs.size f (.ref cda) cc))
      standAt p2.atName
      let (g, first) ← holding [ov] (getMethod ov "__init__" pl)
      callWith p3 g first (backTo p3 (starEach [e] (envS qual scope s0.heap.objs.size f (.ref cda) cc))) []) := by rfl) :
    _root_.PySem.wpAt (model P w) (A.deeper (envS qual scope s0.heap.objs.size f (.ref cda) cc)) (.func body (envS qual scope s0.heap.objs.size f (.ref cda) cc)) (exec (.Expr (.Call (.Attribute (.Call (.Name "super" p0) [] [] p1) "__init__" p2) [e] [] p3) p4) (envS qual scope s0.heap.objs.size f (.ref cda) cc))
      (fun fl s' => fl = .next ∧ ∃ H', Inv (cxS CX P w K mg base N qual scope f (.ref cda) cc A outer s0 H0 E0 cm pn) pins σ H' s' ∧ Q H') (cxS CX P w K mg base N qual scope f (.ref cda) cc A outer s0 H0 E0 cm pn).xe s := by
  obtain ⟨oc, od, dV, kV, doc, pm, an, ct, osl, efd, lf⟩ := F.fn
  obtain ⟨ccl, cdd, vs, ccs, fl, tf, lcd, evs, efl⟩ := F.file
  obtain ⟨cl, cld, csl, lcc⟩ := F.cell
  have X := I.kIn
  obtain ⟨oD, cdD, hD, hDd⟩ := OexC.at F.T X
  obtain ⟨t1, hx⟩ := exo_at I.hok ha
  obtain ⟨ar, har, ear⟩ : ∃ ar, (params.posonlyargs ++ params.args).head? = some ar ∧ ar.arg = ("self" : Str) := by
    cases q : (params.posonlyargs ++ params.args).head? with
    | none =>
      rw [q] at hp
      cases hp
    | some ar =>
      rw [q] at hp
      exact ⟨ar, rfl, Option.some.inj hp⟩
  obtain ⟨m, hns, hlo⟩ := I.loc
  obtain ⟨u, ru, lk⟩ := hlo 0 "self" (.ref a) h0 hσ (.inl hls)
  obtain rfl : u = Value.ref a := ru
  have hm : m "self" = some (.ref a) := by
    rcases lk with ⟨_, z⟩ | ⟨z, _⟩
    · exact z
    · have z' : scope.names.lookup ("self" : Str) = some .cell ∨ scope.names.lookup ("self" : Str) = some .free := z
      rw [hls] at z'
      rcases z' with z' | z' <;> cases z'
  refine PySem.ks_wpAt_Expr_any ?_ (by simp [interactive, S.kind]) hsw
  refine PySem.ks_wpAt_MethodCall (pl := pl) ?_ hev
  refine PySem.ks_wpAt_super_base (env := envS qual scope s0.heap.objs.size f (.ref cda) cc) S.sup S.cls (by decide) rfl (X _ _ lf) (show _ = Data.func fd from rfl) (by rw [efd]; exact har) rfl (X _ _ lcd) rfl evs efl F.top ?_
  obtain ⟨mb, b1, b2⟩ := I.mod.blt
  refine PySem.W.ks_loadName_global S.kind S.sup (Calls.loadGlobal_builtin (env := envS qual scope s0.heap.objs.size f (.ref cda) cc) (v := .type "super") (I.mod.glob.keeps I.bk) hsup (b1.keeps I.bk) ((b2 "super" (by decide)).trans (by decide +kernel)) ⟨rfl, ?_⟩)
  refine wpAny_loadName_free S.kind S.cls (c := cc) (v := .ref C) (by simp) ⟨_, X _ _ lcc, rfl⟩ ?_
  rw [ear]
  refine wpAny_loadName_local S.kind hls hns hm ?_
  refine PySem.ks_wpAny_isType_cls hD hDd ⟨rfl, ?_⟩
  obtain ⟨hp1, g, d, tk, os⟩ := s
  refine PySem.ks_wpAny_call_super hD hDd hx rfl (fun c z => nomatch z) (PySem.W.looks_mroIn X F.sub) fun h1 hso k1 => ?_
  have I1 : Inv (cxS CX P w K mg base N qual scope f (.ref cda) cc A outer s0 H0 E0 cm pn) pins σ H ⟨h1, g, d, tk, os⟩ := I.kept (t' := tk) k1
  obtain ⟨cdc, hcd⟩ := OexC.cd F.T
  have hx1 := k1 _ _ hx
  have inst : PySem.W.InstAt h1 a { cls := .ref C, dict := none, data := .fields #[.ref t1, .none, .none, .none, .bool false, .none] } C none := ⟨hx1, rfl, rfl, trivial⟩
  have isI : PySem.W.Looks (model P w) h1 (isInstance (.ref a) (.type "ValueError")) true := inst.type.andThen (PySem.W.looks_subIn I1.kIn F.ve)
  have al : PySem.W.alongIn K "__init__" ((cdc.mro.dropWhile (· != .ref C)).drop 1) = some (some (.builtin "ValueError.__init__")) := by
    have z := F.sup
    unfold PySem.W.ks_superIn at z
    rw [hcd] at z
    exact z
  refine PySem.W.kxs_getMethod PySem.W.kxs_ValueError hso (PySem.W.looks_opaque I1.kIn F.opq) (l₀ := cdc.mro) (fun A Q E s k q => wpAny_bind ((PySem.W.looks_clsIn I1.kIn hcd) A _ E s k (wpAny_pure q))) rfl I1.kIn al isI (PySem.W.ks_ne I1.kIn inst hcd) (by decide) ?_
  have k2 : ∀ b o, h1.get? b = some o → (h1.push (PySem.W.kxs_mw "ValueError.__init__" a)).get? b = some o := fun b o z => Heap.get?_push_of_some _ z
  have I2 : Inv (cxS CX P w K mg base N qual scope f (.ref cda) cc A outer s0 H0 E0 cm pn) pins σ H ⟨h1.push (PySem.W.kxs_mw "ValueError.__init__" a), g, d, tk + 1, os⟩ := I1.kept (t' := tk + 1) k2
  have hu : (h1.push (PySem.W.kxs_mw "ValueError.__init__" a)).get? h1.objs.size = some (PySem.W.kxs_mw "ValueError.__init__" a) := Heap.get?_push_size _ rfl
  have fp := I1.fpOk (b := h1.objs.size) (Nat.le_refl _) (I1.hok.fresh (Nat.le_refl _))
  have I3 : Inv (cxS CX P w K mg base N qual scope f (.ref cda) cc A outer s0 H0 E0 cm pn) (pins ++ [(h1.objs.size, PySem.W.kxs_mw "ValueError.__init__" a)]) σ H ⟨h1.push (PySem.W.kxs_mw "ValueError.__init__" a), g, d, tk + 1, os⟩ := I2.pins_of fun p hp => by
    rcases List.mem_append.mp hp with z | z
    · exact I2.pin p (List.mem_append_right _ z)
    · rw [List.mem_singleton.mp z]
      obtain ⟨f0, f1, f2, _⟩ := fp
      exact ⟨hu, f0, f1, f2, fun v z => nomatch z⟩
  refine PySem.W.kxs_callWith (i := "ValueError.__init__") (x := a) (by rw [hst]; rfl) ?_
  rw [hst]
  show wpAny _ _ (evalArgs _ true ((false, eval e (envS qual scope s0.heap.objs.size f (.ref cda) cc)) :: backTo p3 (starEach [] (envS qual scope s0.heap.objs.size f (.ref cda) cc))) []) _ _ _
  refine Calls.evalArgs_plain ?_
  refine Calls.spliced_cons (thn (he.run _ _ σ H _ I3 h) fun v s4 ⟨y, H1, I4, ry, ha1, q1⟩ => Calls.spliced_nil ?_)
  have hu4 : s4.heap.get? h1.objs.size = some (PySem.W.kxs_mw "ValueError.__init__" a) := (I4.pin _ (List.mem_append_right _ (List.mem_append_right _ (List.mem_singleton.mpr rfl)))).1
  refine ⟨hu4, ?_⟩
  have I5 := I4.unpinned
  obtain ⟨t2, hx4⟩ := exo_at I5.hok ha1
  obtain ⟨hp4, g4, d4, tk4, os4⟩ := s4
  refine callMw F.T I5.kIn hx4 hu4 (by show 1 ≤ sizeLine; decide) fun h' t3 k e' => ?_
  have J := I5.write (t' := tk4) (x := a) (e := a) (o := exo a C none) (by rw [ha1]; exact True.intro) (.inl rfl) k ⟨_, e'⟩ (exo_ok e')
  have eu : upd H1 a (exo a C none) = H1 := by
    funext b
    by_cases hb : b = a
    · rw [hb, upd_same, ha1]
    · rw [upd_ne hb]
  rw [eu] at J
  exact ⟨rfl, H1, J, q1⟩
/-- such an __init__ runs -/
theorem sup_run {pl : Sem Bool} {e : Expr} {rest : List Stmt} {p0 p1 p2 p3 p4 : Pos} (F : Sup P K C f cc cda name qual params (.Expr (.Call (.Attribute (.Call (.Name "super" p0) [] [] p1) "__init__" p2) [e] [] p3) p4 :: rest) scope fd) (S : SupScope N ps scope)
    (hp : (params.posonlyargs ++ params.args).head?.map (·.arg) = some ("self" : Str)) (h0 : ps[0]? = some ("self" : Str)) (hsup : mg "super" = none) 
    (hsw : ∀ L, swapsWith (.Call (.Attribute (.Call (.Name "super" p0) [] [] p1) "__init__" p2) [e] [] p3) none p4.line (envS qual scope L f (.ref cda) cc) = pure false)
    (hst : ∀ L, starEach [e] (envS qual scope L f (.ref cda) cc) = (false, eval e (envS qual scope L f (.ref cda) cc)) :: starEach [] (envS qual scope L f (.ref cda) cc))
    (hev : ∀ L, eval (.Call (.Attribute (.Call (.Name "super" p0) [] [] p1) "__init__" p2) [e] [] p3) (envS qual scope L f (.ref cda) cc) = (do
      let ov ← attributeBase (.Call (.Name "super" p0) [] [] p1) "__init__" (envS qual scope L f (.ref cda) cc) (eval (.Call (.Name "super" p0) [] [] p1) (envS qual scope L f (.ref cda) cc))
      standAt p2.atName
      let (g, first) ← holding [ov] (getMethod ov "__init__" pl)
      callWith p3 g first (backTo p3 (starEach [e] (envS qual scope L f (.ref cda) cc))) []))
    {A : Around} {outer : List Env} {s : Shared} {H : Hp} {args : Args} {us : List Value} {vs : List V} {Q : VK} {E : XK} (dep : A.depth < recursionLimit) (hd : cm = true → A.handled = none) (hpn : ∀ p ∈ pn, L2H.PinOk outer H s p) (e0 : Env0 P w K mg base A outer s H) (hb : BindsTo s fd args (ps.zip us)) (r : Vals vs us) (hl : vs.length = ps.length)
    (hbody : ∃ (a : Addr) (r : List V) (te : TE) (t : TS), vs = .ref a :: r ∧ H a = some (exo a C none) ∧ PE (cxS CX P w K mg base N qual scope f (.ref cda) cc A outer s H E cm pn) e te ∧ PSs (cxS CX P w K mg base N qual scope f (.ref cda) cc A outer s H E cm pn) rest t ∧
        te (L2.start N vs) H fun y H1 => H1 a = some (exo a C none) ∧ t { nx := fun _ H' => Q .non H', rt := Q } (L2.start N vs) H1) : codeAny (model P w) A (.call (.ref f) args) (CR CX outer P w H s Q E) s := by
  have KX : K.In s.heap := e0.mod.kin.keeps fun b o e => (e0.bs b o e).1
  have lim : s.heap.NoLimit := e0.mod.nolimit.keeps fun b o e => (e0.bs b o e).1
  have F' := F
  obtain ⟨oc, od, dV, kV, doc, pm, an, ct, osl, efd, lf⟩ := F.fn
  subst efd
  refine PySem.ks_codeAny_call_defAt (fd := PySem.W.fnX name qual params _ scope [(clsS, cc)] dV kV doc pm an (.ref cda) ct) (binds := ps.zip us) dep (KX _ _ lf) rfl lim (PySem.W.codeRec_of KX F.code) rfl hb S.cell (fun y hy => S.par y.1 (List.of_mem_zip hy).1) (fun h1 hns hk => ?_) S.co S.gen S.kind
  obtain ⟨a, rr, te, t, ev, ha, he, ht, hq⟩ := hbody
  have I : Inv (cxS CX P w K mg base N qual scope f (.ref cda) cc A outer s H E cm pn) [] (L2.start N vs) H { s with heap := h1, toks := s.toks + (ps.zip us).length } := inv_sup F' S hd hpn e0 hl r hns hk
  have hN : N[0]? = some ("self" : Str) := by
    rw [← S.pre] at h0
    rw [List.getElem?_take] at h0
    split at h0
    · exact h0
    · cases h0
  have hσ : (L2.start N vs)[0]? = some (some (.ref a)) := by
    rw [ev]
    rfl
  refine PySem.ks_wpAt_execs_cons (PySem.ks_wpAt_mono (super_stmt (body := _) (Q := fun H1 => t { nx := fun _ H' => Q .non H', rt := Q } (L2.start N vs) H1) F' S hp hN (S.par _ (List.mem_of_getElem? h0)) hsup I hσ ha he hq (hsw _) (hst _) (hev _)) (fun fl s' h => ?_) fun _ _ z => z)
  obtain ⟨efl, H1, I1, q1⟩ := h
  subst efl
  refine wpAt_of_wpAny (wpAny_mono (ht.run [] s' (L2.start N vs) H1 _ I1 q1) (fun fl s2 hs => ?_) fun _ _ z => z)
  have fin : ∀ {σ' : L2.St} {H' : Hp} {v : V} {u : Value}, Inv (cxS CX P w K mg base N qual scope f (.ref cda) cc A outer s H E cm pn) [] σ' H' s2 → RelV v u → Q v H' → CE outer P w H s Q u s2 := fun {σ' H' v u} J rv q => ⟨v, H', J.os, J.bare, J.base, J.hok, rv, q⟩
  cases fl with
  | ret u =>
    obtain ⟨v, σ', H', J, rv, q⟩ := hs
    exact fin J rv q
  | next =>
    obtain ⟨σ', H', J, q⟩ := hs
    exact fin (v := V.non) (u := Value.none) J rfl q
  | brk =>
    obtain ⟨_, _, _, q⟩ := hs
    exact q.elim
  | cont =>
    obtain ⟨_, _, _, q⟩ := hs
    exact q.elim
/-- THE RULE for such an __init__ -/
theorem sup_fn {pl : Sem Bool} {k : Nat} {sp : Sp} {e : Expr} {rest : List Stmt} {p0 p1 p2 p3 p4 : Pos} (F : Sup P K C f cc cda name qual params (.Expr (.Call (.Attribute (.Call (.Name "super" p0) [] [] p1) "__init__" p2) [e] [] p3) p4 :: rest) scope fd) (S : SupScope N ps scope)
    (hp : (params.posonlyargs ++ params.args).head?.map (·.arg) = some ("self" : Str)) (h0 : ps[0]? = some ("self" : Str)) (hsup : mg "super" = none) (len : ∀ vs H Q E, sp vs H Q E → vs.length = ps.length)
    (hsw : ∀ L, swapsWith (.Call (.Attribute (.Call (.Name "super" p0) [] [] p1) "__init__" p2) [e] [] p3) none p4.line (envS qual scope L f (.ref cda) cc) = pure false)
    (hst : ∀ L, starEach [e] (envS qual scope L f (.ref cda) cc) = (false, eval e (envS qual scope L f (.ref cda) cc)) :: starEach [] (envS qual scope L f (.ref cda) cc))
    (hev : ∀ L, eval (.Call (.Attribute (.Call (.Name "super" p0) [] [] p1) "__init__" p2) [e] [] p3) (envS qual scope L f (.ref cda) cc) = (do
      let ov ← attributeBase (.Call (.Name "super" p0) [] [] p1) "__init__" (envS qual scope L f (.ref cda) cc) (eval (.Call (.Name "super" p0) [] [] p1) (envS qual scope L f (.ref cda) cc))
      standAt p2.atName
      let (g, first) ← holding [ov] (getMethod ov "__init__" pl)
      callWith p3 g first (backTo p3 (starEach [e] (envS qual scope L f (.ref cda) cc))) []))
    (hbody : ∀ (A : Around) (outer : List Env) (s : Shared) (H : Hp) (vs : List V) (Q : VK) (E : XK), Room k (A.deeper (envS qual scope s.heap.objs.size f (.ref cda) cc)) → sp vs H Q E →
      ∃ (a : Addr) (r : List V) (te : TE) (t : TS), vs = .ref a :: r ∧ H a = some (exo a C none) ∧ PE (cxS CX P w K mg base N qual scope f (.ref cda) cc A outer s H E true []) e te ∧ PSs (cxS CX P w K mg base N qual scope f (.ref cda) cc A outer s H E true []) rest t ∧
        te (L2.start N vs) H fun y H1 => H1 a = some (exo a C none) ∧ t { nx := fun _ H' => Q .non H', rt := Q } (L2.start N vs) H1) : FnOk P w K mg base CX (k + 1) f fd ps sp :=
  ⟨len, fun A outer s H args us vs Q E hr e0 hb r hsp => sup_run (cm := true) (pn := []) F S hp h0 hsup hsw hst hev hr.depth (fun _ => hr.hd) (fun p z => nomatch z) e0 hb r (len _ _ _ _ hsp) (hbody A outer s H vs Q E (hr.deeper _) hsp)⟩
/-- while an exception is handled -/
theorem sup_fnH {pl : Sem Bool} {k : Nat} {sp : Sp} {e : Expr} {rest : List Stmt} {p0 p1 p2 p3 p4 : Pos} (F : Sup P K C f cc cda name qual params (.Expr (.Call (.Attribute (.Call (.Name "super" p0) [] [] p1) "__init__" p2) [e] [] p3) p4 :: rest) scope fd) (S : SupScope N ps scope)
    (hp : (params.posonlyargs ++ params.args).head?.map (·.arg) = some ("self" : Str)) (h0 : ps[0]? = some ("self" : Str)) (hsup : mg "super" = none) (len : ∀ vs H Q E, sp vs H Q E → vs.length = ps.length)
    (hsw : ∀ L, swapsWith (.Call (.Attribute (.Call (.Name "super" p0) [] [] p1) "__init__" p2) [e] [] p3) none p4.line (envS qual scope L f (.ref cda) cc) = pure false)
    (hst : ∀ L, starEach [e] (envS qual scope L f (.ref cda) cc) = (false, eval e (envS qual scope L f (.ref cda) cc)) :: starEach [] (envS qual scope L f (.ref cda) cc))
    (hev : ∀ L, eval (.Call (.Attribute (.Call (.Name "super" p0) [] [] p1) "__init__" p2) [e] [] p3) (envS qual scope L f (.ref cda) cc) = (do
      let ov ← attributeBase (.Call (.Name "super" p0) [] [] p1) "__init__" (envS qual scope L f (.ref cda) cc) (eval (.Call (.Name "super" p0) [] [] p1) (envS qual scope L f (.ref cda) cc))
      standAt p2.atName
      let (g, first) ← holding [ov] (getMethod ov "__init__" pl)
      callWith p3 g first (backTo p3 (starEach [e] (envS qual scope L f (.ref cda) cc))) []))
    (hbody : ∀ (p : Addr × Obj) (A : Around) (outer : List Env) (s : Shared) (H : Hp) (vs : List V) (Q : VK) (E : XK), L2H.RoomH k (A.deeper (envS qual scope s.heap.objs.size f (.ref cda) cc)) → sp vs H Q E →
      ∃ (a : Addr) (r : List V) (te : TE) (t : TS), vs = .ref a :: r ∧ H a = some (exo a C none) ∧ PE (cxS CX P w K mg base N qual scope f (.ref cda) cc A outer s H E false [p]) e te ∧ PSs (cxS CX P w K mg base N qual scope f (.ref cda) cc A outer s H E false [p]) rest t ∧
        te (L2.start N vs) H fun y H1 => H1 a = some (exo a C none) ∧ t { nx := fun _ H' => Q .non H', rt := Q } (L2.start N vs) H1) : L2H.FnH P w K mg base CX (k + 1) f fd ps sp :=
  ⟨len, fun A outer s H args us vs Q E p hr hot hpin e0 hb r hsp => sup_run (cm := false) (pn := [p]) F S hp h0 hsup hsw hst hev hr.depth (fun z => nomatch z) (fun q z => by rw [List.mem_singleton.mp z]; exact hpin) e0 hb r (len _ _ _ _ hsp) (hbody p A outer s H vs Q E (hr.deeper _) hsp)⟩
end
end Ex

set_option Elab.async false
set_option linter.all false
set_option maxRecDepth 100000
set_option maxHeartbeats 2000000
/-! Ex31: raising own exceptions, by mirrors. -/
namespace Ex
open PySem PySem.Spec PyProof.Rows L2
variable {T : Tab} {K : PySem.W.Frag} {X : Cx} {μ : Mu} {C : CH} {H : Hp}
section
variable {CX : CXT} {x : Str} {e : Expr} {es : List Expr} {ta : TA} {p pos : Pos} {D fI : Addr} {k : Nat} {fd : FuncData} {ps : List Str} {sp : Sp}
/-- C(e, ..) with nothing handled: the exception's context is None -/
theorem pmkN_oex (G : OexC X.K D) (iC : PySem.W.findIn X.K (.ref D) "__init__" = some (some (.ref fI))) (tI : PySem.W.typeIn X.K (.ref fI) = some (.type "function")) (F1 : FnOk X.prog X.w X.K X.mg X.base CX k fI fd ps sp) (hr : Room (k + 1) X.A) (hb : Binds X.K fd ps []) (hx : Passes CX X (fun _ _ _ => False)) (hg : Gl X x) (hm : X.mg x = some (.ref D)) (ha : PA X (e :: es) ta)
    (hdb : (x == ("__debug__" : Str)) = false := by decide) (he : starEach (e :: es) X.env = (false, eval e X.env) :: starEach es X.env := by rfl) (hpl : (backTo pos (starEach es X.env)).any (·.1) = false := by rfl) : L2N.PMk X (.Call (.Name x p) (e :: es) [] pos) (tMkO D sp [] ta) := by
  intro pins s σ H Q I h
  obtain ⟨nm, q, N, bs, bm, sn, sub, ab, col, dd, k0, k1, k2, k3, k5, hC, hbm⟩ := G.cls
  refine wpAny_Call_Name_kw (ld_glob I hg hm ?_ hdb)
  refine PySem.W.callWith_K (h₀ := X.base) I.ok.mod.kin G.kC (thn (ha.run pos pins s σ H _ I h) fun us s1 ⟨vs, H1, I1, r1, hz, q1⟩ => ⟨I1.kIn, ?_⟩) he hpl
  show wpAny _ _ (call (.ref D) us) _ _ _
  obtain ⟨hp, g, dr, tk, os⟩ := s1
  have up : hp.objs.size ≤ hp.objs.size + 1 := Nat.le_succ _
  have hn : H1 (hp.objs.size + 1) = none := I1.hok.fresh up
  have hq := q1 (hp.objs.size + 1) hn
  have kk : ∀ b o, hp.get? b = some o → ((hp.push (PySem.W.kdv_tup us)).push (PySem.HandSPX.excO D hp.objs.size)).get? b = some o := fun b o z => Heap.get?_push_of_some _ (Heap.get?_push_of_some _ z)
  have new : ((hp.push (PySem.W.kdv_tup us)).push (PySem.HandSPX.excO D hp.objs.size)).get? (hp.objs.size + 1) = some (PySem.HandSPX.excO D hp.objs.size) := by heap_get
  have I2 : Inv X pins σ (upd H1 (hp.objs.size + 1) (exo (hp.objs.size + 1) D none)) ⟨(hp.push (PySem.W.kdv_tup us)).push (PySem.HandSPX.excO D hp.objs.size), g, dr, tk, os⟩ := I1.laid (t' := tk) kk up (exo_ok new)
  have r2 : Vals (V.ref (hp.objs.size + 1) :: (vs ++ [])) (Value.ref (hp.objs.size + 1) :: us) := by
    rw [List.append_nil]
    exact .cons rfl r1
  have hl : (Value.ref (hp.objs.size + 1) :: us).length = ps.length := by
    have z := r2.length
    rw [F1.len _ _ _ _ hq] at z
    exact z.symm
  have few : us.length ≤ sizeLine := by
    rw [← Paired.length r1, sizeLine_eq]
    omega
  have b2 := hb _ (Value.ref (hp.objs.size + 1) :: us) I2.kIn (by rw [List.append_nil]; exact hl)
  rw [List.append_nil] at b2
  refine wpAny_call (PySem.HandSPX.call_own F.excBase_ValueError (fun Y => PySem.HandSPX.refsVE_contains Y bm hbm) (I1.kIn _ _ hC) (PySem.W.looks_findIn I1.kIn iC) (fun self => PySem.W.bind_fn I1.kIn self tI) few
    (codeAny_mono (F1.run _ X.stack _ _ ⟨Value.ref (hp.objs.size + 1) :: us, []⟩ (Value.ref (hp.objs.size + 1) :: us) _ _ (fun _ _ _ => False) (hr.make D us []) (I2.env0.make D us []) b2 r2 hq) fun r s' hq' => ?_))
  cases r with
  | error er => exact hx pins σ _ _ er s' I2 hq'
  | ok fl =>
    cases fl with
    | ret u =>
      obtain ⟨v, H2, os2, bare2, un2, hok2, rv, ev, d, fs, ea, ed, hd1, q2⟩ := hq'
      subst ev
      obtain ⟨h2, g2, d2, t2, os'⟩ := s'
      obtain ⟨t0, G', J, kG, ge, hoe, na⟩ := mk_end0 (d2 := d2) (t2 := t2) I1 up kk un2 hok2 os2 bare2 ea ed hd1
      exact ⟨rv, ⟨hp.objs.size + 1, _, _, ⟨G', g2, d2, t2, os'⟩, _, .ref D, some d, rfl, J, kG, ge, hoe, ⟨rfl, rfl, fun vs hv => by cases hv; rfl⟩, rfl, rfl, na, rfl, bare2, raises_own G.exC G.tyC, q2⟩⟩
    | next => exact hq'.elim
    | brk => exact hq'.elim
    | cont => exact hq'.elim
end

/-! ### what the __init__s of such classes do -/
/-- one field, what is given -/
def spInit1 (D : Addr) (f : Str) : Sp := fun vs H Q _ => ∃ a y, vs = [.ref a, y] ∧ H a = some (exo a D none) ∧ ∀ dx, H dx = none → dx ≠ a → Q .non (upd (upd H dx (exd dx [(f, y)])) a (exo a D (some dx)))
/-- the end of making one: what was there is there -/
theorem made_exc {a dx : Addr} {H1 H2 : Hp} {fs : List (Str × V)} (ha : H1 a = none) (hd : H1 dx = none) (ext : ∀ b o, H1 b = some o → H2 b = some o) : ∀ b o, H1 b = some o → upd (del H2 a) dx (.xd fs) b = some o := fun b o e => by
  rw [upd_ne (ne_of_none e hd), del_ne (ne_of_none e ha)]
  exact ext b o e
/-- raise C(..): the fields, from what is given -/
def sRaise (c : Nat) (fl : List CV → Option (List (Nat × CV))) (as : AM) : SM := fun l C => match as l C with
  | .ok vs C1 => (match fl vs with
    | some fs => .exc c fs l C1
    | none => .bad)
  | .exc k fs l' C' => .exc k fs l' C'
  | .bad => .bad
/-- what raising needs of the class: from the values to the exception as it lies -/
structure Rsd (T : Tab) (K : PySem.W.Frag) (c : Nat) (sp : Sp) (fl : List CV → Option (List (Nat × CV))) : Prop where
  few : ∀ vs fs, fl vs = some fs → vs.length ≤ 1000
  run : ∀ {μ : Mu} {nx : Nat} {H : Hp} {cs : List CV} {vs : List V} {fs : List (Nat × CV)} {Q : XK} {a : Addr} {E : XK}, RVs K μ nx H cs vs → fl cs = some fs → H a = none → (∀ dx gs H', H dx = none → (∀ b o, H b = some o → H' b = some o) → H' dx = some (.xd gs) → (∀ i v, lkN fs i = some v → ∃ z x, T.nms[i]? = some z ∧ gs.lookup z = some x ∧ RV K μ nx H v x) → Q (.ref (T.cls c)) (some dx) H') →
    sp (.ref a :: (vs ++ [])) (upd H a (exo a (T.cls c) none)) (fun v H2 => v = .non ∧ ∃ (d : Addr) (gs : List (Str × V)), H2 a = some (exo a (T.cls c) (some d)) ∧ H2 d = some (exd d gs) ∧ H d = none ∧ Q (.ref (T.cls c)) (some d) (upd (del H2 a) d (.xd gs))) E
/-- fields by one value -/
def fl1 (i : Nat) : List CV → Option (List (Nat × CV))
  | [v] => some [(i, v)]
  | _ => none
theorem rsd1 {c i : Nat} {f : Str} (hf : T.nms[i]? = some f) : Rsd T K c (spInit1 (T.cls c) f) (fl1 i) where
  few := fun vs fs h => by
    unfold fl1 at h
    split at h
    · show 1 ≤ 1000
      omega
    · cases h
  run := fun {μ nx H cs vs fs Q a E} r h ha q => by
    unfold fl1 at h
    split at h
    · rename_i v
      cases h
      cases r with
      | cons r1 r2 =>
        cases r2
        rename_i y
        refine ⟨a, y, rfl, upd_same, fun dx hd ne => ⟨rfl, dx, [(f, y)], upd_same, by rw [upd_ne ne, upd_same], by rw [upd_ne ne] at hd; exact hd, ?_⟩⟩
        rw [upd_ne ne] at hd
        refine q dx _ _ hd (made_exc ha hd fun b o e => by rw [upd_ne (ne_of_none e ha), upd_ne (ne_of_none e hd), upd_ne (ne_of_none e ha)]; exact e) upd_same fun j w e => ?_
        unfold lkN at e
        cases eb : Nat.beq i j with
        | true =>
          rw [eb] at e
          cases e
          rw [← beq_t eb]
          exact ⟨f, y, hf, by simp, r1⟩
        | false =>
          rw [eb] at e
          unfold lkN at e
          cases e
    · cases h
theorem xs_raise {W : WX} {CX : CXT} {x : Str} {e : Expr} {es : List Expr} {as : AM} {p pos pos2 : Pos} {fI : Addr} {k c : Nat} {fd : FuncData} {ps : List Str} {sp : Sp} {fl : List CV → Option (List (Nat × CV))} (hc : X.calm = true) (tk : L2N.Takes X W) (R : Rsd T X.K c sp fl) (G : OexC X.K (T.cls c)) (iC : PySem.W.findIn X.K (.ref (T.cls c)) "__init__" = some (some (.ref fI))) (tI : PySem.W.typeIn X.K (.ref fI) = some (.type "function"))
    (F1 : FnOk X.prog X.w X.K X.mg X.base CX k fI fd ps sp) (hr : Room (k + 1) X.A) (hb : Binds X.K fd ps []) (hx : Passes CX X (fun _ _ _ => False)) (hg : Gl X x) (hm : X.mg x = some (.ref (T.cls c))) (ha : PA X (e :: es) (tA T X.K W as))
    (hdb : (x == ("__debug__" : Str)) = false := by decide) (he : starEach (e :: es) X.env = (false, eval e X.env) :: starEach es X.env := by rfl) (hpl : (backTo pos (starEach es X.env)).any (·.1) = false := by rfl) : PS X (.Raise (some (.Call (.Name x p) (e :: es) [] pos)) none pos2) (tS T X.K W (sRaise c fl as)) := by
  refine PS.imp (L2N.ps_raise hc tk (pmkN_oex G iC tI F1 hr hb hx hg hm ha hdb he hpl)) fun D σ H ⟨μ, l, C, r, rl, h⟩ => ?_
  refine ⟨μ, l, C, r, rl, ?_⟩
  unfold sRaise at h
  cases ea : as l C with
  | bad =>
    rw [ea] at h
    exact h
  | exc k fs l' C' =>
    rw [ea] at h
    exact h
  | ok vs C1 =>
    rw [ea] at h
    dsimp only at h
    cases ef : fl vs with
    | none =>
      rw [ef] at h
      exact (show False from h).elim
    | some fs =>
      rw [ef] at h
      intro μ1 H1 xs st rel rvs
      refine ⟨by rw [rvs.length]; exact R.few vs fs ef, fun a ha => R.run (Q := fun cls d H' => W cls d σ H') (E := fun _ _ _ => False) rvs ef ha fun dx gs H' hd ext ex fields => ?_⟩
      obtain ⟨r2, s2⟩ := same rel ext
      exact h μ1 H' σ _ _ (st.trans s2) r2 ((rl.step st).step s2) ⟨rfl, dx, gs, rfl, ex, fun i v e => by
        obtain ⟨z, y, e1, e2, e3⟩ := fields i v e
        exact ⟨z, y, e1, e2, e3.step s2⟩⟩
end Ex

set_option Elab.async false
set_option linter.all false
set_option maxRecDepth 100000
set_option maxHeartbeats 2000000
/-! Ex32: the __init__s of own exceptions. -/
namespace Ex
open PySem PySem.Spec PyProof.Rows L2
section
variable {CX : CXT} {P : Program} {w : World} {K : PySem.W.Frag} {mg : Str → Option Value} {base : Heap} {name qual : Str} {params : Arguments} {scope : Scope} {fd : FuncData} {D f cc cda : Addr} {fld y : Str} {p0 p1 p2 p3 p4 p5 p6 p7 p8 p9 : Pos} {pl : Sem Bool}
/-- super().__init__(y); self.fld = y -/
theorem init1_body {cm : Bool} {pn : List (Addr × Obj)} {A : Around} {outer : List Env} {s : Shared} {H : Hp} {E : XK} {vs : List V} {Q : VK} (G : OexC K D) (S : SupScope ["self", y] ["self", y] scope) (hno : PySem.W.findIn K (.ref D) fld = some none) (hy : (y == ("__debug__" : Str)) = false) (hy2 : (y == ("__classdict__" : Str)) = false) (h : spInit1 D fld vs H Q E)
    (hsw : ∀ L, swapsWith (.Name y p7) (some (.Attribute (.Name "self" p5) fld p6)) p8.line (envS qual scope L f (.ref cda) cc) = pure false) :
    ∃ (a : Addr) (r : List V) (te : TE) (t : TS), vs = .ref a :: r ∧ H a = some (exo a D none) ∧ PE (cxS CX P w K mg base ["self", y] qual scope f (.ref cda) cc A outer s H E cm pn) (.Name y p9) te ∧ PSs (cxS CX P w K mg base ["self", y] qual scope f (.ref cda) cc A outer s H E cm pn) [.Assign [.Attribute (.Name "self" p5) fld p6] (.Name y p7) p8] t ∧
      te (L2.start ["self", y] vs) H fun z H1 => H1 a = some (exo a D none) ∧ t { nx := fun _ H' => Q .non H', rt := Q } (L2.start ["self", y] vs) H1 := by
  obtain ⟨a, v, ev, ha, q⟩ := h
  subst ev
  have v1 : Vis scope y := .inl (S.par y (by simp))
  have v0 : Vis scope "self" := .inl (S.par "self" (by simp))
  refine ⟨a, [v], _, _, rfl, ha, pe_var (i := 1) rfl v1 hy hy2, pss_cons (ps_ost (pe_var (i := 0) rfl v0) (pe_var (i := 1) rfl v1 hy hy2) (hsw _)) pss_nil, v, rfl, ha, v, rfl, .ref a, rfl, a, D, rfl, G, hno, .inl ⟨ha, fun dx hd ne => q dx hd ne⟩⟩
/-! ### a place and a reason -/
/-- f'{place}: {reason}' can be told -/
def canSay (i : Int) (z : List Nat) : Bool := match i with
  | .ofNat n => Nat.blt n 100 && Nat.ble z.length 1000
  | _ => false
def spInit2 (D : Addr) (f g : Str) : Sp := fun vs H Q _ => ∃ a i z, vs = [.ref a, .int i, .str ⟨z.toArray⟩] ∧ canSay i z = true ∧ H a = some (exo a D none) ∧
  ∀ H1 dx, (∀ b o, H b = some o → H1 b = some o) → H1 dx = none → dx ≠ a → Q .non (upd (upd (upd H1 dx (exd dx [(f, .int i)])) a (exo a D (some dx))) dx (exd dx [(g, .str ⟨z.toArray⟩), (f, .int i)]))
def fl2 (i j : Nat) : List CV → Option (List (Nat × CV))
  | [.int n, .str z] => (match canSay n z with
    | true => some [(j, .str z), (i, .int n)]
    | false => none)
  | _ => none
theorem rsd2 {T : Tab} {c i j : Nat} {f g : Str} (hf : T.nms[i]? = some f) (hg : T.nms[j]? = some g) (ne : f ≠ g) : Rsd T K c (spInit2 (T.cls c) f g) (fl2 i j) where
  few := fun vs fs h => by
    unfold fl2 at h
    split at h
    · show 2 ≤ 1000
      omega
    · cases h
  run := fun {μ nx H cs vs fs Q a E} r h ha q => by
    unfold fl2 at h
    split at h
    · rename_i n z
      cases ec : canSay n z with
      | false =>
        rw [ec] at h
        cases h
      | true =>
        rw [ec] at h
        cases h
        cases r with
        | cons r1 r2 =>
          cases r2 with
          | cons r2 r3 =>
            cases r3
            cases r1
            cases r2
            refine ⟨a, n, z, rfl, ec, upd_same, fun H1 dx ext hd nea => ⟨rfl, dx, [(g, .str ⟨z.toArray⟩), (f, .int n)], by rw [upd_ne (Ne.symm nea), upd_same], upd_same, ?_, ?_⟩⟩
            · cases e : H dx with
              | none => rfl
              | some o =>
                have := ext dx o (by rw [upd_ne nea]; exact e)
                rw [hd] at this
                cases this
            · have hd0 : H dx = none := by
                cases e : H dx with
                | none => rfl
                | some o =>
                  have := ext dx o (by rw [upd_ne nea]; exact e)
                  rw [hd] at this
                  cases this
              refine q dx _ _ hd0 (made_exc ha hd0 fun b o e => ?_) upd_same fun k w e => ?_
              · rw [upd_ne (ne_of_none e hd0), upd_ne (ne_of_none e ha), upd_ne (ne_of_none e hd0)]
                exact ext b o (by rw [upd_ne (ne_of_none e ha)]; exact e)
              · unfold lkN at e
                cases eb : Nat.beq j k with
                | true =>
                  rw [eb] at e
                  cases e
                  rw [← beq_t eb]
                  exact ⟨g, _, hg, by simp, .str z⟩
                | false =>
                  rw [eb] at e
                  unfold lkN at e
                  cases ed : Nat.beq i k with
                  | true =>
                    rw [ed] at e
                    cases e
                    rw [← beq_t ed]
                    refine ⟨f, .int n, hf, ?_, .int n⟩
                    have : (f == g) = false := by simpa using ne
                    simp [List.lookup, this]
                  | false =>
                    rw [ed] at e
                    unfold lkN at e
                    cases e
    · cases h
/-- super().__init__(f'{y}: {z}'); self.f = y; self.g = z -/
theorem init2_body {y2 fld2 : Str} {q1 q2 q3 q4 q5 q6 q7 q8 : Pos} {n : Nat} {cm : Bool} {pn : List (Addr × Obj)} {A : Around} {outer : List Env} {s : Shared} {H : Hp} {E : XK} {vs : List V} {Q : VK} (G : OexC K D) (S : SupScope ["self", y, y2] ["self", y, y2] scope) (hno : PySem.W.findIn K (.ref D) fld = some none) (hno2 : PySem.W.findIn K (.ref D) fld2 = some none) (hy : (y == ("__debug__" : Str)) = false) (hy2 : (y == ("__classdict__" : Str)) = false) (hz : (y2 == ("__debug__" : Str)) = false) (hz2 : (y2 == ("__classdict__" : Str)) = false) (h : spInit2 D fld fld2 vs H Q E)
    (hsw : ∀ L, swapsWith (.Name y p7) (some (.Attribute (.Name "self" p5) fld p6)) p8.line (envS qual scope L f (.ref cda) cc) = pure false) (hsw2 : ∀ L, swapsWith (.Name y2 q7) (some (.Attribute (.Name "self" q5) fld2 q6)) q8.line (envS qual scope L f (.ref cda) cc) = pure false) :
    ∃ (a : Addr) (r : List V) (te : TE) (t : TS), vs = .ref a :: r ∧ H a = some (exo a D none) ∧ PE (cxS CX P w K mg base ["self", y, y2] qual scope f (.ref cda) cc A outer s H E cm pn) (.JoinedStr [.FormattedValue (.Name y p9) (-1) none q1, .Constant (.str ⟨#[58, 32]⟩) n q2, .FormattedValue (.Name y2 q3) (-1) none q4] p4) te ∧
      PSs (cxS CX P w K mg base ["self", y, y2] qual scope f (.ref cda) cc A outer s H E cm pn) [.Assign [.Attribute (.Name "self" p5) fld p6] (.Name y p7) p8, .Assign [.Attribute (.Name "self" q5) fld2 q6] (.Name y2 q7) q8] t ∧
      te (L2.start ["self", y, y2] vs) H fun z H1 => H1 a = some (exo a D none) ∧ t { nx := fun _ H' => Q .non H', rt := Q } (L2.start ["self", y, y2] vs) H1 := by
  obtain ⟨a, i, z, ev, sz, ha, q⟩ := h
  subst ev
  have v1 : Vis scope y := .inl (S.par y (by simp))
  have v2 : Vis scope y2 := .inl (S.par y2 (by simp))
  have v0 : Vis scope "self" := .inl (S.par "self" (by simp))
  let T : Tab := ⟨fun _ => 0, [], List.nodup_nil⟩
  refine ⟨a, [.int i, .str ⟨z.toArray⟩], _, _, rfl, ha, xe_joined (T := T) (W := fun _ _ _ _ => False) (ms := [xFmt (xVar 1), xC (.str [58, 32]), xFmt (xVar 2)]) (.cons (xe_fmt (xe_var 1 rfl v1 hy hy2)) (.cons (xe_str [58, 32]) (.cons (xe_fmt (xe_var 2 rfl v2 hz hz2)) .nil))),
    pss_cons (ps_ost (pe_var (i := 0) rfl v0) (pe_var (i := 1) rfl v1 hy hy2) (hsw _)) (pss_cons (ps_ost (pe_var (i := 0) rfl v0) (pe_var (i := 2) rfl v2 hz hz2) (hsw2 _)) pss_nil), ?_⟩
  have rel : Rel T K (fun _ => 0) ⟨0, []⟩ H := ⟨(fun n o e => nomatch e), (fun n m o u e => nomatch e), (fun n o e => nomatch e), List.Pairwise.nil, fun n hn => nomatch hn⟩
  have rl : RL K (fun _ => 0) 0 H [none, some (.int i), some (.str z)] (L2.start ["self", y, y2] [.ref a, .int i, .str ⟨z.toArray⟩]) := ⟨rfl, fun k v e => by
    match k, e with
    | 0, e => cases e
    | 1, e =>
      cases e
      exact ⟨_, rfl, .int i⟩
    | 2, e =>
      cases e
      exact ⟨_, rfl, .str z⟩
    | k + 3, e => cases e⟩
  refine ⟨fun _ => 0, _, _, rel, rl, ?_⟩
  cases i with
  | negSucc m => cases sz
  | ofNat m =>
    unfold canSay at sz
    rw [Bool.and_eq_true] at sz
    obtain ⟨s1, s2⟩ := sz
    have e1 : xFmt (xVar 1) [none, some (.int (.ofNat m)), some (.str z)] ⟨0, []⟩ = .ok (.str (dec2 m)) ⟨0, []⟩ := by
      unfold xFmt xVar
      dsimp only [nthO]
      rw [s1]
    have e2 : xFmt (xVar 2) [none, some (.int (.ofNat m)), some (.str z)] ⟨0, []⟩ = .ok (.str z) ⟨0, []⟩ := by
      unfold xFmt xVar
      dsimp only [nthO]
      have : bnd z.length = true := Nat.ble_eq_true_of_le (Nat.le_trans (Nat.le_of_ble_eq_true s2) (by omega))
      rw [this]
    have dl : (dec2 m).length ≤ 2 := by
      unfold dec2
      split <;> simp
    have zl := Nat.le_of_ble_eq_true s2
    have b1 : bnd (([] : List Nat).length + (dec2 m).length) = true := Nat.ble_eq_true_of_le (by rw [List.length_nil]; omega)
    have b2 : bnd (([] ++ dec2 m).length + ([58, 32] : List Nat).length) = true := Nat.ble_eq_true_of_le (by simp; omega)
    have b3 : bnd (([] ++ dec2 m ++ [58, 32]).length + z.length) = true := Nat.ble_eq_true_of_le (by simp; omega)
    show Sat T K _ _ _ _ H _ (xJs _ [] _ _)
    unfold xJs
    rw [e1]
    dsimp only
    rw [b1]
    dsimp only
    unfold xJs xC
    dsimp only
    rw [b2]
    dsimp only
    unfold xJs
    rw [e2]
    dsimp only
    rw [b3]
    dsimp only
    unfold xJs
    intro μ' H' x st _ _
    have ext : ∀ b o, H b = some o → H' b = some o := fun b o e => st.keep b o e fun ⟨k, u, e, _⟩ => nomatch e
    have ha' := ext _ _ ha
    refine ⟨ha', .int (.ofNat m), rfl, .ref a, rfl, a, D, rfl, G, hno, .inl ⟨ha', fun dx hd ne => ?_⟩⟩
    refine ⟨.str ⟨z.toArray⟩, rfl, .ref a, rfl, a, D, rfl, G, hno2, .inr ⟨dx, [(fld, .int (.ofNat m))], upd_same, by rw [upd_ne ne, upd_same], by show 1 ≤ 900; omega, ?_⟩⟩
    exact q H' dx ext hd ne
end
end Ex

set_option Elab.async false
set_option linter.all false
set_option maxRecDepth 100000
/-! Ex33: defs that let exceptions out; try. -/
namespace Ex
open PySem PySem.Spec PyProof.Rows L2
variable {T : Tab} {X : Cx} {W : WX}
section
variable {e o : Expr} {es : List Expr} {m mo : EM} {as : AM} {p pos apos : Pos} {x : Str}
abbrev CXN (X : Cx) : CXT := L2N.CX X.prog X.w
theorem xe_callX {k j n : Nat} {f : Addr} {ps : List Str} {b : FM} (tk : L2N.Takes X W) (h : Good X.prog X.w X.K X.mg X.base (CXN X) k f ps (spM T X.K n b)) (hr : Room j X.A) (hj : k ≤ j) (hg : Gl X x) (hm : X.mg x = some (.ref f)) (hn : ∀ vs C, b vs C ≠ .bad → vs.length = n) (ha : PA X (e :: es) (tA T X.K W as))
    (hdb : (x == ("__debug__" : Str)) = false := by decide) (he : starEach (e :: es) X.env = (false, eval e X.env) :: starEach es X.env := by rfl) (hpl : (backTo pos (starEach es X.env)).any (·.1) = false := by rfl) : PE X (.Call (.Name x p) (e :: es) [] pos) (tX T X.K W (xFn b as)) := by
  obtain ⟨fd, F, hb, hk⟩ := h
  exact xe_call F (hr.mono hj) hg hm hk hb (fun σ => L2N.passAt tk σ) hn ha hdb he hpl
theorem xe_methX {k j n c : Nat} {f : Addr} {ps : List Str} {b : FM} {nm : Str} {pl : Sem Bool} (tk : L2N.Takes X W) (h : Good X.prog X.w X.K X.mg X.base (CXN X) k f ps (spM T X.K n b)) (hr : Room j X.A) (hj : k ≤ j) (hnm : nm ∉ T.nms) (hcl : Cls X.K (T.cls c)) (hm : Meth X.K (T.cls c) nm f) (hn : ∀ vs C, b vs C ≠ .bad → vs.length = n)
    (ho : PE X o (tX T X.K W mo)) (ha : PA X (e :: es) (tA T X.K W as)) (hst : starEach (e :: es) X.env = (false, eval e X.env) :: starEach es X.env := by rfl) (hpl : (backTo pos (starEach es X.env)).any (·.1) = false := by rfl)
    (ht : eval (.Call (.Attribute o nm apos) (e :: es) [] pos) X.env = (do
      let ov ← eval o X.env
      standAt apos.atName
      let (f, first) ← holding [ov] (getMethod ov nm pl)
      callWith pos f first (backTo pos (starEach (e :: es) X.env)) (backToKw pos (keywordEach [] X.env))) := by rfl) : PE X (.Call (.Attribute o nm apos) (e :: es) [] pos) (tX T X.K W (xMeth c b mo as)) := by
  obtain ⟨fd, F, hb, hk⟩ := h
  exact xe_meth hnm hcl hm F (hr.mono hj) hb (fun σ => L2N.passAt tk σ) hn ho ha hst hpl ht
theorem xe_methX0 {k j n c : Nat} {f : Addr} {ps : List Str} {b : FM} {nm : Str} {pl : Sem Bool} (tk : L2N.Takes X W) (h : Good X.prog X.w X.K X.mg X.base (CXN X) k f ps (spM T X.K n b)) (hr : Room j X.A) (hj : k ≤ j) (hnm : nm ∉ T.nms) (hcl : Cls X.K (T.cls c)) (hm : Meth X.K (T.cls c) nm f) (hn : ∀ vs C, b vs C ≠ .bad → vs.length = n)
    (ho : PE X o (tX T X.K W mo))
    (ht : eval (.Call (.Attribute o nm apos) [] [] pos) X.env = (do
      let ov ← eval o X.env
      standAt apos.atName
      let (f, first) ← holding [ov] (getMethod ov nm pl)
      callWith pos f first (backTo pos (starEach [] X.env)) (backToKw pos (keywordEach [] X.env))) := by rfl) : PE X (.Call (.Attribute o nm apos) [] [] pos) (tX T X.K W (xMeth c b mo aNil)) := by
  obtain ⟨fd, F, hb, hk⟩ := h
  exact xe_meth0 hnm hcl hm F (hr.mono hj) hb (fun σ => L2N.passAt tk σ) hn ho ht
end

/-! ### a class that is raised -/
structure RzC (P : Program) (w : World) (K : PySem.W.Frag) (mg : Str → Option Value) (base : Heap) (k : Nat) (C fI : Addr) (ps : List Str) (sp : Sp) : Prop where
  T : OexC K C
  iC : PySem.W.findIn K (.ref C) "__init__" = some (some (.ref fI))
  tI : PySem.W.typeIn K (.ref fI) = some (.type "function")
  fn : Good P w K mg base CX0 k fI ps sp
theorem xs_raiseG {x : Str} {e : Expr} {es : List Expr} {as : AM} {p pos pos2 : Pos} {fI : Addr} {k j c : Nat} {ps : List Str} {sp : Sp} {fl : List CV → Option (List (Nat × CV))} (hc : X.calm = true) (tk : L2N.Takes X W) (R : Rsd T X.K c sp fl) (G : RzC X.prog X.w X.K X.mg X.base k (T.cls c) fI ps sp) (hr : Room j X.A) (hj : k + 1 ≤ j) (hg : Gl X x) (hm : X.mg x = some (.ref (T.cls c))) (ha : PA X (e :: es) (tA T X.K W as))
    (hdb : (x == ("__debug__" : Str)) = false := by decide) (he : starEach (e :: es) X.env = (false, eval e X.env) :: starEach es X.env := by rfl) (hpl : (backTo pos (starEach es X.env)).any (·.1) = false := by rfl) : PS X (.Raise (some (.Call (.Name x p) (e :: es) [] pos)) none pos2) (tS T X.K W (sRaise c fl as)) := by
  obtain ⟨fd, F, hb, hk⟩ := G.fn
  exact xs_raise hc tk R G.T G.iC G.tI F (hr.mono hj) hb (fun _ _ _ _ _ _ _ z => z.elim) hg hm ha hdb he hpl

/-! ### try: .. except C: .. -/
def noExc : RS → RS
  | .nx l C => .nx l C
  | .ret v C => .ret v C
  | .bk l C => .bk l C
  | .ct l C => .ct l C
  | .exc _ _ _ _ => .bad
  | .bad => .bad
def sTry1 (ks : List Nat) (c : Nat) (b s : SM) : SM := fun l C => match b l C with
  | .nx l1 C1 => .nx l1 C1
  | .ret v C1 => .ret v C1
  | .bk l1 C1 => .bk l1 C1
  | .ct l1 C1 => .ct l1 C1
  | .bad => .bad
  | .exc k fs l1 C1 => (match memB k ks with
    | true => (match Nat.beq k c with
      | true => noExc (s l1 C1)
      | false => .exc k fs l1 C1)
    | false => .bad)
theorem noExc_sat {D : Ends} {μ : Mu} {C : CH} {H : Hp} {K : PySem.W.Frag} {W W' : WX} {r : RS} (h : SatS T K W D μ C H (noExc r)) : SatS T K W' D μ C H r := by
  cases r with
  | exc k fs l C' => exact (show False from h).elim
  | _ => exact h
theorem xs_try1 {ks : List Nat} {c : Nat} {b s : SM} {x : Str} {body suite : List Stmt} {b0 : Stmt} {np pos pos' : Pos} (hs : X.stack = X.env :: X.outer) (hf : X.env.frame = some X.env.locals) (tk : L2N.Takes X W) (hc : Names X x (.ref (T.cls c))) (hex : ∀ k, memB k ks = true → PySem.W.exmOne X.K (.ref (T.cls k)) (.ref (T.cls c)) = some (Nat.beq k c))
    (hb : ∀ (W' : WX) (pn : List (Addr × Obj)) (xe : Value → Shared → Prop), L2N.Takes (X.tr pn xe) W' → PassesOwn (model X.prog X.w) X.A X.env xe → PSs (X.tr pn xe) body (tS T X.K W' b)) (hsu : ∀ (a : Addr) (oe : Obj) (pn : List (Addr × Obj)), PSs (X.suite a ((a, oe) :: pn)) (b0 :: suite) (tS T X.K (fun _ _ _ _ => False) s)) :
    PS X (.Try body [.ExceptHandler (some (.Name x np)) none (b0 :: suite) pos'] [] [] pos) (tS T X.K W (sTry1 ks c b s)) := by
  refine PS.imp (L2N.ps_try_many (tb := fun W' => tS T X.K W' b) hs hf tk hb (.cons hc (fun a oe _ _ pn _ _ => hsu a oe pn) .nil)) fun D σ H ⟨μ, l, C, r, rl, h⟩ => ?_
  refine ⟨μ, l, C, r, rl, ?_⟩
  unfold sTry1 at h
  cases ea : b l C with
  | exc k fs l1 C1 =>
    rw [ea] at h
    dsimp only at h
    cases em : memB k ks with
    | false =>
      rw [em] at h
      exact (show False from h).elim
    | true =>
      rw [em] at h
      dsimp only at h
      intro μ' H' σ' cls d st rel rl' xr
      have ec := xr.1
      subst ec
      refine ⟨Nat.beq k c, hex k em, fun eb a _ => ?_, fun eb => ?_⟩
      · rw [eb] at h
        exact ⟨μ', l1, C1, rel, rl', (noExc_sat h).shift st⟩
      · rw [eb] at h
        exact h μ' H' σ' _ d st rel rl' xr
  | nx l1 C1 =>
    rw [ea] at h
    exact h
  | ret v C1 =>
    rw [ea] at h
    exact h
  | bk l1 C1 =>
    rw [ea] at h
    exact h
  | ct l1 C1 =>
    rw [ea] at h
    exact h
  | bad =>
    rw [ea] at h
    exact h

/-! ### a def that lets exceptions out -/
theorem good_ofX {P : Program} {w : World} {K : PySem.W.Frag} {mg : Str → Option Value} {base : Heap} {name qual : Str} {params : Arguments} {body : List Stmt} {scope : Scope} {f : Addr} {fd : FuncData} {N ps : List Str} {k n len : Nat} {p : Bool} {b : SM} (F : FunD K name qual params body scope [] [] f fd) (S : FnScope N ps scope) (hN : N.length = len) (hp : ps.length = n)
    (hb : ∀ (kV doc pm : Value) (an : Option Addr) (cdv ct : Value) (us : List Value), us.length = ps.length → bindArgs (PySem.W.fnOf name qual params body scope .none kV doc pm an cdv ct) ⟨us, []⟩ = pure (ps.zip us))
    (hbody : ∀ (cdv : Value) (A : Around) (outer : List Env) (s : Shared) (H : Hp) (E : XK), Room k (A.deeper (envOfC qual scope s.heap.objs.size f cdv)) → (A.deeper (envOfC qual scope s.heap.objs.size f cdv)).units + 65 < cLine → L2N.Takes (cxOf (L2N.CX P w) P w K mg base N qual scope f cdv A outer s H E) (fun cls d _ H => E cls d H) →
      PSs (cxOf (L2N.CX P w) P w K mg base N qual scope f cdv A outer s H E) body (tS T K (fun cls d _ H => E cls d H) b)) :
    Good P w K mg base (L2N.CX P w) (k + 1) f ps (spM T K n (runM p n len b)) :=
  ⟨fd, F.ok S (fun vs H Q E h => sp_len hp h) fun cdv A outer s H vs Q E hr h => ⟨tS T K (fun cls d _ H => E cls d H) b, hbody cdv A outer s H E hr (by have := hr.un; omega) (L2N.takes_of rfl rfl rfl rfl), fn_start hN h⟩, F.bindsN hb, F.kp⟩
end Ex

set_option Elab.async false
set_option linter.all false
set_option maxRecDepth 100000
/-! Ex34: what the head says of own exceptions, and the head's hook. -/
namespace Ex
open PySem PySem.Spec PyProof.Rows L2
open He (ga ma eqO eqO_ok ba)
/-- the class object -/
def ocB (K : PySem.W.Frag) (C : Addr) : Bool := match K.lookup C with
  | some ⟨.type ty, _, .cls ⟨_, _, .ref C' :: bm, _, _, true, _, _, _, _, false⟩, ⟨[_, _, _, _, some (.builtin n), _]⟩⟩ => decide (ty = "type") && (decide (C' = C) && (decide (n = "ValueError.__new__") && PySem.HandSPX.refsVE bm))
  | _ => false
theorem ocB_ok {K : PySem.W.Frag} {C : Addr} (h : ocB K C = true) : ∃ nm q N bs bm sn sub ab col dd k0 k1 k2 k3 k5, K.lookup C = some (excClassObj nm q C N bs bm true sn sub ab col dd k0 k1 k2 k3 k5 "ValueError.__new__") ∧ PySem.HandSPX.refsVE bm = true := by
  unfold ocB at h
  split at h
  · rename_i ty dd nm bs C' bm ns qn sn sub ab col k0 k1 k2 k3 n k5 e
    obtain ⟨h1, h⟩ := ba h
    obtain ⟨h2, h⟩ := ba h
    obtain ⟨h3, h4⟩ := ba h
    have h1 := of_decide_eq_true h1
    have h2 := of_decide_eq_true h2
    have h3 := of_decide_eq_true h3
    subst h1 h2 h3
    exact ⟨nm, qn, ns, bs, bm, sn, sub, ab, col, dd, k0, k1, k2, k3, k5, e, h4⟩
  · cases h
def cellB (K : PySem.W.Frag) (cc C : Addr) : Bool := match K.lookup cc with
  | some ⟨_, _, .cell (some (.ref D)), _⟩ => decide (D = C)
  | _ => false
theorem cellB_ok {K : PySem.W.Frag} {cc C : Addr} (h : cellB K cc C = true) : ∃ (cl : Value) (cld : Option Addr) (csl : Array (Option Value)), K.lookup cc = some ⟨cl, cld, .cell (some (.ref C)), csl⟩ := by
  unfold cellB at h
  split at h
  · rename_i cl cld D csl e
    have h := of_decide_eq_true h
    subst h
    exact ⟨cl, cld, csl, e⟩
  · cases h
def fileB (P : Program) (K : PySem.W.Frag) (cda : Addr) : Bool := match K.lookup cda with
  | some ⟨_, _, .fields vs, _⟩ => (match (vs[2]? : Option Value) with
    | some (.str fl _) => (P.main.file : Str) == fl
    | _ => false)
  | _ => false
theorem fileB_ok {P : Program} {K : PySem.W.Frag} {cda : Addr} (h : fileB P K cda = true) : ∃ (ccl : Value) (cdd : Option Addr) (vs : Array Value) (ccs : Array (Option Value)) (fl : Str) (tf : Tok), K.lookup cda = some ⟨ccl, cdd, .fields vs, ccs⟩ ∧ vs[2]? = some (.str fl tf) ∧ ((P.main.file : Str) == fl) = true := by
  unfold fileB at h
  split at h
  · rename_i ccl cdd vs ccs e
    split at h
    · rename_i fl tf e2
      exact ⟨ccl, cdd, vs, ccs, fl, tf, e, e2, h⟩
    · cases h
  · cases h
abbrev eI (K : PySem.W.Frag) (x : Str) : Addr := ma K (ga K x) "__init__"
/-- its __init__ -/
def clB (P : Program) (K : PySem.W.Frag) (C f : Addr) : Bool := match K.lookup f with
  | some ⟨_, _, .func ⟨_, q, _, _, _, _, [(_, cc)], .none, _, _, _, _, .ref cda, _, _⟩, _⟩ => PySem.W.codeIn K (.ref cda) q && (cellB K cc C && fileB P K cda)
  | _ => false
def supB (P : Program) (K : PySem.W.Frag) (x : Str) : Bool := ocB K (ga K x) && (eqO (PySem.W.findIn K (.ref (ga K x)) "__setattr__") (some (some (.builtin "object.__setattr__"))) && (decide (PySem.W.subIn K (.ref (ga K x)) (.type "BaseException") = some true) && (decide (PySem.W.typeIn K (.ref (ga K x)) = some (.type "type")) && (PySem.W.keepIn K (.ref (ga K x)) &&
  (eqO (PySem.W.findIn K (.ref (ga K x)) "__init__") (some (some (.ref (eI K x)))) && (decide (PySem.W.typeIn K (.ref (eI K x)) = some (.type "function")) && (PySem.W.keepIn K (.ref (eI K x)) && (clB P K (ga K x) (eI K x) && (decide (PySem.W.mroIn K (ga K x) (.ref (ga K x)) = some true) &&
  (eqO (PySem.W.ks_superIn K (ga K x) (ga K x) "__init__") (some (some (.builtin "ValueError.__init__"))) && (eqO (PySem.W.nsIn K cStatics "thirdparty.any") (some none) && decide (PySem.W.subIn K (.ref (ga K x)) (.type "ValueError") = some true))))))))))))
abbrev FnS : Type := Option (Str × Str × Arguments × FuncBody × Scope × Addr × List Str × Addr)
def fnS (K : PySem.W.Frag) (x : Str) : FnS := match K.lookup (eI K x) with
  | some ⟨_, _, .func fd, _⟩ => some (fd.name, fd.qualname, fd.params, fd.body, fd.scope, fd.globals, fd.closure.map (·.1), fd.builtins)
  | _ => none
theorem sup_of {P : Program} {K : PySem.W.Frag} {x name qual : Str} {params : Arguments} {body : List Stmt} {scope : Scope} (e : fnS K x = some (name, qual, params, .stmts body, scope, mainGlobals, [clsS], builtinsNs)) (c : supB P K x = true) (top : (P.main.scope.names.lookup ("super" : Str)).isSome = false) :
    ∃ cc cda fd kV doc pm an ct, fd = PySem.W.fnX name qual params body scope [(clsS, cc)] .none kV doc pm an (.ref cda) ct ∧ Sup P K (ga K x) (eI K x) cc cda name qual params body scope fd ∧ PySem.W.findIn K (.ref (ga K x)) "__init__" = some (some (.ref (eI K x))) ∧ PySem.W.typeIn K (.ref (eI K x)) = some (.type "function") ∧ PySem.W.keepIn K (.ref (eI K x)) = true := by
  unfold supB at c
  obtain ⟨c1, c⟩ := ba c
  obtain ⟨c2, c⟩ := ba c
  obtain ⟨c3, c⟩ := ba c
  obtain ⟨c4, c⟩ := ba c
  obtain ⟨c5, c⟩ := ba c
  obtain ⟨c6, c⟩ := ba c
  obtain ⟨c7, c⟩ := ba c
  obtain ⟨c8, c⟩ := ba c
  obtain ⟨c9, c⟩ := ba c
  obtain ⟨c10, c⟩ := ba c
  obtain ⟨c11, c⟩ := ba c
  obtain ⟨c12, c13⟩ := ba c
  unfold clB at c9
  split at c9
  · rename_i oc od n1 q n3 n4 n5 n6 y cc kV doc pm an cda ct bl osl el
    unfold fnS at e
    rw [el] at e
    have e2 : (some (n1, q, n3, n4, n5, n6, [y], bl) : FnS) = some (name, qual, params, .stmts body, scope, mainGlobals, [clsS], builtinsNs) := e
    simp only [Option.some.injEq, Prod.mk.injEq, List.cons.injEq, and_true] at e2
    obtain ⟨z1, z2, z3, z4, z5, z6, z7, z8⟩ := e2
    subst z1 z2 z3 z4 z5 z6 z7 z8
    obtain ⟨d1, d⟩ := ba c9
    obtain ⟨d2, d3⟩ := ba d
    exact ⟨cc, cda, _, kV, doc, pm, an, ct, rfl, ⟨⟨ocB_ok c1, eqO_ok c2, of_decide_eq_true c3, of_decide_eq_true c4, c5⟩, ⟨oc, od, .none, kV, doc, pm, an, ct, osl, rfl, el⟩, d1, fileB_ok d3, cellB_ok d2, of_decide_eq_true c10, eqO_ok c11, eqO_ok c12, of_decide_eq_true c13, top⟩, eqO_ok c6, of_decide_eq_true c7, c8⟩
  · cases c9

/-! ### the hook: the facts, the defs, the exceptions -/
structure DefX where
  x : Str
  name : Str
  qual : Str
  params : Arguments
  body : List Stmt
  scope : Scope
def DefX.val (d : DefX) : FnS := some (d.name, d.qual, d.params, .stmts d.body, d.scope, mainGlobals, [clsS], builtinsNs)
abbrev AlX : Type := He.AlD × Bool × List FnS
def obsX (P : Program) (fa : List He.Fa) (fn : List He.DefD) (ex : List DefX) (K : PySem.W.Frag) : AlX := (He.obsD fa fn K, ex.all fun d => supB P K d.x && xfB K (ga K d.x), ex.map fun d => fnS K d.x)
def valX (fn : List He.DefD) (ex : List DefX) : AlX := (He.valD fn, true, ex.map DefX.val)
def SaysX (P : Program) (fa : List He.Fa) (fn : List He.DefD) (ex : List DefX) (K : PySem.W.Frag) : Prop := obsX P fa fn ex K = valX fn ex
def obsXG (P : Program) (n : Nat) (fa : List He.Fa) (fn : List He.DefD) (ex : List DefX) (g : Addr → Option Obj) : AlX := obsX P fa fn ex (He.frG g (cStatics :: He.asD g n))
def hookX (P : Program) (n : Nat) (fa : List He.Fa) (fn : List He.DefD) (ex : List DefX) : PySem.W.Hook where
  α := AlX
  obs := fun s => obsXG P n fa fn ex s.heap.get?
  val := fun _ => valX fn ex
  says := fun _ h => ∃ K : PySem.W.Frag, K.In h ∧ SaysX P fa fn ex K
  of := fun _ _ e => ⟨_, He.frG_in, e⟩
  keeps := fun _ _ _ ⟨K, hK, c⟩ k => ⟨K, PySem.W.Frag.In.keeps hK k, c⟩
theorem obsXG_eq {P : Program} {n : Nat} {fa : List He.Fa} {fn : List He.DefD} {ex : List DefX} {g : Addr → Option Obj} {s : Shared} (h : ∀ a, g a = s.heap.get? a) : obsXG P n fa fn ex g = (hookX P n fa fn ex).obs s := by
  have e : g = s.heap.get? := funext h
  rw [e]
  rfl
theorem SaysX.d {P : Program} {fa : List He.Fa} {fn : List He.DefD} {ex : List DefX} {K : PySem.W.Frag} (c : SaysX P fa fn ex K) : He.SaysD fa fn K := congrArg (fun z : AlX => z.1) c
theorem SaysX.x {P : Program} {fa : List He.Fa} {fn : List He.DefD} {ex : List DefX} {K : PySem.W.Frag} (c : SaysX P fa fn ex K) (top : (P.main.scope.names.lookup ("super" : Str)).isSome = false) (i : Nat) {d : DefX} (h : ex[i]? = some d := by rfl) :
    ∃ cc cda fd kV doc pm an ct, fd = PySem.W.fnX d.name d.qual d.params d.body d.scope [(clsS, cc)] .none kV doc pm an (.ref cda) ct ∧ Sup P K (ga K d.x) (eI K d.x) cc cda d.name d.qual d.params d.body d.scope fd ∧ PySem.W.findIn K (.ref (ga K d.x)) "__init__" = some (some (.ref (eI K d.x))) ∧ PySem.W.typeIn K (.ref (eI K d.x)) = some (.type "function") ∧ PySem.W.keepIn K (.ref (eI K d.x)) = true := by
  have c1 : (ex.all fun d => supB P K d.x && xfB K (ga K d.x)) = true := congrArg (fun z : AlX => z.2.1) c
  have c2 : (ex.map fun d => fnS K d.x) = ex.map DefX.val := congrArg (fun z : AlX => z.2.2) c
  have m := List.mem_of_getElem? h
  have e := congrArg (fun l : List FnS => l[i]?) c2
  simp only [List.getElem?_map, h, Option.map_some] at e
  exact sup_of (Option.some.inj e) (ba (List.all_eq_true.mp c1 d m)).1 top
theorem SaysX.xf {P : Program} {fa : List He.Fa} {fn : List He.DefD} {ex : List DefX} {K : PySem.W.Frag} (c : SaysX P fa fn ex K) (i : Nat) {d : DefX} (h : ex[i]? = some d := by rfl) : XfC K (ga K d.x) := by
  have c1 : (ex.all fun d => supB P K d.x && xfB K (ga K d.x)) = true := congrArg (fun z : AlX => z.2.1) c
  exact xfB_ok (ba (List.all_eq_true.mp c1 d (List.mem_of_getElem? h))).2
end Ex

set_option Elab.async false
set_option linter.all false
set_option maxRecDepth 100000
set_option maxHeartbeats 2000000
/-! Ex35: except (A, B, C): a suite that raises. -/
namespace Ex
open PySem PySem.Spec PyProof.Rows L2 HotX
theorem flyZ_keeps {B h h' : Heap} {l : List Env} {a : Addr} {Z : Obj → Prop} (f : HandSPX.FlyingZ B l a Z h) (k : ∀ b o, h.get? b = some o → h'.get? b = some o) (fr : h'.FunFrames B l) : HandSPX.FlyingZ B l a Z h' := by
  obtain ⟨f1, f2, _, oe, vs, T, oT, ts, e1, e2, e3, e4, e5, e6, e7, e8, e9⟩ := f
  exact ⟨fun b o e => k b o (f1 b o e), f2, fr, oe, vs, T, oT, ts, k _ _ e1, e2, e3, e4, e5, e6, k _ _ e7, e8, e9⟩
/-- what the clause wishes of an exception of the body -/
def wTup (K : PySem.W.Frag) (cs : List Value) (ts : Addr → Value → Option Addr → TS) (Wout : WX) (D : Ends) : WX := fun cls d σ H => ∃ b, PySem.W.exmAny K cls cs = some b ∧ (b = true → ∀ a, H a = none → ts a cls d D σ H) ∧ (b = false → Wout cls d σ H)
section
variable {X : Cx} {x1 x2 x3 : Str} {c1 c2 c3 : Value} {body suite : List Stmt} {b₀ : Stmt} {p1 p2 p3 tpos pos pos' : Pos} {kk : Nat} {tb : WX → TS} {ts : Addr → Value → Option Addr → TS} {Wout : WX}
theorem ps_try_tupX (hs : X.stack = X.env :: X.outer) (hf : X.env.frame = some X.env.locals) (n1 : Names X x1 c1) (n2 : Names X x2 c2) (n3 : Names X x3 c3) (hpa : ∀ hd : Option Value, PassesOwnAt (model X.prog X.w) (X.A.mark hd) X.A X.env X.xe) (tk : L2.Takes X Wout)
    (hb : ∀ (W : WX) (pn : List (Addr × Obj)) (xe : Value → Shared → Prop), L2N.Takes (X.tr pn xe) W → PassesOwn (model X.prog X.w) X.A X.env xe → PSs (X.tr pn xe) body (tb W))
    (hsu : ∀ (a : Addr) (oe : Obj) (cls : Value) (d : Option Addr) (pn : List (Addr × Obj)), L2N.Zn cls d oe → (∃ vs, oe.data = .fields vs) → L2.Takes (L2H.suiteX X a ((a, oe) :: pn)) Wout → L2H.HotC (L2H.suiteX X a ((a, oe) :: pn)) → PSs (L2H.suiteX X a ((a, oe) :: pn)) (b₀ :: suite) (ts a cls d)) :
    PS X (.Try body [.ExceptHandler (some (.Tuple [.Name x1 p1, .Name x2 p2, .Name x3 p3] kk tpos)) none (b₀ :: suite) pos'] [] [] pos) (fun D σ H => tb (wTup X.K [c1, c2, c3] ts Wout D) D σ H) := by
  refine ⟨fun pins s σ H D I h => ?_⟩
  have ok := I.ok
  have hfr : X.A.frames = some (X.env :: X.outer) := by rw [ok.frames, hs]
  refine wpAny_Try_except ?_
  refine wpAny_mono ((hb (wTup X.K [c1, c2, c3] ts Wout D) (X.pn ++ pins) (fun e s₁ => wpAny (model X.prog X.w) X.A (noteFrame e X.env) (fun _ s₂ => wpAny (model X.prog X.w) X.A (setFlight e none) (fun _ s₃ =>
    wpAny (model X.prog X.w) X.A (handleBy e X.env [.ExceptHandler (some (.Tuple [.Name x1 p1, .Name x2 p2, .Name x3 p3] kk tpos)) none (b₀ :: suite) pos']) (SP X pins D) X.xe s₃) X.xe s₂) X.xe s₁) (fun u s' xx => ?_) PassesOwn.looking).run [] s σ H D (I.toTry _) h) (fun f s1 hsp => ?_) (fun e s1 he => he)
  · obtain ⟨a, B, sI, pins', σ', H', cls, d, rfl, J', nb, up, sky, na, os, ag, b, hb1, hyes, hno⟩ := xx
    have J : Inv X pins σ' H' sI := J'.ofTry ok
    have sky' : Sky B (X.env :: X.outer) a (L2N.Zn cls d) X.env.locals s'.heap := by rw [← hs]; exact sky
    show wpAny (model X.prog X.w) X.A (noteFrame (.ref a) X.env) _ _ _
    refine L2N.Sky.land L2N.Zn.steady hfr hf sky' fun h3 fl3 up3 => ?_
    have J3 : Inv X pins σ' H' { s' with heap := h3 } := J.landed nb fl3.1 (up.trans up3) os ag
    obtain ⟨oe3, vs3, he3, hz3, hd3⟩ := fl3.there
    have nfr : a ∉ frs (X.env :: X.outer) := fun hm => by
      obtain ⟨_, o', e', hnf⟩ := fl3.2.2.1.mem hm
      rw [he3] at e'
      cases e'
      exact hnf _ hd3
    have nL : a ≠ X.env.locals := fun z => nfr (List.mem_filterMap.mpr ⟨X.env, List.mem_cons_self, by rw [hf, z]⟩)
    have nF : a ∉ X.fs := fun hm => by
      obtain ⟨e, he, q⟩ := List.mem_filterMap.mp hm
      exact nfr (List.mem_filterMap.mpr ⟨e, List.mem_cons_of_mem _ he, q⟩)
    have S3 := J3.suite he3 hd3 na nL nF
    refine wpAny_handleBy_cons (codeAny_handlers_test ?_) (by intro q; cases q)
    have LT : PySem.W.Looks (model X.prog X.w) h3 (typeOf (.ref a)) cls := fun A Q E s k q => wpAny_typeOf_ref (k _ _ he3) (by rw [hz3.1]; exact q)
    have nm : ∀ {x : Str} {c : Value} {p : Pos} {Q : Value → Shared → Prop} {E : Value → Shared → Prop}, Names X x c → Q c { s' with heap := h3 } → wpAny (model X.prog X.w) (X.A.mark (some (.ref a))) (eval (.Name x p) X.env) Q E { s' with heap := h3 } := fun {x c p Q E} hc q => by
      obtain ⟨hg, hdbg, hm | ⟨hm, hv, hnn⟩⟩ := hc
      · exact ld_glob (X := X.suite a ((a, oe3) :: (X.pn ++ pins))) S3 hg hm q hdbg
      · exact ld_blt (X := X.suite a ((a, oe3) :: (X.pn ++ pins))) S3 hg hm hv q hnn hdbg
    refine wpAny_Tuple ?_
    refine wpAny_items_cons (nm n1 ?_)
    refine wpAny_items_cons (nm n2 ?_)
    refine wpAny_items_cons (nm n3 ?_)
    refine wpAny_items_nil ⟨by size_fits, ?_⟩
    have kp : ∀ q o, h3.get? q = some o → (h3.push { cls := .type "tuple", data := .seq [c1, c2, c3].toArray }).get? q = some o := fun _ _ z => Heap.get?_push_of_some _ z
    have J5 : Inv X pins σ' H' { s' with heap := h3.push { cls := .type "tuple", data := .seq [c1, c2, c3].toArray } } := J3.kept (t' := s'.toks) kp
    have fl5 : HandSPX.FlyingZ B (X.env :: X.outer) a (L2N.Zn cls d) (h3.push { cls := .type "tuple", data := .seq [c1, c2, c3].toArray }) := flyZ_keeps fl3 kp (by
      exact Heap.FunFrames.of_keeps (fun b o e _ => ⟨o, kp b o e, rfl⟩) fl3.2.2.1)
    have up5 : h3.UpToSlots (h3.push { cls := .type "tuple", data := .seq [c1, c2, c3].toArray }) := .of_keeps kp
    refine (PySem.W.exm_tup3 (J5.kIn) (LT.keeps kp) (Heap.get?_push_size h3 rfl) hb1).here ?_
    cases b with
    | true =>
      refine codeAny_handlers_suite ?_
      refine HandSPX.lands_againZ fl5 fun h4 fl4 up4 => ?_
      have J4 : Inv X pins σ' H' { s' with heap := h4 } := J.landed nb fl4.1 (((up.trans up3).trans up5).trans up4) os ag
      obtain ⟨oe4, vs4, he4, hz4, hd4⟩ := fl4.there
      have S4 := J4.suite he4 hd4 na nL nF
      have tkS : L2.Takes (L2H.suiteX X a ((a, oe4) :: (X.pn ++ pins))) Wout := fun u2 s2 x2 => by
        obtain ⟨a2, B2, sI2, pn2, σ2, H2, cls2, d2, e2, I2, nb2, up2, sky2, na2, os2, ag2, w2⟩ := x2
        exact tk u2 s2 ⟨a2, B2, sI2, pins, σ2, H2, cls2, d2, e2, L2H.unsuiteX I2 ok, nb2, up2, sky2, na2, os2, ag2, w2⟩
      have hot : L2H.HotC (L2H.suiteX X a ((a, oe4) :: (X.pn ++ pins))) := ⟨(a, oe4), ⟨rfl, vs4, hd4, hz4.2.2 vs4 hd4⟩, List.mem_cons_self⟩
      refine wpAny_mono ((hsu a oe4 cls d (X.pn ++ pins) hz4 ⟨_, hd4⟩ tkS hot).run [] _ _ H' _ (L2H.suiteX_of S4) (hyes rfl a na)) (fun f s6 hsp => ?_) (fun e6 s6 z => hpa (some (.ref a)) e6 s6 z)
      cases f with
      | next =>
        obtain ⟨σ6, H6, S6, q6⟩ := hsp
        exact ⟨_, _, L2H.unsuiteX S6 ok, q6⟩
      | brk =>
        obtain ⟨σ6, H6, S6, q6⟩ := hsp
        exact ⟨_, _, L2H.unsuiteX S6 ok, q6⟩
      | cont =>
        obtain ⟨σ6, H6, S6, q6⟩ := hsp
        exact ⟨_, _, L2H.unsuiteX S6 ok, q6⟩
      | ret u =>
        obtain ⟨v6, σ6, H6, S6, r6, q6⟩ := hsp
        exact ⟨_, _, _, L2H.unsuiteX S6 ok, r6, q6⟩
    | false =>
      show wpAny _ X.A (handleBy (.ref a) X.env []) _ _ _
      refine wpAny_handleBy_nil ?_
      obtain ⟨k1, k2, k3, oe, vs, T, oT, ts', he, hz, hd, h1, hr⟩ := id fl5
      unfold PySem.passOn
      refine wpAny_bind (wpAny_field he hd h1 ?_)
      rw [if_neg (show ¬ ((Value.ref T == Value.none) = true) from by simp)]
      have fin : wpAny (model X.prog X.w) X.A (setFlight (.ref a) X.env.frame) (fun _ s4 => wpAny (model X.prog X.w) X.A (throw (.ref a) : Sem Flow) (SP X pins D) X.xe s4) X.xe { s' with heap := h3.push { cls := .type "tuple", data := .seq [c1, c2, c3].toArray } } := by
        rw [hf]
        refine HandSPX.setFlight_upZ fl5 fun h4 hh4 up4 => wpAny_throw (tk _ _ ?_)
        have hh5 : HandSPX.HeldZ B (X.env :: X.outer) a (Zc cls d) X.env.locals h4 := ⟨hh4.1, hh4.2.1, hh4.2.2.1, L2H.tracedZ_imp (fun o z => z.zc) hh4.2.2.2⟩
        exact ⟨a, B, sI, pins, σ', H', cls, d, rfl, J, nb, ((up.trans up3).trans up5).trans up4, .inr (.inr (by rw [hs]; exact hh5)), na, os, ag, hno rfl⟩
      first
        | exact wpAny_bind (wpAny_pure (wpAny_bind fin))
        | exact wpAny_bind fin
  · cases f with
    | next =>
      obtain ⟨σ', H', J', q⟩ := hsp
      exact wpAny_execs_nil ⟨σ', H', J'.ofTry ok, q⟩
    | brk =>
      obtain ⟨σ', H', J', q⟩ := hsp
      exact ⟨σ', H', J'.ofTry ok, q⟩
    | cont =>
      obtain ⟨σ', H', J', q⟩ := hsp
      exact ⟨σ', H', J'.ofTry ok, q⟩
    | ret u =>
      obtain ⟨v, σ', H', J', r, q⟩ := hsp
      exact ⟨v, σ', H', J'.ofTry ok, r, q⟩
end
end Ex

set_option Elab.async false
set_option linter.all false
set_option maxRecDepth 100000
/-! Ex36: raising in the wider context (L2.CX), in a suite; try with a tuple of classes, by mirrors. -/
namespace Ex
open PySem PySem.Spec PyProof.Rows L2
variable {T : Tab} {X : Cx} {W : WX}
section
variable {x : Str} {e : Expr} {es : List Expr} {as : AM} {p pos pos2 : Pos} {fI : Addr} {k j c : Nat} {ps : List Str} {sp : Sp} {fl : List CV → Option (List (Nat × CV))}
theorem raise_rd (R : Rsd T X.K c sp fl) {D : Ends} {σ : L2.St} {H : Hp} (h : tS T X.K W (sRaise c fl as) D σ H) : tMkO (T.cls c) sp [] (tA T X.K W as) σ H fun cls d H' => W cls d σ H' := by
  obtain ⟨μ, l, C, r, rl, h⟩ := h
  refine ⟨μ, l, C, r, rl, ?_⟩
  unfold sRaise at h
  cases ea : as l C with
  | bad =>
    rw [ea] at h
    exact h
  | exc k fs l' C' =>
    rw [ea] at h
    exact h
  | ok vs C1 =>
    rw [ea] at h
    dsimp only at h
    cases ef : fl vs with
    | none =>
      rw [ef] at h
      exact (show False from h).elim
    | some fs =>
      rw [ef] at h
      intro μ1 H1 xs st rel rvs
      refine ⟨by rw [rvs.length]; exact R.few vs fs ef, fun a ha => R.run (Q := fun cls d H' => W cls d σ H') (E := fun _ _ _ => False) rvs ef ha fun dx gs H' hd ext ex fields => ?_⟩
      obtain ⟨r2, s2⟩ := same rel ext
      exact h μ1 H' σ _ _ (st.trans s2) r2 ((rl.step st).step s2) ⟨rfl, dx, gs, rfl, ex, fun i v e => by
        obtain ⟨z, y, e1, e2, e3⟩ := fields i v e
        exact ⟨z, y, e1, e2, e3.step s2⟩⟩
/-- where the wider context takes it -/
theorem xs_raiseL (hc : X.calm = true) (tk : L2.Takes X W) (R : Rsd T X.K c sp fl) (G : RzC X.prog X.w X.K X.mg X.base k (T.cls c) fI ps sp) (hr : Room j X.A) (hj : k + 1 ≤ j) (hg : Gl X x) (hm : X.mg x = some (.ref (T.cls c))) (ha : PA X (e :: es) (tA T X.K W as))
    (hdb : (x == ("__debug__" : Str)) = false := by decide) (he : starEach (e :: es) X.env = (false, eval e X.env) :: starEach es X.env := by rfl) (hpl : (backTo pos (starEach es X.env)).any (·.1) = false := by rfl) : PS X (.Raise (some (.Call (.Name x p) (e :: es) [] pos)) none pos2) (tS T X.K W (sRaise c fl as)) := by
  obtain ⟨fd, F, hb, hk⟩ := G.fn
  exact PS.imp (L2.ps_raise hc tk (pmk_oex G.T G.iC G.tI F (hr.mono hj) hb .nil (fun _ _ _ _ _ _ _ z => z.elim) hg hm ha hdb he hpl)) fun D σ H h => raise_rd R h
/-- the same of a class while an exception is handled -/
structure RzH (P : Program) (w : World) (K : PySem.W.Frag) (mg : Str → Option Value) (base : Heap) (k : Nat) (C fI : Addr) (ps : List Str) (sp : Sp) : Prop where
  T : OexC K C
  iC : PySem.W.findIn K (.ref C) "__init__" = some (some (.ref fI))
  tI : PySem.W.typeIn K (.ref fI) = some (.type "function")
  fn : ∃ fd, L2H.FnH P w K mg base CX0 k fI fd ps sp ∧ Binds K fd ps []
theorem xs_raiseH (hc : L2H.HotC X) (tk : L2.Takes X W) (R : Rsd T X.K c sp fl) (G : RzH X.prog X.w X.K X.mg X.base k (T.cls c) fI ps sp) (hr : L2H.RoomH j X.A) (hj : k + 1 ≤ j) (hg : Gl X x) (hm : X.mg x = some (.ref (T.cls c))) (ha : PA X (e :: es) (tA T X.K W as))
    (hdb : (x == ("__debug__" : Str)) = false := by decide) (he : starEach (e :: es) X.env = (false, eval e X.env) :: starEach es X.env := by rfl) (hpl : (backTo pos (starEach es X.env)).any (·.1) = false := by rfl) : PS X (.Raise (some (.Call (.Name x p) (e :: es) [] pos)) none pos2) (tS T X.K W (sRaise c fl as)) := by
  obtain ⟨fd, F, hb⟩ := G.fn
  exact PS.imp (L2H.ps_raiseH hc tk (L2H.pmk5_oexH G.T G.iC G.tI F (hr.mono hj) hc hb (fun _ _ _ _ _ _ _ z => z.elim) hg hm ha hdb he hpl).pmk) fun D σ H h => raise_rd R h
end

theorem exm3 {K : PySem.W.Frag} {cls c1 c2 c3 : Value} {b1 b2 b3 : Bool} (h1 : PySem.W.exmOne K cls c1 = some b1) (h2 : PySem.W.exmOne K cls c2 = some b2) (h3 : PySem.W.exmOne K cls c3 = some b3) : PySem.W.exmAny K cls [c1, c2, c3] = some (b1 || (b2 || (b3 || false))) := by
  simp only [PySem.W.exmAny, h1, h2, h3]
/-! ### try: .. except (A, B, C): .. -/
def sTryT (ks cs : List Nat) (b s : SM) : SM := fun l C => match b l C with
  | .nx l1 C1 => .nx l1 C1
  | .ret v C1 => .ret v C1
  | .bk l1 C1 => .bk l1 C1
  | .ct l1 C1 => .ct l1 C1
  | .bad => .bad
  | .exc k fs l1 C1 => (match memB k ks with
    | true => (match memB k cs with
      | true => s l1 C1
      | false => .exc k fs l1 C1)
    | false => .bad)
theorem xs_tryT {ks : List Nat} {a1 a2 a3 : Nat} {b s : SM} {x1 x2 x3 : Str} {body suite : List Stmt} {b0 : Stmt} {p1 p2 p3 tpos pos pos' : Pos} {kk : Nat} (hs : X.stack = X.env :: X.outer) (hf : X.env.frame = some X.env.locals) (hpa : ∀ hd : Option Value, PassesOwnAt (model X.prog X.w) (X.A.mark hd) X.A X.env X.xe) (tk : L2.Takes X W) (n1 : Names X x1 (.ref (T.cls a1))) (n2 : Names X x2 (.ref (T.cls a2))) (n3 : Names X x3 (.ref (T.cls a3)))
    (hex : ∀ k, memB k ks = true → PySem.W.exmAny X.K (.ref (T.cls k)) [.ref (T.cls a1), .ref (T.cls a2), .ref (T.cls a3)] = some (memB k [a1, a2, a3]))
    (hb : ∀ (W' : WX) (pn : List (Addr × Obj)) (xe : Value → Shared → Prop), L2N.Takes (X.tr pn xe) W' → PassesOwn (model X.prog X.w) X.A X.env xe → PSs (X.tr pn xe) body (tS T X.K W' b)) (hsu : ∀ (a : Addr) (oe : Obj) (pn : List (Addr × Obj)), L2.Takes (L2H.suiteX X a ((a, oe) :: pn)) W → L2H.HotC (L2H.suiteX X a ((a, oe) :: pn)) → PSs (L2H.suiteX X a ((a, oe) :: pn)) (b0 :: suite) (tS T X.K W s)) :
    PS X (.Try body [.ExceptHandler (some (.Tuple [.Name x1 p1, .Name x2 p2, .Name x3 p3] kk tpos)) none (b0 :: suite) pos'] [] [] pos) (tS T X.K W (sTryT ks [a1, a2, a3] b s)) := by
  refine PS.imp (ps_try_tupX (tb := fun W' => tS T X.K W' b) (ts := fun _ _ _ => tS T X.K W s) hs hf n1 n2 n3 hpa tk hb fun a oe cls d pn _ _ tk' hot => hsu a oe pn tk' hot) fun D σ H ⟨μ, l, C, r, rl, h⟩ => ?_
  refine ⟨μ, l, C, r, rl, ?_⟩
  unfold sTryT at h
  cases ea : b l C with
  | exc k fs l1 C1 =>
    rw [ea] at h
    dsimp only at h
    cases em : memB k ks with
    | false =>
      rw [em] at h
      exact (show False from h).elim
    | true =>
      rw [em] at h
      dsimp only at h
      intro μ' H' σ' cls d st rel rl' xr
      have ec := xr.1
      subst ec
      refine ⟨memB k [a1, a2, a3], hex k em, fun eb a _ => ?_, fun eb => ?_⟩
      · rw [eb] at h
        exact ⟨μ', l1, C1, rel, rl', h.shift st⟩
      · rw [eb] at h
        exact h μ' H' σ' _ d st rel rl' xr
  | nx l1 C1 =>
    rw [ea] at h
    exact h
  | ret v C1 =>
    rw [ea] at h
    exact h
  | bk l1 C1 =>
    rw [ea] at h
    exact h
  | ct l1 C1 =>
    rw [ea] at h
    exact h
  | bad =>
    rw [ea] at h
    exact h

/-! ### a def in the wider context -/
theorem good_ofL {P : Program} {w : World} {K : PySem.W.Frag} {mg : Str → Option Value} {base : Heap} {name qual : Str} {params : Arguments} {body : List Stmt} {scope : Scope} {f : Addr} {fd : FuncData} {N ps : List Str} {k n len : Nat} {p : Bool} {b : SM} (F : FunD K name qual params body scope [] [] f fd) (S : FnScope N ps scope) (hN : N.length = len) (hp : ps.length = n)
    (hb : ∀ (kV doc pm : Value) (an : Option Addr) (cdv ct : Value) (us : List Value), us.length = ps.length → bindArgs (PySem.W.fnOf name qual params body scope .none kV doc pm an cdv ct) ⟨us, []⟩ = pure (ps.zip us))
    (hbody : ∀ (cdv : Value) (A : Around) (outer : List Env) (s : Shared) (H : Hp) (E : XK), Room k (A.deeper (envOfC qual scope s.heap.objs.size f cdv)) → (A.deeper (envOfC qual scope s.heap.objs.size f cdv)).units + 65 < cLine → L2.Takes (cxOf (L2.CX P w) P w K mg base N qual scope f cdv A outer s H E) (fun cls d _ H => E cls d H) →
      PassesOwn (model P w) (cxOf (L2.CX P w) P w K mg base N qual scope f cdv A outer s H E).A (cxOf (L2.CX P w) P w K mg base N qual scope f cdv A outer s H E).env (cxOf (L2.CX P w) P w K mg base N qual scope f cdv A outer s H E).xe → PSs (cxOf (L2.CX P w) P w K mg base N qual scope f cdv A outer s H E) body (tS T K (fun cls d _ H => E cls d H) b)) :
    Good P w K mg base (L2.CX P w) (k + 1) f ps (spM T K n (runM p n len b)) :=
  ⟨fd, F.ok S (fun vs H Q E h => sp_len hp h) fun cdv A outer s H vs Q E hr h => ⟨tS T K (fun cls d _ H => E cls d H) b, hbody cdv A outer s H E hr (by have := hr.un; omega) (L2.takes_of rfl rfl rfl rfl) PassesOwn.leaving, fn_start hN h⟩, F.bindsN hb, F.kp⟩
end Ex

set_option Elab.async false
set_option linter.all false
set_option maxRecDepth 100000
/-! Ex37: except C as e: return (e.f, e.g). -/
namespace Ex
open PySem PySem.Spec PyProof.Rows L2
variable {T : Tab} {X : Cx} {W : WX}
def sTryAs2 (c i f g : Nat) (b : SM) : SM := fun l C => match b l C with
  | .nx l1 C1 => .nx l1 C1
  | .ret v C1 => .ret v C1
  | .bk l1 C1 => .bk l1 C1
  | .ct l1 C1 => .ct l1 C1
  | .bad => .bad
  | .exc k fs l1 C1 => (match Nat.beq k c, Nat.blt i l1.length, lkN fs f, lkN fs g with
    | true, true, some v, some w => .ret (.tup [v, w]) C1
    | _, _, _, _ => .bad)
theorem xs_tryAs2 {c i f g : Nat} {b : SM} {x n fn gn : Str} {body : List Stmt} {np pos pos' p1 p2 p3 p4 p5 p6 : Pos} {kk : Nat} (hs : X.stack = X.env :: X.outer) (hf : X.env.frame = some X.env.locals) (hN : X.N.Nodup) (hi : X.N[i]? = some n) (hln : X.env.kindOf n = some .local) (tk : L2.Takes X W) (hc : Names X x (.ref (T.cls c))) (hex : PySem.W.exmOne X.K (.ref (T.cls c)) (.ref (T.cls c)) = some true)
    (xf : XfC X.K (T.cls c)) (no1 : PySem.W.findIn X.K (.ref (T.cls c)) fn = some none) (no2 : PySem.W.findIn X.K (.ref (T.cls c)) gn = some none) (e1 : T.nms[f]? = some fn) (e2 : T.nms[g]? = some gn)
    (hv : ∀ (a : Addr) (oe : Obj) (pn : List (Addr × Obj)) (p : Pos), PE (X.suite a ((a, oe) :: pn)) (.Name n p) (tVar i))
    (hb : ∀ (W' : WX) (pn : List (Addr × Obj)) (xe : Value → Shared → Prop), L2.Takes (X.tr pn xe) W' → PassesOwn (model X.prog X.w) X.A X.env xe → PSs (X.tr pn xe) body (tS T X.K W' b)) :
    PS X (.Try body [.ExceptHandler (some (.Name x np)) (some n) [.Return (some (.Tuple [.Attribute (.Name n p1) fn p2, .Attribute (.Name n p3) gn p4] kk p5)) p6] pos'] [] [] pos) (tS T X.K W (sTryAs2 c i f g b)) := by
  refine PS.imp (L2.ps_try_as (tb := fun W' => tS T X.K W' b) (ts := fun a cls d => tRet (tTup (tCons (tXf a cls d (T.cls c) fn (tVar i)) (tCons (tXf a cls d (T.cls c) gn (tVar i)) tNil)))) hs hf hN hi hln hc tk hb fun a oe cls d pn hz hfv => pss_one (ps_ret (pe_tup (pa_cons (pe_xf xf no1 hz hfv (hv a oe pn p1)) (pa_cons (pe_xf xf no2 hz hfv (hv a oe pn p3)) pa_nil))))) fun D σ H ⟨μ, l, C, r, rl, h⟩ => ?_
  refine ⟨μ, l, C, r, rl, ?_⟩
  unfold sTryAs2 at h
  cases ea : b l C with
  | exc k fs l1 C1 =>
    rw [ea] at h
    dsimp only at h
    split at h
    · rename_i v w h1 h2 h3 h4
      have ek := beq_t h1
      subst ek
      intro μ' H' σ' cls d st rel rl' xr
      obtain ⟨ec, dd, gs, ed, eg, fields⟩ := xr
      subst ec ed
      obtain ⟨z1, y1, q1, q2, q3⟩ := fields f v h3
      obtain ⟨z2, y2, q4, q5, q6⟩ := fields g w h4
      rw [e1] at q1
      rw [e2] at q4
      cases q1
      cases q4
      have il : i < σ'.length := by
        rw [rl'.len]
        simpa using h2
      refine ⟨true, hex, fun _ a na => ?_, fun z => nomatch z⟩
      have sl : (σ'.set i (some (V.ref a)))[i]? = some (some (V.ref a)) := List.getElem?_set_self il
      refine ⟨.ref a, sl, rfl, rfl, dd, gs, y1, rfl, eg, q2, .ref a, sl, rfl, rfl, dd, gs, y2, rfl, eg, q5, by show 2 ≤ sizeLine; decide, fun p hp => ?_⟩
      obtain ⟨r2, s2⟩ := same rel (upd_new (u := .tup [y1, y2]) hp)
      exact h μ' _ _ (st.trans s2) r2 (RV.tupNew hp (.cons q3 (.cons q6 .nil))) |> fun z => z
    · exact (show False from h).elim
  | nx l1 C1 =>
    rw [ea] at h
    exact h
  | ret v C1 =>
    rw [ea] at h
    exact h
  | bk l1 C1 =>
    rw [ea] at h
    exact h
  | ct l1 C1 =>
    rw [ea] at h
    exact h
  | bad =>
    rw [ea] at h
    exact h
/-- a call of a def in the wider context -/
theorem xe_callL {e : Expr} {es : List Expr} {as : AM} {p pos : Pos} {x : Str} {k j n : Nat} {f : Addr} {ps : List Str} {b : FM} (tk : L2.Takes X W) (h : Good X.prog X.w X.K X.mg X.base (L2.CX X.prog X.w) k f ps (spM T X.K n b)) (hr : Room j X.A) (hj : k ≤ j) (hg : Gl X x) (hm : X.mg x = some (.ref f)) (hn : ∀ vs C, b vs C ≠ .bad → vs.length = n) (ha : PA X (e :: es) (tA T X.K W as))
    (hdb : (x == ("__debug__" : Str)) = false := by decide) (he : starEach (e :: es) X.env = (false, eval e X.env) :: starEach es X.env := by rfl) (hpl : (backTo pos (starEach es X.env)).any (·.1) = false := by rfl) : PE X (.Call (.Name x p) (e :: es) [] pos) (tX T X.K W (xFn b as)) := by
  obtain ⟨fd, F, hb, hk⟩ := h
  exact xe_call F (hr.mono hj) hg hm hk hb (fun σ => L2.passAt tk σ) hn ha hdb he hpl
end Ex

set_option Elab.async false
set_option linter.all false
set_option maxRecDepth 100000
/-! Ex40: a loop that sees nothing of its list; runs from the empty concrete heap. -/
namespace Ex
open PySem PySem.Spec PyProof.Rows L2 TL
variable {T : Tab} {K : PySem.W.Frag} {X : Cx} {μ : Mu} {C : CH} {H : Hp}

/-! ### enumerate over a list that is let go -/
def loopL (t : Tg) (b : SM) : List CV → Nat → SM
  | [], _ => fun l C => .nx l C
  | v :: vs, i => fun l C => match stT t (.tup [.int (i : Nat), v]) l with
    | none => .bad
    | some l1 => (match b l1 C with
      | .nx l2 C2 => loopL t b vs (i + 1) l2 C2
      | .ct l2 C2 => loopL t b vs (i + 1) l2 C2
      | .bk l2 C2 => .nx l2 C2
      | .ret v C2 => .ret v C2
      | .exc k fs l' C' => .exc k fs l' C'
      | .bad => .bad)
theorem drop_none {α : Type} : ∀ {l : List (Nat × α)} {m n : Nat}, (l.map (·.1)).Pairwise (fun a b => b < a) → m ≤ n → lkN (dropN l m) n = none
  | [], _, _, _, _ => rfl
  | (k, x) :: r, m, n, d, h => by
    rw [List.map_cons, List.pairwise_cons] at d
    unfold dropN
    cases e : Nat.ble m k with
    | true => exact drop_none d.2 h
    | false =>
      have lt : k < m := Nat.lt_of_not_le fun z => by
        have := Nat.ble_eq_true_of_le z
        rw [e] at this
        cases this
      show lkN ((k, x) :: r) n = none
      rw [lk_cons_ne _ _ (Nat.ne_of_lt (Nat.lt_of_lt_of_le lt h))]
      cases q : lkN r n with
      | none => rfl
      | some o =>
        have := d.1 n (List.mem_map.mpr ⟨(n, o), lk_mem q, rfl⟩)
        omega
/-- a list that is let go stands as long as the rest goes on -/
structure Held (μ : Mu) (C : CH) (H : Hp) (a : Addr) (u : HO) : Prop where
  is : H a = some u
  no : ¬ Own μ C a
theorem Held.step {μ' : Mu} {C' : CH} {H' : Hp} {a : Addr} {u : HO} (h : Held μ C H a u) (s : Step K μ C H μ' C' H') : Held μ' C' H' a u where
  is := s.keep a u h.is h.no
  no := fun ⟨n, o, e, q⟩ => by
    rcases s.fresh n o e with ⟨lt, o', e'⟩ | z
    · exact h.no ⟨n, o', e', (s.ag n lt).symm.trans q⟩
    · rw [q, h.is] at z
      cases z
theorem held_pop (r : Rel T K μ C H) {n : Nat} {o : CO} (hn : C.get n = some o) {u : HO} (e : H (μ n) = some u) : Held μ (C.pop n) H (μ n) u where
  is := e
  no := fun ⟨m, o', e', q⟩ => by
    have e2 : C.get m = some o' := drop_lk r.dec e'
    have := r.inj m n o' o e2 hn q
    subst this
    have e3 : (C.pop m).get m = none := drop_none r.dec (Nat.le_refl _)
    rw [e3] at e'
    cases e'
section
variable {W : WX} {as : AM} {t : Tg} {b : SM}
theorem forH_core {D : Ends} {σ : L2.St} {l : CL} {m p : Nat} {ys : List CV} (rel1 : Rel T K μ C H) (hn : C.get m = some (.lst ys)) (le : p ≤ m) (rl : RL K μ C.nx H l σ) (h : SatS T K W D μ (C.pop p) H (loopL t b ys 0 l (C.pop p))) :
    ∃ zs, SqL K H (μ m) zs ∧ ∃ Wn : Nat → Nat → L2.St → Hp → Prop, (∃ m, Wn 0 m σ H) ∧ ∀ i k σ H, Wn i k σ H →
      ((Ite K (μ m)).stop i H ∧ D.nx σ H) ∨ ((Ite K (μ m)).go i H ∧ ∃ N : L2.St → Hp → Prop, (∀ σ' H', N σ' H' → ∃ m', m' < k ∧ Wn (i + 1) m' σ' H') ∧ ∀ x H', (Ite K (μ m)).yld i H x H' → tG T K t x σ H' fun σ2 H2 => tS T K W b { D with nx := N, ct := N, bk := D.nx } σ2 H2) := by
  obtain ⟨zs, g1, rz⟩ := rel1.obj m _ hn
  obtain ⟨relp, stp⟩ := popped rel1 p
  have held : Held μ (C.pop p) H (μ m) (.lst zs) := ⟨g1, fun ⟨k, o', e', q⟩ => by
    have e2 : C.get k = some o' := drop_lk rel1.dec e'
    have := rel1.inj k m o' _ e2 hn q
    subst this
    have e3 : (C.pop p).get k = none := drop_none rel1.dec le
    rw [e3] at e'
    cases e'⟩
  refine ⟨zs, SqL.of g1, fun i k σ1 H1 => ∃ μ1 l C1, Step K μ (C.pop p) H μ1 C1 H1 ∧ Rel T K μ1 C1 H1 ∧ RL K μ1 C1.nx H1 l σ1 ∧ k = ys.length - i ∧ i ≤ ys.length ∧ SatS T K W D μ1 C1 H1 (loopL t b (ys.drop i) i l C1), ⟨ys.length, μ, l, C.pop p, relp.refl, relp, rl.step stp, rfl, Nat.zero_le _, h⟩, ?_⟩
  rintro i k σ1 H1 ⟨μ1, l, C1, st, rel, rl, em, le, h⟩
  have hh := held.step st
  have len := rz.length
  cases Nat.lt_or_ge i ys.length with
  | inr ge =>
    have e : ys.drop i = [] := List.drop_eq_nil_of_le ge
    rw [e] at h
    exact .inl ⟨⟨zs, SqL.of hh.is, by omega⟩, h μ1 H1 σ1 rel.refl rel rl⟩
  | inl lti =>
    have e : ys.drop i = ys[i] :: ys.drop (i + 1) := List.drop_eq_getElem_cons lti
    rw [e] at h
    unfold loopL at h
    cases et : stT t (.tup [.int (i : Nat), ys[i]]) l with
    | none =>
      rw [et] at h
      exact (show False from h).elim
    | some l1 =>
      rw [et] at h
      dsimp only at h
      obtain ⟨x, q1, q2⟩ := rz.get (i := i) (List.getElem?_eq_getElem lti)
      have q2 : RV K μ1 C1.nx H1 ys[i] x := (q2.step stp).step st
      refine .inr ⟨⟨zs, x, SqL.of hh.is, q1⟩, fun σ' H' => ∃ m', m' < k ∧ ∃ μ1 l C1, Step K μ (C.pop p) H μ1 C1 H' ∧ Rel T K μ1 C1 H' ∧ RL K μ1 C1.nx H' l σ' ∧ m' = ys.length - (i + 1) ∧ i + 1 ≤ ys.length ∧ SatS T K W D μ1 C1 H' (loopL t b (ys.drop (i + 1)) (i + 1) l C1), fun σ' H' q => q, fun y H' yl => ?_⟩
      obtain ⟨pp, z, e2, e3, e4, e5⟩ := yl
      subst e2 e4
      have e6 : x = z := Option.some.inj (q1.symm.trans (e5 zs (SqL.of hh.is)))
      subst e6
      obtain ⟨rel2, st2, rv⟩ := pair_new (i := i) rel q2 e3
      refine ⟨μ1, C1, l, _, l1, rel2, rl.step st2, rv, et, fun σ' rl' _ => ⟨μ1, l1, C1, rel2, rl', ?_⟩⟩
      have h := h.shift st2
      cases eb : b l1 C1 with
      | nx l2 C2 =>
        rw [eb] at h
        intro μ3 H3 σ3 st3 rel3 rl3
        exact ⟨ys.length - (i + 1), by omega, μ3, l2, C2, (st.trans st2).trans st3, rel3, rl3, rfl, lti, h.shift st3⟩
      | ct l2 C2 =>
        rw [eb] at h
        intro μ3 H3 σ3 st3 rel3 rl3
        exact ⟨ys.length - (i + 1), by omega, μ3, l2, C2, (st.trans st2).trans st3, rel3, rl3, rfl, lti, h.shift st3⟩
      | bk l2 C2 =>
        rw [eb] at h
        exact h
      | ret v C2 =>
        rw [eb] at h
        exact h
      | exc k fs l' C' =>
        rw [eb] at h
        exact h
      | bad =>
        rw [eb] at h
        exact h
end

/-! ### a list of texts, hidden while a suite runs -/
def insN {α : Type} : List (Nat × α) → Nat → α → List (Nat × α)
  | [], n, x => [(n, x)]
  | (k, o) :: r, n, x => match Nat.blt n k with
    | true => (k, o) :: insN r n x
    | false => (n, x) :: (k, o) :: r
def CH.ins (C : CH) (n : Nat) (o : CO) : CH := ⟨C.nx, insN C.os n o⟩
theorem insN_lk {α : Type} {x : α} {n m : Nat} : ∀ {l : List (Nat × α)} {o : α}, lkN (insN l n x) m = some o → (m = n ∧ o = x) ∨ lkN l m = some o
  | [], o, h => by
    unfold insN at h
    by_cases e : n = m
    · subst e
      rw [lk_cons_self] at h
      cases h
      exact .inl ⟨rfl, rfl⟩
    · rw [lk_cons_ne _ _ e] at h
      exact .inr h
  | (k, u) :: r, o, h => by
    unfold insN at h
    cases e : Nat.blt n k with
    | true =>
      rw [e] at h
      dsimp only at h
      by_cases ek : k = m
      · subst ek
        rw [lk_cons_self] at h
        cases h
        exact .inr (lk_cons_self _ _ _)
      · rw [lk_cons_ne _ _ ek] at h
        rcases insN_lk h with q | q
        · exact .inl q
        · exact .inr (by rw [lk_cons_ne _ _ ek]; exact q)
    | false =>
      rw [e] at h
      dsimp only at h
      by_cases en : n = m
      · subst en
        rw [lk_cons_self] at h
        cases h
        exact .inl ⟨rfl, rfl⟩
      · rw [lk_cons_ne _ _ en] at h
        exact .inr h
theorem insN_mem {α : Type} {x : α} {n : Nat} : ∀ {l : List (Nat × α)} {k : Nat}, k ∈ (insN l n x).map (·.1) → k = n ∨ k ∈ l.map (·.1)
  | [], k, h => by
    left
    simpa [insN] using h
  | (j, u) :: r, k, h => by
    unfold insN at h
    cases e : Nat.blt n j with
    | true =>
      rw [e] at h
      rcases List.mem_cons.mp h with q | q
      · exact .inr (by rw [q]; exact List.mem_cons_self)
      · rcases insN_mem q with q | q
        · exact .inl q
        · exact .inr (List.mem_cons_of_mem _ q)
    | false =>
      rw [e] at h
      rcases List.mem_cons.mp h with q | q
      · exact .inl q
      · exact .inr q
theorem insN_dec {α : Type} {x : α} {n : Nat} : ∀ {l : List (Nat × α)}, (l.map (·.1)).Pairwise (fun a b => b < a) → lkN l n = none → ((insN l n x).map (·.1)).Pairwise (fun a b => b < a)
  | [], _, _ => List.pairwise_singleton _ _
  | (j, u) :: r, d, hn => by
    have d' := d
    rw [List.map_cons, List.pairwise_cons] at d
    have ne : j ≠ n := fun z => by
      rw [z, lk_cons_self] at hn
      cases hn
    rw [lk_cons_ne _ _ ne] at hn
    unfold insN
    cases e : Nat.blt n j with
    | true =>
      have lt : n < j := by simpa using e
      refine List.pairwise_cons.mpr ⟨fun k hk => ?_, insN_dec d.2 hn⟩
      rcases insN_mem hk with q | q
      · rw [q]
        exact lt
      · exact d.1 k q
    | false =>
      have ge : j < n := by
        have : ¬ n < j := fun z => by
          have : Nat.blt n j = true := by simpa using z
          rw [e] at this
          cases this
        omega
      refine List.pairwise_cons.mpr ⟨fun k hk => ?_, d'⟩
      rcases List.mem_cons.mp hk with q | q
      · rw [q]
        exact ge
      · exact Nat.lt_trans (d.1 k q) ge
/-- a run behind which what was held is ours again -/
theorem held_back {n : Nat} {xs : List CV} {ls : List (List Nat)} (es : strsOf xs = some ls) (r : Rel T K μ C H) (hn : C.get n = some (.lst xs)) {μ1 : Mu} {C1 : CH} {H1 : Hp} (st : Step K μ (C.pop n) H μ1 C1 H1) (rel : Rel T K μ1 C1 H1) :
    Rel T K μ1 (C1.ins n (.lst xs)) H1 ∧ Step K μ C H μ1 (C1.ins n (.lst xs)) H1 := by
  obtain ⟨vs, g1, r1⟩ := r.obj n _ hn
  have held : Held μ1 C1 H1 (μ n) (.lst vs) := (held_pop r hn g1).step st
  have lt := r.lt n _ hn
  have em : μ1 n = μ n := st.ag n lt
  have ev := strsOf_ok r1 es
  have rs : RVs K μ1 C1.nx H1 xs vs := by
    obtain ⟨_, stp⟩ := popped r n
    exact (r1.step stp).step st
  have none1 : C1.get n = none := by
    cases q : C1.get n with
    | none => rfl
    | some o => exact absurd ⟨n, o, q, em⟩ held.no
  have nxp : (C.pop n).nx = C.nx := rfl
  have nx1 : (C1.ins n (.lst xs)).nx = C1.nx := rfl
  have lt1 : n < C1.nx := Nat.lt_of_lt_of_le lt st.nx
  refine ⟨⟨fun m o h => ?_, fun m k o u h1 h2 e => ?_, fun m o h => ?_, insN_dec rel.dec none1, fun m hm => ?_⟩, st.nx, st.ag, fun a o h no => ?_, st.there, fun m o h => ?_, st.sq⟩
  · rcases insN_lk h with ⟨e1, e2⟩ | q
    · subst e1 e2
      exact ⟨vs, by rw [em]; exact held.is, rs⟩
    · exact rel.obj m o q
  · rcases insN_lk h1 with ⟨e1, e2⟩ | q
    · rcases insN_lk h2 with ⟨e3, e4⟩ | q2
      · exact e1.trans e3.symm
      · subst e1
        exact absurd ⟨k, u, q2, e.symm.trans em⟩ held.no
    · rcases insN_lk h2 with ⟨e3, e4⟩ | q2
      · subst e3
        exact absurd ⟨m, o, q, e.trans em⟩ held.no
      · exact rel.inj m k o u q q2 e
  · rcases insN_lk h with ⟨e1, e2⟩ | q
    · rw [e1]
      exact lt1
    · exact rel.lt m o q
  · rcases insN_mem hm with q | q
    · rw [q]
      exact lt1
    · exact rel.low m q
  · exact st.keep a o h fun ⟨k, u, q, e⟩ => no ⟨k, u, drop_lk r.dec q, e⟩
  · rcases insN_lk h with ⟨e1, e2⟩ | q
    · subst e1
      exact .inl ⟨lt, _, hn⟩
    · rcases st.fresh m o q with ⟨lt2, u, e2⟩ | z
      · exact .inl ⟨lt2, u, drop_lk r.dec e2⟩
      · exact .inr z
/-- slot i: a list of texts; a loop over enumerate of a younger list: both lists, and slot j, are unknown to its body; the rest has slot i's list again -/
def sHF (i j : Nat) (as : AM) (t : Tg) (b rest : SM) : SM := fun l C => match as l C with
  | .ok vs C1 => (match vs, nthO l i with
    | [.ref m], some (.ref n) => (match isLst (C1.get m), isLst (C1.get n), Nat.ble n m with
      | some ys, some xs, true => (match strsOf xs with
        | some _ => (match loopL t b ys 0 (l.set j none) (C1.pop n) with
          | .nx l1 C2 => rest l1 (C2.ins n (.lst xs))
          | .exc k fs l' C' => .exc k fs l' C'
          | .ret v C' => .ret v C'
          | _ => .bad)
        | none => .bad)
      | _, _, _ => .bad)
    | _, _ => .bad)
  | .exc k fs l' C' => .exc k fs l' C'
  | .bad => .bad
theorem RL.lose {nx : Nat} {l : CL} {σ : L2.St} (r : RL K μ nx H l σ) (j : Nat) : RL K μ nx H (l.set j none) σ := by
  refine ⟨by rw [List.length_set, r.len], fun k w h => ?_⟩
  rw [List.getElem?_set] at h
  split at h
  · split at h <;> cases h
  · exact r.at_ k w h
theorem hf_ok {W : WX} {i j : Nat} {as : AM} {t : Tg} {b c : SM} {D : Ends} {σ : L2.St} {H : Hp} (h : tS T K W (sHF i j as t b c) D σ H) : tFor (iEnum K (tA T K W as)) (tG T K t) (tS T K W b) { D with nx := fun σ H => tS T K W c D σ H } σ H := by
  obtain ⟨μ, l, C, r, rl, h⟩ := h
  refine ⟨μ, l, C, r, rl, ?_⟩
  unfold sHF at h
  cases ea : as l C with
  | bad =>
    rw [ea] at h
    exact h
  | exc k fs l' C' =>
    rw [ea] at h
    exact h
  | ok vs C1 =>
    rw [ea] at h
    dsimp only at h
    intro μ1 H1 xs st1 rel1 rvs
    split at h
    · rename_i m n e1
      cases rvs with
      | cons rv rn =>
      cases rn
      cases rv with
      | ref lt =>
      split at h
      · rename_i ys xs e2 e3 e4
        cases e5 : strsOf xs with
        | none =>
          rw [e5] at h
          exact (show False from h).elim
        | some ls =>
          rw [e5] at h
          dsimp only at h
          have hn := isLst_ok e3
          obtain ⟨relp, stp⟩ := popped rel1 n
          have h := h.shift st1
          obtain ⟨zs, q1, q2⟩ := forH_core (W := W) (t := t) (b := b) (D := { D with nx := fun σ H => tS T K W c D σ H }) (l := l.set j none) rel1 (isLst_ok e2) (Nat.le_of_ble_eq_true e4) ((rl.step st1).lose j) (by
            cases el : loopL t b ys 0 (l.set j none) (C1.pop n) with
            | nx l1 C2 =>
              rw [el] at h
              intro μ2 H2 σ2 st2 rel2 rl2
              obtain ⟨rb, sb⟩ := held_back e5 rel1 hn st2 rel2
              exact ⟨μ2, l1, _, rb, rl2, h.shift sb⟩
            | ret v C2 =>
              rw [el] at h
              exact h.shift stp
            | exc k fs l' C2 =>
              rw [el] at h
              exact h.shift stp
            | bk l1 C2 =>
              rw [el] at h
              exact (show False from h).elim
            | ct l1 C2 =>
              rw [el] at h
              exact (show False from h).elim
            | bad =>
              rw [el] at h
              exact h)
          exact ⟨_, zs, rfl, q1, q2⟩
      · exact (show False from h).elim
    · exact (show False from h).elim
theorem xs_hf {W : WX} {i j : Nat} {as : AM} {t : Tg} {b c : SM} {a : Expr} {elts : List Expr} {kk : Nat} {body rest : List Stmt} {p pos pos2 tpos : Pos} (hp : PassesOwn (model X.prog X.w) X.A X.env X.xe) (hc : X.calm = true) (hg : Gl X "enumerate") (hm : X.mg "enumerate" = none) (ha : PA X [a] (tA T X.K W as)) (ht : PG X (.Tuple elts kk tpos) (tG T X.K t)) (hb : PSs X body (tS T X.K W b)) (hr : PSs X rest (tS T X.K W c))
    (hs : starEach [a] X.env = [(false, eval a X.env)] := by rfl) (hf : ∀ x, foldedSetIterable (.Call (.Name "enumerate" p) [a] [] pos) X.env x = pure x := by intro _; rfl) :
    PSs X (.For (.Tuple elts kk tpos) (.Call (.Name "enumerate" p) [a] [] pos) body [] pos2 :: rest) (tS T X.K W (sHF i j as t b c)) := PSs.imp (pss_cons (ps_for hp hc (pi_enum hg hm ha hs) ht hb hf) hr) fun D σ H h => hf_ok h

/-! ### runs from the empty concrete heap -/
mutual
/-- no reference in it -/
def flatV : CV → Bool
  | .ref _ => false
  | .tup xs => flatVs xs
  | _ => true
def flatVs : List CV → Bool
  | [] => true
  | v :: vs => flatV v && flatVs vs
end
mutual
theorem RV.flat {μ' : Mu} {nx nx' : Nat} : ∀ {v : CV} {x : V}, flatV v = true → RV K μ nx H v x → RV K μ' nx' H v x
  | _, _, _, .non => .non
  | _, _, _, .bl b => .bl b
  | _, _, _, .int i => .int i
  | _, _, _, .str l => .str l
  | _, _, h, .tup e r => .tup e (RVs.flat (by unfold flatV at h; exact h) r)
  | _, _, h, .ref lt => by
    unfold flatV at h
    cases h
theorem RVs.flat {μ' : Mu} {nx nx' : Nat} : ∀ {v : List CV} {x : List V}, flatVs v = true → RVs K μ nx H v x → RVs K μ' nx' H v x
  | _, _, _, .nil => .nil
  | _, _, h, .cons r rs => by
    unfold flatVs at h
    rw [Bool.and_eq_true] at h
    exact .cons (RV.flat h.1 r) (RVs.flat h.2 rs)
end
/-- the slots that hold no reference -/
def flatL : CL → CL
  | [] => []
  | none :: r => none :: flatL r
  | some v :: r => (match flatV v with
    | true => some v
    | false => none) :: flatL r
theorem flatL_len : ∀ l : CL, (flatL l).length = l.length
  | [] => rfl
  | none :: r => by
    unfold flatL
    rw [List.length_cons, List.length_cons, flatL_len r]
  | some v :: r => by
    unfold flatL
    rw [List.length_cons, List.length_cons, flatL_len r]
theorem flatL_at : ∀ (l : CL) (i : Nat) (v : CV), (flatL l)[i]? = some (some v) → l[i]? = some (some v) ∧ flatV v = true
  | [], _, _, h => by
    unfold flatL at h
    simp at h
  | none :: r, 0, v, h => by
    unfold flatL at h
    simp at h
  | none :: r, i + 1, v, h => by
    unfold flatL at h
    have := flatL_at r i v (by simpa using h)
    simpa using this
  | some w :: r, 0, v, h => by
    unfold flatL at h
    cases e : flatV w with
    | true =>
      rw [e] at h
      have h : w = v := by simpa using h
      subst h
      exact ⟨rfl, e⟩
    | false =>
      rw [e] at h
      simp at h
  | some w :: r, i + 1, v, h => by
    unfold flatL at h
    have := flatL_at r i v (by simpa using h)
    simpa using this
theorem flat_rl {μ' : Mu} {nx nx' : Nat} {l : CL} {σ : L2.St} (r : RL K μ nx H l σ) : RL K μ' nx' H (flatL l) σ :=
  ⟨by rw [flatL_len, r.len], fun i v h => let ⟨e, f⟩ := flatL_at l i v h; let ⟨x, q1, q2⟩ := r.at_ i v e; ⟨x, q1, q2.flat f⟩⟩
abbrev C00 : CH := ⟨0, []⟩
theorem rel0 : Rel T K μ C00 H := ⟨fun _ _ h => (nomatch (show none = some _ from h)), fun _ _ _ _ h => (nomatch (show none = some _ from h)), fun _ _ h => (nomatch (show none = some _ from h)), List.Pairwise.nil, fun _ h => (nomatch h)⟩
/-- what is run with the heap unknown, changes nothing of ours -/
theorem iso_back (r : Rel T K μ C H) {μ1 : Mu} {C1 : CH} {H1 : Hp} (st : Step K μ C00 H μ1 C1 H1) : Rel T K μ C H1 ∧ Step K μ C H μ C H1 :=
  same r fun a o h => st.keep a o h fun ⟨_, _, e, _⟩ => nomatch (show none = some _ from e)
/-- an expression over slots without references, answering with such a value -/
def xIso (m : EM) : EM := fun l C => match m (flatL l) C00 with
  | .ok v _ => (match flatV v with
    | true => .ok v C
    | false => .bad)
  | _ => .bad
theorem xe_iso {W : WX} {e : Expr} {m : EM} (he : PE X e (tX T X.K W m)) : PE X e (tX T X.K W (xIso m)) := by
  refine PE.imp he fun σ H Q ⟨μ, l, C, r, rl, h⟩ => ⟨μ, flatL l, C00, rel0, flat_rl rl, ?_⟩
  unfold xIso at h
  cases em : m (flatL l) C00 with
  | ok v C1 =>
    rw [em] at h
    dsimp only at h
    cases ef : flatV v with
    | false =>
      rw [ef] at h
      exact (show False from h).elim
    | true =>
      rw [ef] at h
      intro μ1 H1 x st rel rv
      obtain ⟨r1, s1⟩ := iso_back r st
      exact h μ H1 x s1 r1 (rv.flat ef)
  | exc k fs l' C' =>
    rw [em] at h
    exact (show False from h).elim
  | bad =>
    rw [em] at h
    exact h
/-- a def's answers at texts, told ahead -/
def orF (tab : List Nat → Option CV) : FM := fun cs C => match cs with
  | [.str s] => (match tab s with
    | some w => .ok w C
    | none => .bad)
  | _ => .bad
theorem orF_bad {tab : List Nat → Option CV} (vs : List CV) (C : CH) (h : orF tab vs C ≠ .bad) : vs.length = 1 := by
  unfold orF at h
  split at h
  · rfl
  · exact absurd rfl h
theorem orF_sp {f : FM} {tab : List Nat → Option CV} (ht : ∀ s w, tab s = some w → flatV w = true ∧ ∃ C', f [.str s] C00 = .ok w C') {vs : List V} {H : Hp} {Q : VK} {E : XK} (h : spM T K 1 (orF tab) vs H Q E) : spM T K 1 f vs H Q E := by
  obtain ⟨μ, C, cs, r, rv, e, h⟩ := h
  unfold orF at h
  split at h
  · rename_i s
    cases et : tab s with
    | none =>
      rw [et] at h
      exact (show False from h).elim
    | some w =>
      rw [et] at h
      obtain ⟨fw, C1, ef⟩ := ht s w et
      refine ⟨μ, C00, [.str s], rel0, rv.flat rfl, e, ?_⟩
      rw [ef]
      intro μ1 H1 x st rel rx
      obtain ⟨r1, s1⟩ := iso_back r st
      exact h μ H1 x s1 r1 (rx.flat fw)
  · exact (show False from h).elim
end Ex

set_option Elab.async false
set_option linter.all false
set_option maxRecDepth 100000
set_option maxHeartbeats 0
namespace Ex
open PySem PySem.Spec PyProof.Rows L2
def b_is_whole : SM := (sSeq (sRet (xAnd (xIsi 2 (xVar 0)) (xNot (xIsi 1 (xVar 0))))) sNil)
def m_is_whole : FM := runN true 1 1 b_is_whole
def b_subsets : SM := (sSeq (sAsg (xCall fLst (aCons (xCall fTup aNil) aNil)) (.nm 2)) (sSeq (sAsg (xCall fLst aNil) (.nm 3)) (sSeq (sFor (iOne ri2 (aCons (xVar 0) aNil)) (.tp [4, 5]) (sSeq (sAsg (x2 fAdd (xVar 2) (xLc (iSeqL (xVar 2)) [6] (.nm 6) (some (x2 fLt (xCall fLen (aCons (xVar 6) aNil)) (xVar 1))) (x2 fAdd (xVar 6) (xCall fTup (aCons (xVar 5) aNil))))) (.nm 2)) (sSeq (sAsg (xLc (iSeqL (xVar 2)) [6] (.nm 6) (some (x2 fEq (xCall fLen (aCons (xVar 6) aNil)) (xVar 1))) (xVar 6)) (.nm 3)) sNil))) (sSeq (sRet (xIf (xTru (xVar 1)) (xCall fSorted (aCons (xVar 3) aNil)) (xCall fLst (aCons (xCall fTup aNil) aNil)))) sNil))))
def m_subsets : FM := runN false 2 7 b_subsets
def b_is_part : SM := (sSeq (sRet (xCall fAll (aCons (xLc (iSeqT (xVar 0)) [2] (.nm 2) none (x2 fIn (xVar 2) (xVar 1))) aNil))) sNil)
def m_is_part : FM := runN true 2 3 b_is_part
def b_left_out : SM := (sSeq (sRet (xCall fTuple (aCons (xLc (iSeqT (xVar 0)) [2] (.nm 2) (some (x2 fNin (xVar 2) (xVar 1))) (xVar 2)) aNil))) sNil)
def m_left_out : FM := runN true 2 3 b_left_out
def b_is_within_row : SM := (sSeq (sRet (xAnd (x2 fLt (xCall fLen (aCons (xVar 0) aNil)) (xCall fLen (aCons (xVar 1) aNil))) (xFn m_is_part (aCons (xVar 0) (aCons (xVar 1) aNil))))) sNil)
def m_is_within_row : FM := runN true 2 2 b_is_within_row
def b_is_face_shape : SM := (sSeq (sIf (yOr (yNot (xTru (xIsi 4 (xVar 0)))) (yNot (xTru (xCall fAll (aCons (xLc (iSeqT (xVar 0)) [2] (.nm 2) none (xAnd (xFn m_is_whole (aCons (xVar 2) aNil)) (xChain fLe fLe (xC (.int 0)) (xVar 2) (xC (.int 100000))))) aNil))))) (sSeq (sRet (xC (.bl false))) sNil) sNil) (sSeq (sRet (xCall fAll (aCons (xLc (iOne ri1 (aCons (x2 fSub (xCall fLen (aCons (xVar 0) aNil)) (xC (.int 1))) aNil)) [1] (.nm 1) none (x2 fLt (x2 fIx (xVar 0) (xVar 1)) (x2 fIx (xVar 0) (x2 fAdd (xVar 1) (xC (.int 1)))))) aNil))) sNil))
def m_is_face_shape : FM := runN true 1 3 b_is_face_shape
def b_is_complex : SM := (sSeq (sIf (yOr (yNot (xTru (xIsi 4 (xVar 0)))) (yNot (xTru (xCall fAll (aCons (xLc (iSeqT (xVar 0)) [3] (.nm 3) none (xAnd (xFn m_is_face_shape (aCons (xVar 3) aNil)) (xVar 3))) aNil))))) (sSeq (sRet (xC (.bl false))) sNil) sNil) (sSeq (sIf (yNot (xTru (xCall fAll (aCons (xLc (iOne ri1 (aCons (x2 fSub (xCall fLen (aCons (xVar 0) aNil)) (xC (.int 1))) aNil)) [2] (.nm 2) none (x2 fLt (x2 fIx (xVar 0) (xVar 2)) (x2 fIx (xVar 0) (x2 fAdd (xVar 2) (xC (.int 1)))))) aNil)))) (sSeq (sRet (xC (.bl false))) sNil) sNil) (sSeq (sAsg (xSortSet (xLc (iSeqT (xVar 0)) [3] (.nm 3) none (xCall fLen (aCons (xVar 3) aNil)))) (.nm 1)) (sSeq (sIf (x2 fLt (xCall fLen (aCons (xVar 1) aNil)) (xC (.int 2))) (sSeq (sRet (xC (.bl true))) sNil) sNil) (sSeq (sRet (xNot (xCall fAny (aCons (xLc2 (iSeqT (xVar 0)) [4, 5] (.nm 4) (some (x2 fLt (xCall fLen (aCons (xVar 4) aNil)) (x2 fIx (xVar 1) (xNeg (xC (.int 1)))))) (iSeqT (xVar 0)) [5] (.nm 5) none (xFn m_is_within_row (aCons (xVar 4) (aCons (xVar 5) aNil)))) aNil)))) sNil)))))
def m_is_complex : FM := runN true 1 6 b_is_complex
def b_check_complex : SM := (sSeq (sIf (yNot (xTru (xFn m_is_complex (aCons (xVar 0) aNil)))) (sSeq (sBad) sNil) sNil) sNil)
def m_check_complex : FM := runN true 1 1 b_check_complex
def b_complex_of : SM := (sSeq (sIf (yNot (xTru (xCall fAll (aCons (xLc (iSeqA (xVar 0)) [5] (.nm 5) none (xFn m_is_face_shape (aCons (xVar 5) aNil))) aNil)))) (sSeq (sBad) sNil) sNil) (sSeq (sAsg (xLc (iSeqL (xSortSet (xLc (iSeqA (xVar 0)) [5] (.nm 5) none (xCall fTup (aCons (x2 fSub (xC (.int 0)) (xCall fLen (aCons (xVar 5) aNil))) (aCons (xVar 5) aNil)))))) [6, 5] (.tp [6, 5]) none (xVar 5)) (.nm 1)) (sSeq (sAsg (xCall fLst aNil) (.nm 2)) (sSeq (sAsg (xCall fLst aNil) (.nm 3)) (sSeq (sFor (iOne ri3 (aCons (xVar 1) aNil)) (.tp [4, 5]) (sSeq (sIf (yAnd (xTru (xVar 4)) (x2 fLt (xCall fLen (aCons (xVar 5) aNil)) (xCall fLen (aCons (x2 fIx (xVar 1) (x2 fSub (xVar 4) (xC (.int 1)))) aNil)))) (sSeq (sAsg (xCall fList (aCons (xVar 3) aNil)) (.nm 2)) sNil) sNil) (sSeq (sIf (yAnd (xTru (xVar 5)) (yNot (xTru (xCall fAny (aCons (xLc (iSeqL (xVar 2)) [7] (.nm 7) none (xFn m_is_part (aCons (xVar 5) (aCons (xVar 7) aNil)))) aNil))))) (sSeq (sDrop (xBM 1 fAppend (xVar 3) (aCons (xVar 5) aNil))) sNil) sNil) sNil))) (sSeq (sRet (xCall fTuple (aCons (xCall fSorted (aCons (xVar 3) aNil)) aNil))) sNil))))))
def m_complex_of : FM := runN true 1 8 b_complex_of
def b_all_faces : SM := (sSeq (sDrop (xFn m_check_complex (aCons (xVar 0) aNil))) (sSeq (sAsg (xCall fMax (aCons (x2 fAdd (xLc (iSeqT (xVar 0)) [6] (.nm 6) none (xCall fLen (aCons (xVar 6) aNil))) (xCall fLst (aCons (xC (.int 0)) aNil))) aNil)) (.nm 1)) (sSeq (sAsg (xCall fLst aNil) (.nm 2)) (sSeq (sAsg (xC (.int 0)) (.nm 3)) (sSeq (sFor (iOne ri1 (aCons (x2 fAdd (xVar 1) (xC (.int 1))) aNil)) (.nm 4) (sSeq (sAsg xNewT (.nm 5)) (sSeq (sFor (iSeqT (xVar 0)) (.nm 6) (sSeq (sIf (x2 fGe (xCall fLen (aCons (xVar 6) aNil)) (xVar 4)) (sSeq (sFor (iSeqL (xFn m_subsets (aCons (xVar 6) (aCons (xVar 4) aNil)))) (.nm 7) (sSeq (sDPutC (xVar 5) (xVar 7) (xC (.bl true))) sNil)) sNil) sNil) (sSeq (sIf (x2 fGt (xCall fLen (aCons (xVar 5) aNil)) (xC (.int 6000))) (sSeq (sBad) sNil) sNil) sNil))) (sSeq (sDrop (xBM 1 fAppend (xVar 2) (aCons (xIf (xTru (xVar 4)) (xCall fSortedD (aCons (xVar 5) aNil)) (xCall fLst (aCons (xCall fTup aNil) aNil))) aNil))) (sSeq (sAug 3 fAddI (xCall fLen (aCons (x2 fIx (xVar 2) (xNeg (xC (.int 1)))) aNil))) (sSeq (sIf (x2 fGt (xVar 3) (xC (.int 6000))) (sSeq (sBad) sNil) sNil) sNil)))))) (sSeq (sRet (xVar 2)) sNil))))))
def m_all_faces : FM := runN false 1 8 b_all_faces
def b_faces_of : SM := (sSeq (sAsg (xFn m_all_faces (aCons (xVar 0) aNil)) (.nm 2)) (sSeq (sRet (xIf (xChain fLe fLt (xC (.int 0)) (x2 fAdd (xVar 1) (xC (.int 1))) (xCall fLen (aCons (xVar 2) aNil))) (xCall fTuple (aCons (x2 fIx (xVar 2) (x2 fAdd (xVar 1) (xC (.int 1)))) aNil)) (xCall fTup aNil))) sNil))
def m_faces_of : FM := runN true 2 3 b_faces_of
def b_points_of : SM := (sSeq (sDrop (xFn m_check_complex (aCons (xVar 0) aNil))) (sSeq (sRet (xCall fTuple (aCons (xSortSet (xLc2 (iSeqT (xVar 0)) [1, 2] (.nm 1) none (iSeqT (xVar 1)) [2] (.nm 2) none (xVar 2))) aNil))) sNil))
def m_points_of : FM := runN true 1 3 b_points_of
def b_dimension : SM := (sSeq (sDrop (xFn m_check_complex (aCons (xVar 0) aNil))) (sSeq (sRet (x2 fSub (xCall fMax (aCons (x2 fAdd (xLc (iSeqT (xVar 0)) [1] (.nm 1) none (xCall fLen (aCons (xVar 1) aNil))) (xCall fLst (aCons (xC (.int 0)) aNil))) aNil)) (xC (.int 1)))) sNil))
def m_dimension : FM := runN true 1 2 b_dimension
def b_is_in : SM := (sSeq (sRet (xOr (xNot (xVar 1)) (xCall fAny (aCons (xLc (iSeqT (xVar 0)) [2] (.nm 2) none (xFn m_is_part (aCons (xVar 1) (aCons (xVar 2) aNil)))) aNil)))) sNil)
def m_is_in : FM := runN true 2 3 b_is_in
def b_has_face : SM := (sSeq (sDrop (xFn m_check_complex (aCons (xVar 0) aNil))) (sSeq (sRet (xFn m_is_in (aCons (xVar 0) (aCons (xVar 1) aNil)))) sNil))
def m_has_face : FM := runN true 2 2 b_has_face
def b_boundary_faces : SM := (sSeq (sRet (xLc (iOne ri1 (aCons (xCall fLen (aCons (xVar 0) aNil)) aNil)) [1] (.nm 1) none (x2 fAdd (xSl (xVar 0) oNone (oSome (xVar 1))) (xSl (xVar 0) (oSome (x2 fAdd (xVar 1) (xC (.int 1)))) oNone)))) sNil)
def m_boundary_faces : FM := runN false 1 2 b_boundary_faces
def b_boundary_table : SM := (sSeq (sAsg (xFn m_faces_of (aCons (xVar 0) (aCons (xVar 1) aNil))) (.nm 2)) (sSeq (sIf (x2 fLt (xVar 1) (xC (.int 1))) (sSeq (sRet (xLc (iSeqT (xVar 2)) [5] (.nm 5) none (xCall fLst aNil))) sNil) sNil) (sSeq (sAsg (xCall fDictP (aCons (xLc (iOne ri2 (aCons (xFn m_faces_of (aCons (xVar 0) (aCons (x2 fSub (xVar 1) (xC (.int 1))) aNil))) aNil)) [7, 5] (.tp [7, 5]) none (xCall fTup (aCons (xVar 5) (aCons (xVar 7) aNil)))) aNil)) (.nm 3)) (sSeq (sAsg (xCall fLst aNil) (.nm 4)) (sSeq (sFor (iSeqT (xVar 2)) (.nm 5) sBad) (sSeq (sRet (xVar 4)) sNil))))))
def m_boundary_table : FM := runN false 2 9 b_boundary_table
def b_unit : SM := (sSeq (sRet (xLc (iOne ri1 (aCons (xVar 0) aNil)) [1] (.nm 1) none (xLc (iOne ri1 (aCons (xVar 0) aNil)) [2] (.nm 2) none (xCall fInt (aCons (x2 fEq (xVar 1) (xVar 2)) aNil))))) sNil)
def m_unit : FM := runN false 1 3 b_unit
def b_row_times : SM := (sSeq (sRet (xLc (iOne ri1 (aCons (xVar 2) aNil)) [3] (.nm 3) none (xCall fSum (aCons (xLc (iOne ri1 (aCons (xCall fLen (aCons (xVar 1) aNil)) aNil)) [4] (.nm 4) none (x2 fMul (x2 fIx (xVar 0) (xVar 4)) (x2 fIx (x2 fIx (xVar 1) (xVar 4)) (xVar 3)))) aNil)))) sNil)
def m_row_times : FM := runN false 3 5 b_row_times
def b_Former_init : SM := (sSeq (sFldC 0 0 (xVar 0) (xLc (iSeqL (xVar 1)) [3] (.nm 3) none (xCall fList (aCons (xVar 3) aNil)))) (sSeq (sAsgT (xCall fTup (aCons (xCall fLen (aCons (xVar 1) aNil)) (aCons (xVar 2) aNil))) [.fl 0 1, .fl 0 2]) (sSeq (sAsgT (xCall fTup (aCons (xFn m_unit (aCons (xFld 0 1 (xVar 0)) aNil)) (aCons (xFn m_unit (aCons (xVar 2) aNil)) aNil))) [.fl 0 3, .fl 0 4]) (sSeq (sAsgT (xCall fTup (aCons (xFn m_unit (aCons (xFld 0 1 (xVar 0)) aNil)) (aCons (xFn m_unit (aCons (xVar 2) aNil)) aNil))) [.fl 0 5, .fl 0 6]) sNil))))
def m_Former_init : FM := runN false 3 4 b_Former_init
def b_Former_formed : SM := (sSeq (sAsg (xCall fLst aNil) (.nm 1)) (sSeq (sAsg (xC (.int 0)) (.nm 2)) (sSeq (sWhile0 (x2 fLt (xVar 2) (xCall fMin2 (aCons (xFld 0 1 (xVar 0)) (aCons (xFld 0 2 (xVar 0)) aNil))))) (sSeq (sRet (xVar 1)) sNil))))
def m_Former_formed : FM := runN false 1 8 b_Former_formed
def b_smith : SM := (sSeq (sAsg (xMake 0 m_Former_init (aCons (xVar 0) (aCons (xVar 1) aNil))) (.nm 2)) (sSeq (sAsg (xMeth 0 m_Former_formed (xVar 2) aNil) (.nm 3)) (sSeq (sRet (xCall fTup (aCons (xVar 3) (aCons (xFld 0 3 (xVar 2)) (aCons (xFld 0 4 (xVar 2)) (aCons (xFld 0 5 (xVar 2)) (aCons (xFld 0 6 (xVar 2)) aNil))))))) sNil)))
def m_smith : FM := runN false 2 4 b_smith
def b_free_pairs : SM := (sSeq (sDrop (xFn m_check_complex (aCons (xVar 0) aNil))) (sSeq (sAsg (xCall fLst aNil) (.nm 1)) (sSeq (sFor (iSeqL (xSl (xFn m_all_faces (aCons (xVar 0) aNil)) (oSome (xC (.int 1))) oNone)) (.nm 2) (sSeq (sFor (iSeqL (xVar 2)) (.nm 3) (sSeq (sAsg (xLc (iSeqT (xVar 0)) [5] (.nm 5) (some (xTru (xFn m_is_part (aCons (xVar 3) (aCons (xVar 5) aNil))))) (xVar 5)) (.nm 4)) (sSeq (sIf (yAnd (x2 fEq (xCall fLen (aCons (xVar 4) aNil)) (xC (.int 1))) (x2 fEq (xCall fLen (aCons (x2 fIx (xVar 4) (xC (.int 0))) aNil)) (x2 fAdd (xCall fLen (aCons (xVar 3) aNil)) (xC (.int 1))))) (sSeq (sDrop (xBM 1 fAppend (xVar 1) (aCons (xCall fTup (aCons (xVar 3) (aCons (x2 fIx (xVar 4) (xC (.int 0))) aNil))) aNil))) sNil) sNil) sNil))) sNil)) (sSeq (sRet (xCall fTuple (aCons (xCall fSorted (aCons (xVar 1) aNil)) aNil))) sNil))))
def m_free_pairs : FM := runN true 1 6 b_free_pairs
def b_collapsed : SM := (sSeq (sIf (x2 fNin (xVar 1) (xFn m_free_pairs (aCons (xVar 0) aNil))) (sSeq (sBad) sNil) sNil) (sSeq (sAsg (xVar 1) (.tp [3, 4])) (sSeq (sAsg (xLc (iSeqT (xVar 0)) [5] (.nm 5) (some (x2 fNe (xVar 5) (xVar 4))) (xVar 5)) (.nm 2)) (sSeq (sRet (xFn m_complex_of (aCons (x2 fAdd (xVar 2) (xLc (iSeqL (xFn m_boundary_faces (aCons (xVar 4) aNil))) [5] (.nm 5) (some (x2 fNe (xVar 5) (xVar 3))) (xVar 5))) aNil))) sNil))))
def m_collapsed : FM := runN true 2 6 b_collapsed
def b_above : SM := (sSeq (sAsg (xFn m_points_of (aCons (xVar 0) aNil)) (.nm 1)) (sSeq (sRet (xIf (xTru (xVar 1)) (x2 fAdd (x2 fIx (xVar 1) (xNeg (xC (.int 1)))) (xC (.int 1))) (xC (.int 0)))) sNil))
def m_above : FM := runN true 1 2 b_above
def b_divided_at : SM := (sSeq (sDrop (xFn m_check_complex (aCons (xVar 0) aNil))) (sSeq (sIf (yOr (x2 fLt (xCall fLen (aCons (xVar 1) aNil)) (xC (.int 2))) (yNot (xTru (xFn m_has_face (aCons (xVar 0) (aCons (xVar 1) aNil)))))) (sSeq (sBad) sNil) sNil) (sSeq (sAsg (xFn m_above (aCons (xVar 0) aNil)) (.nm 2)) (sSeq (sAsg (xCall fLst aNil) (.nm 3)) (sSeq (sFor (iSeqT (xVar 0)) (.nm 4) (sSeq (sIf (xTru (xFn m_is_part (aCons (xVar 1) (aCons (xVar 4) aNil)))) (sSeq (sFor (iSeqT (xVar 1)) (.nm 5) (sSeq (sDrop (xBM 1 fAppend (xVar 3) (aCons (x2 fAdd (xCall fTuple (aCons (xLc (iSeqT (xVar 4)) [6] (.nm 6) (some (x2 fNe (xVar 6) (xVar 5))) (xVar 6)) aNil)) (xCall fTup (aCons (xVar 2) aNil))) aNil))) sNil)) sNil) (sSeq (sDrop (xBM 1 fAppend (xVar 3) (aCons (xVar 4) aNil))) sNil)) sNil)) (sSeq (sRet (xFn m_complex_of (aCons (xVar 3) aNil))) sNil))))))
def m_divided_at : FM := runN true 2 7 b_divided_at
def b_flips : SM := (sSeq (sAsg (xCall fLst aNil) (.nm 1)) (sSeq (sFor (iSeqL (xSl (xFn m_all_faces (aCons (xVar 0) aNil)) (oSome (xC (.int 1))) oNone)) (.nm 2) (sSeq (sFor (iSeqL (xVar 2)) (.nm 3) (sSeq (sAsg (xLc (iSeqT (xVar 0)) [6] (.nm 6) (some (xTru (xFn m_is_part (aCons (xVar 3) (aCons (xVar 6) aNil))))) (xFn m_left_out (aCons (xVar 6) (aCons (xVar 3) aNil)))) (.nm 4)) (sSeq (sAsg (xCall fTuple (aCons (xSortSet (xLc2 (iSeqL (xVar 4)) [6, 7] (.nm 6) none (iSeqT (xVar 6)) [7] (.nm 7) none (xVar 7))) aNil)) (.nm 5)) (sSeq (sIf (yAnd (x2 fGt (xCall fLen (aCons (xVar 5) aNil)) (xC (.int 1))) (yNot (xTru (xFn m_is_in (aCons (xVar 0) (aCons (xVar 5) aNil)))))) (sSeq (sIf (x2 fEq (xCall fSorted (aCons (xVar 4) aNil)) (xCall fSorted (aCons (xFn m_boundary_faces (aCons (xVar 5) aNil)) aNil))) (sSeq (sDrop (xBM 1 fAppend (xVar 1) (aCons (xCall fTup (aCons (xVar 3) (aCons (xVar 5) aNil))) aNil))) sNil) sNil) sNil) sNil) sNil)))) sNil)) (sSeq (sRet (xCall fTuple (aCons (xCall fSorted (aCons (xVar 1) aNil)) aNil))) sNil)))
def m_flips : FM := runN true 1 8 b_flips
def b_flipped : SM := (sSeq (sIf (x2 fNin (xCall fTup (aCons (xVar 1) (aCons (xVar 2) aNil))) (xFn m_flips (aCons (xVar 0) aNil))) (sSeq (sBad) sNil) sNil) (sSeq (sAsg (xLc (iSeqT (xVar 0)) [5] (.nm 5) (some (yNot (xTru (xFn m_is_part (aCons (xVar 1) (aCons (xVar 5) aNil)))))) (xVar 5)) (.nm 3)) (sSeq (sAsg (xLc (iSeqL (xFn m_boundary_faces (aCons (xVar 1) aNil))) [5] (.nm 5) none (xCall fTuple (aCons (xCall fSortedT (aCons (x2 fAdd (xVar 5) (xVar 2)) aNil)) aNil))) (.nm 4)) (sSeq (sRet (xFn m_complex_of (aCons (x2 fAdd (xVar 3) (xVar 4)) aNil))) sNil))))
def m_flipped : FM := runN true 3 6 b_flipped
def b_Level_init : SM := (sSeq (sFldC 1 7 (xVar 0) (xFn m_faces_of (aCons (xVar 1) (aCons (xVar 2) aNil)))) (sSeq (sAsg (xFn m_boundary_table (aCons (xVar 1) (aCons (xVar 2) aNil))) (.nm 3)) (sSeq (sAsg (xFn m_boundary_table (aCons (xVar 1) (aCons (x2 fAdd (xVar 2) (xC (.int 1))) aNil))) (.nm 4)) (sSeq (sAsg (xIf (xTru (xVar 3)) (xCall fLen (aCons (x2 fIx (xVar 3) (xC (.int 0))) aNil)) (xC (.int 0))) (.nm 5)) (sSeq (sAsg (xFn m_smith (aCons (xVar 3) (aCons (xVar 5) aNil))) (.tp [8, 9, 10, 11, 12])) (sSeq (sFldC 1 8 (xVar 0) (xCall fLen (aCons (xVar 8) aNil))) (sSeq (sFldC 1 5 (xVar 0) (xVar 11)) (sSeq (sFldC 1 9 (xVar 0) (xSl (xVar 9) (oSome (xFld 1 8 (xVar 0))) oNone)) (sSeq (sAsg (xCall fLen (aCons (xFld 1 9 (xVar 0)) aNil)) (.nm 6)) (sSeq (sAsg (xLc (iSeqL (xVar 4)) [15] (.nm 15) none (xSl (xFn m_row_times (aCons (xVar 15) (aCons (xVar 11) (aCons (xCall fLen (aCons (xFld 1 7 (xVar 0)) aNil)) aNil)))) (oSome (xFld 1 8 (xVar 0))) oNone)) (.nm 7)) (sSeq (sAsgT (xFn m_smith (aCons (xVar 7) (aCons (xVar 6) aNil))) [.fl 1 10, .nm 13, .fl 1 4, .nm 14, .fl 1 11]) (sSeq (sFldC 1 12 (xVar 0) (xVar 6)) sNil))))))))))))
def m_Level_init : FM := runN false 3 16 b_Level_init
def b_Level_orders : SM := (sSeq (sRet (x2 fAdd (xLc (iSeqL (xFld 1 10 (xVar 0))) [1] (.nm 1) (some (x2 fGt (xVar 1) (xC (.int 1)))) (xVar 1)) (x2 fMul (xCall fLst (aCons (xC (.int 0)) aNil)) (x2 fSub (xFld 1 12 (xVar 0)) (xCall fLen (aCons (xFld 1 10 (xVar 0)) aNil)))))) sNil)
def m_Level_orders : FM := runN false 1 2 b_Level_orders
def b_homology : SM := (sSeq (sAsg (xCall fLst aNil) (.nm 1)) (sSeq (sFor (iOne ri1 (aCons (x2 fAdd (xFn m_dimension (aCons (xVar 0) aNil)) (xC (.int 1))) aNil)) (.nm 2) (sSeq (sAsg (xMeth 1 m_Level_orders (xMake 1 m_Level_init (aCons (xVar 0) (aCons (xVar 2) aNil))) aNil) (.nm 3)) (sSeq (sDrop (xBM 1 fAppend (xVar 1) (aCons (xCall fTup (aCons (xCall fTuple (aCons (xLc (iSeqL (xVar 3)) [4] (.nm 4) (some (xTru (xVar 4))) (xVar 4)) aNil)) (aCons (xCall fLen (aCons (xLc (iSeqL (xVar 3)) [4] (.nm 4) (some (yNot (xTru (xVar 4)))) (xVar 4)) aNil)) aNil))) aNil))) sNil))) (sSeq (sRet (xCall fTuple (aCons (xVar 1) aNil))) sNil)))
def m_homology : FM := runN true 1 5 b_homology
def b_reduced_homology : SM := (sSeq (sIf (x2 fLt (xFn m_dimension (aCons (xVar 0) aNil)) (xC (.int 0))) (sSeq (sRet (xCall fTup (aCons (xCall fTup (aCons (xNeg (xC (.int 1))) (aCons (xCall fTup aNil) (aCons (xC (.int 1)) aNil)))) aNil))) sNil) sNil) (sSeq (sAsg (xCall fLst aNil) (.nm 1)) (sSeq (sFor (iOne ri2 (aCons (xFn m_homology (aCons (xVar 0) aNil)) aNil)) (.tq 2 [4, 3]) (sSeq (sAug 3 fSub (xCall fInt (aCons (x2 fEq (xVar 2) (xC (.int 0))) aNil))) (sSeq (sIf (yOr (xTru (xVar 4)) (xTru (xVar 3))) (sSeq (sDrop (xBM 1 fAppend (xVar 1) (aCons (xCall fTup (aCons (xVar 2) (aCons (xVar 4) (aCons (xVar 3) aNil)))) aNil))) sNil) sNil) sNil))) (sSeq (sRet (xCall fTuple (aCons (xVar 1) aNil))) sNil))))
def m_reduced_homology : FM := runN true 1 5 b_reduced_homology
def b_face_text : SM := (sSeq (sRet (xBM 0 fJoin (xC (.str [32])) (aCons (xLc (iSeqT (xVar 0)) [1] (.nm 1) none (xCall fStr (aCons (xVar 1) aNil))) aNil))) sNil)
def m_face_text : FM := runN true 1 2 b_face_text
def b_complex_text : SM := (sSeq (sDrop (xFn m_check_complex (aCons (xVar 0) aNil))) (sSeq (sRet (xIf (xTru (xVar 0)) (xBM 0 fJoin (xC (.str [32, 47, 32])) (aCons (xLc (iSeqT (xVar 0)) [1] (.nm 1) none (xFn m_face_text (aCons (xVar 1) aNil))) aNil)) (xC (.str [45])))) sNil))
def m_complex_text : FM := runN true 1 2 b_complex_text
def b_read_number : SM := (sSeq (sIf (yOr (yNot (xTru (xVar 0))) (yOr (x2 fGt (xCall fLen (aCons (xVar 0) aNil)) (xC (.int 6))) (xTru (xCall fAny (aCons (xLc (iStrC (xVar 0)) [1] (.nm 1) none (x2 fNin (xVar 1) (xC (.str [48, 49, 50, 51, 52, 53, 54, 55, 56, 57])))) aNil))))) (sSeq (sRet (xC .non)) sNil) sNil) (sSeq (sIf (yOr (x2 fNe (xVar 0) (xCall fStr (aCons (xCall fInt (aCons (xVar 0) aNil)) aNil))) (x2 fGt (xCall fInt (aCons (xVar 0) aNil)) (xC (.int 100000)))) (sSeq (sRet (xC .non)) sNil) sNil) (sSeq (sRet (xCall fInt (aCons (xVar 0) aNil))) sNil)))
def m_read_number : FM := runN true 1 2 b_read_number
def b_read_face : SM := (sSeq (sAsg (xLc (iSeqL (xBM 0 fSplit (xVar 0) (aCons (xC (.str [32])) aNil))) [2] (.nm 2) none (xFn m_read_number (aCons (xVar 2) aNil))) (.nm 1)) (sSeq (sIf (yOr (x2 fIn (xC .non) (xVar 1)) (xTru (xCall fAny (aCons (xLc (iOne ri1 (aCons (x2 fSub (xCall fLen (aCons (xVar 1) aNil)) (xC (.int 1))) aNil)) [3] (.nm 3) none (x2 fGe (x2 fIx (xVar 1) (xVar 3)) (x2 fIx (xVar 1) (x2 fAdd (xVar 3) (xC (.int 1)))))) aNil)))) (sSeq (sRet (xC .non)) sNil) sNil) (sSeq (sRet (xCall fTuple (aCons (xVar 1) aNil))) sNil)))
def m_read_face : FM := runN true 1 4 b_read_face
def b_is_name : SM := (sSeq (sIf (yOr (yNot (xTru (xIsi 3 (xVar 0)))) (yOr (yNot (xChain fLe fLe (xC (.int 1)) (xCall fLen (aCons (xVar 0) aNil)) (xC (.int 10)))) (x2 fNin (x2 fIx (xVar 0) (xC (.int 0))) (xC (.str [97, 98, 99, 100, 101, 102, 103, 104, 105, 106, 107, 108, 109, 110, 111, 112, 113, 114, 115, 116, 117, 118, 119, 120, 121, 122]))))) (sSeq (sRet (xC (.bl false))) sNil) sNil) (sSeq (sRet (xCall fAll (aCons (xLc (iStrC (xVar 0)) [1] (.nm 1) none (x2 fIn (xVar 1) (x2 fAdd (xC (.str [97, 98, 99, 100, 101, 102, 103, 104, 105, 106, 107, 108, 109, 110, 111, 112, 113, 114, 115, 116, 117, 118, 119, 120, 121, 122])) (xC (.str [48, 49, 50, 51, 52, 53, 54, 55, 56, 57]))))) aNil))) sNil))
def m_is_name : FM := runN true 1 2 b_is_name
def b_is_new_face : SM := (sSeq (sRet (xAnd (xFn m_is_face_shape (aCons (xVar 1) aNil)) (xAnd (x2 fNe (xVar 1) (xCall fTup aNil)) (xNot (xFn m_has_face (aCons (xVar 0) (aCons (xVar 1) aNil))))))) sNil)
def m_is_new_face : FM := runN true 2 2 b_is_new_face
def b_Desk_init : SM := (sSeq (sFldC 2 13 (xVar 0) xNewK) (sSeq (sFldC 2 14 (xVar 0) (xCall fLst aNil)) (sSeq (sFldC 2 15 (xVar 0) (xCall fLst aNil)) sNil)))
def m_Desk_init : FM := runN false 1 1 b_Desk_init
def b_Desk_noted : SM := (sSeq (sDrop (xBM 1 fAppend (xFld 2 15 (xVar 0)) (aCons (xFld 2 13 (xVar 0)) aNil))) (sSeq (sFldC 2 13 (xVar 0) (xVar 2)) (sSeq (sDrop (xBM 1 fAppend (xFld 2 14 (xVar 0)) (aCons (xVar 1) aNil))) sNil)))
def m_Desk_noted : FM := runN false 3 3 b_Desk_noted
def b_Desk_changed : SM := (sSeq (sAsg (xCall fDict (aCons (xFld 2 13 (xVar 0)) aNil)) (.nm 4)) (sSeq (sDPutC (xVar 4) (xVar 1) (xVar 2)) (sSeq (sDrop (xMeth 2 m_Desk_noted (xVar 0) (aCons (xVar 3) (aCons (xVar 4) aNil)))) sNil)))
def m_Desk_changed : FM := runN false 4 5 b_Desk_changed
def b_Desk_names : SM := (sSeq (sRet (xCall fSortedD (aCons (xFld 2 13 (xVar 0)) aNil))) sNil)
def m_Desk_names : FM := runN false 1 1 b_Desk_names
def b_Desk_kinds : SM := (sSeq (sAsg xNewT (.nm 1)) (sSeq (sFor (iSeqL (xCall fSortedD (aCons (xFld 2 13 (xVar 0)) aNil))) (.nm 2) (sSeq (sDrop (xBM 1 fAppend (xBM 2 fSetd (xVar 1) (aCons (xFn m_reduced_homology (aCons (xDGet (xFld 2 13 (xVar 0)) (xVar 2)) aNil)) (aCons (xCall fLst aNil) aNil))) (aCons (xVar 2) aNil))) sNil)) (sSeq (sRet (xCall fSorted (aCons (xDVals 1 3) aNil))) sNil)))
def m_Desk_kinds : FM := runN false 1 4 b_Desk_kinds
def b_Desk_journal : SM := (sSeq (sRet (xBM 0 fJoin (xC (.str [])) (aCons (xLc (iSeqL (xFld 2 14 (xVar 0))) [1] (.nm 1) none (x2 fAdd (xVar 1) (xC (.str [10])))) aNil))) sNil)
def m_Desk_journal : FM := runN true 1 2 b_Desk_journal
def b_read_complex : SM := (sSeq (sIf (x2 fEq (xVar 0) (xC (.str [45]))) (sSeq (sRet (xCall fTup aNil)) sNil) sNil) (sSeq (sAsg (xLc (iSeqL (xBM 0 fSplit (xVar 0) (aCons (xC (.str [32, 47, 32])) aNil))) [2] (.nm 2) none (xFn m_read_face (aCons (xVar 2) aNil))) (.nm 1)) (sSeq (sIf (yOr (x2 fIn (xC .non) (xVar 1)) (yNot (xTru (xFn m_is_complex (aCons (xCall fTuple (aCons (xVar 1) aNil)) aNil))))) (sSeq (sRaise 4 (fl2 16 17) (aCons (xC (.int 0)) (aCons (xC (.str [110, 111, 116, 32, 97, 32, 99, 111, 109, 112, 108, 101, 120])) aNil))) sNil) sNil) (sSeq (sRet (xCall fTuple (aCons (xVar 1) aNil))) sNil))))
def m_read_complex : FM := runM true 1 3 b_read_complex
def b_Desk_known : SM := (sSeq (sIf (yOr (yNot (xTru (xIsi 3 (xVar 1)))) (xDIn false (xVar 1) (xFld 2 13 (xVar 0)))) (sSeq (sRaise 6 (fl1 17) (aCons (xC (.str [110, 97, 109, 101])) aNil)) sNil) sNil) (sSeq (sRet (xDGet (xFld 2 13 (xVar 0)) (xVar 1))) sNil))
def m_Desk_known : FM := runM true 2 2 b_Desk_known
def b_Desk_put : SM := (sSeq (sIf (yOr (yNot (xTru (xFn m_is_name (aCons (xVar 1) aNil)))) (xDIn true (xVar 1) (xFld 2 13 (xVar 0)))) (sSeq (sRaise 6 (fl1 17) (aCons (xC (.str [110, 97, 109, 101])) aNil)) sNil) sNil) (sSeq (sDrop (xFn m_check_complex (aCons (xVar 2) aNil))) (sSeq (sIf (x2 fGe (xCall fLen (aCons (xFld 2 13 (xVar 0)) aNil)) (xC (.int 20))) (sSeq (sRaise 6 (fl1 17) (aCons (xC (.str [109, 97, 110, 121])) aNil)) sNil) sNil) (sSeq (sDrop (xMeth 2 m_Desk_changed (xVar 0) (aCons (xVar 1) (aCons (xVar 2) (aCons (xJs [xC (.str [112, 117, 116, 32]), xFmt (xVar 1), xC (.str [32]), xFmt (xFn m_complex_text (aCons (xVar 2) aNil))] []) aNil))))) sNil))))
def m_Desk_put : FM := runM false 3 3 b_Desk_put
def b_Desk_drop : SM := (sSeq (sDrop (xMeth 2 m_Desk_known (xVar 0) (aCons (xVar 1) aNil))) (sSeq (sAsg (xCall fDict (aCons (xFld 2 13 (xVar 0)) aNil)) (.nm 2)) (sSeq (sDelC (xVar 2) (xVar 1)) (sSeq (sDrop (xMeth 2 m_Desk_noted (xVar 0) (aCons (xJs [xC (.str [100, 114, 111, 112, 32]), xFmt (xVar 1)] []) (aCons (xVar 2) aNil)))) sNil))))
def m_Desk_drop : FM := runM false 2 3 b_Desk_drop
def b_Desk_add : SM := (sSeq (sAsg (xMeth 2 m_Desk_known (xVar 0) (aCons (xVar 1) aNil)) (.nm 3)) (sSeq (sIf (yNot (xTru (xFn m_is_new_face (aCons (xVar 3) (aCons (xVar 2) aNil))))) (sSeq (sRaise 6 (fl1 17) (aCons (xC (.str [102, 97, 99, 101])) aNil)) sNil) sNil) (sSeq (sDrop (xMeth 2 m_Desk_changed (xVar 0) (aCons (xVar 1) (aCons (xFn m_complex_of (aCons (x2 fAdd (xVar 3) (xCall fTup (aCons (xVar 2) aNil))) aNil)) (aCons (xJs [xC (.str [97, 100, 100, 32]), xFmt (xVar 1), xC (.str [32]), xFmt (xFn m_face_text (aCons (xVar 2) aNil))] []) aNil))))) sNil)))
def m_Desk_add : FM := runM false 3 4 b_Desk_add
def b_Desk_collapse : SM := (sSeq (sAsg (xMeth 2 m_Desk_known (xVar 0) (aCons (xVar 1) aNil)) (.nm 3)) (sSeq (sAsg (xLc (iSeqT (xFn m_free_pairs (aCons (xVar 3) aNil))) [5] (.nm 5) (some (x2 fEq (x2 fIx (xVar 5) (xC (.int 0))) (xVar 2))) (xVar 5)) (.nm 4)) (sSeq (sIf (yNot (xTru (xVar 4))) (sSeq (sRaise 6 (fl1 17) (aCons (xC (.str [102, 97, 99, 101])) aNil)) sNil) sNil) (sSeq (sDrop (xMeth 2 m_Desk_changed (xVar 0) (aCons (xVar 1) (aCons (xFn m_collapsed (aCons (xVar 3) (aCons (x2 fIx (xVar 4) (xC (.int 0))) aNil))) (aCons (xJs [xC (.str [99, 111, 108, 108, 97, 112, 115, 101, 32]), xFmt (xVar 1), xC (.str [32]), xFmt (xFn m_face_text (aCons (xVar 2) aNil))] []) aNil))))) sNil))))
def m_Desk_collapse : FM := runM false 3 6 b_Desk_collapse
def b_Desk_divide : SM := (sSeq (sAsg (xMeth 2 m_Desk_known (xVar 0) (aCons (xVar 1) aNil)) (.nm 3)) (sSeq (sIf (yOr (yNot (xTru (xFn m_is_face_shape (aCons (xVar 2) aNil)))) (yOr (x2 fLt (xCall fLen (aCons (xVar 2) aNil)) (xC (.int 2))) (yNot (xTru (xFn m_has_face (aCons (xVar 3) (aCons (xVar 2) aNil))))))) (sSeq (sRaise 6 (fl1 17) (aCons (xC (.str [102, 97, 99, 101])) aNil)) sNil) sNil) (sSeq (sAsg (xFn m_divided_at (aCons (xVar 3) (aCons (xVar 2) aNil))) (.nm 4)) (sSeq (sDrop (xMeth 2 m_Desk_changed (xVar 0) (aCons (xVar 1) (aCons (xVar 4) (aCons (xJs [xC (.str [100, 105, 118, 105, 100, 101, 32]), xFmt (xVar 1), xC (.str [32]), xFmt (xFn m_face_text (aCons (xVar 2) aNil))] []) aNil))))) sNil))))
def m_Desk_divide : FM := runM false 3 5 b_Desk_divide
def b_Desk_flip : SM := (sSeq (sAsg (xMeth 2 m_Desk_known (xVar 0) (aCons (xVar 1) aNil)) (.nm 3)) (sSeq (sAsg (xLc (iSeqT (xFn m_flips (aCons (xVar 3) aNil))) [5] (.nm 5) (some (x2 fEq (x2 fIx (xVar 5) (xC (.int 0))) (xVar 2))) (xVar 5)) (.nm 4)) (sSeq (sIf (yNot (xTru (xVar 4))) (sSeq (sRaise 6 (fl1 17) (aCons (xC (.str [102, 97, 99, 101])) aNil)) sNil) sNil) (sSeq (sDrop (xMeth 2 m_Desk_changed (xVar 0) (aCons (xVar 1) (aCons (xFn m_flipped (aCons (xVar 3) (aCons (x2 fIx (x2 fIx (xVar 4) (xC (.int 0))) (xC (.int 0))) (aCons (x2 fIx (x2 fIx (xVar 4) (xC (.int 0))) (xC (.int 1))) aNil)))) (aCons (xJs [xC (.str [102, 108, 105, 112, 32]), xFmt (xVar 1), xC (.str [32]), xFmt (xFn m_face_text (aCons (xVar 2) aNil))] []) aNil))))) sNil))))
def m_Desk_flip : FM := runM false 3 6 b_Desk_flip
def b_Desk_undo : SM := (sSeq (sIf (yNot (xTru (xFld 2 15 (xVar 0)))) (sSeq (sRaise 6 (fl1 17) (aCons (xC (.str [110, 111, 116, 104, 105, 110, 103])) aNil)) sNil) sNil) (sSeq (sFldC 2 13 (xVar 0) (xBM 1 fPop (xFld 2 15 (xVar 0)) aNil)) (sSeq (sDrop (xBM 1 fAppend (xFld 2 14 (xVar 0)) (aCons (xC (.str [117, 110, 100, 111])) aNil))) sNil)))
def m_Desk_undo : FM := runM false 1 1 b_Desk_undo
def b_done : SM := (sSeq (sAsg (xBM 0 fSplitM (xVar 1) (aCons (xC (.str [32])) (aCons (xC (.int 2)) aNil))) (.nm 2)) (sSeq (sIf (x2 fEq (xVar 1) (xC (.str [117, 110, 100, 111]))) (sSeq (sDrop (xMeth 2 m_Desk_undo (xVar 0) aNil)) (sSeq (sRet (xC (.bl true))) sNil)) sNil) (sSeq (sIf (yAnd (x2 fEq (xCall fLen (aCons (xVar 2) aNil)) (xC (.int 2))) (x2 fEq (x2 fIx (xVar 2) (xC (.int 0))) (xC (.str [100, 114, 111, 112])))) (sSeq (sDrop (xMeth 2 m_Desk_drop (xVar 0) (aCons (x2 fIx (xVar 2) (xC (.int 1))) aNil))) (sSeq (sRet (xC (.bl true))) sNil)) sNil) (sSeq (sIf (yOr (x2 fNe (xCall fLen (aCons (xVar 2) aNil)) (xC (.int 3))) (yNot (xTru (x2 fIx (xVar 2) (xC (.int 1)))))) (sSeq (sRet (xC (.bl false))) sNil) sNil) (sSeq (sIf (x2 fEq (x2 fIx (xVar 2) (xC (.int 0))) (xC (.str [112, 117, 116]))) (sSeq (sTry1 [4] 4 (sSeq (sAsg (xFn m_read_complex (aCons (x2 fIx (xVar 2) (xC (.int 2))) aNil)) (.nm 4)) sNil) (sSeq (sRet (xC (.bl false))) sNil)) (sSeq (sDrop (xMeth 2 m_Desk_put (xVar 0) (aCons (x2 fIx (xVar 2) (xC (.int 1))) (aCons (xVar 4) aNil)))) (sSeq (sRet (xC (.bl true))) sNil))) sNil) (sSeq (sAsg (xFn m_read_face (aCons (x2 fIx (xVar 2) (xC (.int 2))) aNil)) (.nm 3)) (sSeq (sIf (yOr (x2 fNin (x2 fIx (xVar 2) (xC (.int 0))) (xCall fTup (aCons (xC (.str [97, 100, 100])) (aCons (xC (.str [99, 111, 108, 108, 97, 112, 115, 101])) (aCons (xC (.str [100, 105, 118, 105, 100, 101])) (aCons (xC (.str [102, 108, 105, 112])) aNil)))))) (x2 fIsN (xVar 3) (xC .non))) (sSeq (sRet (xC (.bl false))) sNil) sNil) (sSeq (sIf (x2 fEq (x2 fIx (xVar 2) (xC (.int 0))) (xC (.str [97, 100, 100]))) (sSeq (sDrop (xMeth 2 m_Desk_add (xVar 0) (aCons (x2 fIx (xVar 2) (xC (.int 1))) (aCons (xVar 3) aNil)))) sNil) (sSeq (sIf (x2 fEq (x2 fIx (xVar 2) (xC (.int 0))) (xC (.str [99, 111, 108, 108, 97, 112, 115, 101]))) (sSeq (sDrop (xMeth 2 m_Desk_collapse (xVar 0) (aCons (x2 fIx (xVar 2) (xC (.int 1))) (aCons (xVar 3) aNil)))) sNil) (sSeq (sIf (x2 fEq (x2 fIx (xVar 2) (xC (.int 0))) (xC (.str [100, 105, 118, 105, 100, 101]))) (sSeq (sDrop (xMeth 2 m_Desk_divide (xVar 0) (aCons (x2 fIx (xVar 2) (xC (.int 1))) (aCons (xVar 3) aNil)))) sNil) (sSeq (sDrop (xMeth 2 m_Desk_flip (xVar 0) (aCons (x2 fIx (xVar 2) (xC (.int 1))) (aCons (xVar 3) aNil)))) sNil)) sNil)) sNil)) (sSeq (sRet (xC (.bl true))) sNil)))))))))
def m_done : FM := runM false 2 5 b_done
def lb_replay_desk : SM := (sSeq (sTryT [6] [6, 3, 5] (sSeq (sAsg (xFn m_done (aCons (xVar 1) (aCons (xVar 4) aNil))) (.nm 5)) sNil) (sSeq (sRaise 4 (fl2 16 17) (aCons (x2 fAdd (xVar 3) (xC (.int 1))) (aCons (xC (.str [114, 101, 102, 117, 115, 101, 100])) aNil))) sNil)) (sSeq (sIf (yNot (xTru (xVar 5))) (sSeq (sRaise 4 (fl2 16 17) (aCons (x2 fAdd (xVar 3) (xC (.int 1))) (aCons (xC (.str [110, 111, 116, 32, 97, 110, 32, 101, 110, 116, 114, 121])) aNil))) sNil) sNil) sNil))
def rs_replay_desk : SM := (sSeq (sIf (xTru (x2 fIx (xVar 2) (xNeg (xC (.int 1))))) (sSeq (sRaise 4 (fl2 16 17) (aCons (xCall fLen (aCons (xVar 2) aNil)) (aCons (xC (.str [110, 111, 116, 32, 97, 110, 32, 101, 110, 116, 114, 121])) aNil))) sNil) sNil) (sSeq (sRet (xVar 1)) sNil))
def b_replay_desk : SM := (sSeq (sAsg (xMake 2 m_Desk_init aNil) (.nm 1)) (sSeq (sAsg (xBM 0 fSplit (xVar 0) (aCons (xC (.str [10])) aNil)) (.nm 2)) (sHF 2 0 (aCons (xSl (xVar 2) oNone (oSome (xNeg (xC (.int 1))))) aNil) (.tp [3, 4]) lb_replay_desk rs_replay_desk)))
def m_replay_desk : FM := runM false 1 6 b_replay_desk
def b_law_said : SM := (sSeq (sTryAs2 4 1 16 17 (sSeq (sDrop (xFn m_replay_desk (aCons (xVar 0) aNil))) sNil)) (sSeq (sRet (xC .non)) sNil))
def m_law_said : FM := runN true 1 2 b_law_said
end Ex

set_option Elab.async false
set_option linter.all false
set_option maxRecDepth 100000
set_option maxHeartbeats 0
namespace Ex
open PySem PySem.Spec PyProof.Rows L2
def top (i : Nat) : Stmt := PySem.Challenge.pw_allfaces_k25_journals_read.main.body.getD i (.Pass ⟨0, 0, 0, 0⟩)
def clsBody (s : Stmt) : List Stmt := match s with
  | .ClassDef _ _ _ b _ _ _ _ _ _ _ => b
  | _ => []
def inC (i j : Nat) : Stmt := (clsBody (top i)).getD j (.Pass ⟨0, 0, 0, 0⟩)
abbrev s_is_whole : Stmt := top 8
abbrev s_subsets : Stmt := top 9
abbrev s_is_part : Stmt := top 10
abbrev s_left_out : Stmt := top 11
abbrev s_is_within_row : Stmt := top 12
abbrev s_is_face_shape : Stmt := top 16
abbrev s_is_complex : Stmt := top 17
abbrev s_check_complex : Stmt := top 18
abbrev s_complex_of : Stmt := top 19
abbrev s_all_faces : Stmt := top 20
abbrev s_faces_of : Stmt := top 21
abbrev s_points_of : Stmt := top 22
abbrev s_dimension : Stmt := top 23
abbrev s_is_in : Stmt := top 25
abbrev s_has_face : Stmt := top 24
abbrev s_boundary_faces : Stmt := top 29
abbrev s_boundary_table : Stmt := top 31
abbrev s_unit : Stmt := top 33
abbrev s_row_times : Stmt := top 34
abbrev s_Former_init : Stmt := inC 35 0
abbrev s_Former_formed : Stmt := inC 35 8
abbrev s_smith : Stmt := top 36
abbrev s_free_pairs : Stmt := top 38
abbrev s_collapsed : Stmt := top 39
abbrev s_above : Stmt := top 41
abbrev s_divided_at : Stmt := top 43
abbrev s_flips : Stmt := top 44
abbrev s_flipped : Stmt := top 45
abbrev s_Level_init : Stmt := inC 47 0
abbrev s_Level_orders : Stmt := inC 47 1
abbrev s_homology : Stmt := top 48
abbrev s_reduced_homology : Stmt := top 50
abbrev s_face_text : Stmt := top 52
abbrev s_complex_text : Stmt := top 53
abbrev s_read_number : Stmt := top 54
abbrev s_read_face : Stmt := top 55
abbrev s_is_name : Stmt := top 61
abbrev s_is_new_face : Stmt := top 63
abbrev s_Desk_init : Stmt := inC 62 0
abbrev s_Desk_noted : Stmt := inC 62 2
abbrev s_Desk_changed : Stmt := inC 62 3
abbrev s_Desk_names : Stmt := inC 62 11
abbrev s_Desk_kinds : Stmt := inC 62 17
abbrev s_Desk_journal : Stmt := inC 62 19
abbrev s_read_complex : Stmt := top 56
abbrev s_Desk_known : Stmt := inC 62 1
abbrev s_Desk_put : Stmt := inC 62 4
abbrev s_Desk_drop : Stmt := inC 62 5
abbrev s_Desk_add : Stmt := inC 62 6
abbrev s_Desk_collapse : Stmt := inC 62 7
abbrev s_Desk_divide : Stmt := inC 62 8
abbrev s_Desk_flip : Stmt := inC 62 9
abbrev s_Desk_undo : Stmt := inC 62 10
abbrev s_done : Stmt := top 64
abbrev s_replay_desk : Stmt := top 65
abbrev s_law_said : Stmt := top 71
abbrev s_law_cell : Stmt := top 67
abbrev s_law_digits : Stmt := top 68
abbrev s_law_draw : Stmt := top 69
abbrev s_law_pick : Stmt := top 70
abbrev s_law : Stmt := top 72
def D_is_whole : He.DefD := ⟨("is_whole", none), "is_whole", "is_whole", defArgs s_is_whole, defBody s_is_whole, defScope s_is_whole, [], []⟩
def D_subsets : He.DefD := ⟨("subsets", none), "subsets", "subsets", defArgs s_subsets, defBody s_subsets, defScope s_subsets, [], []⟩
def D_is_part : He.DefD := ⟨("is_part", none), "is_part", "is_part", defArgs s_is_part, defBody s_is_part, defScope s_is_part, [], []⟩
def D_left_out : He.DefD := ⟨("left_out", none), "left_out", "left_out", defArgs s_left_out, defBody s_left_out, defScope s_left_out, [], []⟩
def D_is_within_row : He.DefD := ⟨("is_within_row", none), "is_within_row", "is_within_row", defArgs s_is_within_row, defBody s_is_within_row, defScope s_is_within_row, [], []⟩
def D_is_face_shape : He.DefD := ⟨("is_face_shape", none), "is_face_shape", "is_face_shape", defArgs s_is_face_shape, defBody s_is_face_shape, defScope s_is_face_shape, [], []⟩
def D_is_complex : He.DefD := ⟨("is_complex", none), "is_complex", "is_complex", defArgs s_is_complex, defBody s_is_complex, defScope s_is_complex, [], []⟩
def D_check_complex : He.DefD := ⟨("check_complex", none), "check_complex", "check_complex", defArgs s_check_complex, defBody s_check_complex, defScope s_check_complex, [], []⟩
def D_complex_of : He.DefD := ⟨("complex_of", none), "complex_of", "complex_of", defArgs s_complex_of, defBody s_complex_of, defScope s_complex_of, [], []⟩
def D_all_faces : He.DefD := ⟨("all_faces", none), "all_faces", "all_faces", defArgs s_all_faces, defBody s_all_faces, defScope s_all_faces, [], []⟩
def D_faces_of : He.DefD := ⟨("faces_of", none), "faces_of", "faces_of", defArgs s_faces_of, defBody s_faces_of, defScope s_faces_of, [], []⟩
def D_points_of : He.DefD := ⟨("points_of", none), "points_of", "points_of", defArgs s_points_of, defBody s_points_of, defScope s_points_of, [], []⟩
def D_dimension : He.DefD := ⟨("dimension", none), "dimension", "dimension", defArgs s_dimension, defBody s_dimension, defScope s_dimension, [], []⟩
def D_is_in : He.DefD := ⟨("is_in", none), "is_in", "is_in", defArgs s_is_in, defBody s_is_in, defScope s_is_in, [], []⟩
def D_has_face : He.DefD := ⟨("has_face", none), "has_face", "has_face", defArgs s_has_face, defBody s_has_face, defScope s_has_face, [], []⟩
def D_boundary_faces : He.DefD := ⟨("boundary_faces", none), "boundary_faces", "boundary_faces", defArgs s_boundary_faces, defBody s_boundary_faces, defScope s_boundary_faces, [], []⟩
def D_boundary_table : He.DefD := ⟨("boundary_table", none), "boundary_table", "boundary_table", defArgs s_boundary_table, defBody s_boundary_table, defScope s_boundary_table, [], []⟩
def D_unit : He.DefD := ⟨("unit", none), "unit", "unit", defArgs s_unit, defBody s_unit, defScope s_unit, [], []⟩
def D_row_times : He.DefD := ⟨("row_times", none), "row_times", "row_times", defArgs s_row_times, defBody s_row_times, defScope s_row_times, [], []⟩
def D_Former_init : He.DefD := ⟨("Former", some "__init__"), "__init__", "Former.__init__", defArgs s_Former_init, defBody s_Former_init, defScope s_Former_init, [], []⟩
def D_Former_formed : He.DefD := ⟨("Former", some "formed"), "formed", "Former.formed", defArgs s_Former_formed, defBody s_Former_formed, defScope s_Former_formed, [], []⟩
def D_smith : He.DefD := ⟨("smith", none), "smith", "smith", defArgs s_smith, defBody s_smith, defScope s_smith, [], []⟩
def D_free_pairs : He.DefD := ⟨("free_pairs", none), "free_pairs", "free_pairs", defArgs s_free_pairs, defBody s_free_pairs, defScope s_free_pairs, [], []⟩
def D_collapsed : He.DefD := ⟨("collapsed", none), "collapsed", "collapsed", defArgs s_collapsed, defBody s_collapsed, defScope s_collapsed, [], []⟩
def D_above : He.DefD := ⟨("above", none), "above", "above", defArgs s_above, defBody s_above, defScope s_above, [], []⟩
def D_divided_at : He.DefD := ⟨("divided_at", none), "divided_at", "divided_at", defArgs s_divided_at, defBody s_divided_at, defScope s_divided_at, [], []⟩
def D_flips : He.DefD := ⟨("flips", none), "flips", "flips", defArgs s_flips, defBody s_flips, defScope s_flips, [], []⟩
def D_flipped : He.DefD := ⟨("flipped", none), "flipped", "flipped", defArgs s_flipped, defBody s_flipped, defScope s_flipped, [], []⟩
def D_Level_init : He.DefD := ⟨("Level", some "__init__"), "__init__", "Level.__init__", defArgs s_Level_init, defBody s_Level_init, defScope s_Level_init, [], []⟩
def D_Level_orders : He.DefD := ⟨("Level", some "orders"), "orders", "Level.orders", defArgs s_Level_orders, defBody s_Level_orders, defScope s_Level_orders, [], []⟩
def D_homology : He.DefD := ⟨("homology_homology", none), "homology", "homology", defArgs s_homology, defBody s_homology, defScope s_homology, [], []⟩
def D_reduced_homology : He.DefD := ⟨("reduced_homology", none), "reduced_homology", "reduced_homology", defArgs s_reduced_homology, defBody s_reduced_homology, defScope s_reduced_homology, [], []⟩
def D_face_text : He.DefD := ⟨("face_text", none), "face_text", "face_text", defArgs s_face_text, defBody s_face_text, defScope s_face_text, [], []⟩
def D_complex_text : He.DefD := ⟨("complex_text", none), "complex_text", "complex_text", defArgs s_complex_text, defBody s_complex_text, defScope s_complex_text, [], []⟩
def D_read_number : He.DefD := ⟨("read_number", none), "read_number", "read_number", defArgs s_read_number, defBody s_read_number, defScope s_read_number, [], []⟩
def D_read_face : He.DefD := ⟨("read_face", none), "read_face", "read_face", defArgs s_read_face, defBody s_read_face, defScope s_read_face, [], []⟩
def D_is_name : He.DefD := ⟨("is_name", none), "is_name", "is_name", defArgs s_is_name, defBody s_is_name, defScope s_is_name, [], []⟩
def D_is_new_face : He.DefD := ⟨("is_new_face", none), "is_new_face", "is_new_face", defArgs s_is_new_face, defBody s_is_new_face, defScope s_is_new_face, [], []⟩
def D_Desk_init : He.DefD := ⟨("Desk", some "__init__"), "__init__", "Desk.__init__", defArgs s_Desk_init, defBody s_Desk_init, defScope s_Desk_init, [], []⟩
def D_Desk_noted : He.DefD := ⟨("Desk", some "noted"), "noted", "Desk.noted", defArgs s_Desk_noted, defBody s_Desk_noted, defScope s_Desk_noted, [], []⟩
def D_Desk_changed : He.DefD := ⟨("Desk", some "changed"), "changed", "Desk.changed", defArgs s_Desk_changed, defBody s_Desk_changed, defScope s_Desk_changed, [], []⟩
def D_Desk_names : He.DefD := ⟨("Desk", some "names"), "names", "Desk.names", defArgs s_Desk_names, defBody s_Desk_names, defScope s_Desk_names, [], []⟩
def D_Desk_kinds : He.DefD := ⟨("Desk", some "kinds"), "kinds", "Desk.kinds", defArgs s_Desk_kinds, defBody s_Desk_kinds, defScope s_Desk_kinds, [], []⟩
def D_Desk_journal : He.DefD := ⟨("Desk", some "journal"), "journal", "Desk.journal", defArgs s_Desk_journal, defBody s_Desk_journal, defScope s_Desk_journal, [], []⟩
def D_read_complex : He.DefD := ⟨("read_complex", none), "read_complex", "read_complex", defArgs s_read_complex, defBody s_read_complex, defScope s_read_complex, [], []⟩
def D_Desk_known : He.DefD := ⟨("Desk", some "known"), "known", "Desk.known", defArgs s_Desk_known, defBody s_Desk_known, defScope s_Desk_known, [], []⟩
def D_Desk_put : He.DefD := ⟨("Desk", some "put"), "put", "Desk.put", defArgs s_Desk_put, defBody s_Desk_put, defScope s_Desk_put, [], []⟩
def D_Desk_drop : He.DefD := ⟨("Desk", some "drop"), "drop", "Desk.drop", defArgs s_Desk_drop, defBody s_Desk_drop, defScope s_Desk_drop, [], []⟩
def D_Desk_add : He.DefD := ⟨("Desk", some "add"), "add", "Desk.add", defArgs s_Desk_add, defBody s_Desk_add, defScope s_Desk_add, [], []⟩
def D_Desk_collapse : He.DefD := ⟨("Desk", some "collapse"), "collapse", "Desk.collapse", defArgs s_Desk_collapse, defBody s_Desk_collapse, defScope s_Desk_collapse, [], []⟩
def D_Desk_divide : He.DefD := ⟨("Desk", some "divide"), "divide", "Desk.divide", defArgs s_Desk_divide, defBody s_Desk_divide, defScope s_Desk_divide, [], []⟩
def D_Desk_flip : He.DefD := ⟨("Desk", some "flip"), "flip", "Desk.flip", defArgs s_Desk_flip, defBody s_Desk_flip, defScope s_Desk_flip, [], []⟩
def D_Desk_undo : He.DefD := ⟨("Desk", some "undo"), "undo", "Desk.undo", defArgs s_Desk_undo, defBody s_Desk_undo, defScope s_Desk_undo, [], []⟩
def D_done : He.DefD := ⟨("done", none), "done", "done", defArgs s_done, defBody s_done, defScope s_done, [], []⟩
def D_replay_desk : He.DefD := ⟨("replay_desk", none), "replay_desk", "replay_desk", defArgs s_replay_desk, defBody s_replay_desk, defScope s_replay_desk, [], []⟩
def D_law_said : He.DefD := ⟨("_law_said", none), "_law_said", "_law_said", defArgs s_law_said, defBody s_law_said, defScope s_law_said, [], []⟩
def D_law_cell : He.DefD := ⟨("_law_cell", none), "_law_cell", "_law_cell", defArgs s_law_cell, defBody s_law_cell, defScope s_law_cell, [], []⟩
def D_law_digits : He.DefD := ⟨("_law_digits", none), "_law_digits", "_law_digits", defArgs s_law_digits, defBody s_law_digits, defScope s_law_digits, [], []⟩
def D_law_draw : He.DefD := ⟨("_law_draw", none), "_law_draw", "_law_draw", defArgs s_law_draw, defBody s_law_draw, defScope s_law_draw, [], []⟩
def D_law_pick : He.DefD := ⟨("_law_pick", none), "_law_pick", "_law_pick", defArgs s_law_pick, defBody s_law_pick, defScope s_law_pick, [], []⟩
def D_law : He.DefD := ⟨("law", none), "law", "law", defArgs s_law, defBody s_law, defScope s_law, [], []⟩
def fn : List He.DefD := [D_is_whole, D_subsets, D_is_part, D_left_out, D_is_within_row, D_is_face_shape, D_is_complex, D_check_complex, D_complex_of, D_all_faces, D_faces_of, D_points_of, D_dimension, D_is_in, D_has_face, D_boundary_faces, D_boundary_table, D_unit, D_row_times, D_Former_init, D_Former_formed, D_smith, D_free_pairs, D_collapsed, D_above, D_divided_at, D_flips, D_flipped, D_Level_init, D_Level_orders, D_homology, D_reduced_homology, D_face_text, D_complex_text, D_read_number, D_read_face, D_is_name, D_is_new_face, D_Desk_init, D_Desk_noted, D_Desk_changed, D_Desk_names, D_Desk_kinds, D_Desk_journal, D_read_complex, D_Desk_known, D_Desk_put, D_Desk_drop, D_Desk_add, D_Desk_collapse, D_Desk_divide, D_Desk_flip, D_Desk_undo, D_done, D_replay_desk, D_law_said, D_law_cell, D_law_digits, D_law_draw, D_law_pick, D_law]
def fa : List He.Fa := [.glo "_law_cell", .glo "_law_digits", .glo "_law_draw", .glo "_law_pick", .glo "_law_said", .glo "replay_desk", .glo "Desk", .glo "law", .free "len", .free "range", .free "int", .free "str", .free "sorted", .free "super", .noat "Refused" "reason", .noat "BadText" "reason", .noat "BadText" "place", .free "isinstance", .free "bool", .free "enumerate", .free "all", .free "tuple", .glo "is_part", .glo "is_whole", .glo "is_face_shape", .free "set", .glo "is_within_row", .free "any", .glo "is_complex", .free "list", .glo "check_complex", .free "max", .glo "subsets", .glo "all_faces", .glo "is_in", .glo "faces_of", .free "dict", .free "sum", .cls "Former", .noat "Former" "table", .noat "Former" "wide", .noat "Former" "high", .glo "unit", .noat "Former" "right", .noat "Former" "left", .noat "Former" "undone", .noat "Former" "back", .free "min", .glo "Former", .mkr "Former", .meth "Former" "formed", .glo "free_pairs", .glo "complex_of", .glo "boundary_faces", .glo "points_of", .glo "has_face", .glo "above", .glo "left_out", .glo "flips", .cls "Level", .noat "Level" "faces", .glo "boundary_table", .glo "smith", .noat "Level" "rank", .noat "Level" "back", .noat "Level" "rounds", .glo "row_times", .noat "Level" "basis", .noat "Level" "right", .noat "Level" "numbers", .noat "Level" "many", .glo "dimension", .meth "Level" "orders", .glo "Level", .mkr "Level", .glo "homology_homology", .glo "face_text", .glo "read_number", .cls "Desk", .noat "Desk" "kept", .noat "Desk" "lines", .noat "Desk" "ahead", .meth "Desk" "noted", .glo "reduced_homology", .glo "read_face", .glo "BadText", .glo "Refused", .glo "is_name", .meth "Desk" "changed", .glo "complex_text", .meth "Desk" "known", .glo "is_new_face", .glo "collapsed", .glo "divided_at", .glo "flipped", .meth "Desk" "undo", .meth "Desk" "drop", .glo "read_complex", .exm "BadText" "BadText" true, .meth "Desk" "put", .meth "Desk" "add", .meth "Desk" "collapse", .meth "Desk" "divide", .meth "Desk" "flip", .mkr "Desk", .glo "BadFaces", .glo "TooMany", .glo "done", .exm "Refused" "Refused" true, .exm "Refused" "BadFaces" false, .exm "Refused" "TooMany" false, .meth "Desk" "names", .meth "Desk" "journal", .meth "Desk" "kinds", .int "NAMES_MOST" 100000, .int "FACES_MOST" 6000, .int "MANY" 20, .str "NAMES" "abcdefghijklmnopqrstuvwxyz", .str "FIGURES" "0123456789"]
abbrev s_Refused_init : Stmt := inC 6 0
def X_Refused : DefX := ⟨"Refused", "__init__", "Refused.__init__", defArgs s_Refused_init, defBody s_Refused_init, defScope s_Refused_init⟩
abbrev s_BadText_init : Stmt := inC 4 0
def X_BadText : DefX := ⟨"BadText", "__init__", "BadText.__init__", defArgs s_BadText_init, defBody s_BadText_init, defScope s_BadText_init⟩
def exs : List DefX := [X_Refused, X_BadText]
structure Cm (P : Program) (K : PySem.W.Frag) (mg : Str → Option Value) : Prop where
  c : SaysX P fa fn exs K
  top : (P.main.scope.names.lookup ("super" : Str)).isSome = false
  ex : ∃ h : Heap, K.In h ∧ h.Ns mainGlobals mg
section
variable {P : Program} {w : World} {K : PySem.W.Frag} {mg : Str → Option Value} {base : Heap}
theorem Cm.glo__law_cell (G : Cm P K mg) : mg "_law_cell" = some (.ref (He.ga K "_law_cell")) := by
  obtain ⟨h, X, M⟩ := G.ex
  exact He.glo_ok X M (G.c.d.fact 0 (f := .glo "_law_cell") rfl)
theorem Cm.glo__law_digits (G : Cm P K mg) : mg "_law_digits" = some (.ref (He.ga K "_law_digits")) := by
  obtain ⟨h, X, M⟩ := G.ex
  exact He.glo_ok X M (G.c.d.fact 1 (f := .glo "_law_digits") rfl)
theorem Cm.glo__law_draw (G : Cm P K mg) : mg "_law_draw" = some (.ref (He.ga K "_law_draw")) := by
  obtain ⟨h, X, M⟩ := G.ex
  exact He.glo_ok X M (G.c.d.fact 2 (f := .glo "_law_draw") rfl)
theorem Cm.glo__law_pick (G : Cm P K mg) : mg "_law_pick" = some (.ref (He.ga K "_law_pick")) := by
  obtain ⟨h, X, M⟩ := G.ex
  exact He.glo_ok X M (G.c.d.fact 3 (f := .glo "_law_pick") rfl)
theorem Cm.glo__law_said (G : Cm P K mg) : mg "_law_said" = some (.ref (He.ga K "_law_said")) := by
  obtain ⟨h, X, M⟩ := G.ex
  exact He.glo_ok X M (G.c.d.fact 4 (f := .glo "_law_said") rfl)
theorem Cm.glo_replay_desk (G : Cm P K mg) : mg "replay_desk" = some (.ref (He.ga K "replay_desk")) := by
  obtain ⟨h, X, M⟩ := G.ex
  exact He.glo_ok X M (G.c.d.fact 5 (f := .glo "replay_desk") rfl)
theorem Cm.glo_Desk (G : Cm P K mg) : mg "Desk" = some (.ref (He.ga K "Desk")) := by
  obtain ⟨h, X, M⟩ := G.ex
  exact He.glo_ok X M (G.c.d.fact 6 (f := .glo "Desk") rfl)
theorem Cm.glo_law (G : Cm P K mg) : mg "law" = some (.ref (He.ga K "law")) := by
  obtain ⟨h, X, M⟩ := G.ex
  exact He.glo_ok X M (G.c.d.fact 7 (f := .glo "law") rfl)
theorem Cm.free_len (G : Cm P K mg) : mg "len" = none := by
  obtain ⟨h, X, M⟩ := G.ex
  exact He.free_ok X M (G.c.d.fact 8 (f := .free "len") rfl)
theorem Cm.free_range (G : Cm P K mg) : mg "range" = none := by
  obtain ⟨h, X, M⟩ := G.ex
  exact He.free_ok X M (G.c.d.fact 9 (f := .free "range") rfl)
theorem Cm.free_int (G : Cm P K mg) : mg "int" = none := by
  obtain ⟨h, X, M⟩ := G.ex
  exact He.free_ok X M (G.c.d.fact 10 (f := .free "int") rfl)
theorem Cm.free_str (G : Cm P K mg) : mg "str" = none := by
  obtain ⟨h, X, M⟩ := G.ex
  exact He.free_ok X M (G.c.d.fact 11 (f := .free "str") rfl)
theorem Cm.free_sorted (G : Cm P K mg) : mg "sorted" = none := by
  obtain ⟨h, X, M⟩ := G.ex
  exact He.free_ok X M (G.c.d.fact 12 (f := .free "sorted") rfl)
theorem Cm.free_super (G : Cm P K mg) : mg "super" = none := by
  obtain ⟨h, X, M⟩ := G.ex
  exact He.free_ok X M (G.c.d.fact 13 (f := .free "super") rfl)
theorem Cm.noat_Refused_reason (G : Cm P K mg) : NoAttr K (He.ga K "Refused") "reason" := by
  obtain ⟨h, X, M⟩ := G.ex
  exact He.noat_ok (G.c.d.fact 14 (f := .noat "Refused" "reason") rfl)
theorem Cm.noat_BadText_reason (G : Cm P K mg) : NoAttr K (He.ga K "BadText") "reason" := by
  obtain ⟨h, X, M⟩ := G.ex
  exact He.noat_ok (G.c.d.fact 15 (f := .noat "BadText" "reason") rfl)
theorem Cm.noat_BadText_place (G : Cm P K mg) : NoAttr K (He.ga K "BadText") "place" := by
  obtain ⟨h, X, M⟩ := G.ex
  exact He.noat_ok (G.c.d.fact 16 (f := .noat "BadText" "place") rfl)
theorem Cm.free_isinstance (G : Cm P K mg) : mg "isinstance" = none := by
  obtain ⟨h, X, M⟩ := G.ex
  exact He.free_ok X M (G.c.d.fact 17 (f := .free "isinstance") rfl)
theorem Cm.free_bool (G : Cm P K mg) : mg "bool" = none := by
  obtain ⟨h, X, M⟩ := G.ex
  exact He.free_ok X M (G.c.d.fact 18 (f := .free "bool") rfl)
theorem Cm.free_enumerate (G : Cm P K mg) : mg "enumerate" = none := by
  obtain ⟨h, X, M⟩ := G.ex
  exact He.free_ok X M (G.c.d.fact 19 (f := .free "enumerate") rfl)
theorem Cm.free_all (G : Cm P K mg) : mg "all" = none := by
  obtain ⟨h, X, M⟩ := G.ex
  exact He.free_ok X M (G.c.d.fact 20 (f := .free "all") rfl)
theorem Cm.free_tuple (G : Cm P K mg) : mg "tuple" = none := by
  obtain ⟨h, X, M⟩ := G.ex
  exact He.free_ok X M (G.c.d.fact 21 (f := .free "tuple") rfl)
theorem Cm.glo_is_part (G : Cm P K mg) : mg "is_part" = some (.ref (He.ga K "is_part")) := by
  obtain ⟨h, X, M⟩ := G.ex
  exact He.glo_ok X M (G.c.d.fact 22 (f := .glo "is_part") rfl)
theorem Cm.glo_is_whole (G : Cm P K mg) : mg "is_whole" = some (.ref (He.ga K "is_whole")) := by
  obtain ⟨h, X, M⟩ := G.ex
  exact He.glo_ok X M (G.c.d.fact 23 (f := .glo "is_whole") rfl)
theorem Cm.glo_is_face_shape (G : Cm P K mg) : mg "is_face_shape" = some (.ref (He.ga K "is_face_shape")) := by
  obtain ⟨h, X, M⟩ := G.ex
  exact He.glo_ok X M (G.c.d.fact 24 (f := .glo "is_face_shape") rfl)
theorem Cm.free_set (G : Cm P K mg) : mg "set" = none := by
  obtain ⟨h, X, M⟩ := G.ex
  exact He.free_ok X M (G.c.d.fact 25 (f := .free "set") rfl)
theorem Cm.glo_is_within_row (G : Cm P K mg) : mg "is_within_row" = some (.ref (He.ga K "is_within_row")) := by
  obtain ⟨h, X, M⟩ := G.ex
  exact He.glo_ok X M (G.c.d.fact 26 (f := .glo "is_within_row") rfl)
theorem Cm.free_any (G : Cm P K mg) : mg "any" = none := by
  obtain ⟨h, X, M⟩ := G.ex
  exact He.free_ok X M (G.c.d.fact 27 (f := .free "any") rfl)
theorem Cm.glo_is_complex (G : Cm P K mg) : mg "is_complex" = some (.ref (He.ga K "is_complex")) := by
  obtain ⟨h, X, M⟩ := G.ex
  exact He.glo_ok X M (G.c.d.fact 28 (f := .glo "is_complex") rfl)
theorem Cm.free_list (G : Cm P K mg) : mg "list" = none := by
  obtain ⟨h, X, M⟩ := G.ex
  exact He.free_ok X M (G.c.d.fact 29 (f := .free "list") rfl)
theorem Cm.glo_check_complex (G : Cm P K mg) : mg "check_complex" = some (.ref (He.ga K "check_complex")) := by
  obtain ⟨h, X, M⟩ := G.ex
  exact He.glo_ok X M (G.c.d.fact 30 (f := .glo "check_complex") rfl)
theorem Cm.free_max (G : Cm P K mg) : mg "max" = none := by
  obtain ⟨h, X, M⟩ := G.ex
  exact He.free_ok X M (G.c.d.fact 31 (f := .free "max") rfl)
theorem Cm.glo_subsets (G : Cm P K mg) : mg "subsets" = some (.ref (He.ga K "subsets")) := by
  obtain ⟨h, X, M⟩ := G.ex
  exact He.glo_ok X M (G.c.d.fact 32 (f := .glo "subsets") rfl)
theorem Cm.glo_all_faces (G : Cm P K mg) : mg "all_faces" = some (.ref (He.ga K "all_faces")) := by
  obtain ⟨h, X, M⟩ := G.ex
  exact He.glo_ok X M (G.c.d.fact 33 (f := .glo "all_faces") rfl)
theorem Cm.glo_is_in (G : Cm P K mg) : mg "is_in" = some (.ref (He.ga K "is_in")) := by
  obtain ⟨h, X, M⟩ := G.ex
  exact He.glo_ok X M (G.c.d.fact 34 (f := .glo "is_in") rfl)
theorem Cm.glo_faces_of (G : Cm P K mg) : mg "faces_of" = some (.ref (He.ga K "faces_of")) := by
  obtain ⟨h, X, M⟩ := G.ex
  exact He.glo_ok X M (G.c.d.fact 35 (f := .glo "faces_of") rfl)
theorem Cm.free_dict (G : Cm P K mg) : mg "dict" = none := by
  obtain ⟨h, X, M⟩ := G.ex
  exact He.free_ok X M (G.c.d.fact 36 (f := .free "dict") rfl)
theorem Cm.free_sum (G : Cm P K mg) : mg "sum" = none := by
  obtain ⟨h, X, M⟩ := G.ex
  exact He.free_ok X M (G.c.d.fact 37 (f := .free "sum") rfl)
theorem Cm.cls_Former (G : Cm P K mg) : Cls K (He.ga K "Former") := by
  obtain ⟨h, X, M⟩ := G.ex
  exact He.cls_ok (G.c.d.fact 38 (f := .cls "Former") rfl)
theorem Cm.noat_Former_table (G : Cm P K mg) : NoAttr K (He.ga K "Former") "table" := by
  obtain ⟨h, X, M⟩ := G.ex
  exact He.noat_ok (G.c.d.fact 39 (f := .noat "Former" "table") rfl)
theorem Cm.noat_Former_wide (G : Cm P K mg) : NoAttr K (He.ga K "Former") "wide" := by
  obtain ⟨h, X, M⟩ := G.ex
  exact He.noat_ok (G.c.d.fact 40 (f := .noat "Former" "wide") rfl)
theorem Cm.noat_Former_high (G : Cm P K mg) : NoAttr K (He.ga K "Former") "high" := by
  obtain ⟨h, X, M⟩ := G.ex
  exact He.noat_ok (G.c.d.fact 41 (f := .noat "Former" "high") rfl)
theorem Cm.glo_unit (G : Cm P K mg) : mg "unit" = some (.ref (He.ga K "unit")) := by
  obtain ⟨h, X, M⟩ := G.ex
  exact He.glo_ok X M (G.c.d.fact 42 (f := .glo "unit") rfl)
theorem Cm.noat_Former_right (G : Cm P K mg) : NoAttr K (He.ga K "Former") "right" := by
  obtain ⟨h, X, M⟩ := G.ex
  exact He.noat_ok (G.c.d.fact 43 (f := .noat "Former" "right") rfl)
theorem Cm.noat_Former_left (G : Cm P K mg) : NoAttr K (He.ga K "Former") "left" := by
  obtain ⟨h, X, M⟩ := G.ex
  exact He.noat_ok (G.c.d.fact 44 (f := .noat "Former" "left") rfl)
theorem Cm.noat_Former_undone (G : Cm P K mg) : NoAttr K (He.ga K "Former") "undone" := by
  obtain ⟨h, X, M⟩ := G.ex
  exact He.noat_ok (G.c.d.fact 45 (f := .noat "Former" "undone") rfl)
theorem Cm.noat_Former_back (G : Cm P K mg) : NoAttr K (He.ga K "Former") "back" := by
  obtain ⟨h, X, M⟩ := G.ex
  exact He.noat_ok (G.c.d.fact 46 (f := .noat "Former" "back") rfl)
theorem Cm.free_min (G : Cm P K mg) : mg "min" = none := by
  obtain ⟨h, X, M⟩ := G.ex
  exact He.free_ok X M (G.c.d.fact 47 (f := .free "min") rfl)
theorem Cm.glo_Former (G : Cm P K mg) : mg "Former" = some (.ref (He.ga K "Former")) := by
  obtain ⟨h, X, M⟩ := G.ex
  exact He.glo_ok X M (G.c.d.fact 48 (f := .glo "Former") rfl)
theorem Cm.mkr_Former (G : Cm P K mg) : Mk K (He.ga K "Former") (He.ma K (He.ga K "Former") "__init__") := by
  obtain ⟨h, X, M⟩ := G.ex
  exact He.mkr_ok (G.c.d.fact 49 (f := .mkr "Former") rfl)
theorem Cm.meth_Former_formed (G : Cm P K mg) : Meth K (He.ga K "Former") "formed" (He.ma K (He.ga K "Former") "formed") := by
  obtain ⟨h, X, M⟩ := G.ex
  exact He.meth_ok (G.c.d.fact 50 (f := .meth "Former" "formed") rfl)
theorem Cm.glo_free_pairs (G : Cm P K mg) : mg "free_pairs" = some (.ref (He.ga K "free_pairs")) := by
  obtain ⟨h, X, M⟩ := G.ex
  exact He.glo_ok X M (G.c.d.fact 51 (f := .glo "free_pairs") rfl)
theorem Cm.glo_complex_of (G : Cm P K mg) : mg "complex_of" = some (.ref (He.ga K "complex_of")) := by
  obtain ⟨h, X, M⟩ := G.ex
  exact He.glo_ok X M (G.c.d.fact 52 (f := .glo "complex_of") rfl)
theorem Cm.glo_boundary_faces (G : Cm P K mg) : mg "boundary_faces" = some (.ref (He.ga K "boundary_faces")) := by
  obtain ⟨h, X, M⟩ := G.ex
  exact He.glo_ok X M (G.c.d.fact 53 (f := .glo "boundary_faces") rfl)
theorem Cm.glo_points_of (G : Cm P K mg) : mg "points_of" = some (.ref (He.ga K "points_of")) := by
  obtain ⟨h, X, M⟩ := G.ex
  exact He.glo_ok X M (G.c.d.fact 54 (f := .glo "points_of") rfl)
theorem Cm.glo_has_face (G : Cm P K mg) : mg "has_face" = some (.ref (He.ga K "has_face")) := by
  obtain ⟨h, X, M⟩ := G.ex
  exact He.glo_ok X M (G.c.d.fact 55 (f := .glo "has_face") rfl)
theorem Cm.glo_above (G : Cm P K mg) : mg "above" = some (.ref (He.ga K "above")) := by
  obtain ⟨h, X, M⟩ := G.ex
  exact He.glo_ok X M (G.c.d.fact 56 (f := .glo "above") rfl)
theorem Cm.glo_left_out (G : Cm P K mg) : mg "left_out" = some (.ref (He.ga K "left_out")) := by
  obtain ⟨h, X, M⟩ := G.ex
  exact He.glo_ok X M (G.c.d.fact 57 (f := .glo "left_out") rfl)
theorem Cm.glo_flips (G : Cm P K mg) : mg "flips" = some (.ref (He.ga K "flips")) := by
  obtain ⟨h, X, M⟩ := G.ex
  exact He.glo_ok X M (G.c.d.fact 58 (f := .glo "flips") rfl)
theorem Cm.cls_Level (G : Cm P K mg) : Cls K (He.ga K "Level") := by
  obtain ⟨h, X, M⟩ := G.ex
  exact He.cls_ok (G.c.d.fact 59 (f := .cls "Level") rfl)
theorem Cm.noat_Level_faces (G : Cm P K mg) : NoAttr K (He.ga K "Level") "faces" := by
  obtain ⟨h, X, M⟩ := G.ex
  exact He.noat_ok (G.c.d.fact 60 (f := .noat "Level" "faces") rfl)
theorem Cm.glo_boundary_table (G : Cm P K mg) : mg "boundary_table" = some (.ref (He.ga K "boundary_table")) := by
  obtain ⟨h, X, M⟩ := G.ex
  exact He.glo_ok X M (G.c.d.fact 61 (f := .glo "boundary_table") rfl)
theorem Cm.glo_smith (G : Cm P K mg) : mg "smith" = some (.ref (He.ga K "smith")) := by
  obtain ⟨h, X, M⟩ := G.ex
  exact He.glo_ok X M (G.c.d.fact 62 (f := .glo "smith") rfl)
theorem Cm.noat_Level_rank (G : Cm P K mg) : NoAttr K (He.ga K "Level") "rank" := by
  obtain ⟨h, X, M⟩ := G.ex
  exact He.noat_ok (G.c.d.fact 63 (f := .noat "Level" "rank") rfl)
theorem Cm.noat_Level_back (G : Cm P K mg) : NoAttr K (He.ga K "Level") "back" := by
  obtain ⟨h, X, M⟩ := G.ex
  exact He.noat_ok (G.c.d.fact 64 (f := .noat "Level" "back") rfl)
theorem Cm.noat_Level_rounds (G : Cm P K mg) : NoAttr K (He.ga K "Level") "rounds" := by
  obtain ⟨h, X, M⟩ := G.ex
  exact He.noat_ok (G.c.d.fact 65 (f := .noat "Level" "rounds") rfl)
theorem Cm.glo_row_times (G : Cm P K mg) : mg "row_times" = some (.ref (He.ga K "row_times")) := by
  obtain ⟨h, X, M⟩ := G.ex
  exact He.glo_ok X M (G.c.d.fact 66 (f := .glo "row_times") rfl)
theorem Cm.noat_Level_basis (G : Cm P K mg) : NoAttr K (He.ga K "Level") "basis" := by
  obtain ⟨h, X, M⟩ := G.ex
  exact He.noat_ok (G.c.d.fact 67 (f := .noat "Level" "basis") rfl)
theorem Cm.noat_Level_right (G : Cm P K mg) : NoAttr K (He.ga K "Level") "right" := by
  obtain ⟨h, X, M⟩ := G.ex
  exact He.noat_ok (G.c.d.fact 68 (f := .noat "Level" "right") rfl)
theorem Cm.noat_Level_numbers (G : Cm P K mg) : NoAttr K (He.ga K "Level") "numbers" := by
  obtain ⟨h, X, M⟩ := G.ex
  exact He.noat_ok (G.c.d.fact 69 (f := .noat "Level" "numbers") rfl)
theorem Cm.noat_Level_many (G : Cm P K mg) : NoAttr K (He.ga K "Level") "many" := by
  obtain ⟨h, X, M⟩ := G.ex
  exact He.noat_ok (G.c.d.fact 70 (f := .noat "Level" "many") rfl)
theorem Cm.glo_dimension (G : Cm P K mg) : mg "dimension" = some (.ref (He.ga K "dimension")) := by
  obtain ⟨h, X, M⟩ := G.ex
  exact He.glo_ok X M (G.c.d.fact 71 (f := .glo "dimension") rfl)
theorem Cm.meth_Level_orders (G : Cm P K mg) : Meth K (He.ga K "Level") "orders" (He.ma K (He.ga K "Level") "orders") := by
  obtain ⟨h, X, M⟩ := G.ex
  exact He.meth_ok (G.c.d.fact 72 (f := .meth "Level" "orders") rfl)
theorem Cm.glo_Level (G : Cm P K mg) : mg "Level" = some (.ref (He.ga K "Level")) := by
  obtain ⟨h, X, M⟩ := G.ex
  exact He.glo_ok X M (G.c.d.fact 73 (f := .glo "Level") rfl)
theorem Cm.mkr_Level (G : Cm P K mg) : Mk K (He.ga K "Level") (He.ma K (He.ga K "Level") "__init__") := by
  obtain ⟨h, X, M⟩ := G.ex
  exact He.mkr_ok (G.c.d.fact 74 (f := .mkr "Level") rfl)
theorem Cm.glo_homology_homology (G : Cm P K mg) : mg "homology_homology" = some (.ref (He.ga K "homology_homology")) := by
  obtain ⟨h, X, M⟩ := G.ex
  exact He.glo_ok X M (G.c.d.fact 75 (f := .glo "homology_homology") rfl)
theorem Cm.glo_face_text (G : Cm P K mg) : mg "face_text" = some (.ref (He.ga K "face_text")) := by
  obtain ⟨h, X, M⟩ := G.ex
  exact He.glo_ok X M (G.c.d.fact 76 (f := .glo "face_text") rfl)
theorem Cm.glo_read_number (G : Cm P K mg) : mg "read_number" = some (.ref (He.ga K "read_number")) := by
  obtain ⟨h, X, M⟩ := G.ex
  exact He.glo_ok X M (G.c.d.fact 77 (f := .glo "read_number") rfl)
theorem Cm.cls_Desk (G : Cm P K mg) : Cls K (He.ga K "Desk") := by
  obtain ⟨h, X, M⟩ := G.ex
  exact He.cls_ok (G.c.d.fact 78 (f := .cls "Desk") rfl)
theorem Cm.noat_Desk_kept (G : Cm P K mg) : NoAttr K (He.ga K "Desk") "kept" := by
  obtain ⟨h, X, M⟩ := G.ex
  exact He.noat_ok (G.c.d.fact 79 (f := .noat "Desk" "kept") rfl)
theorem Cm.noat_Desk_lines (G : Cm P K mg) : NoAttr K (He.ga K "Desk") "lines" := by
  obtain ⟨h, X, M⟩ := G.ex
  exact He.noat_ok (G.c.d.fact 80 (f := .noat "Desk" "lines") rfl)
theorem Cm.noat_Desk_ahead (G : Cm P K mg) : NoAttr K (He.ga K "Desk") "ahead" := by
  obtain ⟨h, X, M⟩ := G.ex
  exact He.noat_ok (G.c.d.fact 81 (f := .noat "Desk" "ahead") rfl)
theorem Cm.meth_Desk_noted (G : Cm P K mg) : Meth K (He.ga K "Desk") "noted" (He.ma K (He.ga K "Desk") "noted") := by
  obtain ⟨h, X, M⟩ := G.ex
  exact He.meth_ok (G.c.d.fact 82 (f := .meth "Desk" "noted") rfl)
theorem Cm.glo_reduced_homology (G : Cm P K mg) : mg "reduced_homology" = some (.ref (He.ga K "reduced_homology")) := by
  obtain ⟨h, X, M⟩ := G.ex
  exact He.glo_ok X M (G.c.d.fact 83 (f := .glo "reduced_homology") rfl)
theorem Cm.glo_read_face (G : Cm P K mg) : mg "read_face" = some (.ref (He.ga K "read_face")) := by
  obtain ⟨h, X, M⟩ := G.ex
  exact He.glo_ok X M (G.c.d.fact 84 (f := .glo "read_face") rfl)
theorem Cm.glo_BadText (G : Cm P K mg) : mg "BadText" = some (.ref (He.ga K "BadText")) := by
  obtain ⟨h, X, M⟩ := G.ex
  exact He.glo_ok X M (G.c.d.fact 85 (f := .glo "BadText") rfl)
theorem Cm.glo_Refused (G : Cm P K mg) : mg "Refused" = some (.ref (He.ga K "Refused")) := by
  obtain ⟨h, X, M⟩ := G.ex
  exact He.glo_ok X M (G.c.d.fact 86 (f := .glo "Refused") rfl)
theorem Cm.glo_is_name (G : Cm P K mg) : mg "is_name" = some (.ref (He.ga K "is_name")) := by
  obtain ⟨h, X, M⟩ := G.ex
  exact He.glo_ok X M (G.c.d.fact 87 (f := .glo "is_name") rfl)
theorem Cm.meth_Desk_changed (G : Cm P K mg) : Meth K (He.ga K "Desk") "changed" (He.ma K (He.ga K "Desk") "changed") := by
  obtain ⟨h, X, M⟩ := G.ex
  exact He.meth_ok (G.c.d.fact 88 (f := .meth "Desk" "changed") rfl)
theorem Cm.glo_complex_text (G : Cm P K mg) : mg "complex_text" = some (.ref (He.ga K "complex_text")) := by
  obtain ⟨h, X, M⟩ := G.ex
  exact He.glo_ok X M (G.c.d.fact 89 (f := .glo "complex_text") rfl)
theorem Cm.meth_Desk_known (G : Cm P K mg) : Meth K (He.ga K "Desk") "known" (He.ma K (He.ga K "Desk") "known") := by
  obtain ⟨h, X, M⟩ := G.ex
  exact He.meth_ok (G.c.d.fact 90 (f := .meth "Desk" "known") rfl)
theorem Cm.glo_is_new_face (G : Cm P K mg) : mg "is_new_face" = some (.ref (He.ga K "is_new_face")) := by
  obtain ⟨h, X, M⟩ := G.ex
  exact He.glo_ok X M (G.c.d.fact 91 (f := .glo "is_new_face") rfl)
theorem Cm.glo_collapsed (G : Cm P K mg) : mg "collapsed" = some (.ref (He.ga K "collapsed")) := by
  obtain ⟨h, X, M⟩ := G.ex
  exact He.glo_ok X M (G.c.d.fact 92 (f := .glo "collapsed") rfl)
theorem Cm.glo_divided_at (G : Cm P K mg) : mg "divided_at" = some (.ref (He.ga K "divided_at")) := by
  obtain ⟨h, X, M⟩ := G.ex
  exact He.glo_ok X M (G.c.d.fact 93 (f := .glo "divided_at") rfl)
theorem Cm.glo_flipped (G : Cm P K mg) : mg "flipped" = some (.ref (He.ga K "flipped")) := by
  obtain ⟨h, X, M⟩ := G.ex
  exact He.glo_ok X M (G.c.d.fact 94 (f := .glo "flipped") rfl)
theorem Cm.meth_Desk_undo (G : Cm P K mg) : Meth K (He.ga K "Desk") "undo" (He.ma K (He.ga K "Desk") "undo") := by
  obtain ⟨h, X, M⟩ := G.ex
  exact He.meth_ok (G.c.d.fact 95 (f := .meth "Desk" "undo") rfl)
theorem Cm.meth_Desk_drop (G : Cm P K mg) : Meth K (He.ga K "Desk") "drop" (He.ma K (He.ga K "Desk") "drop") := by
  obtain ⟨h, X, M⟩ := G.ex
  exact He.meth_ok (G.c.d.fact 96 (f := .meth "Desk" "drop") rfl)
theorem Cm.glo_read_complex (G : Cm P K mg) : mg "read_complex" = some (.ref (He.ga K "read_complex")) := by
  obtain ⟨h, X, M⟩ := G.ex
  exact He.glo_ok X M (G.c.d.fact 97 (f := .glo "read_complex") rfl)
theorem Cm.exm_BadText_BadText (G : Cm P K mg) : PySem.W.exmOne K (.ref (He.ga K "BadText")) (.ref (He.ga K "BadText")) = some true := by
  obtain ⟨h, X, M⟩ := G.ex
  exact He.exm_ok (G.c.d.fact 98 (f := .exm "BadText" "BadText" true) rfl)
theorem Cm.meth_Desk_put (G : Cm P K mg) : Meth K (He.ga K "Desk") "put" (He.ma K (He.ga K "Desk") "put") := by
  obtain ⟨h, X, M⟩ := G.ex
  exact He.meth_ok (G.c.d.fact 99 (f := .meth "Desk" "put") rfl)
theorem Cm.meth_Desk_add (G : Cm P K mg) : Meth K (He.ga K "Desk") "add" (He.ma K (He.ga K "Desk") "add") := by
  obtain ⟨h, X, M⟩ := G.ex
  exact He.meth_ok (G.c.d.fact 100 (f := .meth "Desk" "add") rfl)
theorem Cm.meth_Desk_collapse (G : Cm P K mg) : Meth K (He.ga K "Desk") "collapse" (He.ma K (He.ga K "Desk") "collapse") := by
  obtain ⟨h, X, M⟩ := G.ex
  exact He.meth_ok (G.c.d.fact 101 (f := .meth "Desk" "collapse") rfl)
theorem Cm.meth_Desk_divide (G : Cm P K mg) : Meth K (He.ga K "Desk") "divide" (He.ma K (He.ga K "Desk") "divide") := by
  obtain ⟨h, X, M⟩ := G.ex
  exact He.meth_ok (G.c.d.fact 102 (f := .meth "Desk" "divide") rfl)
theorem Cm.meth_Desk_flip (G : Cm P K mg) : Meth K (He.ga K "Desk") "flip" (He.ma K (He.ga K "Desk") "flip") := by
  obtain ⟨h, X, M⟩ := G.ex
  exact He.meth_ok (G.c.d.fact 103 (f := .meth "Desk" "flip") rfl)
theorem Cm.mkr_Desk (G : Cm P K mg) : Mk K (He.ga K "Desk") (He.ma K (He.ga K "Desk") "__init__") := by
  obtain ⟨h, X, M⟩ := G.ex
  exact He.mkr_ok (G.c.d.fact 104 (f := .mkr "Desk") rfl)
theorem Cm.glo_BadFaces (G : Cm P K mg) : mg "BadFaces" = some (.ref (He.ga K "BadFaces")) := by
  obtain ⟨h, X, M⟩ := G.ex
  exact He.glo_ok X M (G.c.d.fact 105 (f := .glo "BadFaces") rfl)
theorem Cm.glo_TooMany (G : Cm P K mg) : mg "TooMany" = some (.ref (He.ga K "TooMany")) := by
  obtain ⟨h, X, M⟩ := G.ex
  exact He.glo_ok X M (G.c.d.fact 106 (f := .glo "TooMany") rfl)
theorem Cm.glo_done (G : Cm P K mg) : mg "done" = some (.ref (He.ga K "done")) := by
  obtain ⟨h, X, M⟩ := G.ex
  exact He.glo_ok X M (G.c.d.fact 107 (f := .glo "done") rfl)
theorem Cm.exm_Refused_Refused (G : Cm P K mg) : PySem.W.exmOne K (.ref (He.ga K "Refused")) (.ref (He.ga K "Refused")) = some true := by
  obtain ⟨h, X, M⟩ := G.ex
  exact He.exm_ok (G.c.d.fact 108 (f := .exm "Refused" "Refused" true) rfl)
theorem Cm.exm_Refused_BadFaces (G : Cm P K mg) : PySem.W.exmOne K (.ref (He.ga K "Refused")) (.ref (He.ga K "BadFaces")) = some false := by
  obtain ⟨h, X, M⟩ := G.ex
  exact He.exm_ok (G.c.d.fact 109 (f := .exm "Refused" "BadFaces" false) rfl)
theorem Cm.exm_Refused_TooMany (G : Cm P K mg) : PySem.W.exmOne K (.ref (He.ga K "Refused")) (.ref (He.ga K "TooMany")) = some false := by
  obtain ⟨h, X, M⟩ := G.ex
  exact He.exm_ok (G.c.d.fact 110 (f := .exm "Refused" "TooMany" false) rfl)
theorem Cm.meth_Desk_names (G : Cm P K mg) : Meth K (He.ga K "Desk") "names" (He.ma K (He.ga K "Desk") "names") := by
  obtain ⟨h, X, M⟩ := G.ex
  exact He.meth_ok (G.c.d.fact 111 (f := .meth "Desk" "names") rfl)
theorem Cm.meth_Desk_journal (G : Cm P K mg) : Meth K (He.ga K "Desk") "journal" (He.ma K (He.ga K "Desk") "journal") := by
  obtain ⟨h, X, M⟩ := G.ex
  exact He.meth_ok (G.c.d.fact 112 (f := .meth "Desk" "journal") rfl)
theorem Cm.meth_Desk_kinds (G : Cm P K mg) : Meth K (He.ga K "Desk") "kinds" (He.ma K (He.ga K "Desk") "kinds") := by
  obtain ⟨h, X, M⟩ := G.ex
  exact He.meth_ok (G.c.d.fact 113 (f := .meth "Desk" "kinds") rfl)
theorem Cm.int_NAMES_MOST (G : Cm P K mg) : ∃ t, mg "NAMES_MOST" = some (.int 100000 t) := by
  obtain ⟨h, X, M⟩ := G.ex
  exact He.int_ok X M (G.c.d.fact 114 (f := .int "NAMES_MOST" 100000) rfl)
theorem Cm.int_FACES_MOST (G : Cm P K mg) : ∃ t, mg "FACES_MOST" = some (.int 6000 t) := by
  obtain ⟨h, X, M⟩ := G.ex
  exact He.int_ok X M (G.c.d.fact 115 (f := .int "FACES_MOST" 6000) rfl)
theorem Cm.int_MANY (G : Cm P K mg) : ∃ t, mg "MANY" = some (.int 20 t) := by
  obtain ⟨h, X, M⟩ := G.ex
  exact He.int_ok X M (G.c.d.fact 116 (f := .int "MANY" 20) rfl)
theorem Cm.str_NAMES (G : Cm P K mg) : ∃ t, mg "NAMES" = some (.str "abcdefghijklmnopqrstuvwxyz" t) := by
  obtain ⟨h, X, M⟩ := G.ex
  exact He.str_ok X M (G.c.d.fact 117 (f := .str "NAMES" "abcdefghijklmnopqrstuvwxyz") rfl)
theorem Cm.str_FIGURES (G : Cm P K mg) : ∃ t, mg "FIGURES" = some (.str "0123456789" t) := by
  obtain ⟨h, X, M⟩ := G.ex
  exact He.str_ok X M (G.c.d.fact 118 (f := .str "FIGURES" "0123456789") rfl)
abbrev nmsL : List Str := ["table", "high", "wide", "left", "right", "back", "undone", "faces", "rank", "rounds", "numbers", "basis", "many", "kept", "lines", "ahead", "place", "reason", "what"]
theorem nmsL_nd : nmsL.Nodup := by decide +kernel
abbrev tb (K : PySem.W.Frag) : Tab where
  cls := fun c => match c with
    | 0 => He.ga K "Former"
    | 1 => He.ga K "Level"
    | 2 => He.ga K "Desk"
    | 3 => He.ga K "BadFaces"
    | 4 => He.ga K "BadText"
    | 5 => He.ga K "TooMany"
    | 6 => He.ga K "Refused"
    | _ => 0
  nms := nmsL
  nd := nmsL_nd
theorem nn_formed : ("formed" : Str) ∉ nmsL := by decide +kernel
theorem nn_orders : ("orders" : Str) ∉ nmsL := by decide +kernel
theorem nn_noted : ("noted" : Str) ∉ nmsL := by decide +kernel
theorem nn_changed : ("changed" : Str) ∉ nmsL := by decide +kernel
theorem nn_known : ("known" : Str) ∉ nmsL := by decide +kernel
theorem nn_undo : ("undo" : Str) ∉ nmsL := by decide +kernel
theorem nn_drop : ("drop" : Str) ∉ nmsL := by decide +kernel
theorem nn_put : ("put" : Str) ∉ nmsL := by decide +kernel
theorem nn_add : ("add" : Str) ∉ nmsL := by decide +kernel
theorem nn_collapse : ("collapse" : Str) ∉ nmsL := by decide +kernel
theorem nn_divide : ("divide" : Str) ∉ nmsL := by decide +kernel
theorem nn_flip : ("flip" : Str) ∉ nmsL := by decide +kernel
theorem nn_names : ("names" : Str) ∉ nmsL := by decide +kernel
theorem nn_journal : ("journal" : Str) ∉ nmsL := by decide +kernel
theorem nn_kinds : ("kinds" : Str) ∉ nmsL := by decide +kernel
theorem sx_Refused : SupScope ["self", "reason"] ["self", "reason"] (defScope s_Refused_init) := ⟨rfl, rfl, rfl, by decide +kernel, rfl, by decide +kernel, by decide +kernel, by decide +kernel, by decide +kernel, by decide +kernel⟩
theorem rz_Refused (G : Cm P K mg) : RzC P w K mg base 1 (He.ga K "Refused") (eI K "Refused") ["self", "reason"] (spInit1 (He.ga K "Refused") "reason") := by
  obtain ⟨cc, cda, fd, kV, doc, pm, an, ct, efd, F, iC, tI, kp⟩ := G.c.x G.top 0 (d := X_Refused) rfl
  refine ⟨F.T, iC, tI, fd, sup_fn (k := 0) F sx_Refused rfl rfl G.free_super (fun vs H Q E h => ?_) (fun _ => rfl) (fun _ => rfl) (fun _ => rfl) (fun A outer s H vs Q E hr h => init1_body F.T sx_Refused G.noat_Refused_reason (by decide) (by decide) h (fun _ => rfl)), .all fun us hl => ?_, kp⟩
  · obtain ⟨a, y, e, _⟩ := h
    rw [e]
    rfl
  · subst efd
    exact match us, hl with | [_, _], _ => rfl
theorem sx_BadText : SupScope ["self", "place", "reason"] ["self", "place", "reason"] (defScope s_BadText_init) := ⟨rfl, rfl, rfl, by decide +kernel, rfl, by decide +kernel, by decide +kernel, by decide +kernel, by decide +kernel, by decide +kernel⟩
theorem rz_BadText (G : Cm P K mg) : RzC P w K mg base 1 (He.ga K "BadText") (eI K "BadText") ["self", "place", "reason"] (spInit2 (He.ga K "BadText") "place" "reason") := by
  obtain ⟨cc, cda, fd, kV, doc, pm, an, ct, efd, F, iC, tI, kp⟩ := G.c.x G.top 1 (d := X_BadText) rfl
  refine ⟨F.T, iC, tI, fd, sup_fn (k := 0) F sx_BadText rfl rfl G.free_super (fun vs H Q E h => ?_) (fun _ => rfl) (fun _ => rfl) (fun _ => rfl) (fun A outer s H vs Q E hr h => init2_body F.T sx_BadText G.noat_BadText_place G.noat_BadText_reason (by decide) (by decide) (by decide) (by decide) h (fun _ => rfl) (fun _ => rfl)), .all fun us hl => ?_, kp⟩
  · obtain ⟨a, y, z, e, _⟩ := h
    rw [e]
    rfl
  · subst efd
    exact match us, hl with | [_, _, _], _ => rfl
theorem rzh_BadText (G : Cm P K mg) : RzH P w K mg base 1 (He.ga K "BadText") (eI K "BadText") ["self", "place", "reason"] (spInit2 (He.ga K "BadText") "place" "reason") := by
  obtain ⟨cc, cda, fd, kV, doc, pm, an, ct, efd, F, iC, tI, kp⟩ := G.c.x G.top 1 (d := X_BadText) rfl
  refine ⟨F.T, iC, tI, fd, sup_fnH (k := 0) F sx_BadText rfl rfl G.free_super (fun vs H Q E h => ?_) (fun _ => rfl) (fun _ => rfl) (fun _ => rfl) (fun p A outer s H vs Q E hr h => init2_body F.T sx_BadText G.noat_BadText_place G.noat_BadText_reason (by decide) (by decide) (by decide) (by decide) h (fun _ => rfl) (fun _ => rfl)), .all fun us hl => ?_⟩
  · obtain ⟨a, y, z, e, _⟩ := h
    rw [e]
    rfl
  · subst efd
    exact match us, hl with | [_, _, _], _ => rfl
theorem sc_is_whole : FnScope ["shape"] ["shape"] (defScope s_is_whole) := ⟨rfl, rfl, rfl, by decide +kernel, rfl, by decide +kernel, by decide +kernel⟩
theorem ok_is_whole (G : Cm P K mg) : Good P w K mg base CX0 1 (He.ga K "is_whole") ["shape"] (spM (tb K) K 1 m_is_whole) := by
  obtain ⟨fd, F⟩ := G.c.d.def_ 0 (d := D_is_whole) rfl
  refine good_of (N := ["shape"]) F sc_is_whole rfl rfl (fun _ _ _ _ _ _ us hl => match us, hl with | [_], _ => rfl) fun cdv A outer s H E hr hu => ?_
  exact (xs_cons (xs_ret (xe_and (xe_isi (by decide) (by decide) rfl G.free_isinstance (xe_var 0 rfl) (pe_bltn rfl G.free_int boot_int rfl) boot_isinstance) (xe_one (xe_not (xe_isi (by decide) (by decide) rfl G.free_isinstance (xe_var 0 rfl) (pe_bltn rfl G.free_bool boot_bool rfl) boot_isinstance))))) xs_nil)
theorem sc_subsets : FnScope ["row", "size", "found", "done", "at", "thing", "part"] ["row", "size"] (defScope s_subsets) := ⟨rfl, rfl, rfl, by decide +kernel, rfl, by decide +kernel, by decide +kernel⟩
theorem ok_subsets (G : Cm P K mg) : Good P w K mg base CX0 1 (He.ga K "subsets") ["row", "size"] (spM (tb K) K 2 m_subsets) := by
  obtain ⟨fd, F⟩ := G.c.d.def_ 1 (d := D_subsets) rfl
  refine good_of (N := ["row", "size", "found", "done", "at", "thing", "part"]) F sc_subsets rfl rfl (fun _ _ _ _ _ _ us hl => match us, hl with | [_, _], _ => rfl) fun cdv A outer s H E hr hu => ?_
  exact (xs_cons (xs_set 2 sc_subsets.nd rfl (by first | exact .inl rfl | exact .inr rfl) (xe_lst (xa_cons (xe_tup xa_nil) xa_nil))) (xs_cons (xs_set 3 sc_subsets.nd rfl (by first | exact .inl rfl | exact .inr rfl) (xe_lst xa_nil)) (xs_cons (xs_for PassesOwn.never rfl (xi_enT rfl G.free_enumerate (xa_cons (xe_var 0 rfl) xa_nil)) (xg_tp rfl (gns_cons 4 sc_subsets.nd rfl (by first | exact .inl rfl | exact .inr rfl) (gns_cons 5 sc_subsets.nd rfl (by first | exact .inl rfl | exact .inr rfl) gns_nil))) (xs_cons (xs_set 2 sc_subsets.nd rfl (by first | exact .inl rfl | exact .inr rfl) (xe_bin or_add (xe_var 2 rfl) (xe_lc (own := [("part", 6)]) rfl sc_subsets.nd (blkOk_by (by rfl)) (tin_of rfl) (xi_lst (xe_var 2 rfl)) (fun _ _ _ _ _ => (xg_nm 6 sc_subsets.nd rfl (by first | exact .inl rfl | exact .inr rfl))) (fun _ _ _ _ _ =>  xc_some (xt_cmp (or_lt hu) (xe_callB (or_len) rfl G.free_len boot_len (xa_cons (xe_var 6 rfl) xa_nil)) (xe_var 1 rfl) rfl)) (fun _ _ _ _ _ => (xe_bin or_add (xe_var 6 rfl) (xe_tup (xa_cons (xe_var 5 rfl) xa_nil))))))) (xs_cons (xs_setLc (own := [("part", 6)]) rfl sc_subsets.nd rfl rfl (by rfl) (blkOk_by (by rfl)) (tin_of rfl) (xi_lst (xe_var 2 rfl)) (fun _ _ _ _ _ => (xg_nm 6 sc_subsets.nd rfl (by first | exact .inl rfl | exact .inr rfl))) (fun _ _ _ _ _ =>  xc_some (xt_cmp (or_eq hu) (xe_callB (or_len) rfl G.free_len boot_len (xa_cons (xe_var 6 rfl) xa_nil)) (xe_var 1 rfl) rfl)) (fun _ _ _ _ _ => (xe_var 6 rfl))) xs_nil))) (xs_cons (xs_ret (xe_if (xt_tru (xe_var 1 rfl)) (xe_callB (or_sorted hu) rfl G.free_sorted boot_sorted (xa_cons (xe_var 3 rfl) xa_nil)) (xe_lst (xa_cons (xe_tup xa_nil) xa_nil)))) xs_nil))))
theorem sc_is_part : FnScope ["part", "whole", "thing"] ["part", "whole"] (defScope s_is_part) := ⟨rfl, rfl, rfl, by decide +kernel, rfl, by decide +kernel, by decide +kernel⟩
theorem ok_is_part (G : Cm P K mg) : Good P w K mg base CX0 1 (He.ga K "is_part") ["part", "whole"] (spM (tb K) K 2 m_is_part) := by
  obtain ⟨fd, F⟩ := G.c.d.def_ 2 (d := D_is_part) rfl
  refine good_of (N := ["part", "whole", "thing"]) F sc_is_part rfl rfl (fun _ _ _ _ _ _ us hl => match us, hl with | [_, _], _ => rfl) fun cdv A outer s H E hr hu => ?_
  exact (xs_cons (xs_ret (xe_callB (or_all rfl) rfl G.free_all boot_all (xa_cons (xe_lc (own := [("thing", 2)]) rfl sc_is_part.nd (blkOk_by (by rfl)) (tin_of rfl) (xi_tup (xe_var 0 rfl)) (fun _ _ _ _ _ => (xg_nm 2 sc_is_part.nd rfl (by first | exact .inl rfl | exact .inr rfl))) (fun _ _ _ _ _ =>  xc_none) (fun _ _ _ _ _ => (xe_cmp (or_in hu) (xe_var 2 rfl) (xe_var 1 rfl) rfl))) xa_nil))) xs_nil)
theorem sc_left_out : FnScope ["one", "other", "thing"] ["one", "other"] (defScope s_left_out) := ⟨rfl, rfl, rfl, by decide +kernel, rfl, by decide +kernel, by decide +kernel⟩
theorem ok_left_out (G : Cm P K mg) : Good P w K mg base CX0 1 (He.ga K "left_out") ["one", "other"] (spM (tb K) K 2 m_left_out) := by
  obtain ⟨fd, F⟩ := G.c.d.def_ 3 (d := D_left_out) rfl
  refine good_of (N := ["one", "other", "thing"]) F sc_left_out rfl rfl (fun _ _ _ _ _ _ us hl => match us, hl with | [_, _], _ => rfl) fun cdv A outer s H E hr hu => ?_
  exact (xs_cons (xs_ret (xe_callTy (or_tuple) rfl G.free_tuple boot_tuple (xa_cons (xe_lc (own := [("thing", 2)]) rfl sc_left_out.nd (blkOk_by (by rfl)) (tin_of rfl) (xi_tup (xe_var 0 rfl)) (fun _ _ _ _ _ => (xg_nm 2 sc_left_out.nd rfl (by first | exact .inl rfl | exact .inr rfl))) (fun _ _ _ _ _ =>  xc_some (xt_cmp (or_nin hu) (xe_var 2 rfl) (xe_var 1 rfl) rfl)) (fun _ _ _ _ _ => (xe_var 2 rfl))) xa_nil))) xs_nil)
theorem sc_is_within_row : FnScope ["part", "whole"] ["part", "whole"] (defScope s_is_within_row) := ⟨rfl, rfl, rfl, by decide +kernel, rfl, by decide +kernel, by decide +kernel⟩
theorem ok_is_within_row (G : Cm P K mg) : Good P w K mg base CX0 2 (He.ga K "is_within_row") ["part", "whole"] (spM (tb K) K 2 m_is_within_row) := by
  obtain ⟨fd, F⟩ := G.c.d.def_ 4 (d := D_is_within_row) rfl
  refine good_of (N := ["part", "whole"]) F sc_is_within_row rfl rfl (fun _ _ _ _ _ _ us hl => match us, hl with | [_, _], _ => rfl) fun cdv A outer s H E hr hu => ?_
  exact (xs_cons (xs_ret (xe_and (xe_cmp (or_lt hu) (xe_callB (or_len) rfl G.free_len boot_len (xa_cons (xe_var 0 rfl) xa_nil)) (xe_callB (or_len) rfl G.free_len boot_len (xa_cons (xe_var 1 rfl) xa_nil)) rfl) (xe_one (xe_callG (ok_is_part G) hr (by decide) rfl G.glo_is_part (fun vs C => runN_bad vs C) (xa_cons (xe_var 0 rfl) (xa_cons (xe_var 1 rfl) xa_nil)))))) xs_nil)
theorem sc_is_face_shape : FnScope ["shape", "at", "point"] ["shape"] (defScope s_is_face_shape) := ⟨rfl, rfl, rfl, by decide +kernel, rfl, by decide +kernel, by decide +kernel⟩
theorem ok_is_face_shape (G : Cm P K mg) : Good P w K mg base CX0 2 (He.ga K "is_face_shape") ["shape"] (spM (tb K) K 1 m_is_face_shape) := by
  obtain ⟨fd, F⟩ := G.c.d.def_ 5 (d := D_is_face_shape) rfl
  refine good_of (N := ["shape", "at", "point"]) F sc_is_face_shape rfl rfl (fun _ _ _ _ _ _ us hl => match us, hl with | [_], _ => rfl) fun cdv A outer s H E hr hu => ?_
  exact (xs_cons (xs_if (PW.pt (yw_or (yt_not (xt_tru (xe_isi (by decide) (by decide) rfl G.free_isinstance (xe_var 0 rfl) (pe_bltn rfl G.free_tuple boot_tuple rfl) boot_isinstance))) (yw_or1 (yt_not (xt_tru (xe_callB (or_all rfl) rfl G.free_all boot_all (xa_cons (xe_lc (own := [("point", 2)]) rfl sc_is_face_shape.nd (blkOk_by (by rfl)) (tin_of rfl) (xi_tup (xe_var 0 rfl)) (fun _ _ _ _ _ => (xg_nm 2 sc_is_face_shape.nd rfl (by first | exact .inl rfl | exact .inr rfl))) (fun _ _ _ _ _ =>  xc_none) (fun _ _ _ _ _ => (xe_and (xe_callG (ok_is_whole G) hr (by decide) rfl G.glo_is_whole (fun vs C => runN_bad vs C) (xa_cons (xe_var 2 rfl) xa_nil)) (xe_one (xe_chain or_le or_le (xe_int) (xe_var 2 rfl) (xe_gint rfl (G.int_NAMES_MOST.choose_spec))))))) xa_nil))))))) (xs_cons (xs_ret (xe_bl)) xs_nil) xs_nil) (xs_cons (xs_ret (xe_callB (or_all rfl) rfl G.free_all boot_all (xa_cons (xe_lc (own := [("at", 1)]) rfl sc_is_face_shape.nd (blkOk_by (by rfl)) (tin_of rfl) (xi_range1 rfl G.free_range (xa_cons (xe_bin or_sub (xe_callB (or_len) rfl G.free_len boot_len (xa_cons (xe_var 0 rfl) xa_nil)) (xe_int)) xa_nil)) (fun _ _ _ _ _ => (xg_nm 1 sc_is_face_shape.nd rfl (by first | exact .inl rfl | exact .inr rfl))) (fun _ _ _ _ _ =>  xc_none) (fun _ _ _ _ _ => (xe_cmp (or_lt hu) (xe_ix or_ix (xe_var 0 rfl) (xe_var 1 rfl) (fun _ _ => rfl)) (xe_ix or_ix (xe_var 0 rfl) (xe_bin or_add (xe_var 1 rfl) (xe_int)) (fun _ _ => rfl)) rfl))) xa_nil))) xs_nil))
theorem sc_is_complex : FnScope ["shape", "sizes", "at", "face", "one", "other"] ["shape"] (defScope s_is_complex) := ⟨rfl, rfl, rfl, by decide +kernel, rfl, by decide +kernel, by decide +kernel⟩
theorem ok_is_complex (G : Cm P K mg) : Good P w K mg base CX0 3 (He.ga K "is_complex") ["shape"] (spM (tb K) K 1 m_is_complex) := by
  obtain ⟨fd, F⟩ := G.c.d.def_ 6 (d := D_is_complex) rfl
  refine good_of (N := ["shape", "sizes", "at", "face", "one", "other"]) F sc_is_complex rfl rfl (fun _ _ _ _ _ _ us hl => match us, hl with | [_], _ => rfl) fun cdv A outer s H E hr hu => ?_
  exact (xs_cons (xs_if (PW.pt (yw_or (yt_not (xt_tru (xe_isi (by decide) (by decide) rfl G.free_isinstance (xe_var 0 rfl) (pe_bltn rfl G.free_tuple boot_tuple rfl) boot_isinstance))) (yw_or1 (yt_not (xt_tru (xe_callB (or_all rfl) rfl G.free_all boot_all (xa_cons (xe_lc (own := [("face", 3)]) rfl sc_is_complex.nd (blkOk_by (by rfl)) (tin_of rfl) (xi_tup (xe_var 0 rfl)) (fun _ _ _ _ _ => (xg_nm 3 sc_is_complex.nd rfl (by first | exact .inl rfl | exact .inr rfl))) (fun _ _ _ _ _ =>  xc_none) (fun _ _ _ _ _ => (xe_and (xe_callG (ok_is_face_shape G) hr (by decide) rfl G.glo_is_face_shape (fun vs C => runN_bad vs C) (xa_cons (xe_var 3 rfl) xa_nil)) (xe_one (xe_var 3 rfl))))) xa_nil))))))) (xs_cons (xs_ret (xe_bl)) xs_nil) xs_nil) (xs_cons (xs_if (yt_not (xt_tru (xe_callB (or_all rfl) rfl G.free_all boot_all (xa_cons (xe_lc (own := [("at", 2)]) rfl sc_is_complex.nd (blkOk_by (by rfl)) (tin_of rfl) (xi_range1 rfl G.free_range (xa_cons (xe_bin or_sub (xe_callB (or_len) rfl G.free_len boot_len (xa_cons (xe_var 0 rfl) xa_nil)) (xe_int)) xa_nil)) (fun _ _ _ _ _ => (xg_nm 2 sc_is_complex.nd rfl (by first | exact .inl rfl | exact .inr rfl))) (fun _ _ _ _ _ =>  xc_none) (fun _ _ _ _ _ => (xe_cmp (or_lt hu) (xe_ix or_ix (xe_var 0 rfl) (xe_var 2 rfl) (fun _ _ => rfl)) (xe_ix or_ix (xe_var 0 rfl) (xe_bin or_add (xe_var 2 rfl) (xe_int)) (fun _ _ => rfl)) rfl))) xa_nil)))) (xs_cons (xs_ret (xe_bl)) xs_nil) xs_nil) (xs_cons (xs_set 1 sc_is_complex.nd rfl (by first | exact .inl rfl | exact .inr rfl) (xe_sortSet hu rfl rfl G.free_sorted rfl G.free_set (xe_lc (own := [("face", 3)]) rfl sc_is_complex.nd (blkOk_by (by rfl)) (tin_of rfl) (xi_tup (xe_var 0 rfl)) (fun _ _ _ _ _ => (xg_nm 3 sc_is_complex.nd rfl (by first | exact .inl rfl | exact .inr rfl))) (fun _ _ _ _ _ =>  xc_none) (fun _ _ _ _ _ => (xe_callB (or_len) rfl G.free_len boot_len (xa_cons (xe_var 3 rfl) xa_nil)))))) (xs_cons (xs_if (xt_cmp (or_lt hu) (xe_callB (or_len) rfl G.free_len boot_len (xa_cons (xe_var 1 rfl) xa_nil)) (xe_int) rfl) (xs_cons (xs_ret (xe_bl)) xs_nil) xs_nil) (xs_cons (xs_ret (xe_not (xe_callB (or_any rfl) rfl G.free_any boot_any (xa_cons (xe_lc2 (own := [("one", 4), ("other", 5)]) (ws1 := [5]) rfl sc_is_complex.nd (blkOk_by (by rfl)) (by decide) (tin_of rfl) (tin_of rfl) (xi_tup (xe_var 0 rfl)) (fun _ _ _ _ _ => (xg_nm 4 sc_is_complex.nd rfl (by first | exact .inl rfl | exact .inr rfl))) (fun _ _ _ _ _ =>  xc_some (xt_cmp (or_lt hu) (xe_callB (or_len) rfl G.free_len boot_len (xa_cons (xe_var 4 rfl) xa_nil)) (xe_ix or_ix (xe_var 1 rfl) (xe_neg (xe_int)) (fun _ _ => rfl)) rfl)) (fun _ _ _ _ _ => (xi_tup (xe_var 0 rfl))) (fun _ _ _ _ _ => (xg_nm 5 sc_is_complex.nd rfl (by first | exact .inl rfl | exact .inr rfl))) (fun _ _ _ _ _ =>  xc_none) (fun _ _ _ _ _ => (xe_callG (ok_is_within_row G) hr (by decide) rfl G.glo_is_within_row (fun vs C => runN_bad vs C) (xa_cons (xe_var 4 rfl) (xa_cons (xe_var 5 rfl) xa_nil))))) xa_nil)))) xs_nil)))))
theorem sc_check_complex : FnScope ["whole"] ["whole"] (defScope s_check_complex) := ⟨rfl, rfl, rfl, by decide +kernel, rfl, by decide +kernel, by decide +kernel⟩
theorem ok_check_complex (G : Cm P K mg) : Good P w K mg base CX0 4 (He.ga K "check_complex") ["whole"] (spM (tb K) K 1 m_check_complex) := by
  obtain ⟨fd, F⟩ := G.c.d.def_ 7 (d := D_check_complex) rfl
  refine good_of (N := ["whole"]) F sc_check_complex rfl rfl (fun _ _ _ _ _ _ us hl => match us, hl with | [_], _ => rfl) fun cdv A outer s H E hr hu => ?_
  exact (xs_cons (xs_if (yt_not (xt_tru (xe_callG (ok_is_complex G) hr (by decide) rfl G.glo_is_complex (fun vs C => runN_bad vs C) (xa_cons (xe_var 0 rfl) xa_nil)))) (xs_cons (xs_bad) xs_nil) xs_nil) xs_nil)
theorem sc_complex_of : FnScope ["faces", "rows", "greater", "found", "at", "face", "size", "other"] ["faces"] (defScope s_complex_of) := ⟨rfl, rfl, rfl, by decide +kernel, rfl, by decide +kernel, by decide +kernel⟩
theorem ok_complex_of (G : Cm P K mg) : Good P w K mg base CX0 3 (He.ga K "complex_of") ["faces"] (spM (tb K) K 1 m_complex_of) := by
  obtain ⟨fd, F⟩ := G.c.d.def_ 8 (d := D_complex_of) rfl
  refine good_of (N := ["faces", "rows", "greater", "found", "at", "face", "size", "other"]) F sc_complex_of rfl rfl (fun _ _ _ _ _ _ us hl => match us, hl with | [_], _ => rfl) fun cdv A outer s H E hr hu => ?_
  exact (xs_cons (xs_if (yt_not (xt_tru (xe_callB (or_all rfl) rfl G.free_all boot_all (xa_cons (xe_lc (own := [("face", 5)]) rfl sc_complex_of.nd (blkOk_by (by rfl)) (tin_of rfl) (xi_seq (xe_var 0 rfl)) (fun _ _ _ _ _ => (xg_nm 5 sc_complex_of.nd rfl (by first | exact .inl rfl | exact .inr rfl))) (fun _ _ _ _ _ =>  xc_none) (fun _ _ _ _ _ => (xe_callG (ok_is_face_shape G) hr (by decide) rfl G.glo_is_face_shape (fun vs C => runN_bad vs C) (xa_cons (xe_var 5 rfl) xa_nil)))) xa_nil)))) (xs_cons (xs_bad) xs_nil) xs_nil) (xs_cons (xs_setLc (own := [("size", 6), ("face", 5)]) rfl sc_complex_of.nd rfl rfl (by rfl) (blkOk_by (by rfl)) (tin_of rfl) (xi_lst (xe_sortSet hu rfl rfl G.free_sorted rfl G.free_set (xe_lc (own := [("face", 5)]) rfl sc_complex_of.nd (blkOk_by (by rfl)) (tin_of rfl) (xi_seq (xe_var 0 rfl)) (fun _ _ _ _ _ => (xg_nm 5 sc_complex_of.nd rfl (by first | exact .inl rfl | exact .inr rfl))) (fun _ _ _ _ _ =>  xc_none) (fun _ _ _ _ _ => (xe_tup (xa_cons (xe_bin or_sub (xe_int) (xe_callB (or_len) rfl G.free_len boot_len (xa_cons (xe_var 5 rfl) xa_nil))) (xa_cons (xe_var 5 rfl) xa_nil))))))) (fun _ _ _ _ _ => (xg_tp rfl (gns_cons 6 sc_complex_of.nd rfl (by first | exact .inl rfl | exact .inr rfl) (gns_cons 5 sc_complex_of.nd rfl (by first | exact .inl rfl | exact .inr rfl) gns_nil)))) (fun _ _ _ _ _ =>  xc_none) (fun _ _ _ _ _ => (xe_var 5 rfl))) (xs_cons (xs_set 2 sc_complex_of.nd rfl (by first | exact .inl rfl | exact .inr rfl) (xe_lst xa_nil)) (xs_cons (xs_set 3 sc_complex_of.nd rfl (by first | exact .inl rfl | exact .inr rfl) (xe_lst xa_nil)) (xs_cons (xs_for PassesOwn.never rfl (xi_enL rfl G.free_enumerate (xa_cons (xe_var 1 rfl) xa_nil)) (xg_tp rfl (gns_cons 4 sc_complex_of.nd rfl (by first | exact .inl rfl | exact .inr rfl) (gns_cons 5 sc_complex_of.nd rfl (by first | exact .inl rfl | exact .inr rfl) gns_nil))) (xs_cons (xs_if (PW.pt (yw_and (xt_tru (xe_var 4 rfl)) (yw_and1 (xt_cmp (or_lt hu) (xe_callB (or_len) rfl G.free_len boot_len (xa_cons (xe_var 5 rfl) xa_nil)) (xe_callB (or_len) rfl G.free_len boot_len (xa_cons (xe_ix or_ix (xe_var 1 rfl) (xe_bin or_sub (xe_var 4 rfl) (xe_int)) (fun _ _ => rfl)) xa_nil)) rfl)))) (xs_cons (xs_set 2 sc_complex_of.nd rfl (by first | exact .inl rfl | exact .inr rfl) (xe_callTy (or_list) rfl G.free_list boot_list (xa_cons (xe_var 3 rfl) xa_nil))) xs_nil) xs_nil) (xs_cons (xs_if (PW.pt (yw_and (xt_tru (xe_var 5 rfl)) (yw_and1 (yt_not (xt_tru (xe_callB (or_any rfl) rfl G.free_any boot_any (xa_cons (xe_lc (own := [("other", 7)]) rfl sc_complex_of.nd (blkOk_by (by rfl)) (tin_of rfl) (xi_lst (xe_var 2 rfl)) (fun _ _ _ _ _ => (xg_nm 7 sc_complex_of.nd rfl (by first | exact .inl rfl | exact .inr rfl))) (fun _ _ _ _ _ =>  xc_none) (fun _ _ _ _ _ => (xe_callG (ok_is_part G) hr (by decide) rfl G.glo_is_part (fun vs C => runN_bad vs C) (xa_cons (xe_var 5 rfl) (xa_cons (xe_var 7 rfl) xa_nil))))) xa_nil))))))) (xs_cons (xs_drop (xe_bm (t := 1) PySem.F.plainAttrs_list PySem.F.slot_list_append PySem.F.type_list_append mr_append (xe_var 3 rfl) (xa_cons (xe_var 5 rfl) xa_nil))) xs_nil) xs_nil) xs_nil))) (xs_cons (xs_ret (xe_callTy (or_tuple) rfl G.free_tuple boot_tuple (xa_cons (xe_callB (or_sorted hu) rfl G.free_sorted boot_sorted (xa_cons (xe_var 3 rfl) xa_nil)) xa_nil))) xs_nil))))))
theorem sc_all_faces : FnScope ["whole", "most", "found", "count", "size", "seen", "face", "part"] ["whole"] (defScope s_all_faces) := ⟨rfl, rfl, rfl, by decide +kernel, rfl, by decide +kernel, by decide +kernel⟩
theorem ok_all_faces (G : Cm P K mg) : Good P w K mg base CX0 5 (He.ga K "all_faces") ["whole"] (spM (tb K) K 1 m_all_faces) := by
  obtain ⟨fd, F⟩ := G.c.d.def_ 9 (d := D_all_faces) rfl
  refine good_of (N := ["whole", "most", "found", "count", "size", "seen", "face", "part"]) F sc_all_faces rfl rfl (fun _ _ _ _ _ _ us hl => match us, hl with | [_], _ => rfl) fun cdv A outer s H E hr hu => ?_
  exact (xs_cons (xs_drop (xe_callG (ok_check_complex G) hr (by decide) rfl G.glo_check_complex (fun vs C => runN_bad vs C) (xa_cons (xe_var 0 rfl) xa_nil))) (xs_cons (xs_set 1 sc_all_faces.nd rfl (by first | exact .inl rfl | exact .inr rfl) (xe_callB (or_max rfl) rfl G.free_max boot_max (xa_cons (xe_bin or_add (xe_lc (own := [("face", 6)]) rfl sc_all_faces.nd (blkOk_by (by rfl)) (tin_of rfl) (xi_tup (xe_var 0 rfl)) (fun _ _ _ _ _ => (xg_nm 6 sc_all_faces.nd rfl (by first | exact .inl rfl | exact .inr rfl))) (fun _ _ _ _ _ =>  xc_none) (fun _ _ _ _ _ => (xe_callB (or_len) rfl G.free_len boot_len (xa_cons (xe_var 6 rfl) xa_nil)))) (xe_lst (xa_cons (xe_int) xa_nil))) xa_nil))) (xs_cons (xs_set 2 sc_all_faces.nd rfl (by first | exact .inl rfl | exact .inr rfl) (xe_lst xa_nil)) (xs_cons (xs_set 3 sc_all_faces.nd rfl (by first | exact .inl rfl | exact .inr rfl) (xe_int)) (xs_cons (xs_for PassesOwn.never rfl (xi_range1 rfl G.free_range (xa_cons (xe_bin or_add (xe_var 1 rfl) (xe_int)) xa_nil)) (xg_nm 4 sc_all_faces.nd rfl (by first | exact .inl rfl | exact .inr rfl)) (xs_cons (xs_set 5 sc_all_faces.nd rfl (by first | exact .inl rfl | exact .inr rfl) xe_newT) (xs_cons (xs_for PassesOwn.never rfl (xi_tup (xe_var 0 rfl)) (xg_nm 6 sc_all_faces.nd rfl (by first | exact .inl rfl | exact .inr rfl)) (xs_cons (xs_if (xt_cmp or_ge (xe_callB (or_len) rfl G.free_len boot_len (xa_cons (xe_var 6 rfl) xa_nil)) (xe_var 4 rfl) rfl) (xs_cons (xs_for PassesOwn.never rfl (xi_lst (xe_callG (ok_subsets G) hr (by decide) rfl G.glo_subsets (fun vs C => runN_bad vs C) (xa_cons (xe_var 6 rfl) (xa_cons (xe_var 4 rfl) xa_nil)))) (xg_nm 7 sc_all_faces.nd rfl (by first | exact .inl rfl | exact .inr rfl)) (xs_cons (xs_dput hu (xe_var 5 rfl) (xe_var 7 rfl) (xe_bl)) xs_nil)) xs_nil) xs_nil) (xs_cons (xs_if (xt_cmp or_gt (xe_callB (or_len) rfl G.free_len boot_len (xa_cons (xe_var 5 rfl) xa_nil)) (xe_gint rfl (G.int_FACES_MOST.choose_spec)) rfl) (xs_cons (xs_bad) xs_nil) xs_nil) xs_nil))) (xs_cons (xs_drop (xe_bm (t := 1) PySem.F.plainAttrs_list PySem.F.slot_list_append PySem.F.type_list_append mr_append (xe_var 2 rfl) (xa_cons (xe_if (xt_tru (xe_var 4 rfl)) (xe_callB (or_sortedD rfl hu) rfl G.free_sorted boot_sorted (xa_cons (xe_var 5 rfl) xa_nil)) (xe_lst (xa_cons (xe_tup xa_nil) xa_nil))) xa_nil))) (xs_cons (xs_aug 3 sc_all_faces.nd rfl (by first | exact .inl rfl | exact .inr rfl) (xe_callB (or_len) rfl G.free_len boot_len (xa_cons (xe_ix or_ix (xe_var 2 rfl) (xe_neg (xe_int)) (fun _ _ => rfl)) xa_nil)) ip_add) (xs_cons (xs_if (xt_cmp or_gt (xe_var 3 rfl) (xe_gint rfl (G.int_FACES_MOST.choose_spec)) rfl) (xs_cons (xs_bad) xs_nil) xs_nil) xs_nil)))))) (xs_cons (xs_ret (xe_var 2 rfl)) xs_nil))))))
theorem sc_faces_of : FnScope ["whole", "dimension", "rows"] ["whole", "dimension"] (defScope s_faces_of) := ⟨rfl, rfl, rfl, by decide +kernel, rfl, by decide +kernel, by decide +kernel⟩
theorem ok_faces_of (G : Cm P K mg) : Good P w K mg base CX0 6 (He.ga K "faces_of") ["whole", "dimension"] (spM (tb K) K 2 m_faces_of) := by
  obtain ⟨fd, F⟩ := G.c.d.def_ 10 (d := D_faces_of) rfl
  refine good_of (N := ["whole", "dimension", "rows"]) F sc_faces_of rfl rfl (fun _ _ _ _ _ _ us hl => match us, hl with | [_, _], _ => rfl) fun cdv A outer s H E hr hu => ?_
  exact (xs_cons (xs_set 2 sc_faces_of.nd rfl (by first | exact .inl rfl | exact .inr rfl) (xe_callG (ok_all_faces G) hr (by decide) rfl G.glo_all_faces (fun vs C => runN_bad vs C) (xa_cons (xe_var 0 rfl) xa_nil))) (xs_cons (xs_ret (xe_if (xt_chain or_le (or_lt hu) (xe_int) (xe_bin or_add (xe_var 1 rfl) (xe_int)) (xe_callB (or_len) rfl G.free_len boot_len (xa_cons (xe_var 2 rfl) xa_nil))) (xe_callTy (or_tuple) rfl G.free_tuple boot_tuple (xa_cons (xe_ix or_ix (xe_var 2 rfl) (xe_bin or_add (xe_var 1 rfl) (xe_int)) (fun _ _ => rfl)) xa_nil)) (xe_tup xa_nil))) xs_nil))
theorem sc_points_of : FnScope ["whole", "face", "point"] ["whole"] (defScope s_points_of) := ⟨rfl, rfl, rfl, by decide +kernel, rfl, by decide +kernel, by decide +kernel⟩
theorem ok_points_of (G : Cm P K mg) : Good P w K mg base CX0 5 (He.ga K "points_of") ["whole"] (spM (tb K) K 1 m_points_of) := by
  obtain ⟨fd, F⟩ := G.c.d.def_ 11 (d := D_points_of) rfl
  refine good_of (N := ["whole", "face", "point"]) F sc_points_of rfl rfl (fun _ _ _ _ _ _ us hl => match us, hl with | [_], _ => rfl) fun cdv A outer s H E hr hu => ?_
  exact (xs_cons (xs_drop (xe_callG (ok_check_complex G) hr (by decide) rfl G.glo_check_complex (fun vs C => runN_bad vs C) (xa_cons (xe_var 0 rfl) xa_nil))) (xs_cons (xs_ret (xe_callTy (or_tuple) rfl G.free_tuple boot_tuple (xa_cons (xe_sortSet hu rfl rfl G.free_sorted rfl G.free_set (xe_lc2 (own := [("face", 1), ("point", 2)]) (ws1 := [2]) rfl sc_points_of.nd (blkOk_by (by rfl)) (by decide) (tin_of rfl) (tin_of rfl) (xi_tup (xe_var 0 rfl)) (fun _ _ _ _ _ => (xg_nm 1 sc_points_of.nd rfl (by first | exact .inl rfl | exact .inr rfl))) (fun _ _ _ _ _ =>  xc_none) (fun _ _ _ _ _ => (xi_tup (xe_var 1 rfl))) (fun _ _ _ _ _ => (xg_nm 2 sc_points_of.nd rfl (by first | exact .inl rfl | exact .inr rfl))) (fun _ _ _ _ _ =>  xc_none) (fun _ _ _ _ _ => (xe_var 2 rfl)))) xa_nil))) xs_nil))
theorem sc_dimension : FnScope ["whole", "face"] ["whole"] (defScope s_dimension) := ⟨rfl, rfl, rfl, by decide +kernel, rfl, by decide +kernel, by decide +kernel⟩
theorem ok_dimension (G : Cm P K mg) : Good P w K mg base CX0 5 (He.ga K "dimension") ["whole"] (spM (tb K) K 1 m_dimension) := by
  obtain ⟨fd, F⟩ := G.c.d.def_ 12 (d := D_dimension) rfl
  refine good_of (N := ["whole", "face"]) F sc_dimension rfl rfl (fun _ _ _ _ _ _ us hl => match us, hl with | [_], _ => rfl) fun cdv A outer s H E hr hu => ?_
  exact (xs_cons (xs_drop (xe_callG (ok_check_complex G) hr (by decide) rfl G.glo_check_complex (fun vs C => runN_bad vs C) (xa_cons (xe_var 0 rfl) xa_nil))) (xs_cons (xs_ret (xe_bin or_sub (xe_callB (or_max rfl) rfl G.free_max boot_max (xa_cons (xe_bin or_add (xe_lc (own := [("face", 1)]) rfl sc_dimension.nd (blkOk_by (by rfl)) (tin_of rfl) (xi_tup (xe_var 0 rfl)) (fun _ _ _ _ _ => (xg_nm 1 sc_dimension.nd rfl (by first | exact .inl rfl | exact .inr rfl))) (fun _ _ _ _ _ =>  xc_none) (fun _ _ _ _ _ => (xe_callB (or_len) rfl G.free_len boot_len (xa_cons (xe_var 1 rfl) xa_nil)))) (xe_lst (xa_cons (xe_int) xa_nil))) xa_nil)) (xe_int))) xs_nil))
theorem sc_is_in : FnScope ["whole", "face", "other"] ["whole", "face"] (defScope s_is_in) := ⟨rfl, rfl, rfl, by decide +kernel, rfl, by decide +kernel, by decide +kernel⟩
theorem ok_is_in (G : Cm P K mg) : Good P w K mg base CX0 2 (He.ga K "is_in") ["whole", "face"] (spM (tb K) K 2 m_is_in) := by
  obtain ⟨fd, F⟩ := G.c.d.def_ 13 (d := D_is_in) rfl
  refine good_of (N := ["whole", "face", "other"]) F sc_is_in rfl rfl (fun _ _ _ _ _ _ us hl => match us, hl with | [_, _], _ => rfl) fun cdv A outer s H E hr hu => ?_
  exact (xs_cons (xs_ret (xe_or (xe_not (xe_var 1 rfl)) (xe_one (xe_callB (or_any rfl) rfl G.free_any boot_any (xa_cons (xe_lc (own := [("other", 2)]) rfl sc_is_in.nd (blkOk_by (by rfl)) (tin_of rfl) (xi_tup (xe_var 0 rfl)) (fun _ _ _ _ _ => (xg_nm 2 sc_is_in.nd rfl (by first | exact .inl rfl | exact .inr rfl))) (fun _ _ _ _ _ =>  xc_none) (fun _ _ _ _ _ => (xe_callG (ok_is_part G) hr (by decide) rfl G.glo_is_part (fun vs C => runN_bad vs C) (xa_cons (xe_var 1 rfl) (xa_cons (xe_var 2 rfl) xa_nil))))) xa_nil))))) xs_nil)
theorem sc_has_face : FnScope ["whole", "face"] ["whole", "face"] (defScope s_has_face) := ⟨rfl, rfl, rfl, by decide +kernel, rfl, by decide +kernel, by decide +kernel⟩
theorem ok_has_face (G : Cm P K mg) : Good P w K mg base CX0 5 (He.ga K "has_face") ["whole", "face"] (spM (tb K) K 2 m_has_face) := by
  obtain ⟨fd, F⟩ := G.c.d.def_ 14 (d := D_has_face) rfl
  refine good_of (N := ["whole", "face"]) F sc_has_face rfl rfl (fun _ _ _ _ _ _ us hl => match us, hl with | [_, _], _ => rfl) fun cdv A outer s H E hr hu => ?_
  exact (xs_cons (xs_drop (xe_callG (ok_check_complex G) hr (by decide) rfl G.glo_check_complex (fun vs C => runN_bad vs C) (xa_cons (xe_var 0 rfl) xa_nil))) (xs_cons (xs_ret (xe_callG (ok_is_in G) hr (by decide) rfl G.glo_is_in (fun vs C => runN_bad vs C) (xa_cons (xe_var 0 rfl) (xa_cons (xe_var 1 rfl) xa_nil)))) xs_nil))
theorem sc_boundary_faces : FnScope ["face", "at"] ["face"] (defScope s_boundary_faces) := ⟨rfl, rfl, rfl, by decide +kernel, rfl, by decide +kernel, by decide +kernel⟩
theorem ok_boundary_faces (G : Cm P K mg) : Good P w K mg base CX0 1 (He.ga K "boundary_faces") ["face"] (spM (tb K) K 1 m_boundary_faces) := by
  obtain ⟨fd, F⟩ := G.c.d.def_ 15 (d := D_boundary_faces) rfl
  refine good_of (N := ["face", "at"]) F sc_boundary_faces rfl rfl (fun _ _ _ _ _ _ us hl => match us, hl with | [_], _ => rfl) fun cdv A outer s H E hr hu => ?_
  exact (xs_cons (xs_ret (xe_lc (own := [("at", 1)]) rfl sc_boundary_faces.nd (blkOk_by (by rfl)) (tin_of rfl) (xi_range1 rfl G.free_range (xa_cons (xe_callB (or_len) rfl G.free_len boot_len (xa_cons (xe_var 0 rfl) xa_nil)) xa_nil)) (fun _ _ _ _ _ => (xg_nm 1 sc_boundary_faces.nd rfl (by first | exact .inl rfl | exact .inr rfl))) (fun _ _ _ _ _ =>  xc_none) (fun _ _ _ _ _ => (xe_bin or_add (xe_slice (xe_var 0 rfl) xo_none (xo_some (xe_var 1 rfl))) (xe_slice (xe_var 0 rfl) (xo_some (xe_bin or_add (xe_var 1 rfl) (xe_int))) xo_none))))) xs_nil)
theorem sc_boundary_table : FnScope ["whole", "dimension", "rows", "columns", "table", "face", "row", "at", "part"] ["whole", "dimension"] (defScope s_boundary_table) := ⟨rfl, rfl, rfl, by decide +kernel, rfl, by decide +kernel, by decide +kernel⟩
theorem ok_boundary_table (G : Cm P K mg) : Good P w K mg base CX0 7 (He.ga K "boundary_table") ["whole", "dimension"] (spM (tb K) K 2 m_boundary_table) := by
  obtain ⟨fd, F⟩ := G.c.d.def_ 16 (d := D_boundary_table) rfl
  refine good_of (N := ["whole", "dimension", "rows", "columns", "table", "face", "row", "at", "part"]) F sc_boundary_table rfl rfl (fun _ _ _ _ _ _ us hl => match us, hl with | [_, _], _ => rfl) fun cdv A outer s H E hr hu => ?_
  exact (xs_cons (xs_set 2 sc_boundary_table.nd rfl (by first | exact .inl rfl | exact .inr rfl) (xe_callG (ok_faces_of G) hr (by decide) rfl G.glo_faces_of (fun vs C => runN_bad vs C) (xa_cons (xe_var 0 rfl) (xa_cons (xe_var 1 rfl) xa_nil)))) (xs_cons (xs_if (xt_cmp (or_lt hu) (xe_var 1 rfl) (xe_int) rfl) (xs_cons (xs_ret (xe_lc (own := [("face", 5)]) rfl sc_boundary_table.nd (blkOk_by (by rfl)) (tin_of rfl) (xi_tup (xe_var 2 rfl)) (fun _ _ _ _ _ => (xg_nm 5 sc_boundary_table.nd rfl (by first | exact .inl rfl | exact .inr rfl))) (fun _ _ _ _ _ =>  xc_none) (fun _ _ _ _ _ => (xe_lst xa_nil)))) xs_nil) xs_nil) (xs_cons (xs_set 3 sc_boundary_table.nd rfl (by first | exact .inl rfl | exact .inr rfl) (xe_callTy (or_dictP rfl hu) rfl G.free_dict boot_dict (xa_cons (xe_lc (own := [("at", 7), ("face", 5)]) rfl sc_boundary_table.nd (blkOk_by (by rfl)) (tin_of rfl) (xi_enT rfl G.free_enumerate (xa_cons (xe_callG (ok_faces_of G) hr (by decide) rfl G.glo_faces_of (fun vs C => runN_bad vs C) (xa_cons (xe_var 0 rfl) (xa_cons (xe_bin or_sub (xe_var 1 rfl) (xe_int)) xa_nil))) xa_nil)) (fun _ _ _ _ _ => (xg_tp rfl (gns_cons 7 sc_boundary_table.nd rfl (by first | exact .inl rfl | exact .inr rfl) (gns_cons 5 sc_boundary_table.nd rfl (by first | exact .inl rfl | exact .inr rfl) gns_nil)))) (fun _ _ _ _ _ =>  xc_none) (fun _ _ _ _ _ => (xe_tup (xa_cons (xe_var 5 rfl) (xa_cons (xe_var 7 rfl) xa_nil))))) xa_nil))) (xs_cons (xs_set 4 sc_boundary_table.nd rfl (by first | exact .inl rfl | exact .inr rfl) (xe_lst xa_nil)) (xs_cons (xs_for PassesOwn.never rfl (xi_tup (xe_var 2 rfl)) (xg_nm 5 sc_boundary_table.nd rfl (by first | exact .inl rfl | exact .inr rfl)) xss_bad) (xs_cons (xs_ret (xe_var 4 rfl)) xs_nil))))))
theorem sc_unit : FnScope ["many", "at", "place"] ["many"] (defScope s_unit) := ⟨rfl, rfl, rfl, by decide +kernel, rfl, by decide +kernel, by decide +kernel⟩
theorem ok_unit (G : Cm P K mg) : Good P w K mg base CX0 1 (He.ga K "unit") ["many"] (spM (tb K) K 1 m_unit) := by
  obtain ⟨fd, F⟩ := G.c.d.def_ 17 (d := D_unit) rfl
  refine good_of (N := ["many", "at", "place"]) F sc_unit rfl rfl (fun _ _ _ _ _ _ us hl => match us, hl with | [_], _ => rfl) fun cdv A outer s H E hr hu => ?_
  exact (xs_cons (xs_ret (xe_lc (own := [("at", 1)]) rfl sc_unit.nd (blkOk_by (by rfl)) (tin_of rfl) (xi_range1 rfl G.free_range (xa_cons (xe_var 0 rfl) xa_nil)) (fun _ _ _ _ _ => (xg_nm 1 sc_unit.nd rfl (by first | exact .inl rfl | exact .inr rfl))) (fun _ _ _ _ _ =>  xc_none) (fun _ _ _ _ _ => (xe_lc (own := [("place", 2)]) rfl sc_unit.nd (blkOk_by (by rfl)) (tin_of rfl) (xi_range1 rfl G.free_range (xa_cons (xe_var 0 rfl) xa_nil)) (fun _ _ _ _ _ => (xg_nm 2 sc_unit.nd rfl (by first | exact .inl rfl | exact .inr rfl))) (fun _ _ _ _ _ =>  xc_none) (fun _ _ _ _ _ => (xe_callTy (or_int) rfl G.free_int boot_int (xa_cons (xe_cmp (or_eq hu) (xe_var 1 rfl) (xe_var 2 rfl) rfl) xa_nil))))))) xs_nil)
theorem sc_row_times : FnScope ["row", "table", "wide", "place", "at"] ["row", "table", "wide"] (defScope s_row_times) := ⟨rfl, rfl, rfl, by decide +kernel, rfl, by decide +kernel, by decide +kernel⟩
theorem ok_row_times (G : Cm P K mg) : Good P w K mg base CX0 1 (He.ga K "row_times") ["row", "table", "wide"] (spM (tb K) K 3 m_row_times) := by
  obtain ⟨fd, F⟩ := G.c.d.def_ 18 (d := D_row_times) rfl
  refine good_of (N := ["row", "table", "wide", "place", "at"]) F sc_row_times rfl rfl (fun _ _ _ _ _ _ us hl => match us, hl with | [_, _, _], _ => rfl) fun cdv A outer s H E hr hu => ?_
  exact (xs_cons (xs_ret (xe_lc (own := [("place", 3)]) rfl sc_row_times.nd (blkOk_by (by rfl)) (tin_of rfl) (xi_range1 rfl G.free_range (xa_cons (xe_var 2 rfl) xa_nil)) (fun _ _ _ _ _ => (xg_nm 3 sc_row_times.nd rfl (by first | exact .inl rfl | exact .inr rfl))) (fun _ _ _ _ _ =>  xc_none) (fun _ _ _ _ _ => (xe_callB (or_sum rfl) rfl G.free_sum boot_sum (xa_cons (xe_lc (own := [("at", 4)]) rfl sc_row_times.nd (blkOk_by (by rfl)) (tin_of rfl) (xi_range1 rfl G.free_range (xa_cons (xe_callB (or_len) rfl G.free_len boot_len (xa_cons (xe_var 1 rfl) xa_nil)) xa_nil)) (fun _ _ _ _ _ => (xg_nm 4 sc_row_times.nd rfl (by first | exact .inl rfl | exact .inr rfl))) (fun _ _ _ _ _ =>  xc_none) (fun _ _ _ _ _ => (xe_bin or_mul (xe_ix or_ix (xe_var 0 rfl) (xe_var 4 rfl) (fun _ _ => rfl)) (xe_ix or_ix (xe_ix or_ix (xe_var 1 rfl) (xe_var 4 rfl) (fun _ _ => rfl)) (xe_var 3 rfl) (fun _ _ => rfl))))) xa_nil))))) xs_nil)
theorem sc_Former_init : FnScope ["self", "table", "wide", "row"] ["self", "table", "wide"] (defScope s_Former_init) := ⟨rfl, rfl, rfl, by decide +kernel, rfl, by decide +kernel, by decide +kernel⟩
theorem ok_Former_init (G : Cm P K mg) : Good P w K mg base CX0 2 (He.ma K (He.ga K "Former") "__init__") ["self", "table", "wide"] (spM (tb K) K 3 m_Former_init) := by
  obtain ⟨fd, F⟩ := G.c.d.def_ 19 (d := D_Former_init) rfl
  refine good_of (N := ["self", "table", "wide", "row"]) F sc_Former_init rfl rfl (fun _ _ _ _ _ _ us hl => match us, hl with | [_, _, _], _ => rfl) fun cdv A outer s H E hr hu => ?_
  exact (xs_cons (xs_fld 0 0 rfl G.cls_Former G.noat_Former_table (xe_var 0 rfl) (xe_lc (own := [("row", 3)]) rfl sc_Former_init.nd (blkOk_by (by rfl)) (tin_of rfl) (xi_lst (xe_var 1 rfl)) (fun _ _ _ _ _ => (xg_nm 3 sc_Former_init.nd rfl (by first | exact .inl rfl | exact .inr rfl))) (fun _ _ _ _ _ =>  xc_none) (fun _ _ _ _ _ => (xe_callTy (or_list) rfl G.free_list boot_list (xa_cons (xe_var 3 rfl) xa_nil))))) (xs_cons (xs_asgT rfl (xe_tup (xa_cons (xe_callB (or_len) rfl G.free_len boot_len (xa_cons (xe_var 1 rfl) xa_nil)) (xa_cons (xe_var 2 rfl) xa_nil))) (gtf_fl 0 1 rfl G.cls_Former G.noat_Former_high (pv 0) (gtf_fl 0 2 rfl G.cls_Former G.noat_Former_wide (pv 0) gtf_nil))) (xs_cons (xs_asgT rfl (xe_tup (xa_cons (xe_callG (ok_unit G) hr (by decide) rfl G.glo_unit (fun vs C => runN_bad vs C) (xa_cons (xe_fld 0 1 rfl (G.cls_Former) (G.noat_Former_high) (xe_var 0 rfl)) xa_nil)) (xa_cons (xe_callG (ok_unit G) hr (by decide) rfl G.glo_unit (fun vs C => runN_bad vs C) (xa_cons (xe_var 2 rfl) xa_nil)) xa_nil))) (gtf_fl 0 3 rfl G.cls_Former G.noat_Former_left (pv 0) (gtf_fl 0 4 rfl G.cls_Former G.noat_Former_right (pv 0) gtf_nil))) (xs_cons (xs_asgT rfl (xe_tup (xa_cons (xe_callG (ok_unit G) hr (by decide) rfl G.glo_unit (fun vs C => runN_bad vs C) (xa_cons (xe_fld 0 1 rfl (G.cls_Former) (G.noat_Former_high) (xe_var 0 rfl)) xa_nil)) (xa_cons (xe_callG (ok_unit G) hr (by decide) rfl G.glo_unit (fun vs C => runN_bad vs C) (xa_cons (xe_var 2 rfl) xa_nil)) xa_nil))) (gtf_fl 0 5 rfl G.cls_Former G.noat_Former_back (pv 0) (gtf_fl 0 6 rfl G.cls_Former G.noat_Former_undone (pv 0) gtf_nil))) xs_nil))))
theorem sc_Former_formed : FnScope ["self", "numbers", "start", "least", "odd", "rows", "row", "one"] ["self"] (defScope s_Former_formed) := ⟨rfl, rfl, rfl, by decide +kernel, rfl, by decide +kernel, by decide +kernel⟩
theorem ok_Former_formed (G : Cm P K mg) : Good P w K mg base CX0 1 (He.ma K (He.ga K "Former") "formed") ["self"] (spM (tb K) K 1 m_Former_formed) := by
  obtain ⟨fd, F⟩ := G.c.d.def_ 20 (d := D_Former_formed) rfl
  refine good_of (N := ["self", "numbers", "start", "least", "odd", "rows", "row", "one"]) F sc_Former_formed rfl rfl (fun _ _ _ _ _ _ us hl => match us, hl with | [_], _ => rfl) fun cdv A outer s H E hr hu => ?_
  exact (xs_cons (xs_set 1 sc_Former_formed.nd rfl (by first | exact .inl rfl | exact .inr rfl) (xe_lst xa_nil)) (xs_cons (xs_set 2 sc_Former_formed.nd rfl (by first | exact .inl rfl | exact .inr rfl) (xe_int)) (xs_cons (xs_while0 PassesOwn.never (xt_cmp (or_lt hu) (xe_var 2 rfl) (xe_callB (or_min2 rfl) rfl G.free_min boot_min (xa_cons (xe_fld 0 1 rfl (G.cls_Former) (G.noat_Former_high) (xe_var 0 rfl)) (xa_cons (xe_fld 0 2 rfl (G.cls_Former) (G.noat_Former_wide) (xe_var 0 rfl)) xa_nil))) rfl)) (xs_cons (xs_ret (xe_var 1 rfl)) xs_nil))))
theorem sc_smith : FnScope ["table", "wide", "work", "numbers"] ["table", "wide"] (defScope s_smith) := ⟨rfl, rfl, rfl, by decide +kernel, rfl, by decide +kernel, by decide +kernel⟩
theorem ok_smith (G : Cm P K mg) : Good P w K mg base CX0 4 (He.ga K "smith") ["table", "wide"] (spM (tb K) K 2 m_smith) := by
  obtain ⟨fd, F⟩ := G.c.d.def_ 21 (d := D_smith) rfl
  refine good_of (N := ["table", "wide", "work", "numbers"]) F sc_smith rfl rfl (fun _ _ _ _ _ _ us hl => match us, hl with | [_, _], _ => rfl) fun cdv A outer s H E hr hu => ?_
  exact (xs_cons (xs_set 2 sc_smith.nd rfl (by first | exact .inl rfl | exact .inr rfl) (xe_makeG (c := 0) (ok_Former_init G) hr (by decide) G.mkr_Former rfl G.glo_Former (fun vs C => runN_bad vs C) (xa_cons (xe_var 0 rfl) (xa_cons (xe_var 1 rfl) xa_nil)))) (xs_cons (xs_set 3 sc_smith.nd rfl (by first | exact .inl rfl | exact .inr rfl) (xe_methG0 (c := 0) (ok_Former_formed G) hr (by decide) nn_formed G.cls_Former G.meth_Former_formed (fun vs C => runN_bad vs C) (xe_var 2 rfl))) (xs_cons (xs_ret (xe_tup (xa_cons (xe_var 3 rfl) (xa_cons (xe_fld 0 3 rfl (G.cls_Former) (G.noat_Former_left) (xe_var 2 rfl)) (xa_cons (xe_fld 0 4 rfl (G.cls_Former) (G.noat_Former_right) (xe_var 2 rfl)) (xa_cons (xe_fld 0 5 rfl (G.cls_Former) (G.noat_Former_back) (xe_var 2 rfl)) (xa_cons (xe_fld 0 6 rfl (G.cls_Former) (G.noat_Former_undone) (xe_var 2 rfl)) xa_nil))))))) xs_nil)))
theorem sc_free_pairs : FnScope ["whole", "found", "row", "face", "over", "part"] ["whole"] (defScope s_free_pairs) := ⟨rfl, rfl, rfl, by decide +kernel, rfl, by decide +kernel, by decide +kernel⟩
theorem ok_free_pairs (G : Cm P K mg) : Good P w K mg base CX0 6 (He.ga K "free_pairs") ["whole"] (spM (tb K) K 1 m_free_pairs) := by
  obtain ⟨fd, F⟩ := G.c.d.def_ 22 (d := D_free_pairs) rfl
  refine good_of (N := ["whole", "found", "row", "face", "over", "part"]) F sc_free_pairs rfl rfl (fun _ _ _ _ _ _ us hl => match us, hl with | [_], _ => rfl) fun cdv A outer s H E hr hu => ?_
  exact (xs_cons (xs_drop (xe_callG (ok_check_complex G) hr (by decide) rfl G.glo_check_complex (fun vs C => runN_bad vs C) (xa_cons (xe_var 0 rfl) xa_nil))) (xs_cons (xs_set 1 sc_free_pairs.nd rfl (by first | exact .inl rfl | exact .inr rfl) (xe_lst xa_nil)) (xs_cons (xs_for PassesOwn.never rfl (xi_lst (xe_slice (xe_callG (ok_all_faces G) hr (by decide) rfl G.glo_all_faces (fun vs C => runN_bad vs C) (xa_cons (xe_var 0 rfl) xa_nil)) (xo_some (xe_int)) xo_none)) (xg_nm 2 sc_free_pairs.nd rfl (by first | exact .inl rfl | exact .inr rfl)) (xs_cons (xs_for PassesOwn.never rfl (xi_lst (xe_var 2 rfl)) (xg_nm 3 sc_free_pairs.nd rfl (by first | exact .inl rfl | exact .inr rfl)) (xs_cons (xs_setLc (own := [("part", 5)]) rfl sc_free_pairs.nd rfl rfl (by rfl) (blkOk_by (by rfl)) (tin_of rfl) (xi_tup (xe_var 0 rfl)) (fun _ _ _ _ _ => (xg_nm 5 sc_free_pairs.nd rfl (by first | exact .inl rfl | exact .inr rfl))) (fun _ _ _ _ _ =>  xc_some (xt_tru (xe_callG (ok_is_part G) hr (by decide) rfl G.glo_is_part (fun vs C => runN_bad vs C) (xa_cons (xe_var 3 rfl) (xa_cons (xe_var 5 rfl) xa_nil))))) (fun _ _ _ _ _ => (xe_var 5 rfl))) (xs_cons (xs_if (PW.pt (yw_and (xt_cmp (or_eq hu) (xe_callB (or_len) rfl G.free_len boot_len (xa_cons (xe_var 4 rfl) xa_nil)) (xe_int) rfl) (yw_and1 (xt_cmp (or_eq hu) (xe_callB (or_len) rfl G.free_len boot_len (xa_cons (xe_ix or_ix (xe_var 4 rfl) (xe_int) (fun _ _ => rfl)) xa_nil)) (xe_bin or_add (xe_callB (or_len) rfl G.free_len boot_len (xa_cons (xe_var 3 rfl) xa_nil)) (xe_int)) rfl)))) (xs_cons (xs_drop (xe_bm (t := 1) PySem.F.plainAttrs_list PySem.F.slot_list_append PySem.F.type_list_append mr_append (xe_var 1 rfl) (xa_cons (xe_tup (xa_cons (xe_var 3 rfl) (xa_cons (xe_ix or_ix (xe_var 4 rfl) (xe_int) (fun _ _ => rfl)) xa_nil))) xa_nil))) xs_nil) xs_nil) xs_nil))) xs_nil)) (xs_cons (xs_ret (xe_callTy (or_tuple) rfl G.free_tuple boot_tuple (xa_cons (xe_callB (or_sorted hu) rfl G.free_sorted boot_sorted (xa_cons (xe_var 1 rfl) xa_nil)) xa_nil))) xs_nil))))
theorem sc_collapsed : FnScope ["whole", "pair", "rest", "face", "over", "part"] ["whole", "pair"] (defScope s_collapsed) := ⟨rfl, rfl, rfl, by decide +kernel, rfl, by decide +kernel, by decide +kernel⟩
theorem ok_collapsed (G : Cm P K mg) : Good P w K mg base CX0 7 (He.ga K "collapsed") ["whole", "pair"] (spM (tb K) K 2 m_collapsed) := by
  obtain ⟨fd, F⟩ := G.c.d.def_ 23 (d := D_collapsed) rfl
  refine good_of (N := ["whole", "pair", "rest", "face", "over", "part"]) F sc_collapsed rfl rfl (fun _ _ _ _ _ _ us hl => match us, hl with | [_, _], _ => rfl) fun cdv A outer s H E hr hu => ?_
  exact (xs_cons (xs_if (xt_cmp (or_nin hu) (xe_var 1 rfl) (xe_callG (ok_free_pairs G) hr (by decide) rfl G.glo_free_pairs (fun vs C => runN_bad vs C) (xa_cons (xe_var 0 rfl) xa_nil)) rfl) (xs_cons (xs_bad) xs_nil) xs_nil) (xs_cons (xs_asg (xe_var 1 rfl) (xg_tp rfl (gns_cons 3 sc_collapsed.nd rfl (by first | exact .inl rfl | exact .inr rfl) (gns_cons 4 sc_collapsed.nd rfl (by first | exact .inl rfl | exact .inr rfl) gns_nil)))) (xs_cons (xs_setLc (own := [("part", 5)]) rfl sc_collapsed.nd rfl rfl (by rfl) (blkOk_by (by rfl)) (tin_of rfl) (xi_tup (xe_var 0 rfl)) (fun _ _ _ _ _ => (xg_nm 5 sc_collapsed.nd rfl (by first | exact .inl rfl | exact .inr rfl))) (fun _ _ _ _ _ =>  xc_some (xt_cmp (or_ne hu) (xe_var 5 rfl) (xe_var 4 rfl) rfl)) (fun _ _ _ _ _ => (xe_var 5 rfl))) (xs_cons (xs_ret (xe_callG (ok_complex_of G) hr (by decide) rfl G.glo_complex_of (fun vs C => runN_bad vs C) (xa_cons (xe_bin or_add (xe_var 2 rfl) (xe_lc (own := [("part", 5)]) rfl sc_collapsed.nd (blkOk_by (by rfl)) (tin_of rfl) (xi_lst (xe_callG (ok_boundary_faces G) hr (by decide) rfl G.glo_boundary_faces (fun vs C => runN_bad vs C) (xa_cons (xe_var 4 rfl) xa_nil))) (fun _ _ _ _ _ => (xg_nm 5 sc_collapsed.nd rfl (by first | exact .inl rfl | exact .inr rfl))) (fun _ _ _ _ _ =>  xc_some (xt_cmp (or_ne hu) (xe_var 5 rfl) (xe_var 3 rfl) rfl)) (fun _ _ _ _ _ => (xe_var 5 rfl)))) xa_nil))) xs_nil))))
theorem sc_above : FnScope ["whole", "points"] ["whole"] (defScope s_above) := ⟨rfl, rfl, rfl, by decide +kernel, rfl, by decide +kernel, by decide +kernel⟩
theorem ok_above (G : Cm P K mg) : Good P w K mg base CX0 6 (He.ga K "above") ["whole"] (spM (tb K) K 1 m_above) := by
  obtain ⟨fd, F⟩ := G.c.d.def_ 24 (d := D_above) rfl
  refine good_of (N := ["whole", "points"]) F sc_above rfl rfl (fun _ _ _ _ _ _ us hl => match us, hl with | [_], _ => rfl) fun cdv A outer s H E hr hu => ?_
  exact (xs_cons (xs_set 1 sc_above.nd rfl (by first | exact .inl rfl | exact .inr rfl) (xe_callG (ok_points_of G) hr (by decide) rfl G.glo_points_of (fun vs C => runN_bad vs C) (xa_cons (xe_var 0 rfl) xa_nil))) (xs_cons (xs_ret (xe_if (xt_tru (xe_var 1 rfl)) (xe_bin or_add (xe_ix or_ix (xe_var 1 rfl) (xe_neg (xe_int)) (fun _ _ => rfl)) (xe_int)) (xe_int))) xs_nil))
theorem sc_divided_at : FnScope ["whole", "face", "top", "found", "part", "point", "one"] ["whole", "face"] (defScope s_divided_at) := ⟨rfl, rfl, rfl, by decide +kernel, rfl, by decide +kernel, by decide +kernel⟩
theorem ok_divided_at (G : Cm P K mg) : Good P w K mg base CX0 7 (He.ga K "divided_at") ["whole", "face"] (spM (tb K) K 2 m_divided_at) := by
  obtain ⟨fd, F⟩ := G.c.d.def_ 25 (d := D_divided_at) rfl
  refine good_of (N := ["whole", "face", "top", "found", "part", "point", "one"]) F sc_divided_at rfl rfl (fun _ _ _ _ _ _ us hl => match us, hl with | [_, _], _ => rfl) fun cdv A outer s H E hr hu => ?_
  exact (xs_cons (xs_drop (xe_callG (ok_check_complex G) hr (by decide) rfl G.glo_check_complex (fun vs C => runN_bad vs C) (xa_cons (xe_var 0 rfl) xa_nil))) (xs_cons (xs_if (PW.pt (yw_or (xt_cmp (or_lt hu) (xe_callB (or_len) rfl G.free_len boot_len (xa_cons (xe_var 1 rfl) xa_nil)) (xe_int) rfl) (yw_or1 (yt_not (xt_tru (xe_callG (ok_has_face G) hr (by decide) rfl G.glo_has_face (fun vs C => runN_bad vs C) (xa_cons (xe_var 0 rfl) (xa_cons (xe_var 1 rfl) xa_nil)))))))) (xs_cons (xs_bad) xs_nil) xs_nil) (xs_cons (xs_set 2 sc_divided_at.nd rfl (by first | exact .inl rfl | exact .inr rfl) (xe_callG (ok_above G) hr (by decide) rfl G.glo_above (fun vs C => runN_bad vs C) (xa_cons (xe_var 0 rfl) xa_nil))) (xs_cons (xs_set 3 sc_divided_at.nd rfl (by first | exact .inl rfl | exact .inr rfl) (xe_lst xa_nil)) (xs_cons (xs_for PassesOwn.never rfl (xi_tup (xe_var 0 rfl)) (xg_nm 4 sc_divided_at.nd rfl (by first | exact .inl rfl | exact .inr rfl)) (xs_cons (xs_if (xt_tru (xe_callG (ok_is_part G) hr (by decide) rfl G.glo_is_part (fun vs C => runN_bad vs C) (xa_cons (xe_var 1 rfl) (xa_cons (xe_var 4 rfl) xa_nil)))) (xs_cons (xs_for PassesOwn.never rfl (xi_tup (xe_var 1 rfl)) (xg_nm 5 sc_divided_at.nd rfl (by first | exact .inl rfl | exact .inr rfl)) (xs_cons (xs_drop (xe_bm (t := 1) PySem.F.plainAttrs_list PySem.F.slot_list_append PySem.F.type_list_append mr_append (xe_var 3 rfl) (xa_cons (xe_bin or_add (xe_callTy (or_tuple) rfl G.free_tuple boot_tuple (xa_cons (xe_lc (own := [("one", 6)]) rfl sc_divided_at.nd (blkOk_by (by rfl)) (tin_of rfl) (xi_tup (xe_var 4 rfl)) (fun _ _ _ _ _ => (xg_nm 6 sc_divided_at.nd rfl (by first | exact .inl rfl | exact .inr rfl))) (fun _ _ _ _ _ =>  xc_some (xt_cmp (or_ne hu) (xe_var 6 rfl) (xe_var 5 rfl) rfl)) (fun _ _ _ _ _ => (xe_var 6 rfl))) xa_nil)) (xe_tup (xa_cons (xe_var 2 rfl) xa_nil))) xa_nil))) xs_nil)) xs_nil) (xs_cons (xs_drop (xe_bm (t := 1) PySem.F.plainAttrs_list PySem.F.slot_list_append PySem.F.type_list_append mr_append (xe_var 3 rfl) (xa_cons (xe_var 4 rfl) xa_nil))) xs_nil)) xs_nil)) (xs_cons (xs_ret (xe_callG (ok_complex_of G) hr (by decide) rfl G.glo_complex_of (fun vs C => runN_bad vs C) (xa_cons (xe_var 3 rfl) xa_nil))) xs_nil))))))
theorem sc_flips : FnScope ["whole", "found", "row", "face", "around", "points", "part", "point"] ["whole"] (defScope s_flips) := ⟨rfl, rfl, rfl, by decide +kernel, rfl, by decide +kernel, by decide +kernel⟩
theorem ok_flips (G : Cm P K mg) : Good P w K mg base CX0 6 (He.ga K "flips") ["whole"] (spM (tb K) K 1 m_flips) := by
  obtain ⟨fd, F⟩ := G.c.d.def_ 26 (d := D_flips) rfl
  refine good_of (N := ["whole", "found", "row", "face", "around", "points", "part", "point"]) F sc_flips rfl rfl (fun _ _ _ _ _ _ us hl => match us, hl with | [_], _ => rfl) fun cdv A outer s H E hr hu => ?_
  exact (xs_cons (xs_set 1 sc_flips.nd rfl (by first | exact .inl rfl | exact .inr rfl) (xe_lst xa_nil)) (xs_cons (xs_for PassesOwn.never rfl (xi_lst (xe_slice (xe_callG (ok_all_faces G) hr (by decide) rfl G.glo_all_faces (fun vs C => runN_bad vs C) (xa_cons (xe_var 0 rfl) xa_nil)) (xo_some (xe_int)) xo_none)) (xg_nm 2 sc_flips.nd rfl (by first | exact .inl rfl | exact .inr rfl)) (xs_cons (xs_for PassesOwn.never rfl (xi_lst (xe_var 2 rfl)) (xg_nm 3 sc_flips.nd rfl (by first | exact .inl rfl | exact .inr rfl)) (xs_cons (xs_setLc (own := [("part", 6)]) rfl sc_flips.nd rfl rfl (by rfl) (blkOk_by (by rfl)) (tin_of rfl) (xi_tup (xe_var 0 rfl)) (fun _ _ _ _ _ => (xg_nm 6 sc_flips.nd rfl (by first | exact .inl rfl | exact .inr rfl))) (fun _ _ _ _ _ =>  xc_some (xt_tru (xe_callG (ok_is_part G) hr (by decide) rfl G.glo_is_part (fun vs C => runN_bad vs C) (xa_cons (xe_var 3 rfl) (xa_cons (xe_var 6 rfl) xa_nil))))) (fun _ _ _ _ _ => (xe_callG (ok_left_out G) hr (by decide) rfl G.glo_left_out (fun vs C => runN_bad vs C) (xa_cons (xe_var 6 rfl) (xa_cons (xe_var 3 rfl) xa_nil))))) (xs_cons (xs_set 5 sc_flips.nd rfl (by first | exact .inl rfl | exact .inr rfl) (xe_callTy (or_tuple) rfl G.free_tuple boot_tuple (xa_cons (xe_sortSet hu rfl rfl G.free_sorted rfl G.free_set (xe_lc2 (own := [("part", 6), ("point", 7)]) (ws1 := [7]) rfl sc_flips.nd (blkOk_by (by rfl)) (by decide) (tin_of rfl) (tin_of rfl) (xi_lst (xe_var 4 rfl)) (fun _ _ _ _ _ => (xg_nm 6 sc_flips.nd rfl (by first | exact .inl rfl | exact .inr rfl))) (fun _ _ _ _ _ =>  xc_none) (fun _ _ _ _ _ => (xi_tup (xe_var 6 rfl))) (fun _ _ _ _ _ => (xg_nm 7 sc_flips.nd rfl (by first | exact .inl rfl | exact .inr rfl))) (fun _ _ _ _ _ =>  xc_none) (fun _ _ _ _ _ => (xe_var 7 rfl)))) xa_nil))) (xs_cons (xs_if (PW.pt (yw_and (xt_cmp or_gt (xe_callB (or_len) rfl G.free_len boot_len (xa_cons (xe_var 5 rfl) xa_nil)) (xe_int) rfl) (yw_and1 (yt_not (xt_tru (xe_callG (ok_is_in G) hr (by decide) rfl G.glo_is_in (fun vs C => runN_bad vs C) (xa_cons (xe_var 0 rfl) (xa_cons (xe_var 5 rfl) xa_nil)))))))) (xs_cons (xs_if (xt_cmp (or_eq hu) (xe_callB (or_sorted hu) rfl G.free_sorted boot_sorted (xa_cons (xe_var 4 rfl) xa_nil)) (xe_callB (or_sorted hu) rfl G.free_sorted boot_sorted (xa_cons (xe_callG (ok_boundary_faces G) hr (by decide) rfl G.glo_boundary_faces (fun vs C => runN_bad vs C) (xa_cons (xe_var 5 rfl) xa_nil)) xa_nil)) rfl) (xs_cons (xs_drop (xe_bm (t := 1) PySem.F.plainAttrs_list PySem.F.slot_list_append PySem.F.type_list_append mr_append (xe_var 1 rfl) (xa_cons (xe_tup (xa_cons (xe_var 3 rfl) (xa_cons (xe_var 5 rfl) xa_nil))) xa_nil))) xs_nil) xs_nil) xs_nil) xs_nil) xs_nil)))) xs_nil)) (xs_cons (xs_ret (xe_callTy (or_tuple) rfl G.free_tuple boot_tuple (xa_cons (xe_callB (or_sorted hu) rfl G.free_sorted boot_sorted (xa_cons (xe_var 1 rfl) xa_nil)) xa_nil))) xs_nil)))
theorem sc_flipped : FnScope ["whole", "face", "other", "rest", "fresh", "part"] ["whole", "face", "other"] (defScope s_flipped) := ⟨rfl, rfl, rfl, by decide +kernel, rfl, by decide +kernel, by decide +kernel⟩
theorem ok_flipped (G : Cm P K mg) : Good P w K mg base CX0 7 (He.ga K "flipped") ["whole", "face", "other"] (spM (tb K) K 3 m_flipped) := by
  obtain ⟨fd, F⟩ := G.c.d.def_ 27 (d := D_flipped) rfl
  refine good_of (N := ["whole", "face", "other", "rest", "fresh", "part"]) F sc_flipped rfl rfl (fun _ _ _ _ _ _ us hl => match us, hl with | [_, _, _], _ => rfl) fun cdv A outer s H E hr hu => ?_
  exact (xs_cons (xs_if (xt_cmp (or_nin hu) (xe_tup (xa_cons (xe_var 1 rfl) (xa_cons (xe_var 2 rfl) xa_nil))) (xe_callG (ok_flips G) hr (by decide) rfl G.glo_flips (fun vs C => runN_bad vs C) (xa_cons (xe_var 0 rfl) xa_nil)) rfl) (xs_cons (xs_bad) xs_nil) xs_nil) (xs_cons (xs_setLc (own := [("part", 5)]) rfl sc_flipped.nd rfl rfl (by rfl) (blkOk_by (by rfl)) (tin_of rfl) (xi_tup (xe_var 0 rfl)) (fun _ _ _ _ _ => (xg_nm 5 sc_flipped.nd rfl (by first | exact .inl rfl | exact .inr rfl))) (fun _ _ _ _ _ =>  xc_some (yt_not (xt_tru (xe_callG (ok_is_part G) hr (by decide) rfl G.glo_is_part (fun vs C => runN_bad vs C) (xa_cons (xe_var 1 rfl) (xa_cons (xe_var 5 rfl) xa_nil)))))) (fun _ _ _ _ _ => (xe_var 5 rfl))) (xs_cons (xs_setLc (own := [("part", 5)]) rfl sc_flipped.nd rfl rfl (by rfl) (blkOk_by (by rfl)) (tin_of rfl) (xi_lst (xe_callG (ok_boundary_faces G) hr (by decide) rfl G.glo_boundary_faces (fun vs C => runN_bad vs C) (xa_cons (xe_var 1 rfl) xa_nil))) (fun _ _ _ _ _ => (xg_nm 5 sc_flipped.nd rfl (by first | exact .inl rfl | exact .inr rfl))) (fun _ _ _ _ _ =>  xc_none) (fun _ _ _ _ _ => (xe_callTy (or_tuple) rfl G.free_tuple boot_tuple (xa_cons (xe_callB (or_sortedT hu) rfl G.free_sorted boot_sorted (xa_cons (xe_bin or_add (xe_var 5 rfl) (xe_var 2 rfl)) xa_nil)) xa_nil)))) (xs_cons (xs_ret (xe_callG (ok_complex_of G) hr (by decide) rfl G.glo_complex_of (fun vs C => runN_bad vs C) (xa_cons (xe_bin or_add (xe_var 3 rfl) (xe_var 4 rfl)) xa_nil))) xs_nil))))
theorem sc_Level_init : FnScope ["self", "whole", "at", "below", "above", "wide", "many", "rows", "numbers", "left", "right", "back", "undone", "way", "other", "row"] ["self", "whole", "at"] (defScope s_Level_init) := ⟨rfl, rfl, rfl, by decide +kernel, rfl, by decide +kernel, by decide +kernel⟩
theorem ok_Level_init (G : Cm P K mg) : Good P w K mg base CX0 8 (He.ma K (He.ga K "Level") "__init__") ["self", "whole", "at"] (spM (tb K) K 3 m_Level_init) := by
  obtain ⟨fd, F⟩ := G.c.d.def_ 28 (d := D_Level_init) rfl
  refine good_of (N := ["self", "whole", "at", "below", "above", "wide", "many", "rows", "numbers", "left", "right", "back", "undone", "way", "other", "row"]) F sc_Level_init rfl rfl (fun _ _ _ _ _ _ us hl => match us, hl with | [_, _, _], _ => rfl) fun cdv A outer s H E hr hu => ?_
  exact (xs_cons (xs_fld 1 7 rfl G.cls_Level G.noat_Level_faces (xe_var 0 rfl) (xe_callG (ok_faces_of G) hr (by decide) rfl G.glo_faces_of (fun vs C => runN_bad vs C) (xa_cons (xe_var 1 rfl) (xa_cons (xe_var 2 rfl) xa_nil)))) (xs_cons (xs_set 3 sc_Level_init.nd rfl (by first | exact .inl rfl | exact .inr rfl) (xe_callG (ok_boundary_table G) hr (by decide) rfl G.glo_boundary_table (fun vs C => runN_bad vs C) (xa_cons (xe_var 1 rfl) (xa_cons (xe_var 2 rfl) xa_nil)))) (xs_cons (xs_set 4 sc_Level_init.nd rfl (by first | exact .inl rfl | exact .inr rfl) (xe_callG (ok_boundary_table G) hr (by decide) rfl G.glo_boundary_table (fun vs C => runN_bad vs C) (xa_cons (xe_var 1 rfl) (xa_cons (xe_bin or_add (xe_var 2 rfl) (xe_int)) xa_nil)))) (xs_cons (xs_set 5 sc_Level_init.nd rfl (by first | exact .inl rfl | exact .inr rfl) (xe_if (xt_tru (xe_var 3 rfl)) (xe_callB (or_len) rfl G.free_len boot_len (xa_cons (xe_ix or_ix (xe_var 3 rfl) (xe_int) (fun _ _ => rfl)) xa_nil)) (xe_int))) (xs_cons (xs_asg (xe_callG (ok_smith G) hr (by decide) rfl G.glo_smith (fun vs C => runN_bad vs C) (xa_cons (xe_var 3 rfl) (xa_cons (xe_var 5 rfl) xa_nil))) (xg_tp rfl (gns_cons 8 sc_Level_init.nd rfl (by first | exact .inl rfl | exact .inr rfl) (gns_cons 9 sc_Level_init.nd rfl (by first | exact .inl rfl | exact .inr rfl) (gns_cons 10 sc_Level_init.nd rfl (by first | exact .inl rfl | exact .inr rfl) (gns_cons 11 sc_Level_init.nd rfl (by first | exact .inl rfl | exact .inr rfl) (gns_cons 12 sc_Level_init.nd rfl (by first | exact .inl rfl | exact .inr rfl) gns_nil))))))) (xs_cons (xs_fld 1 8 rfl G.cls_Level G.noat_Level_rank (xe_var 0 rfl) (xe_callB (or_len) rfl G.free_len boot_len (xa_cons (xe_var 8 rfl) xa_nil))) (xs_cons (xs_fld 1 5 rfl G.cls_Level G.noat_Level_back (xe_var 0 rfl) (xe_var 11 rfl)) (xs_cons (xs_fld 1 9 rfl G.cls_Level G.noat_Level_rounds (xe_var 0 rfl) (xe_slice (xe_var 9 rfl) (xo_some (xe_fld 1 8 rfl (G.cls_Level) (G.noat_Level_rank) (xe_var 0 rfl))) xo_none)) (xs_cons (xs_set 6 sc_Level_init.nd rfl (by first | exact .inl rfl | exact .inr rfl) (xe_callB (or_len) rfl G.free_len boot_len (xa_cons (xe_fld 1 9 rfl (G.cls_Level) (G.noat_Level_rounds) (xe_var 0 rfl)) xa_nil))) (xs_cons (xs_setLc (own := [("row", 15)]) rfl sc_Level_init.nd rfl rfl (by rfl) (blkOk_by (by rfl)) (tin_of rfl) (xi_lst (xe_var 4 rfl)) (fun _ _ _ _ _ => (xg_nm 15 sc_Level_init.nd rfl (by first | exact .inl rfl | exact .inr rfl))) (fun _ _ _ _ _ =>  xc_none) (fun _ _ _ _ _ => (xe_slice (xe_callG (ok_row_times G) hr (by decide) rfl G.glo_row_times (fun vs C => runN_bad vs C) (xa_cons (xe_var 15 rfl) (xa_cons (xe_var 11 rfl) (xa_cons (xe_callB (or_len) rfl G.free_len boot_len (xa_cons (xe_fld 1 7 rfl (G.cls_Level) (G.noat_Level_faces) (xe_var 0 rfl)) xa_nil)) xa_nil)))) (xo_some (xe_fld 1 8 rfl (G.cls_Level) (G.noat_Level_rank) (xe_var 0 rfl))) xo_none))) (xs_cons (xs_asgT rfl (xe_callG (ok_smith G) hr (by decide) rfl G.glo_smith (fun vs C => runN_bad vs C) (xa_cons (xe_var 7 rfl) (xa_cons (xe_var 6 rfl) xa_nil))) (gtf_fl 1 10 rfl G.cls_Level G.noat_Level_numbers (pv 0) (gtf_nm 13 sc_Level_init.nd rfl (by first | exact .inl rfl | exact .inr rfl) (gtf_fl 1 4 rfl G.cls_Level G.noat_Level_right (pv 0) (gtf_nm 14 sc_Level_init.nd rfl (by first | exact .inl rfl | exact .inr rfl) (gtf_fl 1 11 rfl G.cls_Level G.noat_Level_basis (pv 0) gtf_nil)))))) (xs_cons (xs_fld 1 12 rfl G.cls_Level G.noat_Level_many (xe_var 0 rfl) (xe_var 6 rfl)) xs_nil))))))))))))
theorem sc_Level_orders : FnScope ["self", "number"] ["self"] (defScope s_Level_orders) := ⟨rfl, rfl, rfl, by decide +kernel, rfl, by decide +kernel, by decide +kernel⟩
theorem ok_Level_orders (G : Cm P K mg) : Good P w K mg base CX0 1 (He.ma K (He.ga K "Level") "orders") ["self"] (spM (tb K) K 1 m_Level_orders) := by
  obtain ⟨fd, F⟩ := G.c.d.def_ 29 (d := D_Level_orders) rfl
  refine good_of (N := ["self", "number"]) F sc_Level_orders rfl rfl (fun _ _ _ _ _ _ us hl => match us, hl with | [_], _ => rfl) fun cdv A outer s H E hr hu => ?_
  exact (xs_cons (xs_ret (xe_bin or_add (xe_lc (own := [("number", 1)]) rfl sc_Level_orders.nd (blkOk_by (by rfl)) (tin_of rfl) (xi_lst (xe_fld 1 10 rfl (G.cls_Level) (G.noat_Level_numbers) (xe_var 0 rfl))) (fun _ _ _ _ _ => (xg_nm 1 sc_Level_orders.nd rfl (by first | exact .inl rfl | exact .inr rfl))) (fun _ _ _ _ _ =>  xc_some (xt_cmp or_gt (xe_var 1 rfl) (xe_int) rfl)) (fun _ _ _ _ _ => (xe_var 1 rfl))) (xe_bin or_mul (xe_lst (xa_cons (xe_int) xa_nil)) (xe_bin or_sub (xe_fld 1 12 rfl (G.cls_Level) (G.noat_Level_many) (xe_var 0 rfl)) (xe_callB (or_len) rfl G.free_len boot_len (xa_cons (xe_fld 1 10 rfl (G.cls_Level) (G.noat_Level_numbers) (xe_var 0 rfl)) xa_nil)))))) xs_nil)
theorem sc_homology : FnScope ["whole", "found", "at", "orders", "order"] ["whole"] (defScope s_homology) := ⟨rfl, rfl, rfl, by decide +kernel, rfl, by decide +kernel, by decide +kernel⟩
theorem ok_homology (G : Cm P K mg) : Good P w K mg base CX0 10 (He.ga K "homology_homology") ["whole"] (spM (tb K) K 1 m_homology) := by
  obtain ⟨fd, F⟩ := G.c.d.def_ 30 (d := D_homology) rfl
  refine good_of (N := ["whole", "found", "at", "orders", "order"]) F sc_homology rfl rfl (fun _ _ _ _ _ _ us hl => match us, hl with | [_], _ => rfl) fun cdv A outer s H E hr hu => ?_
  exact (xs_cons (xs_set 1 sc_homology.nd rfl (by first | exact .inl rfl | exact .inr rfl) (xe_lst xa_nil)) (xs_cons (xs_for PassesOwn.never rfl (xi_range1 rfl G.free_range (xa_cons (xe_bin or_add (xe_callG (ok_dimension G) hr (by decide) rfl G.glo_dimension (fun vs C => runN_bad vs C) (xa_cons (xe_var 0 rfl) xa_nil)) (xe_int)) xa_nil)) (xg_nm 2 sc_homology.nd rfl (by first | exact .inl rfl | exact .inr rfl)) (xs_cons (xs_set 3 sc_homology.nd rfl (by first | exact .inl rfl | exact .inr rfl) (xe_methG0 (c := 1) (ok_Level_orders G) hr (by decide) nn_orders G.cls_Level G.meth_Level_orders (fun vs C => runN_bad vs C) (xe_makeG (c := 1) (ok_Level_init G) hr (by decide) G.mkr_Level rfl G.glo_Level (fun vs C => runN_bad vs C) (xa_cons (xe_var 0 rfl) (xa_cons (xe_var 2 rfl) xa_nil))))) (xs_cons (xs_drop (xe_bm (t := 1) PySem.F.plainAttrs_list PySem.F.slot_list_append PySem.F.type_list_append mr_append (xe_var 1 rfl) (xa_cons (xe_tup (xa_cons (xe_callTy (or_tuple) rfl G.free_tuple boot_tuple (xa_cons (xe_lc (own := [("order", 4)]) rfl sc_homology.nd (blkOk_by (by rfl)) (tin_of rfl) (xi_lst (xe_var 3 rfl)) (fun _ _ _ _ _ => (xg_nm 4 sc_homology.nd rfl (by first | exact .inl rfl | exact .inr rfl))) (fun _ _ _ _ _ =>  xc_some (xt_tru (xe_var 4 rfl))) (fun _ _ _ _ _ => (xe_var 4 rfl))) xa_nil)) (xa_cons (xe_callB (or_len) rfl G.free_len boot_len (xa_cons (xe_lc (own := [("order", 4)]) rfl sc_homology.nd (blkOk_by (by rfl)) (tin_of rfl) (xi_lst (xe_var 3 rfl)) (fun _ _ _ _ _ => (xg_nm 4 sc_homology.nd rfl (by first | exact .inl rfl | exact .inr rfl))) (fun _ _ _ _ _ =>  xc_some (yt_not (xt_tru (xe_var 4 rfl)))) (fun _ _ _ _ _ => (xe_var 4 rfl))) xa_nil)) xa_nil))) xa_nil))) xs_nil))) (xs_cons (xs_ret (xe_callTy (or_tuple) rfl G.free_tuple boot_tuple (xa_cons (xe_var 1 rfl) xa_nil))) xs_nil)))
theorem sc_reduced_homology : FnScope ["whole", "found", "at", "free", "numbers"] ["whole"] (defScope s_reduced_homology) := ⟨rfl, rfl, rfl, by decide +kernel, rfl, by decide +kernel, by decide +kernel⟩
theorem ok_reduced_homology (G : Cm P K mg) : Good P w K mg base CX0 11 (He.ga K "reduced_homology") ["whole"] (spM (tb K) K 1 m_reduced_homology) := by
  obtain ⟨fd, F⟩ := G.c.d.def_ 31 (d := D_reduced_homology) rfl
  refine good_of (N := ["whole", "found", "at", "free", "numbers"]) F sc_reduced_homology rfl rfl (fun _ _ _ _ _ _ us hl => match us, hl with | [_], _ => rfl) fun cdv A outer s H E hr hu => ?_
  exact (xs_cons (xs_if (xt_cmp (or_lt hu) (xe_callG (ok_dimension G) hr (by decide) rfl G.glo_dimension (fun vs C => runN_bad vs C) (xa_cons (xe_var 0 rfl) xa_nil)) (xe_int) rfl) (xs_cons (xs_ret (xe_tup (xa_cons (xe_tup (xa_cons (xe_neg (xe_int)) (xa_cons (xe_tup xa_nil) (xa_cons (xe_int) xa_nil)))) xa_nil))) xs_nil) xs_nil) (xs_cons (xs_set 1 sc_reduced_homology.nd rfl (by first | exact .inl rfl | exact .inr rfl) (xe_lst xa_nil)) (xs_cons (xs_for PassesOwn.never rfl (xi_enT rfl G.free_enumerate (xa_cons (xe_callG (ok_homology G) hr (by decide) rfl G.glo_homology_homology (fun vs C => runN_bad vs C) (xa_cons (xe_var 0 rfl) xa_nil)) xa_nil)) (xg_tq 2 rfl sc_reduced_homology.nd rfl (by first | exact .inl rfl | exact .inr rfl) (gns_cons 4 sc_reduced_homology.nd rfl (by first | exact .inl rfl | exact .inr rfl) (gns_cons 3 sc_reduced_homology.nd rfl (by first | exact .inl rfl | exact .inr rfl) gns_nil))) (xs_cons (xs_aug 3 sc_reduced_homology.nd rfl (by first | exact .inl rfl | exact .inr rfl) (xe_callTy (or_int) rfl G.free_int boot_int (xa_cons (xe_cmp (or_eq hu) (xe_var 2 rfl) (xe_int) rfl) xa_nil)) ip_sub) (xs_cons (xs_if (PW.pt (yw_or (xt_tru (xe_var 4 rfl)) (yw_or1 (xt_tru (xe_var 3 rfl))))) (xs_cons (xs_drop (xe_bm (t := 1) PySem.F.plainAttrs_list PySem.F.slot_list_append PySem.F.type_list_append mr_append (xe_var 1 rfl) (xa_cons (xe_tup (xa_cons (xe_var 2 rfl) (xa_cons (xe_var 4 rfl) (xa_cons (xe_var 3 rfl) xa_nil)))) xa_nil))) xs_nil) xs_nil) xs_nil))) (xs_cons (xs_ret (xe_callTy (or_tuple) rfl G.free_tuple boot_tuple (xa_cons (xe_var 1 rfl) xa_nil))) xs_nil))))
theorem sc_face_text : FnScope ["face", "point"] ["face"] (defScope s_face_text) := ⟨rfl, rfl, rfl, by decide +kernel, rfl, by decide +kernel, by decide +kernel⟩
theorem ok_face_text (G : Cm P K mg) : Good P w K mg base CX0 1 (He.ga K "face_text") ["face"] (spM (tb K) K 1 m_face_text) := by
  obtain ⟨fd, F⟩ := G.c.d.def_ 32 (d := D_face_text) rfl
  refine good_of (N := ["face", "point"]) F sc_face_text rfl rfl (fun _ _ _ _ _ _ us hl => match us, hl with | [_], _ => rfl) fun cdv A outer s H E hr hu => ?_
  exact (xs_cons (xs_ret (xe_bm (t := 0) PySem.F.plainAttrs_str PySem.F.slot_str_join PySem.F.type_str_join mr_join (xe_str [32]) (xa_cons (xe_lc (own := [("point", 1)]) rfl sc_face_text.nd (blkOk_by (by rfl)) (tin_of rfl) (xi_tup (xe_var 0 rfl)) (fun _ _ _ _ _ => (xg_nm 1 sc_face_text.nd rfl (by first | exact .inl rfl | exact .inr rfl))) (fun _ _ _ _ _ =>  xc_none) (fun _ _ _ _ _ => (xe_callTy (or_str) rfl G.free_str boot_str (xa_cons (xe_var 1 rfl) xa_nil)))) xa_nil))) xs_nil)
theorem sc_complex_text : FnScope ["whole", "face"] ["whole"] (defScope s_complex_text) := ⟨rfl, rfl, rfl, by decide +kernel, rfl, by decide +kernel, by decide +kernel⟩
theorem ok_complex_text (G : Cm P K mg) : Good P w K mg base CX0 5 (He.ga K "complex_text") ["whole"] (spM (tb K) K 1 m_complex_text) := by
  obtain ⟨fd, F⟩ := G.c.d.def_ 33 (d := D_complex_text) rfl
  refine good_of (N := ["whole", "face"]) F sc_complex_text rfl rfl (fun _ _ _ _ _ _ us hl => match us, hl with | [_], _ => rfl) fun cdv A outer s H E hr hu => ?_
  exact (xs_cons (xs_drop (xe_callG (ok_check_complex G) hr (by decide) rfl G.glo_check_complex (fun vs C => runN_bad vs C) (xa_cons (xe_var 0 rfl) xa_nil))) (xs_cons (xs_ret (xe_if (xt_tru (xe_var 0 rfl)) (xe_bm (t := 0) PySem.F.plainAttrs_str PySem.F.slot_str_join PySem.F.type_str_join mr_join (xe_str [32, 47, 32]) (xa_cons (xe_lc (own := [("face", 1)]) rfl sc_complex_text.nd (blkOk_by (by rfl)) (tin_of rfl) (xi_tup (xe_var 0 rfl)) (fun _ _ _ _ _ => (xg_nm 1 sc_complex_text.nd rfl (by first | exact .inl rfl | exact .inr rfl))) (fun _ _ _ _ _ =>  xc_none) (fun _ _ _ _ _ => (xe_callG (ok_face_text G) hr (by decide) rfl G.glo_face_text (fun vs C => runN_bad vs C) (xa_cons (xe_var 1 rfl) xa_nil)))) xa_nil)) (xe_str [45]))) xs_nil))
theorem sc_read_number : FnScope ["piece", "sign"] ["piece"] (defScope s_read_number) := ⟨rfl, rfl, rfl, by decide +kernel, rfl, by decide +kernel, by decide +kernel⟩
theorem ok_read_number (G : Cm P K mg) : Good P w K mg base CX0 1 (He.ga K "read_number") ["piece"] (spM (tb K) K 1 m_read_number) := by
  obtain ⟨fd, F⟩ := G.c.d.def_ 34 (d := D_read_number) rfl
  refine good_of (N := ["piece", "sign"]) F sc_read_number rfl rfl (fun _ _ _ _ _ _ us hl => match us, hl with | [_], _ => rfl) fun cdv A outer s H E hr hu => ?_
  exact (xs_cons (xs_if (PW.pt (yw_or (yt_not (xt_tru (xe_var 0 rfl))) (yw_or (xt_cmp or_gt (xe_callB (or_len) rfl G.free_len boot_len (xa_cons (xe_var 0 rfl) xa_nil)) (xe_int) rfl) (yw_or1 (xt_tru (xe_callB (or_any rfl) rfl G.free_any boot_any (xa_cons (xe_lc (own := [("sign", 1)]) rfl sc_read_number.nd (blkOk_by (by rfl)) (tin_of rfl) (xi_str (xe_var 0 rfl)) (fun _ _ _ _ _ => (xg_nm 1 sc_read_number.nd rfl (by first | exact .inl rfl | exact .inr rfl))) (fun _ _ _ _ _ =>  xc_none) (fun _ _ _ _ _ => (xe_cmp (or_nin hu) (xe_var 1 rfl) (xe_str [48, 49, 50, 51, 52, 53, 54, 55, 56, 57]) rfl))) xa_nil))))))) (xs_cons (xs_ret (xe_non)) xs_nil) xs_nil) (xs_cons (xs_if (PW.pt (yw_or (xt_cmp (or_ne hu) (xe_var 0 rfl) (xe_callTy (or_str) rfl G.free_str boot_str (xa_cons (xe_callTy (or_int) rfl G.free_int boot_int (xa_cons (xe_var 0 rfl) xa_nil)) xa_nil)) rfl) (yw_or1 (xt_cmp or_gt (xe_callTy (or_int) rfl G.free_int boot_int (xa_cons (xe_var 0 rfl) xa_nil)) (xe_gint rfl (G.int_NAMES_MOST.choose_spec)) rfl)))) (xs_cons (xs_ret (xe_non)) xs_nil) xs_nil) (xs_cons (xs_ret (xe_callTy (or_int) rfl G.free_int boot_int (xa_cons (xe_var 0 rfl) xa_nil))) xs_nil)))
theorem sc_read_face : FnScope ["text", "points", "piece", "at"] ["text"] (defScope s_read_face) := ⟨rfl, rfl, rfl, by decide +kernel, rfl, by decide +kernel, by decide +kernel⟩
theorem ok_read_face (G : Cm P K mg) : Good P w K mg base CX0 2 (He.ga K "read_face") ["text"] (spM (tb K) K 1 m_read_face) := by
  obtain ⟨fd, F⟩ := G.c.d.def_ 35 (d := D_read_face) rfl
  refine good_of (N := ["text", "points", "piece", "at"]) F sc_read_face rfl rfl (fun _ _ _ _ _ _ us hl => match us, hl with | [_], _ => rfl) fun cdv A outer s H E hr hu => ?_
  exact (xs_cons (xs_set 1 sc_read_face.nd rfl (by first | exact .inl rfl | exact .inr rfl) (xe_lc (own := [("piece", 2)]) rfl sc_read_face.nd (blkOk_by (by rfl)) (tin_of rfl) (xi_lst (xe_bm (t := 0) PySem.F.plainAttrs_str PySem.F.slot_str_split PySem.F.type_str_split mr_split (xe_var 0 rfl) (xa_cons (xe_str [32]) xa_nil))) (fun _ _ _ _ _ => (xg_nm 2 sc_read_face.nd rfl (by first | exact .inl rfl | exact .inr rfl))) (fun _ _ _ _ _ =>  xc_none) (fun _ _ _ _ _ => (xe_callG (ok_read_number G) hr (by decide) rfl G.glo_read_number (fun vs C => runN_bad vs C) (xa_cons (xe_var 2 rfl) xa_nil))))) (xs_cons (xs_if (PW.pt (yw_or (xt_cmp (or_in hu) (xe_non) (xe_var 1 rfl) rfl) (yw_or1 (xt_tru (xe_callB (or_any rfl) rfl G.free_any boot_any (xa_cons (xe_lc (own := [("at", 3)]) rfl sc_read_face.nd (blkOk_by (by rfl)) (tin_of rfl) (xi_range1 rfl G.free_range (xa_cons (xe_bin or_sub (xe_callB (or_len) rfl G.free_len boot_len (xa_cons (xe_var 1 rfl) xa_nil)) (xe_int)) xa_nil)) (fun _ _ _ _ _ => (xg_nm 3 sc_read_face.nd rfl (by first | exact .inl rfl | exact .inr rfl))) (fun _ _ _ _ _ =>  xc_none) (fun _ _ _ _ _ => (xe_cmp or_ge (xe_ix or_ix (xe_var 1 rfl) (xe_var 3 rfl) (fun _ _ => rfl)) (xe_ix or_ix (xe_var 1 rfl) (xe_bin or_add (xe_var 3 rfl) (xe_int)) (fun _ _ => rfl)) rfl))) xa_nil)))))) (xs_cons (xs_ret (xe_non)) xs_nil) xs_nil) (xs_cons (xs_ret (xe_callTy (or_tuple) rfl G.free_tuple boot_tuple (xa_cons (xe_var 1 rfl) xa_nil))) xs_nil)))
theorem sc_is_name : FnScope ["shape", "sign"] ["shape"] (defScope s_is_name) := ⟨rfl, rfl, rfl, by decide +kernel, rfl, by decide +kernel, by decide +kernel⟩
theorem ok_is_name (G : Cm P K mg) : Good P w K mg base CX0 1 (He.ga K "is_name") ["shape"] (spM (tb K) K 1 m_is_name) := by
  obtain ⟨fd, F⟩ := G.c.d.def_ 36 (d := D_is_name) rfl
  refine good_of (N := ["shape", "sign"]) F sc_is_name rfl rfl (fun _ _ _ _ _ _ us hl => match us, hl with | [_], _ => rfl) fun cdv A outer s H E hr hu => ?_
  exact (xs_cons (xs_if (PW.pt (yw_or (yt_not (xt_tru (xe_isi (by decide) (by decide) rfl G.free_isinstance (xe_var 0 rfl) (pe_bltn rfl G.free_str boot_str rfl) boot_isinstance))) (yw_or (yt_not (xt_chain or_le or_le (xe_int) (xe_callB (or_len) rfl G.free_len boot_len (xa_cons (xe_var 0 rfl) xa_nil)) (xe_int))) (yw_or1 (xt_cmp (or_nin hu) (xe_ix or_ix (xe_var 0 rfl) (xe_int) (fun _ _ => rfl)) (xe_gstr [97, 98, 99, 100, 101, 102, 103, 104, 105, 106, 107, 108, 109, 110, 111, 112, 113, 114, 115, 116, 117, 118, 119, 120, 121, 122] rfl (G.str_NAMES.choose_spec)) rfl))))) (xs_cons (xs_ret (xe_bl)) xs_nil) xs_nil) (xs_cons (xs_ret (xe_callB (or_all rfl) rfl G.free_all boot_all (xa_cons (xe_lc (own := [("sign", 1)]) rfl sc_is_name.nd (blkOk_by (by rfl)) (tin_of rfl) (xi_str (xe_var 0 rfl)) (fun _ _ _ _ _ => (xg_nm 1 sc_is_name.nd rfl (by first | exact .inl rfl | exact .inr rfl))) (fun _ _ _ _ _ =>  xc_none) (fun _ _ _ _ _ => (xe_cmp (or_in hu) (xe_var 1 rfl) (xe_bin or_add (xe_gstr [97, 98, 99, 100, 101, 102, 103, 104, 105, 106, 107, 108, 109, 110, 111, 112, 113, 114, 115, 116, 117, 118, 119, 120, 121, 122] rfl (G.str_NAMES.choose_spec)) (xe_gstr [48, 49, 50, 51, 52, 53, 54, 55, 56, 57] rfl (G.str_FIGURES.choose_spec))) rfl))) xa_nil))) xs_nil))
theorem sc_is_new_face : FnScope ["whole", "face"] ["whole", "face"] (defScope s_is_new_face) := ⟨rfl, rfl, rfl, by decide +kernel, rfl, by decide +kernel, by decide +kernel⟩
theorem ok_is_new_face (G : Cm P K mg) : Good P w K mg base CX0 6 (He.ga K "is_new_face") ["whole", "face"] (spM (tb K) K 2 m_is_new_face) := by
  obtain ⟨fd, F⟩ := G.c.d.def_ 37 (d := D_is_new_face) rfl
  refine good_of (N := ["whole", "face"]) F sc_is_new_face rfl rfl (fun _ _ _ _ _ _ us hl => match us, hl with | [_, _], _ => rfl) fun cdv A outer s H E hr hu => ?_
  exact (xs_cons (xs_ret (xe_and (xe_callG (ok_is_face_shape G) hr (by decide) rfl G.glo_is_face_shape (fun vs C => runN_bad vs C) (xa_cons (xe_var 1 rfl) xa_nil)) (xe_and (xe_cmp (or_ne hu) (xe_var 1 rfl) (xe_tup xa_nil) rfl) (xe_one (xe_not (xe_callG (ok_has_face G) hr (by decide) rfl G.glo_has_face (fun vs C => runN_bad vs C) (xa_cons (xe_var 0 rfl) (xa_cons (xe_var 1 rfl) xa_nil)))))))) xs_nil)
theorem sc_Desk_init : FnScope ["self"] ["self"] (defScope s_Desk_init) := ⟨rfl, rfl, rfl, by decide +kernel, rfl, by decide +kernel, by decide +kernel⟩
theorem ok_Desk_init (G : Cm P K mg) : Good P w K mg base CX0 1 (He.ma K (He.ga K "Desk") "__init__") ["self"] (spM (tb K) K 1 m_Desk_init) := by
  obtain ⟨fd, F⟩ := G.c.d.def_ 38 (d := D_Desk_init) rfl
  refine good_of (N := ["self"]) F sc_Desk_init rfl rfl (fun _ _ _ _ _ _ us hl => match us, hl with | [_], _ => rfl) fun cdv A outer s H E hr hu => ?_
  exact (xs_cons (xs_fld 2 13 rfl G.cls_Desk G.noat_Desk_kept (xe_var 0 rfl) xe_newK) (xs_cons (xs_fld 2 14 rfl G.cls_Desk G.noat_Desk_lines (xe_var 0 rfl) (xe_lst xa_nil)) (xs_cons (xs_fld 2 15 rfl G.cls_Desk G.noat_Desk_ahead (xe_var 0 rfl) (xe_lst xa_nil)) xs_nil)))
theorem sc_Desk_noted : FnScope ["self", "line", "fresh"] ["self", "line", "fresh"] (defScope s_Desk_noted) := ⟨rfl, rfl, rfl, by decide +kernel, rfl, by decide +kernel, by decide +kernel⟩
theorem ok_Desk_noted (G : Cm P K mg) : Good P w K mg base CX0 1 (He.ma K (He.ga K "Desk") "noted") ["self", "line", "fresh"] (spM (tb K) K 3 m_Desk_noted) := by
  obtain ⟨fd, F⟩ := G.c.d.def_ 39 (d := D_Desk_noted) rfl
  refine good_of (N := ["self", "line", "fresh"]) F sc_Desk_noted rfl rfl (fun _ _ _ _ _ _ us hl => match us, hl with | [_, _, _], _ => rfl) fun cdv A outer s H E hr hu => ?_
  exact (xs_cons (xs_drop (xe_bm (t := 1) PySem.F.plainAttrs_list PySem.F.slot_list_append PySem.F.type_list_append mr_append (xe_fld 2 15 rfl (G.cls_Desk) (G.noat_Desk_ahead) (xe_var 0 rfl)) (xa_cons (xe_fld 2 13 rfl (G.cls_Desk) (G.noat_Desk_kept) (xe_var 0 rfl)) xa_nil))) (xs_cons (xs_fld 2 13 rfl G.cls_Desk G.noat_Desk_kept (xe_var 0 rfl) (xe_var 2 rfl)) (xs_cons (xs_drop (xe_bm (t := 1) PySem.F.plainAttrs_list PySem.F.slot_list_append PySem.F.type_list_append mr_append (xe_fld 2 14 rfl (G.cls_Desk) (G.noat_Desk_lines) (xe_var 0 rfl)) (xa_cons (xe_var 1 rfl) xa_nil))) xs_nil)))
theorem sc_Desk_changed : FnScope ["self", "name", "whole", "line", "fresh"] ["self", "name", "whole", "line"] (defScope s_Desk_changed) := ⟨rfl, rfl, rfl, by decide +kernel, rfl, by decide +kernel, by decide +kernel⟩
theorem ok_Desk_changed (G : Cm P K mg) : Good P w K mg base CX0 2 (He.ma K (He.ga K "Desk") "changed") ["self", "name", "whole", "line"] (spM (tb K) K 4 m_Desk_changed) := by
  obtain ⟨fd, F⟩ := G.c.d.def_ 40 (d := D_Desk_changed) rfl
  refine good_of (N := ["self", "name", "whole", "line", "fresh"]) F sc_Desk_changed rfl rfl (fun _ _ _ _ _ _ us hl => match us, hl with | [_, _, _, _], _ => rfl) fun cdv A outer s H E hr hu => ?_
  exact (xs_cons (xs_set 4 sc_Desk_changed.nd rfl (by first | exact .inl rfl | exact .inr rfl) (xe_callTy (or_dict) rfl G.free_dict boot_dict (xa_cons (xe_fld 2 13 rfl (G.cls_Desk) (G.noat_Desk_kept) (xe_var 0 rfl)) xa_nil))) (xs_cons (xs_dput hu (xe_var 4 rfl) (xe_var 1 rfl) (xe_var 2 rfl)) (xs_cons (xs_drop (xe_methG (c := 2) (ok_Desk_noted G) hr (by decide) nn_noted G.cls_Desk G.meth_Desk_noted (fun vs C => runN_bad vs C) (xe_var 0 rfl) (xa_cons (xe_var 3 rfl) (xa_cons (xe_var 4 rfl) xa_nil)))) xs_nil)))
theorem sc_Desk_names : FnScope ["self"] ["self"] (defScope s_Desk_names) := ⟨rfl, rfl, rfl, by decide +kernel, rfl, by decide +kernel, by decide +kernel⟩
theorem ok_Desk_names (G : Cm P K mg) : Good P w K mg base CX0 1 (He.ma K (He.ga K "Desk") "names") ["self"] (spM (tb K) K 1 m_Desk_names) := by
  obtain ⟨fd, F⟩ := G.c.d.def_ 41 (d := D_Desk_names) rfl
  refine good_of (N := ["self"]) F sc_Desk_names rfl rfl (fun _ _ _ _ _ _ us hl => match us, hl with | [_], _ => rfl) fun cdv A outer s H E hr hu => ?_
  exact (xs_cons (xs_ret (xe_callB (or_sortedD rfl hu) rfl G.free_sorted boot_sorted (xa_cons (xe_fld 2 13 rfl (G.cls_Desk) (G.noat_Desk_kept) (xe_var 0 rfl)) xa_nil))) xs_nil)
theorem sc_Desk_kinds : FnScope ["self", "groups", "name", "told"] ["self"] (defScope s_Desk_kinds) := ⟨rfl, rfl, rfl, by decide +kernel, rfl, by decide +kernel, by decide +kernel⟩
theorem ok_Desk_kinds (G : Cm P K mg) : Good P w K mg base CX0 12 (He.ma K (He.ga K "Desk") "kinds") ["self"] (spM (tb K) K 1 m_Desk_kinds) := by
  obtain ⟨fd, F⟩ := G.c.d.def_ 42 (d := D_Desk_kinds) rfl
  refine good_of (N := ["self", "groups", "name", "told"]) F sc_Desk_kinds rfl rfl (fun _ _ _ _ _ _ us hl => match us, hl with | [_], _ => rfl) fun cdv A outer s H E hr hu => ?_
  exact (xs_cons (xs_set 1 sc_Desk_kinds.nd rfl (by first | exact .inl rfl | exact .inr rfl) xe_newT) (xs_cons (xs_for PassesOwn.never rfl (xi_lst (xe_callB (or_sortedD rfl hu) rfl G.free_sorted boot_sorted (xa_cons (xe_fld 2 13 rfl (G.cls_Desk) (G.noat_Desk_kept) (xe_var 0 rfl)) xa_nil))) (xg_nm 2 sc_Desk_kinds.nd rfl (by first | exact .inl rfl | exact .inr rfl)) (xs_cons (xs_drop (xe_bm (t := 1) PySem.F.plainAttrs_list PySem.F.slot_list_append PySem.F.type_list_append mr_append (xe_bm (t := 2) PySem.F.plainAttrs_dict PySem.F.slot_dict_setdefault PySem.F.type_dict_setdefault (mr_setd hu) (xe_var 1 rfl) (xa_cons (xe_callG (ok_reduced_homology G) hr (by decide) rfl G.glo_reduced_homology (fun vs C => runN_bad vs C) (xa_cons (xe_dget hu (xe_fld 2 13 rfl (G.cls_Desk) (G.noat_Desk_kept) (xe_var 0 rfl)) (xe_var 2 rfl)) xa_nil)) (xa_cons (xe_lst xa_nil) xa_nil))) (xa_cons (xe_var 2 rfl) xa_nil))) xs_nil)) (xs_cons (xs_ret (xe_callB (or_sorted hu) rfl G.free_sorted boot_sorted (xa_cons (xe_dvals (i := 1) (j := 3) hu rfl sc_Desk_kinds.nd (by decide) (blkOk_by (by rfl)) (pv 1) (fun _ _ _ _ _ => pg_name (i := 3) sc_Desk_kinds.nd rfl (by first | exact .inl rfl | exact .inr rfl)) (fun _ _ _ _ _ => pv 1) (fun _ _ _ _ _ => pv 3)) xa_nil))) xs_nil)))
theorem sc_Desk_journal : FnScope ["self", "line"] ["self"] (defScope s_Desk_journal) := ⟨rfl, rfl, rfl, by decide +kernel, rfl, by decide +kernel, by decide +kernel⟩
theorem ok_Desk_journal (G : Cm P K mg) : Good P w K mg base CX0 1 (He.ma K (He.ga K "Desk") "journal") ["self"] (spM (tb K) K 1 m_Desk_journal) := by
  obtain ⟨fd, F⟩ := G.c.d.def_ 43 (d := D_Desk_journal) rfl
  refine good_of (N := ["self", "line"]) F sc_Desk_journal rfl rfl (fun _ _ _ _ _ _ us hl => match us, hl with | [_], _ => rfl) fun cdv A outer s H E hr hu => ?_
  exact (xs_cons (xs_ret (xe_bm (t := 0) PySem.F.plainAttrs_str PySem.F.slot_str_join PySem.F.type_str_join mr_join (xe_str []) (xa_cons (xe_lc (own := [("line", 1)]) rfl sc_Desk_journal.nd (blkOk_by (by rfl)) (tin_of rfl) (xi_lst (xe_fld 2 14 rfl (G.cls_Desk) (G.noat_Desk_lines) (xe_var 0 rfl))) (fun _ _ _ _ _ => (xg_nm 1 sc_Desk_journal.nd rfl (by first | exact .inl rfl | exact .inr rfl))) (fun _ _ _ _ _ =>  xc_none) (fun _ _ _ _ _ => (xe_bin or_add (xe_var 1 rfl) (xe_str [10])))) xa_nil))) xs_nil)
theorem sc_read_complex : FnScope ["text", "faces", "part"] ["text"] (defScope s_read_complex) := ⟨rfl, rfl, rfl, by decide +kernel, rfl, by decide +kernel, by decide +kernel⟩
theorem ok_read_complex (G : Cm P K mg) : Good P w K mg base (L2N.CX P w) 4 (He.ga K "read_complex") ["text"] (spM (tb K) K 1 m_read_complex) := by
  obtain ⟨fd, F⟩ := G.c.d.def_ 44 (d := D_read_complex) rfl
  refine good_ofX (N := ["text", "faces", "part"]) F sc_read_complex rfl rfl (fun _ _ _ _ _ _ us hl => match us, hl with | [_], _ => rfl) fun cdv A outer s H E hr hu tk => ?_
  exact (xs_cons (xs_if (xt_cmp (or_eq hu) (xe_var 0 rfl) (xe_str [45]) rfl) (xs_cons (xs_ret (xe_tup xa_nil)) xs_nil) xs_nil) (xs_cons (xs_setLc (own := [("part", 2)]) rfl sc_read_complex.nd rfl rfl (by rfl) (blkOk_by (by rfl)) (tin_of rfl) (xi_lst (xe_bm (t := 0) PySem.F.plainAttrs_str PySem.F.slot_str_split PySem.F.type_str_split mr_split (xe_var 0 rfl) (xa_cons (xe_str [32, 47, 32]) xa_nil))) (fun _ _ _ _ _ => (xg_nm 2 sc_read_complex.nd rfl (by first | exact .inl rfl | exact .inr rfl))) (fun _ _ _ _ _ =>  xc_none) (fun _ _ _ _ _ => (xe_callG (ok_read_face G) hr (by decide) rfl G.glo_read_face (fun vs C => runN_bad vs C) (xa_cons (xe_var 2 rfl) xa_nil)))) (xs_cons (xs_if (PW.pt (yw_or (xt_cmp (or_in hu) (xe_non) (xe_var 1 rfl) rfl) (yw_or1 (yt_not (xt_tru (xe_callG (ok_is_complex G) hr (by decide) rfl G.glo_is_complex (fun vs C => runN_bad vs C) (xa_cons (xe_callTy (or_tuple) rfl G.free_tuple boot_tuple (xa_cons (xe_var 1 rfl) xa_nil)) xa_nil))))))) (xs_cons (xs_raiseG rfl tk (rsd2 rfl rfl (by decide)) (rz_BadText G) hr (by decide) rfl G.glo_BadText (xa_cons (xe_int) (xa_cons (xe_str [110, 111, 116, 32, 97, 32, 99, 111, 109, 112, 108, 101, 120]) xa_nil))) xs_nil) xs_nil) (xs_cons (xs_ret (xe_callTy (or_tuple) rfl G.free_tuple boot_tuple (xa_cons (xe_var 1 rfl) xa_nil))) xs_nil))))
theorem sc_Desk_known : FnScope ["self", "name"] ["self", "name"] (defScope s_Desk_known) := ⟨rfl, rfl, rfl, by decide +kernel, rfl, by decide +kernel, by decide +kernel⟩
theorem ok_Desk_known (G : Cm P K mg) : Good P w K mg base (L2N.CX P w) 3 (He.ma K (He.ga K "Desk") "known") ["self", "name"] (spM (tb K) K 2 m_Desk_known) := by
  obtain ⟨fd, F⟩ := G.c.d.def_ 45 (d := D_Desk_known) rfl
  refine good_ofX (N := ["self", "name"]) F sc_Desk_known rfl rfl (fun _ _ _ _ _ _ us hl => match us, hl with | [_, _], _ => rfl) fun cdv A outer s H E hr hu tk => ?_
  exact (xs_cons (xs_if (PW.pt (yw_or (yt_not (xt_tru (xe_isi (by decide) (by decide) rfl G.free_isinstance (xe_var 1 rfl) (pe_bltn rfl G.free_str boot_str rfl) boot_isinstance))) (yw_or1 (xt_dnin hu (xe_var 1 rfl) (xe_fld 2 13 rfl (G.cls_Desk) (G.noat_Desk_kept) (xe_var 0 rfl)))))) (xs_cons (xs_raiseG rfl tk (rsd1 rfl) (rz_Refused G) hr (by decide) rfl G.glo_Refused (xa_cons (xe_str [110, 97, 109, 101]) xa_nil)) xs_nil) xs_nil) (xs_cons (xs_ret (xe_dget hu (xe_fld 2 13 rfl (G.cls_Desk) (G.noat_Desk_kept) (xe_var 0 rfl)) (xe_var 1 rfl))) xs_nil))
theorem sc_Desk_put : FnScope ["self", "name", "whole"] ["self", "name", "whole"] (defScope s_Desk_put) := ⟨rfl, rfl, rfl, by decide +kernel, rfl, by decide +kernel, by decide +kernel⟩
theorem ok_Desk_put (G : Cm P K mg) : Good P w K mg base (L2N.CX P w) 6 (He.ma K (He.ga K "Desk") "put") ["self", "name", "whole"] (spM (tb K) K 3 m_Desk_put) := by
  obtain ⟨fd, F⟩ := G.c.d.def_ 46 (d := D_Desk_put) rfl
  refine good_ofX (N := ["self", "name", "whole"]) F sc_Desk_put rfl rfl (fun _ _ _ _ _ _ us hl => match us, hl with | [_, _, _], _ => rfl) fun cdv A outer s H E hr hu tk => ?_
  exact (xs_cons (xs_if (PW.pt (yw_or (yt_not (xt_tru (xe_callG (ok_is_name G) hr (by decide) rfl G.glo_is_name (fun vs C => runN_bad vs C) (xa_cons (xe_var 1 rfl) xa_nil)))) (yw_or1 (xt_din hu (xe_var 1 rfl) (xe_fld 2 13 rfl (G.cls_Desk) (G.noat_Desk_kept) (xe_var 0 rfl)))))) (xs_cons (xs_raiseG rfl tk (rsd1 rfl) (rz_Refused G) hr (by decide) rfl G.glo_Refused (xa_cons (xe_str [110, 97, 109, 101]) xa_nil)) xs_nil) xs_nil) (xs_cons (xs_drop (xe_callG (ok_check_complex G) hr (by decide) rfl G.glo_check_complex (fun vs C => runN_bad vs C) (xa_cons (xe_var 2 rfl) xa_nil))) (xs_cons (xs_if (xt_cmp or_ge (xe_callB (or_len) rfl G.free_len boot_len (xa_cons (xe_fld 2 13 rfl (G.cls_Desk) (G.noat_Desk_kept) (xe_var 0 rfl)) xa_nil)) (xe_gint rfl (G.int_MANY.choose_spec)) rfl) (xs_cons (xs_raiseG rfl tk (rsd1 rfl) (rz_Refused G) hr (by decide) rfl G.glo_Refused (xa_cons (xe_str [109, 97, 110, 121]) xa_nil)) xs_nil) xs_nil) (xs_cons (xs_drop (xe_methG (c := 2) (ok_Desk_changed G) hr (by decide) nn_changed G.cls_Desk G.meth_Desk_changed (fun vs C => runN_bad vs C) (xe_var 0 rfl) (xa_cons (xe_var 1 rfl) (xa_cons (xe_var 2 rfl) (xa_cons (xe_joined (ms := [xC (.str [112, 117, 116, 32]), xFmt (xVar 1), xC (.str [32]), xFmt (xFn m_complex_text (aCons (xVar 2) aNil))]) (.cons (xe_str [112, 117, 116, 32]) (.cons (xe_fmt (xe_var 1 rfl)) (.cons (xe_str [32]) (.cons (xe_fmt (xe_callG (ok_complex_text G) hr (by decide) rfl G.glo_complex_text (fun vs C => runN_bad vs C) (xa_cons (xe_var 2 rfl) xa_nil))) .nil))))) xa_nil))))) xs_nil))))
theorem sc_Desk_drop : FnScope ["self", "name", "fresh"] ["self", "name"] (defScope s_Desk_drop) := ⟨rfl, rfl, rfl, by decide +kernel, rfl, by decide +kernel, by decide +kernel⟩
theorem ok_Desk_drop (G : Cm P K mg) : Good P w K mg base (L2N.CX P w) 4 (He.ma K (He.ga K "Desk") "drop") ["self", "name"] (spM (tb K) K 2 m_Desk_drop) := by
  obtain ⟨fd, F⟩ := G.c.d.def_ 47 (d := D_Desk_drop) rfl
  refine good_ofX (N := ["self", "name", "fresh"]) F sc_Desk_drop rfl rfl (fun _ _ _ _ _ _ us hl => match us, hl with | [_, _], _ => rfl) fun cdv A outer s H E hr hu tk => ?_
  exact (xs_cons (xs_drop (xe_methX tk (c := 2) (ok_Desk_known G) hr (by decide) nn_known G.cls_Desk G.meth_Desk_known (fun vs C => run_bad vs C) (xe_var 0 rfl) (xa_cons (xe_var 1 rfl) xa_nil))) (xs_cons (xs_set 2 sc_Desk_drop.nd rfl (by first | exact .inl rfl | exact .inr rfl) (xe_callTy (or_dict) rfl G.free_dict boot_dict (xa_cons (xe_fld 2 13 rfl (G.cls_Desk) (G.noat_Desk_kept) (xe_var 0 rfl)) xa_nil))) (xs_cons (xs_ddel (xe_var 2 rfl) (xe_var 1 rfl)) (xs_cons (xs_drop (xe_methG (c := 2) (ok_Desk_noted G) hr (by decide) nn_noted G.cls_Desk G.meth_Desk_noted (fun vs C => runN_bad vs C) (xe_var 0 rfl) (xa_cons (xe_joined (ms := [xC (.str [100, 114, 111, 112, 32]), xFmt (xVar 1)]) (.cons (xe_str [100, 114, 111, 112, 32]) (.cons (xe_fmt (xe_var 1 rfl)) .nil))) (xa_cons (xe_var 2 rfl) xa_nil)))) xs_nil))))
theorem sc_Desk_add : FnScope ["self", "name", "face", "whole"] ["self", "name", "face"] (defScope s_Desk_add) := ⟨rfl, rfl, rfl, by decide +kernel, rfl, by decide +kernel, by decide +kernel⟩
theorem ok_Desk_add (G : Cm P K mg) : Good P w K mg base (L2N.CX P w) 7 (He.ma K (He.ga K "Desk") "add") ["self", "name", "face"] (spM (tb K) K 3 m_Desk_add) := by
  obtain ⟨fd, F⟩ := G.c.d.def_ 48 (d := D_Desk_add) rfl
  refine good_ofX (N := ["self", "name", "face", "whole"]) F sc_Desk_add rfl rfl (fun _ _ _ _ _ _ us hl => match us, hl with | [_, _, _], _ => rfl) fun cdv A outer s H E hr hu tk => ?_
  exact (xs_cons (xs_set 3 sc_Desk_add.nd rfl (by first | exact .inl rfl | exact .inr rfl) (xe_methX tk (c := 2) (ok_Desk_known G) hr (by decide) nn_known G.cls_Desk G.meth_Desk_known (fun vs C => run_bad vs C) (xe_var 0 rfl) (xa_cons (xe_var 1 rfl) xa_nil))) (xs_cons (xs_if (yt_not (xt_tru (xe_callG (ok_is_new_face G) hr (by decide) rfl G.glo_is_new_face (fun vs C => runN_bad vs C) (xa_cons (xe_var 3 rfl) (xa_cons (xe_var 2 rfl) xa_nil))))) (xs_cons (xs_raiseG rfl tk (rsd1 rfl) (rz_Refused G) hr (by decide) rfl G.glo_Refused (xa_cons (xe_str [102, 97, 99, 101]) xa_nil)) xs_nil) xs_nil) (xs_cons (xs_drop (xe_methG (c := 2) (ok_Desk_changed G) hr (by decide) nn_changed G.cls_Desk G.meth_Desk_changed (fun vs C => runN_bad vs C) (xe_var 0 rfl) (xa_cons (xe_var 1 rfl) (xa_cons (xe_callG (ok_complex_of G) hr (by decide) rfl G.glo_complex_of (fun vs C => runN_bad vs C) (xa_cons (xe_bin or_add (xe_var 3 rfl) (xe_tup (xa_cons (xe_var 2 rfl) xa_nil))) xa_nil)) (xa_cons (xe_joined (ms := [xC (.str [97, 100, 100, 32]), xFmt (xVar 1), xC (.str [32]), xFmt (xFn m_face_text (aCons (xVar 2) aNil))]) (.cons (xe_str [97, 100, 100, 32]) (.cons (xe_fmt (xe_var 1 rfl)) (.cons (xe_str [32]) (.cons (xe_fmt (xe_callG (ok_face_text G) hr (by decide) rfl G.glo_face_text (fun vs C => runN_bad vs C) (xa_cons (xe_var 2 rfl) xa_nil))) .nil))))) xa_nil))))) xs_nil)))
theorem sc_Desk_collapse : FnScope ["self", "name", "face", "whole", "pairs", "pair"] ["self", "name", "face"] (defScope s_Desk_collapse) := ⟨rfl, rfl, rfl, by decide +kernel, rfl, by decide +kernel, by decide +kernel⟩
theorem ok_Desk_collapse (G : Cm P K mg) : Good P w K mg base (L2N.CX P w) 8 (He.ma K (He.ga K "Desk") "collapse") ["self", "name", "face"] (spM (tb K) K 3 m_Desk_collapse) := by
  obtain ⟨fd, F⟩ := G.c.d.def_ 49 (d := D_Desk_collapse) rfl
  refine good_ofX (N := ["self", "name", "face", "whole", "pairs", "pair"]) F sc_Desk_collapse rfl rfl (fun _ _ _ _ _ _ us hl => match us, hl with | [_, _, _], _ => rfl) fun cdv A outer s H E hr hu tk => ?_
  exact (xs_cons (xs_set 3 sc_Desk_collapse.nd rfl (by first | exact .inl rfl | exact .inr rfl) (xe_methX tk (c := 2) (ok_Desk_known G) hr (by decide) nn_known G.cls_Desk G.meth_Desk_known (fun vs C => run_bad vs C) (xe_var 0 rfl) (xa_cons (xe_var 1 rfl) xa_nil))) (xs_cons (xs_setLc (own := [("pair", 5)]) rfl sc_Desk_collapse.nd rfl rfl (by rfl) (blkOk_by (by rfl)) (tin_of rfl) (xi_tup (xe_callG (ok_free_pairs G) hr (by decide) rfl G.glo_free_pairs (fun vs C => runN_bad vs C) (xa_cons (xe_var 3 rfl) xa_nil))) (fun _ _ _ _ _ => (xg_nm 5 sc_Desk_collapse.nd rfl (by first | exact .inl rfl | exact .inr rfl))) (fun _ _ _ _ _ =>  xc_some (xt_cmp (or_eq hu) (xe_ix or_ix (xe_var 5 rfl) (xe_int) (fun _ _ => rfl)) (xe_var 2 rfl) rfl)) (fun _ _ _ _ _ => (xe_var 5 rfl))) (xs_cons (xs_if (yt_not (xt_tru (xe_var 4 rfl))) (xs_cons (xs_raiseG rfl tk (rsd1 rfl) (rz_Refused G) hr (by decide) rfl G.glo_Refused (xa_cons (xe_str [102, 97, 99, 101]) xa_nil)) xs_nil) xs_nil) (xs_cons (xs_drop (xe_methG (c := 2) (ok_Desk_changed G) hr (by decide) nn_changed G.cls_Desk G.meth_Desk_changed (fun vs C => runN_bad vs C) (xe_var 0 rfl) (xa_cons (xe_var 1 rfl) (xa_cons (xe_callG (ok_collapsed G) hr (by decide) rfl G.glo_collapsed (fun vs C => runN_bad vs C) (xa_cons (xe_var 3 rfl) (xa_cons (xe_ix or_ix (xe_var 4 rfl) (xe_int) (fun _ _ => rfl)) xa_nil))) (xa_cons (xe_joined (ms := [xC (.str [99, 111, 108, 108, 97, 112, 115, 101, 32]), xFmt (xVar 1), xC (.str [32]), xFmt (xFn m_face_text (aCons (xVar 2) aNil))]) (.cons (xe_str [99, 111, 108, 108, 97, 112, 115, 101, 32]) (.cons (xe_fmt (xe_var 1 rfl)) (.cons (xe_str [32]) (.cons (xe_fmt (xe_callG (ok_face_text G) hr (by decide) rfl G.glo_face_text (fun vs C => runN_bad vs C) (xa_cons (xe_var 2 rfl) xa_nil))) .nil))))) xa_nil))))) xs_nil))))
theorem sc_Desk_divide : FnScope ["self", "name", "face", "whole", "found"] ["self", "name", "face"] (defScope s_Desk_divide) := ⟨rfl, rfl, rfl, by decide +kernel, rfl, by decide +kernel, by decide +kernel⟩
theorem ok_Desk_divide (G : Cm P K mg) : Good P w K mg base (L2N.CX P w) 8 (He.ma K (He.ga K "Desk") "divide") ["self", "name", "face"] (spM (tb K) K 3 m_Desk_divide) := by
  obtain ⟨fd, F⟩ := G.c.d.def_ 50 (d := D_Desk_divide) rfl
  refine good_ofX (N := ["self", "name", "face", "whole", "found"]) F sc_Desk_divide rfl rfl (fun _ _ _ _ _ _ us hl => match us, hl with | [_, _, _], _ => rfl) fun cdv A outer s H E hr hu tk => ?_
  exact (xs_cons (xs_set 3 sc_Desk_divide.nd rfl (by first | exact .inl rfl | exact .inr rfl) (xe_methX tk (c := 2) (ok_Desk_known G) hr (by decide) nn_known G.cls_Desk G.meth_Desk_known (fun vs C => run_bad vs C) (xe_var 0 rfl) (xa_cons (xe_var 1 rfl) xa_nil))) (xs_cons (xs_if (PW.pt (yw_or (yt_not (xt_tru (xe_callG (ok_is_face_shape G) hr (by decide) rfl G.glo_is_face_shape (fun vs C => runN_bad vs C) (xa_cons (xe_var 2 rfl) xa_nil)))) (yw_or (xt_cmp (or_lt hu) (xe_callB (or_len) rfl G.free_len boot_len (xa_cons (xe_var 2 rfl) xa_nil)) (xe_int) rfl) (yw_or1 (yt_not (xt_tru (xe_callG (ok_has_face G) hr (by decide) rfl G.glo_has_face (fun vs C => runN_bad vs C) (xa_cons (xe_var 3 rfl) (xa_cons (xe_var 2 rfl) xa_nil))))))))) (xs_cons (xs_raiseG rfl tk (rsd1 rfl) (rz_Refused G) hr (by decide) rfl G.glo_Refused (xa_cons (xe_str [102, 97, 99, 101]) xa_nil)) xs_nil) xs_nil) (xs_cons (xs_set 4 sc_Desk_divide.nd rfl (by first | exact .inl rfl | exact .inr rfl) (xe_callG (ok_divided_at G) hr (by decide) rfl G.glo_divided_at (fun vs C => runN_bad vs C) (xa_cons (xe_var 3 rfl) (xa_cons (xe_var 2 rfl) xa_nil)))) (xs_cons (xs_drop (xe_methG (c := 2) (ok_Desk_changed G) hr (by decide) nn_changed G.cls_Desk G.meth_Desk_changed (fun vs C => runN_bad vs C) (xe_var 0 rfl) (xa_cons (xe_var 1 rfl) (xa_cons (xe_var 4 rfl) (xa_cons (xe_joined (ms := [xC (.str [100, 105, 118, 105, 100, 101, 32]), xFmt (xVar 1), xC (.str [32]), xFmt (xFn m_face_text (aCons (xVar 2) aNil))]) (.cons (xe_str [100, 105, 118, 105, 100, 101, 32]) (.cons (xe_fmt (xe_var 1 rfl)) (.cons (xe_str [32]) (.cons (xe_fmt (xe_callG (ok_face_text G) hr (by decide) rfl G.glo_face_text (fun vs C => runN_bad vs C) (xa_cons (xe_var 2 rfl) xa_nil))) .nil))))) xa_nil))))) xs_nil))))
theorem sc_Desk_flip : FnScope ["self", "name", "face", "whole", "pairs", "pair"] ["self", "name", "face"] (defScope s_Desk_flip) := ⟨rfl, rfl, rfl, by decide +kernel, rfl, by decide +kernel, by decide +kernel⟩
theorem ok_Desk_flip (G : Cm P K mg) : Good P w K mg base (L2N.CX P w) 8 (He.ma K (He.ga K "Desk") "flip") ["self", "name", "face"] (spM (tb K) K 3 m_Desk_flip) := by
  obtain ⟨fd, F⟩ := G.c.d.def_ 51 (d := D_Desk_flip) rfl
  refine good_ofX (N := ["self", "name", "face", "whole", "pairs", "pair"]) F sc_Desk_flip rfl rfl (fun _ _ _ _ _ _ us hl => match us, hl with | [_, _, _], _ => rfl) fun cdv A outer s H E hr hu tk => ?_
  exact (xs_cons (xs_set 3 sc_Desk_flip.nd rfl (by first | exact .inl rfl | exact .inr rfl) (xe_methX tk (c := 2) (ok_Desk_known G) hr (by decide) nn_known G.cls_Desk G.meth_Desk_known (fun vs C => run_bad vs C) (xe_var 0 rfl) (xa_cons (xe_var 1 rfl) xa_nil))) (xs_cons (xs_setLc (own := [("pair", 5)]) rfl sc_Desk_flip.nd rfl rfl (by rfl) (blkOk_by (by rfl)) (tin_of rfl) (xi_tup (xe_callG (ok_flips G) hr (by decide) rfl G.glo_flips (fun vs C => runN_bad vs C) (xa_cons (xe_var 3 rfl) xa_nil))) (fun _ _ _ _ _ => (xg_nm 5 sc_Desk_flip.nd rfl (by first | exact .inl rfl | exact .inr rfl))) (fun _ _ _ _ _ =>  xc_some (xt_cmp (or_eq hu) (xe_ix or_ix (xe_var 5 rfl) (xe_int) (fun _ _ => rfl)) (xe_var 2 rfl) rfl)) (fun _ _ _ _ _ => (xe_var 5 rfl))) (xs_cons (xs_if (yt_not (xt_tru (xe_var 4 rfl))) (xs_cons (xs_raiseG rfl tk (rsd1 rfl) (rz_Refused G) hr (by decide) rfl G.glo_Refused (xa_cons (xe_str [102, 97, 99, 101]) xa_nil)) xs_nil) xs_nil) (xs_cons (xs_drop (xe_methG (c := 2) (ok_Desk_changed G) hr (by decide) nn_changed G.cls_Desk G.meth_Desk_changed (fun vs C => runN_bad vs C) (xe_var 0 rfl) (xa_cons (xe_var 1 rfl) (xa_cons (xe_callG (ok_flipped G) hr (by decide) rfl G.glo_flipped (fun vs C => runN_bad vs C) (xa_cons (xe_var 3 rfl) (xa_cons (xe_ix or_ix (xe_ix or_ix (xe_var 4 rfl) (xe_int) (fun _ _ => rfl)) (xe_int) (fun _ _ => rfl)) (xa_cons (xe_ix or_ix (xe_ix or_ix (xe_var 4 rfl) (xe_int) (fun _ _ => rfl)) (xe_int) (fun _ _ => rfl)) xa_nil)))) (xa_cons (xe_joined (ms := [xC (.str [102, 108, 105, 112, 32]), xFmt (xVar 1), xC (.str [32]), xFmt (xFn m_face_text (aCons (xVar 2) aNil))]) (.cons (xe_str [102, 108, 105, 112, 32]) (.cons (xe_fmt (xe_var 1 rfl)) (.cons (xe_str [32]) (.cons (xe_fmt (xe_callG (ok_face_text G) hr (by decide) rfl G.glo_face_text (fun vs C => runN_bad vs C) (xa_cons (xe_var 2 rfl) xa_nil))) .nil))))) xa_nil))))) xs_nil))))
theorem sc_Desk_undo : FnScope ["self"] ["self"] (defScope s_Desk_undo) := ⟨rfl, rfl, rfl, by decide +kernel, rfl, by decide +kernel, by decide +kernel⟩
theorem ok_Desk_undo (G : Cm P K mg) : Good P w K mg base (L2N.CX P w) 3 (He.ma K (He.ga K "Desk") "undo") ["self"] (spM (tb K) K 1 m_Desk_undo) := by
  obtain ⟨fd, F⟩ := G.c.d.def_ 52 (d := D_Desk_undo) rfl
  refine good_ofX (N := ["self"]) F sc_Desk_undo rfl rfl (fun _ _ _ _ _ _ us hl => match us, hl with | [_], _ => rfl) fun cdv A outer s H E hr hu tk => ?_
  exact (xs_cons (xs_if (yt_not (xt_tru (xe_fld 2 15 rfl (G.cls_Desk) (G.noat_Desk_ahead) (xe_var 0 rfl)))) (xs_cons (xs_raiseG rfl tk (rsd1 rfl) (rz_Refused G) hr (by decide) rfl G.glo_Refused (xa_cons (xe_str [110, 111, 116, 104, 105, 110, 103]) xa_nil)) xs_nil) xs_nil) (xs_cons (xs_fld 2 13 rfl G.cls_Desk G.noat_Desk_kept (xe_var 0 rfl) (xe_bm0 (t := 1) PySem.F.plainAttrs_list PySem.F.slot_list_pop PySem.F.type_list_pop mr_pop (xe_fld 2 15 rfl (G.cls_Desk) (G.noat_Desk_ahead) (xe_var 0 rfl)))) (xs_cons (xs_drop (xe_bm (t := 1) PySem.F.plainAttrs_list PySem.F.slot_list_append PySem.F.type_list_append mr_append (xe_fld 2 14 rfl (G.cls_Desk) (G.noat_Desk_lines) (xe_var 0 rfl)) (xa_cons (xe_str [117, 110, 100, 111]) xa_nil))) xs_nil)))
theorem sc_done : FnScope ["desk", "line", "words", "face", "whole"] ["desk", "line"] (defScope s_done) := ⟨rfl, rfl, rfl, by decide +kernel, rfl, by decide +kernel, by decide +kernel⟩
theorem ok_done (G : Cm P K mg) : Good P w K mg base (L2N.CX P w) 9 (He.ga K "done") ["desk", "line"] (spM (tb K) K 2 m_done) := by
  obtain ⟨fd, F⟩ := G.c.d.def_ 53 (d := D_done) rfl
  refine good_ofX (N := ["desk", "line", "words", "face", "whole"]) F sc_done rfl rfl (fun _ _ _ _ _ _ us hl => match us, hl with | [_, _], _ => rfl) fun cdv A outer s H E hr hu tk => ?_
  exact (xs_cons (xs_set 2 sc_done.nd rfl (by first | exact .inl rfl | exact .inr rfl) (xe_bm (t := 0) PySem.F.plainAttrs_str PySem.F.slot_str_split PySem.F.type_str_split mr_splitM (xe_var 1 rfl) (xa_cons (xe_str [32]) (xa_cons (xe_int) xa_nil)))) (xs_cons (xs_if (xt_cmp (or_eq hu) (xe_var 1 rfl) (xe_str [117, 110, 100, 111]) rfl) (xs_cons (xs_drop (xe_methX0 tk (c := 2) (ok_Desk_undo G) hr (by decide) nn_undo G.cls_Desk G.meth_Desk_undo (fun vs C => run_bad vs C) (xe_var 0 rfl))) (xs_cons (xs_ret (xe_bl)) xs_nil)) xs_nil) (xs_cons (xs_if (PW.pt (yw_and (xt_cmp (or_eq hu) (xe_callB (or_len) rfl G.free_len boot_len (xa_cons (xe_var 2 rfl) xa_nil)) (xe_int) rfl) (yw_and1 (xt_cmp (or_eq hu) (xe_ix or_ix (xe_var 2 rfl) (xe_int) (fun _ _ => rfl)) (xe_str [100, 114, 111, 112]) rfl)))) (xs_cons (xs_drop (xe_methX tk (c := 2) (ok_Desk_drop G) hr (by decide) nn_drop G.cls_Desk G.meth_Desk_drop (fun vs C => run_bad vs C) (xe_var 0 rfl) (xa_cons (xe_ix or_ix (xe_var 2 rfl) (xe_int) (fun _ _ => rfl)) xa_nil))) (xs_cons (xs_ret (xe_bl)) xs_nil)) xs_nil) (xs_cons (xs_if (PW.pt (yw_or (xt_cmp (or_ne hu) (xe_callB (or_len) rfl G.free_len boot_len (xa_cons (xe_var 2 rfl) xa_nil)) (xe_int) rfl) (yw_or1 (yt_not (xt_tru (xe_ix or_ix (xe_var 2 rfl) (xe_int) (fun _ _ => rfl))))))) (xs_cons (xs_ret (xe_bl)) xs_nil) xs_nil) (xs_cons (xs_if (xt_cmp (or_eq hu) (xe_ix or_ix (xe_var 2 rfl) (xe_int) (fun _ _ => rfl)) (xe_str [112, 117, 116]) rfl) (xs_cons (xs_try1 rfl rfl tk ⟨rfl, by decide, .inl G.glo_BadText⟩ (fun k hk => by
    have z := memB_ok hk
    simp only [List.mem_cons, List.not_mem_nil, or_false] at z
    subst z; exact G.exm_BadText_BadText) (fun W' pn xe tk' hp' => (xs_cons (xs_set 4 sc_done.nd rfl (by first | exact .inl rfl | exact .inr rfl) (xe_callX tk' (ok_read_complex G) hr (by decide) rfl G.glo_read_complex (fun vs C => run_bad vs C) (xa_cons (xe_ix or_ix (xe_var 2 rfl) (xe_int) (fun _ _ => rfl)) xa_nil))) xs_nil)) (fun a oe pn => (xs_cons (xs_ret (xe_bl)) xs_nil))) (xs_cons (xs_drop (xe_methX tk (c := 2) (ok_Desk_put G) hr (by decide) nn_put G.cls_Desk G.meth_Desk_put (fun vs C => run_bad vs C) (xe_var 0 rfl) (xa_cons (xe_ix or_ix (xe_var 2 rfl) (xe_int) (fun _ _ => rfl)) (xa_cons (xe_var 4 rfl) xa_nil)))) (xs_cons (xs_ret (xe_bl)) xs_nil))) xs_nil) (xs_cons (xs_set 3 sc_done.nd rfl (by first | exact .inl rfl | exact .inr rfl) (xe_callG (ok_read_face G) hr (by decide) rfl G.glo_read_face (fun vs C => runN_bad vs C) (xa_cons (xe_ix or_ix (xe_var 2 rfl) (xe_int) (fun _ _ => rfl)) xa_nil))) (xs_cons (xs_if (PW.pt (yw_or (xt_cmp (or_nin hu) (xe_ix or_ix (xe_var 2 rfl) (xe_int) (fun _ _ => rfl)) (xe_tup (xa_cons (xe_str [97, 100, 100]) (xa_cons (xe_str [99, 111, 108, 108, 97, 112, 115, 101]) (xa_cons (xe_str [100, 105, 118, 105, 100, 101]) (xa_cons (xe_str [102, 108, 105, 112]) xa_nil))))) rfl) (yw_or1 (xt_cmp or_isN (xe_var 3 rfl) (xe_non) rfl)))) (xs_cons (xs_ret (xe_bl)) xs_nil) xs_nil) (xs_cons (xs_if (xt_cmp (or_eq hu) (xe_ix or_ix (xe_var 2 rfl) (xe_int) (fun _ _ => rfl)) (xe_str [97, 100, 100]) rfl) (xs_cons (xs_drop (xe_methX tk (c := 2) (ok_Desk_add G) hr (by decide) nn_add G.cls_Desk G.meth_Desk_add (fun vs C => run_bad vs C) (xe_var 0 rfl) (xa_cons (xe_ix or_ix (xe_var 2 rfl) (xe_int) (fun _ _ => rfl)) (xa_cons (xe_var 3 rfl) xa_nil)))) xs_nil) (xs_cons (xs_if (xt_cmp (or_eq hu) (xe_ix or_ix (xe_var 2 rfl) (xe_int) (fun _ _ => rfl)) (xe_str [99, 111, 108, 108, 97, 112, 115, 101]) rfl) (xs_cons (xs_drop (xe_methX tk (c := 2) (ok_Desk_collapse G) hr (by decide) nn_collapse G.cls_Desk G.meth_Desk_collapse (fun vs C => run_bad vs C) (xe_var 0 rfl) (xa_cons (xe_ix or_ix (xe_var 2 rfl) (xe_int) (fun _ _ => rfl)) (xa_cons (xe_var 3 rfl) xa_nil)))) xs_nil) (xs_cons (xs_if (xt_cmp (or_eq hu) (xe_ix or_ix (xe_var 2 rfl) (xe_int) (fun _ _ => rfl)) (xe_str [100, 105, 118, 105, 100, 101]) rfl) (xs_cons (xs_drop (xe_methX tk (c := 2) (ok_Desk_divide G) hr (by decide) nn_divide G.cls_Desk G.meth_Desk_divide (fun vs C => run_bad vs C) (xe_var 0 rfl) (xa_cons (xe_ix or_ix (xe_var 2 rfl) (xe_int) (fun _ _ => rfl)) (xa_cons (xe_var 3 rfl) xa_nil)))) xs_nil) (xs_cons (xs_drop (xe_methX tk (c := 2) (ok_Desk_flip G) hr (by decide) nn_flip G.cls_Desk G.meth_Desk_flip (fun vs C => run_bad vs C) (xe_var 0 rfl) (xa_cons (xe_ix or_ix (xe_var 2 rfl) (xe_int) (fun _ _ => rfl)) (xa_cons (xe_var 3 rfl) xa_nil)))) xs_nil)) xs_nil)) xs_nil)) (xs_cons (xs_ret (xe_bl)) xs_nil)))))))))
theorem sc_replay_desk : FnScope ["text", "desk", "rows", "at", "line", "good"] ["text"] (defScope s_replay_desk) := ⟨rfl, rfl, rfl, by decide +kernel, rfl, by decide +kernel, by decide +kernel⟩
theorem ok_replay_desk (G : Cm P K mg) : Good P w K mg base (L2.CX P w) 10 (He.ga K "replay_desk") ["text"] (spM (tb K) K 1 m_replay_desk) := by
  obtain ⟨fd, F⟩ := G.c.d.def_ 54 (d := D_replay_desk) rfl
  refine good_ofL (N := ["text", "desk", "rows", "at", "line", "good"]) F sc_replay_desk rfl rfl (fun _ _ _ _ _ _ us hl => match us, hl with | [_], _ => rfl) fun cdv A outer s H E hr hu tk hp => ?_
  exact (xs_cons (xs_set 1 sc_replay_desk.nd rfl (by first | exact .inl rfl | exact .inr rfl) (xe_makeG0 (c := 2) (ok_Desk_init G) hr (by decide) G.mkr_Desk rfl G.glo_Desk (fun vs C => runN_bad vs C))) (xs_cons (xs_set 2 sc_replay_desk.nd rfl (by first | exact .inl rfl | exact .inr rfl) (xe_bm (t := 0) PySem.F.plainAttrs_str PySem.F.slot_str_split PySem.F.type_str_split mr_split (xe_var 0 rfl) (xa_cons (xe_str [10]) xa_nil))) (xs_hf hp rfl rfl G.free_enumerate (xa_cons (xe_slice (xe_var 2 rfl) xo_none (xo_some (xe_neg (xe_int)))) xa_nil) (xg_tp rfl (gns_cons 3 sc_replay_desk.nd rfl (by first | exact .inl rfl | exact .inr rfl) (gns_cons 4 sc_replay_desk.nd rfl (by first | exact .inl rfl | exact .inr rfl) gns_nil))) (xs_cons (xs_tryT rfl rfl (fun hd => L2H.passesAt_of rfl hd) tk ⟨rfl, by decide, .inl G.glo_Refused⟩ ⟨rfl, by decide, .inl G.glo_BadFaces⟩ ⟨rfl, by decide, .inl G.glo_TooMany⟩ (fun k hk => by
    have z := memB_ok hk
    simp only [List.mem_cons, List.not_mem_nil, or_false] at z
    subst z; exact (exm3 G.exm_Refused_Refused G.exm_Refused_BadFaces G.exm_Refused_TooMany).trans rfl) (fun W' pn xe tk' hp' => (xs_cons (xs_set 5 sc_replay_desk.nd rfl (by first | exact .inl rfl | exact .inr rfl) (xe_callX tk' (ok_done G) hr (by decide) rfl G.glo_done (fun vs C => run_bad vs C) (xa_cons (xe_var 1 rfl) (xa_cons (xe_var 4 rfl) xa_nil)))) xs_nil)) (fun a oe pn tk'' hot => (xs_cons (xs_raiseH hot tk'' (rsd2 rfl rfl (by decide)) (rzh_BadText G) (L2H.roomH_mark hr _) (by decide) rfl G.glo_BadText (xa_cons (xe_bin or_add (xe_var 3 rfl) (xe_int)) (xa_cons (xe_str [114, 101, 102, 117, 115, 101, 100]) xa_nil))) xs_nil))) (xs_cons (xs_if (yt_not (xt_tru (xe_var 5 rfl))) (xs_cons (xs_raiseL rfl tk (rsd2 rfl rfl (by decide)) (rz_BadText G) hr (by decide) rfl G.glo_BadText (xa_cons (xe_bin or_add (xe_var 3 rfl) (xe_int)) (xa_cons (xe_str [110, 111, 116, 32, 97, 110, 32, 101, 110, 116, 114, 121]) xa_nil))) xs_nil) xs_nil) xs_nil)) (xs_cons (xs_if (xt_tru (xe_ix or_ix (xe_var 2 rfl) (xe_neg (xe_int)) (fun _ _ => rfl))) (xs_cons (xs_raiseL rfl tk (rsd2 rfl rfl (by decide)) (rz_BadText G) hr (by decide) rfl G.glo_BadText (xa_cons (xe_callB (or_len) rfl G.free_len boot_len (xa_cons (xe_var 2 rfl) xa_nil)) (xa_cons (xe_str [110, 111, 116, 32, 97, 110, 32, 101, 110, 116, 114, 121]) xa_nil))) xs_nil) xs_nil) (xs_cons (xs_ret (xe_var 1 rfl)) xs_nil)))))
theorem sc_law_said : FnScope ["text", "e"] ["text"] (defScope s_law_said) := ⟨rfl, rfl, rfl, by decide +kernel, rfl, by decide +kernel, by decide +kernel⟩
theorem ok_law_said (G : Cm P K mg) : Good P w K mg base CX0 11 (He.ga K "_law_said") ["text"] (spM (tb K) K 1 m_law_said) := by
  obtain ⟨fd, F⟩ := G.c.d.def_ 55 (d := D_law_said) rfl
  refine good_of (N := ["text", "e"]) F sc_law_said rfl rfl (fun _ _ _ _ _ _ us hl => match us, hl with | [_], _ => rfl) fun cdv A outer s H E hr hu => ?_
  exact (xs_cons (xs_tryAs2 (c := 4) (i := 1) (f := 16) (g := 17) rfl rfl sc_law_said.nd rfl rfl takes_none5 ⟨rfl, by decide, .inl G.glo_BadText⟩ G.exm_BadText_BadText (G.c.xf 1 (d := X_BadText) rfl) G.noat_BadText_place G.noat_BadText_reason rfl rfl (fun _ _ _ _ => pv 1) (fun W' pn xe tk' hp' => (xs_cons (xs_drop (xe_callL tk' (ok_replay_desk G) hr (by decide) rfl G.glo_replay_desk (fun vs C => run_bad vs C) (xa_cons (xe_var 0 rfl) xa_nil))) xs_nil))) (xs_cons (xs_ret (xe_non)) xs_nil))
end
end Ex

set_option Elab.async false
set_option linter.all false
set_option maxRecDepth 100000
set_option maxHeartbeats 0
/-! G3: what replay_desk does with the law's lines. -/
namespace Ex
open PySem PySem.Spec PyProof.Rows L2
def linesS : List (List Nat) := [[112, 117, 116, 32, 97, 32, 48, 32, 49, 32, 50, 32, 47, 32, 50, 32, 51], [97, 100, 100, 32, 97, 32, 51, 32, 52], [100, 105, 118, 105, 100, 101, 32, 97, 32, 48, 32, 49], [112, 117, 116, 32, 98, 32, 48, 32, 49, 32, 47, 32, 48, 32, 51, 32, 47, 32, 49, 32, 50, 32, 47, 32, 50, 32, 51], [99, 111, 108, 108, 97, 112, 115, 101, 32, 97, 32, 52], [102, 108, 105, 112, 32, 98, 32, 48], [100, 114, 111, 112, 32, 97], [117, 110, 100, 111], [97, 100, 100, 32, 98, 32, 53]]
def wrongS : List (List Nat) := [[], [112, 117, 116], [112, 117, 116, 32, 97], [112, 117, 116, 32, 32, 48], [112, 117, 116, 32, 99, 32, 49, 32, 48], [112, 117, 116, 32, 99, 32, 48, 32, 47, 32, 48, 32, 49], [112, 117, 116, 32, 99], [80, 117, 116, 32, 99, 32, 48], [100, 114, 111, 112], [100, 114, 111, 112, 32, 97, 32, 98], [97, 100, 100, 32, 97], [97, 100, 100, 32, 98, 32, 48, 32, 48], [97, 100, 100, 32, 98, 32, 120], [117, 110, 100, 111, 32], [117, 110, 100, 111, 32, 120], [99, 111, 108, 108, 97, 112, 115, 101, 32, 98], [102, 108, 105, 112, 32, 98], [116, 117, 114, 110, 32, 98, 32, 48], [100, 105, 118, 105, 100, 101, 32, 98, 32, 49, 32, 48], [32, 117, 110, 100, 111], [112, 117, 116, 32, 99, 32, 48, 32, 32, 49], [97, 100, 100, 32, 98, 32, 45, 49], [97, 100, 100, 32, 98, 32, 48, 32, 49, 32], [112, 117, 116, 32, 99, 32, 48, 32, 49, 32, 47, 50]]
def badS : List (List Nat) := [[100, 114, 111, 112, 32, 122, 122], [112, 117, 116, 32, 65, 32, 48], [112, 117, 116, 32, 98, 32, 48], [97, 100, 100, 32, 122, 122, 32, 48], [97, 100, 100, 32, 98, 32, 48, 32, 49], [99, 111, 108, 108, 97, 112, 115, 101, 32, 98, 32, 55, 55], [100, 105, 118, 105, 100, 101, 32, 98, 32, 48], [102, 108, 105, 112, 32, 98, 32, 55, 55], [112, 117, 116, 32, 50, 99, 32, 48], [112, 117, 116, 32, 116, 111, 111, 108, 111, 110, 103, 110, 97, 109, 101, 115, 32, 48], [100, 105, 118, 105, 100, 101, 32, 98, 32, 48, 32, 55, 55]]
def zNOT : List Nat := [110, 111, 116, 32, 97, 110, 32, 101, 110, 116, 114, 121]
def zREF : List Nat := [114, 101, 102, 117, 115, 101, 100]
def zZZ : List Nat := [100, 114, 111, 112, 32, 122, 122]
def zPB : List Nat := [112, 117, 116, 32, 98, 32, 48]
def zAB : List Nat := [97, 100, 100, 32, 98, 32, 48, 32, 49]
def zUN : List Nat := [117, 110, 100, 111]
def nl : List (List Nat) → List Nat → List Nat
  | [], z => z
  | x :: r, z => x ++ 10 :: nl r z
def stepL (k : Nat) (x : List Nat) : SM := fun l C => match stT (.tp [3, 4]) (.tup [.int (k : Nat), .str x]) l with
  | none => .bad
  | some l1 => lb_replay_desk l1 C
def isExc (r : RS) (place : Nat) (reason : List Nat) : Bool := match r with
  | .exc k fs _ _ => (match Nat.beq k 4, lkN fs 16, lkN fs 17 with
    | true, some (.int (.ofNat p)), some (.str z) => (match Nat.beq p place with
      | true => eqL z reason
      | false => false)
    | _, _, _ => false)
  | _ => false
/-- the bad line that the law takes at a place -/
def adj (at_ : Nat) (x : List Nat) : List Nat := match eqL x zPB || eqL x zAB, Nat.blt at_ 4 with
  | true, true => zZZ
  | _, _ => (match eqL x zAB, Nat.blt 5 at_ with
    | true, true => zZZ
    | _, _ => x)
/-! ### made whole before it goes on -/
def fcN (n : Nat) (k : Nat → Bool) : Bool := match n with
  | 0 => k 0
  | m + 1 => k (Nat.succ m)
def fcI (i : Int) (k : Int → Bool) : Bool := match i with
  | .ofNat n => fcN n fun n => k (.ofNat n)
  | .negSucc n => fcN n fun n => k (.negSucc n)
def fcS : List Nat → (List Nat → Bool) → Bool
  | [], k => k []
  | x :: r, k => fcN x fun y => fcS r fun s => k (y :: s)
def fcB (b : Bool) (k : Bool → Bool) : Bool := match b with
  | true => k true
  | false => k false
mutual
def fcV : Nat → CV → (CV → Bool) → Bool
  | 0, v, k => k v
  | f + 1, v, k => match v with
    | .non => k .non
    | .bl b => fcB b fun b => k (.bl b)
    | .int i => fcI i fun i => k (.int i)
    | .str s => fcS s fun s => k (.str s)
    | .tup xs => fcVs f xs fun ys => k (.tup ys)
    | .ref n => fcN n fun n => k (.ref n)
def fcVs : Nat → List CV → (List CV → Bool) → Bool
  | 0, xs, k => k xs
  | f + 1, xs, k => match xs with
    | [] => k []
    | x :: r => fcV f x fun y => fcVs f r fun ys => k (y :: ys)
end
def fcP (xs : List (CV × CV)) (k : List (CV × CV) → Bool) : Bool := match xs with
  | [] => k []
  | (a, b) :: r => fcV 1000 a fun a => fcV 1000 b fun b => fcP r fun ys => k ((a, b) :: ys)
def fcF (xs : List (Nat × CV)) (k : List (Nat × CV) → Bool) : Bool := match xs with
  | [] => k []
  | (a, b) :: r => fcN a fun a => fcV 1000 b fun b => fcF r fun ys => k ((a, b) :: ys)
def fcO (o : CO) (k : CO → Bool) : Bool := match o with
  | .lst xs => fcVs 1000 xs fun ys => k (.lst ys)
  | .dK xs => fcP xs fun ys => k (.dK ys)
  | .dT xs => fcP xs fun ys => k (.dT ys)
  | .ins c fs => fcN c fun c => fcF fs fun fs => k (.ins c fs)
def fcOs (xs : List (Nat × CO)) (k : List (Nat × CO) → Bool) : Bool := match xs with
  | [] => k []
  | (a, b) :: r => fcN a fun a => fcO b fun b => fcOs r fun ys => k ((a, b) :: ys)
def fcC (C : CH) (k : CH → Bool) : Bool := match C with
  | ⟨n, os⟩ => fcN n fun n => fcOs os fun os => k ⟨n, os⟩
def fcL (l : CL) (k : CL → Bool) : Bool := match l with
  | [] => k []
  | none :: r => fcL r fun s => k (none :: s)
  | some v :: r => fcV 1000 v fun w => fcL r fun s => k (some w :: s)
theorem fcN_eq (n : Nat) (k : Nat → Bool) : fcN n k = k n := by cases n <;> rfl
theorem fcI_eq (i : Int) (k : Int → Bool) : fcI i k = k i := by
  unfold fcI
  cases i with
  | ofNat n => exact fcN_eq n _
  | negSucc n => exact fcN_eq n _
theorem fcB_eq (b : Bool) (k : Bool → Bool) : fcB b k = k b := by cases b <;> rfl
theorem fcS_eq : ∀ (s : List Nat) (k : List Nat → Bool), fcS s k = k s
  | [], k => rfl
  | x :: r, k => by
    unfold fcS
    rw [fcN_eq, fcS_eq r]
mutual
theorem fcV_eq : ∀ (f : Nat) (v : CV) (k : CV → Bool), fcV f v k = k v
  | 0, v, k => by unfold fcV; rfl
  | f + 1, v, k => by
    unfold fcV
    cases v with
    | non => rfl
    | bl b => exact fcB_eq _ _
    | int i => exact fcI_eq _ _
    | str s => exact fcS_eq _ _
    | tup xs => exact fcVs_eq f xs _
    | ref n => exact fcN_eq _ _
theorem fcVs_eq : ∀ (f : Nat) (v : List CV) (k : List CV → Bool), fcVs f v k = k v
  | 0, v, k => by unfold fcVs; rfl
  | f + 1, v, k => by
    unfold fcVs
    cases v with
    | nil => rfl
    | cons x r =>
      dsimp only
      rw [fcV_eq f, fcVs_eq f]
end
theorem fcP_eq : ∀ (xs : List (CV × CV)) (k : List (CV × CV) → Bool), fcP xs k = k xs
  | [], k => rfl
  | (a, b) :: r, k => by
    unfold fcP
    rw [fcV_eq, fcV_eq, fcP_eq r]
theorem fcF_eq : ∀ (xs : List (Nat × CV)) (k : List (Nat × CV) → Bool), fcF xs k = k xs
  | [], k => rfl
  | (a, b) :: r, k => by
    unfold fcF
    rw [fcN_eq, fcV_eq, fcF_eq r]
theorem fcO_eq (o : CO) (k : CO → Bool) : fcO o k = k o := by
  cases o with
  | lst xs => exact fcVs_eq _ _ _
  | dK xs => exact fcP_eq _ _
  | dT xs => exact fcP_eq _ _
  | ins c fs =>
    unfold fcO
    dsimp only
    rw [fcN_eq, fcF_eq]
theorem fcOs_eq : ∀ (xs : List (Nat × CO)) (k : List (Nat × CO) → Bool), fcOs xs k = k xs
  | [], k => rfl
  | (a, b) :: r, k => by
    unfold fcOs
    rw [fcN_eq, fcO_eq, fcOs_eq r]
theorem fcC_eq (C : CH) (k : CH → Bool) : fcC C k = k C := by
  cases C
  unfold fcC
  dsimp only
  rw [fcN_eq, fcOs_eq]
theorem fcL_eq : ∀ (l : CL) (k : CL → Bool), fcL l k = k l
  | [], k => rfl
  | none :: r, k => by
    unfold fcL
    rw [fcL_eq r]
  | some v :: r, k => by
    unfold fcL
    rw [fcV_eq, fcL_eq r]
/-! ### the look -/
def l00 : CL := [none, some (.ref 0), some (.ref 4), none, none, none]
def cDos : List (Nat × CO) := [(3, .lst []), (2, .lst []), (1, .dK []), (0, .ins 2 [(13, .ref 1), (14, .ref 2), (15, .ref 3)])]
def endOf (ls : List (List Nat)) (l : CL) (C : CH) : RS := rs_replay_desk l (C.ins 4 (.lst (ls.map .str)))
/-- the whole text, and the text with a last line without a newline -/
def finT (k : Nat) (l : CL) (C : CH) : Bool := match endOf (linesS.take k ++ [[]]) l C with
  | .ret d C1 => (match xMeth 2 m_Desk_journal (xVar 0) aNil [some d] C1 with
    | .ok (.str z) _ => (match eqL z (nl (linesS.take k) []) with
      | true => isExc (endOf (linesS.take k ++ [zUN]) l C) (k + 1) zNOT
      | false => false)
    | _ => false)
  | _ => false
def evB {α : Type} (p : α → Bool) : List α → Bool
  | [] => true
  | x :: r => match p x with
    | true => evB p r
    | false => false
def testAt (k : Nat) (l : CL) (C : CH) : Bool :=
  match finT k l C, evB (fun w => isExc (stepL k w l C) (k + 1) zNOT) wrongS, evB (fun b => isExc (stepL k (adj k b) l C) (k + 1) zREF) badS with
  | true, true, true => true
  | _, _, _ => false
def run1 : Nat → List (List Nat) → CL → CH → Bool
  | k, [], l, C => testAt k l C
  | k, x :: r, l, C => match testAt k l C with
    | true => (match stepL k x l C with
      | .nx l1 C1 => fcL l1 fun l2 => fcC C1 fun C2 => run1 (k + 1) r l2 C2
      | _ => false)
    | false => false
end Ex

set_option Elab.async false
set_option linter.all false
set_option maxRecDepth 100000
set_option maxHeartbeats 4000000
/-! G4: what replay_desk and _law_said answer at the law's texts. -/
namespace Ex
open PySem PySem.Spec PyProof.Rows L2 TL
theorem pre10 (c : Nat) (r : List Nat) : pre [10] (c :: r) = Nat.beq c 10 := by
  show (([c] : List Nat) == [10]) = _
  cases e : Nat.beq c 10 with
  | true =>
    rw [Nat.eq_of_beq_eq_true e]
    rfl
  | false =>
    have n : c ≠ 10 := Nat.ne_of_beq_eq_false e
    simp [n]
theorem spl_line : ∀ (x acc r : List Nat), (10 ∉ x) → spl [10] 0 acc (x ++ 10 :: r) = (acc ++ x) :: spl [10] 0 [] r
  | [], acc, r, _ => by
    show spl [10] 0 acc (10 :: r) = _
    rw [spl_hit (by rw [pre10]; rfl), List.append_nil]
    rfl
  | c :: x, acc, r, h => by
    have n : c ≠ 10 := fun z => h (by rw [z]; exact List.mem_cons_self)
    show spl [10] 0 acc (c :: (x ++ 10 :: r)) = _
    rw [spl_miss (by rw [pre10]; exact beq_n n), spl_line x (acc ++ [c]) r (fun z => h (List.mem_cons_of_mem _ z)), List.append_assoc]
    rfl
theorem spl_last : ∀ (x acc : List Nat), (10 ∉ x) → spl [10] 0 acc x = [acc ++ x]
  | [], acc, _ => by rw [spl_nil, List.append_nil]
  | c :: x, acc, h => by
    have n : c ≠ 10 := fun z => h (by rw [z]; exact List.mem_cons_self)
    rw [spl_miss (by rw [pre10]; exact beq_n n), spl_last x (acc ++ [c]) (fun z => h (List.mem_cons_of_mem _ z)), List.append_assoc]
    rfl
theorem spl_nl : ∀ (ls : List (List Nat)) (z : List Nat), (∀ x ∈ ls, 10 ∉ x) → 10 ∉ z → spl [10] 0 [] (nl ls z) = ls ++ [z]
  | [], z, _, h => by
    unfold nl
    rw [spl_last z [] h]
    rfl
  | x :: r, z, hx, h => by
    unfold nl
    rw [spl_line x [] _ (hx x List.mem_cons_self), spl_nl r z (fun y hy => hx y (List.mem_cons_of_mem _ hy)) h]
    rfl
theorem strsOf_map : ∀ ls : List (List Nat), strsOf (ls.map .str) = some ls
  | [] => rfl
  | x :: r => by
    have := strsOf_map r
    show strsOf (.str x :: r.map .str) = _
    unfold strsOf
    rw [this]
theorem cut_last (ls : List (List Nat)) (z : List Nat) : cutC ((ls ++ [z]).map CV.str) none (some (-1)) = ls.map CV.str := by
  unfold cutC
  rw [takeC_eq]
  have e : ((ls ++ [z]).map CV.str).length = ls.length + 1 := by simp
  rw [e]
  have e1 : HT.sIx (ls.length + 1) (ls.length + 1) (some (-1)) = ls.length := by
    unfold HT.sIx
    simp
    try omega
  have e2 : HT.sIx (ls.length + 1) 0 none = 0 := rfl
  rw [e1, e2, List.map_append]
  simp
theorem seq_nx {a b : SM} {l l1 : CL} {C C1 : CH} (h : a l C = .nx l1 C1) : sSeq a b l C = b l1 C1 := by
  unfold sSeq
  rw [h]
def rep (ls : List (List Nat)) (z : List Nat) : RS := match loopL (.tp [3, 4]) lb_replay_desk (ls.map .str) 0 l00 ⟨6, cDos⟩ with
  | .nx l1 C2 => endOf (ls ++ [z]) l1 C2
  | .exc k fs l' C' => .exc k fs l' C'
  | .ret v C' => .ret v C'
  | _ => .bad
theorem desk0 (s : List Nat) : sAsg (xMake 2 m_Desk_init aNil) (.nm 1) (begC 6 [.str s]) C00 = .nx [some (.str s), some (.ref 0), none, none, none, none] ⟨4, cDos⟩ := rfl
theorem rep_eq {ls : List (List Nat)} {z : List Nat} (h1 : ∀ x ∈ ls, 10 ∉ x) (h2 : 10 ∉ z) (hb : bnd (nl ls z).length = true) : m_replay_desk [.str (nl ls z)] C00 = endR false 0 (rep ls z) := by
  have hs := spl_nl ls z h1 h2
  generalize nl ls z = s at hs hb ⊢
  show endR false 0 (b_replay_desk (begC 6 [.str s]) C00) = _
  unfold b_replay_desk
  rw [seq_nx (desk0 s)]
  have e2 : sAsg (xBM 0 fSplit (xVar 0) (aCons (xC (.str [10])) aNil)) (.nm 2) [some (.str s), some (.ref 0), none, none, none, none] ⟨4, cDos⟩ = .nx [some (.str s), some (.ref 0), some (.ref 4), none, none, none] ⟨5, (4, .lst ((ls ++ [z]).map .str)) :: cDos⟩ := by
    have e3 : fSplit [.str s, .str [10]] ⟨4, cDos⟩ = nStrs (ls ++ [z]) ⟨4, cDos⟩ := by
      unfold fSplit
      dsimp only
      rw [hb, hs]
      rfl
    show (match fin (fSplit [.str s, .str [10]] ⟨4, cDos⟩) with
      | .ok v C1 => (match stT (.nm 2) v [some (.str s), some (.ref 0), none, none, none, none] with
        | some l' => RS.nx l' C1
        | none => .bad)
      | .exc k fs l' C' => .exc k fs l' C'
      | .bad => .bad) = _
    rw [e3]
    rfl
  rw [seq_nx e2]
  congr 1
  unfold sHF
  have e4 : aCons (xSl (xVar 2) oNone (oSome (xNeg (xC (.int 1))))) aNil [some (.str s), some (.ref 0), some (.ref 4), none, none, none] ⟨5, (4, .lst ((ls ++ [z]).map .str)) :: cDos⟩ = .ok [.ref 5] ⟨6, (5, .lst (ls.map .str)) :: (4, .lst ((ls ++ [z]).map .str)) :: cDos⟩ := by
    show RA.ok [.ref 5] ⟨6, (5, .lst (cutC ((ls ++ [z]).map CV.str) none (some (-1)))) :: (4, .lst ((ls ++ [z]).map .str)) :: cDos⟩ = _
    rw [cut_last]
  rw [e4]
  show (match strsOf ((ls ++ [z]).map .str) with
    | some _ => (match loopL (.tp [3, 4]) lb_replay_desk (ls.map .str) 0 l00 ⟨6, cDos⟩ with
      | .nx l1 C2 => rs_replay_desk l1 (C2.ins 4 (.lst ((ls ++ [z]).map .str)))
      | .exc k fs l' C' => .exc k fs l' C'
      | .ret v C' => .ret v C'
      | _ => .bad)
    | none => .bad) = _
  rw [strsOf_map]
  rfl
/-! ### the look, told -/
theorem evB_ok {α : Type} {p : α → Bool} : ∀ {l : List α}, evB p l = true → ∀ x ∈ l, p x = true
  | [], _, _, h => nomatch h
  | y :: r, h, x, hx => by
    unfold evB at h
    cases e : p y with
    | false =>
      rw [e] at h
      cases h
    | true =>
      rw [e] at h
      rcases List.mem_cons.mp hx with q | q
      · rw [q]
        exact e
      · exact evB_ok h x q
theorem isExc_ok {r : RS} {p : Nat} {z : List Nat} (h : isExc r p z = true) : ∃ fs l C, r = .exc 4 fs l C ∧ lkN fs 16 = some (.int (p : Nat)) ∧ lkN fs 17 = some (.str z) := by
  unfold isExc at h
  split at h
  · rename_i k fs l C
    split at h
    · rename_i q s h1 h2 h3
      cases e1 : Nat.beq q p with
      | false =>
        rw [e1] at h
        cases h
      | true =>
        rw [e1] at h
        have e2 := (eqL_ok s z).mp h
        have e3 := beq_t e1
        have e4 := beq_t h1
        subst e2 e3 e4
        exact ⟨fs, l, C, rfl, h2, h3⟩
    · cases h
  · cases h
theorem testAt_ok {k : Nat} {l : CL} {C : CH} (h : testAt k l C = true) : finT k l C = true ∧ (∀ w ∈ wrongS, isExc (stepL k w l C) (k + 1) zNOT = true) ∧ ∀ b ∈ badS, isExc (stepL k (adj k b) l C) (k + 1) zREF = true := by
  unfold testAt at h
  split at h
  · rename_i h1 h2 h3
    exact ⟨h1, evB_ok h2, evB_ok h3⟩
  · cases h
theorem run1_test {k : Nat} {r : List (List Nat)} {l : CL} {C : CH} (h : run1 k r l C = true) : testAt k l C = true := by
  cases r with
  | nil => exact h
  | cons x r =>
    unfold run1 at h
    cases e : testAt k l C with
    | true => rfl
    | false =>
      rw [e] at h
      cases h
abbrev lpL := loopL (.tp [3, 4]) lb_replay_desk
theorem loopL_cons (t : Tg) (b : SM) (v : CV) (vs : List CV) (i : Nat) (l : CL) (C : CH) : loopL t b (v :: vs) i l C = (match stT t (.tup [.int (i : Nat), v]) l with
    | none => .bad
    | some l1 => (match b l1 C with
      | .nx l2 C2 => loopL t b vs (i + 1) l2 C2
      | .ct l2 C2 => loopL t b vs (i + 1) l2 C2
      | .bk l2 C2 => .nx l2 C2
      | .ret v C2 => .ret v C2
      | .exc k fs l' C' => .exc k fs l' C'
      | .bad => .bad)) := rfl
theorem lpL_cons (x : List Nat) (r : List (List Nat)) (k : Nat) (l : CL) (C : CH) : lpL ((x :: r).map .str) k l C = (match stepL k x l C with
      | .nx l2 C2 => lpL (r.map .str) (k + 1) l2 C2
      | .ct l2 C2 => lpL (r.map .str) (k + 1) l2 C2
      | .bk l2 C2 => .nx l2 C2
      | .ret v C2 => .ret v C2
      | .exc k fs l' C' => .exc k fs l' C'
      | .bad => .bad) := by
  show loopL (.tp [3, 4]) lb_replay_desk (.str x :: r.map .str) k l C = _
  rw [loopL_cons]
  unfold stepL
  cases stT (.tp [3, 4]) (.tup [.int (k : Nat), .str x]) l with
  | none => rfl
  | some l1 => rfl
theorem run1_at : ∀ (r : List (List Nat)) (k : Nat) (l : CL) (C : CH), run1 k r l C = true → ∀ j, j ≤ r.length → ∃ lj Cj, testAt (k + j) lj Cj = true ∧ ∀ ys, lpL ((r.take j ++ ys).map .str) k l C = lpL (ys.map .str) (k + j) lj Cj
  | r, k, l, C, h, 0, _ => ⟨l, C, run1_test h, fun ys => rfl⟩
  | [], _, _, _, _, j + 1, hj => absurd hj (Nat.not_succ_le_zero _)
  | x :: r, k, l, C, h, j + 1, hj => by
    have ht := run1_test h
    unfold run1 at h
    rw [ht] at h
    dsimp only at h
    cases es : stepL k x l C with
    | nx l1 C1 =>
      rw [es] at h
      dsimp only at h
      rw [fcL_eq, fcC_eq] at h
      obtain ⟨lj, Cj, h1, h2⟩ := run1_at r (k + 1) l1 C1 h j (Nat.le_of_succ_le_succ hj)
      have ek : k + 1 + j = k + (j + 1) := by omega
      rw [ek] at h1 h2
      refine ⟨lj, Cj, h1, fun ys => ?_⟩
      have e1 : (x :: r).take (j + 1) ++ ys = x :: (r.take j ++ ys) := rfl
      rw [e1, lpL_cons, es]
      exact h2 ys
    | _ =>
      rw [es] at h
      cases h
theorem lpL_exc {x : List Nat} {r : List (List Nat)} {k : Nat} {l : CL} {C : CH} {p : Nat} {z : List Nat} (h : isExc (stepL k x l C) p z = true) : ∃ fs l' C', lpL ((x :: r).map .str) k l C = .exc 4 fs l' C' ∧ lkN fs 16 = some (.int (p : Nat)) ∧ lkN fs 17 = some (.str z) := by
  obtain ⟨fs, l', C', e, h1, h2⟩ := isExc_ok h
  refine ⟨fs, l', C', ?_, h1, h2⟩
  rw [lpL_cons, e]
theorem said_exc {s : List Nat} {fs : List (Nat × CV)} {l' : CL} {C' : CH} {p : Nat} {z : List Nat} (h : m_replay_desk [.str s] C00 = .exc 4 fs l' C') (h1 : lkN fs 16 = some (.int (p : Nat))) (h2 : lkN fs 17 = some (.str z)) : ∃ C2, m_law_said [.str s] C00 = .ok (.tup [.int (p : Nat), .str z]) C2 := by
  refine ⟨popB true 0 C', ?_⟩
  have e1 : xFn m_replay_desk (aCons (xVar 0) aNil) (begC 2 [.str s]) C00 = .exc 4 fs (begC 2 [.str s]) C' := by
    show (match m_replay_desk [.str s] C00 with
      | .ok v C2 => RE.ok v C2
      | .exc k fs _ C2 => .exc k fs (begC 2 [.str s]) C2
      | .bad => .bad) = _
    rw [h]
  show only (endR true 0 (b_law_said (begC 2 [.str s]) C00)) = _
  unfold b_law_said sSeq sTryAs2 sDrop
  dsimp only
  rw [e1]
  dsimp only
  rw [h1, h2]
  rfl
theorem said_none {s : List Nat} {v : CV} {C' : CH} (h : m_replay_desk [.str s] C00 = .ok v C') : ∃ C2, m_law_said [.str s] C00 = .ok .non C2 := by
  refine ⟨popB true 0 C', ?_⟩
  have e1 : xFn m_replay_desk (aCons (xVar 0) aNil) (begC 2 [.str s]) C00 = .ok v C' := by
    show (match m_replay_desk [.str s] C00 with
      | .ok v C2 => RE.ok v C2
      | .exc k fs _ C2 => .exc k fs (begC 2 [.str s]) C2
      | .bad => .bad) = _
    rw [h]
  show only (endR true 0 (b_law_said (begC 2 [.str s]) C00)) = _
  unfold b_law_said sSeq sTryAs2 sDrop
  dsimp only
  rw [e1]
  rfl
/-- an exception of the loop, or of what follows it -/
theorem rep_exc {ls : List (List Nat)} {z : List Nat} {fs : List (Nat × CV)} {l' : CL} {C' : CH} (h1 : ∀ x ∈ ls, 10 ∉ x) (h2 : 10 ∉ z) (hb : bnd (nl ls z).length = true) (h : rep ls z = .exc 4 fs l' C') : m_replay_desk [.str (nl ls z)] C00 = .exc 4 fs [] C' := by
  rw [rep_eq h1 h2 hb, h]
  rfl
theorem look_lines : ∀ x ∈ linesS, 10 ∉ x := by decide
theorem look_wrong : ∀ x ∈ wrongS, 10 ∉ x := by decide
theorem look_bad : ∀ x ∈ badS, 10 ∉ x := by decide
theorem adj_mem (k : Nat) (b : List Nat) : adj k b = b ∨ adj k b = zZZ := by
  unfold adj
  split
  · exact .inr rfl
  · split
    · exact .inr rfl
    · exact .inl rfl
theorem nl_len : ∀ (ls : List (List Nat)) (z : List Nat), (nl ls z).length = (ls.map (·.length + 1)).sum + z.length
  | [], z => by simp [nl]
  | x :: r, z => by
    unfold nl
    rw [List.length_append, List.length_cons, nl_len r z]
    simp
    omega
theorem nl_bnd {ls : List (List Nat)} {z : List Nat} (h1 : ∀ x ∈ ls, x.length ≤ 100) (h2 : ls.length ≤ 100) (h3 : z.length ≤ 100) : bnd (nl ls z).length = true := by
  have key : ∀ ls : List (List Nat), (∀ x ∈ ls, x.length ≤ 100) → (ls.map (·.length + 1)).sum ≤ 101 * ls.length := fun ls => by
    induction ls with
    | nil => exact fun _ => Nat.le_refl _
    | cons x r ih =>
      intro h
      have a := h x List.mem_cons_self
      have b := ih fun y hy => h y (List.mem_cons_of_mem _ hy)
      rw [List.map_cons, List.sum_cons, List.length_cons]
      omega
  have k := key ls h1
  rw [nl_len]
  exact Nat.ble_eq_true_of_le (by omega)
/-- a wrong or a bad line behind j lines, whatever follows -/
theorem said_line {j : Nat} (hj : j ≤ linesS.length) {x : List Nat} {ys : List (List Nat)} {p : Nat} {z : List Nat} (look : run1 0 linesS l00 ⟨6, cDos⟩ = true)
    (hx : ∀ l C, testAt j l C = true → isExc (stepL j x l C) p z = true) (n1 : 10 ∉ x) (n2 : ∀ y ∈ ys, 10 ∉ y) (s1 : x.length ≤ 100) (s2 : ∀ y ∈ ys, y.length ≤ 100) (s3 : ys.length ≤ 20) :
    ∃ C2, m_law_said [.str (nl (linesS.take j ++ x :: ys) [])] C00 = .ok (.tup [.int (p : Nat), .str z]) C2 := by
  obtain ⟨lj, Cj, h1, h2⟩ := run1_at linesS 0 l00 ⟨6, cDos⟩ look j hj
  rw [Nat.zero_add] at h1 h2
  obtain ⟨fs, l', C', e1, e2, e3⟩ := lpL_exc (r := ys) (hx lj Cj h1)
  have er : rep (linesS.take j ++ x :: ys) [] = .exc 4 fs l' C' := by
    unfold rep
    have := (h2 (x :: ys)).trans e1
    show (match lpL _ 0 l00 ⟨6, cDos⟩ with
      | .nx l1 C2 => endOf (linesS.take j ++ x :: ys ++ [[]]) l1 C2
      | .exc k fs l' C' => .exc k fs l' C'
      | .ret v C' => .ret v C'
      | _ => .bad) = _
    rw [this]
  have mem : ∀ y ∈ linesS.take j ++ x :: ys, 10 ∉ y ∧ y.length ≤ 100 := fun y hy => by
    rcases List.mem_append.mp hy with q | q
    · have m := List.mem_of_mem_take q
      exact ⟨look_lines y m, (by decide : ∀ y ∈ linesS, y.length ≤ 100) y m⟩
    · rcases List.mem_cons.mp q with q | q
      · rw [q]
        exact ⟨n1, s1⟩
      · exact ⟨n2 y q, s2 y q⟩
  refine said_exc (rep_exc (fun y hy => (mem y hy).1) List.not_mem_nil (nl_bnd (fun y hy => (mem y hy).2) ?_ (Nat.zero_le _)) er) e2 e3
  have : linesS.length = 9 := rfl
  rw [List.length_append, List.length_take, List.length_cons]
  omega
/-- the whole text of j lines; with one more line that has no newline -/
theorem said_fin {j : Nat} (hj : j ≤ linesS.length) (look : run1 0 linesS l00 ⟨6, cDos⟩ = true) :
    (∃ C2, m_law_said [.str (nl (linesS.take j) [])] C00 = .ok .non C2) ∧ (∃ d C1 C2, m_replay_desk [.str (nl (linesS.take j) [])] C00 = .ok d C1 ∧ xMeth 2 m_Desk_journal (xVar 0) aNil [some d] C1 = .ok (.str (nl (linesS.take j) [])) C2) ∧
      ∃ C2, m_law_said [.str (nl (linesS.take j) zUN)] C00 = .ok (.tup [.int ((j + 1 : Nat) : Int), .str zNOT]) C2 := by
  obtain ⟨lj, Cj, h1, h2⟩ := run1_at linesS 0 l00 ⟨6, cDos⟩ look j hj
  rw [Nat.zero_add] at h1 h2
  have ef := (testAt_ok h1).1
  have h3 := h2 []
  rw [List.append_nil] at h3
  have h3 : lpL ((linesS.take j).map .str) 0 l00 ⟨6, cDos⟩ = .nx lj Cj := h3
  have mem : ∀ y ∈ linesS.take j, 10 ∉ y ∧ y.length ≤ 100 := fun y q => by
    have m := List.mem_of_mem_take q
    exact ⟨look_lines y m, (by decide : ∀ y ∈ linesS, y.length ≤ 100) y m⟩
  have len : (linesS.take j).length ≤ 100 := by
    have : linesS.length = 9 := rfl
    rw [List.length_take]
    omega
  have er : ∀ z, rep (linesS.take j) z = endOf (linesS.take j ++ [z]) lj Cj := fun z => by
    unfold rep
    show (match lpL _ 0 l00 ⟨6, cDos⟩ with
      | .nx l1 C2 => endOf (linesS.take j ++ [z]) l1 C2
      | .exc k fs l' C' => .exc k fs l' C'
      | .ret v C' => .ret v C'
      | _ => .bad) = _
    rw [h3]
  unfold finT at ef
  cases e1 : endOf (linesS.take j ++ [[]]) lj Cj with
  | ret d C1 =>
    rw [e1] at ef
    dsimp only at ef
    have q1 : m_replay_desk [.str (nl (linesS.take j) [])] C00 = .ok d C1 := by
      rw [rep_eq (fun y hy => (mem y hy).1) List.not_mem_nil (nl_bnd (fun y hy => (mem y hy).2) len (Nat.zero_le _)), er, e1]
      rfl
    cases e2 : xMeth 2 m_Desk_journal (xVar 0) aNil [some d] C1 with
    | ok v C2 =>
      rw [e2] at ef
      cases v with
      | str z =>
        dsimp only at ef
        cases e3 : eqL z (nl (linesS.take j) []) with
        | false =>
          rw [e3] at ef
          cases ef
        | true =>
          rw [e3] at ef
          dsimp only at ef
          have e4 := (eqL_ok z _).mp e3
          rw [e4] at e2
          refine ⟨said_none q1, ⟨d, C1, C2, q1, e2⟩, ?_⟩
          obtain ⟨fs, l', C', g1, g2, g3⟩ := isExc_ok ef
          exact said_exc (rep_exc (fun y hy => (mem y hy).1) (by decide) (nl_bnd (fun y hy => (mem y hy).2) len (by decide)) ((er zUN).trans g1)) g2 g3
      | _ => cases ef
    | exc k fs l' C' =>
      rw [e2] at ef
      cases ef
    | bad =>
      rw [e2] at ef
      cases ef
  | _ =>
    rw [e1] at ef
    cases ef
/-- the next line is refused: of the lines of any text that are taken -/
theorem said_first {x : List Nat} {p : Nat} {z : List Nat} (hx : isExc (stepL 0 x l00 ⟨6, cDos⟩) p z = true) (n1 : 10 ∉ x) (s1 : x.length ≤ 100) : ∃ C2, m_law_said [.str (nl [x] [])] C00 = .ok (.tup [.int (p : Nat), .str z]) C2 := by
  obtain ⟨fs, l', C', e1, e2, e3⟩ := lpL_exc (r := []) hx
  have er : rep [x] [] = .exc 4 fs l' C' := by
    unfold rep
    show (match lpL _ 0 l00 ⟨6, cDos⟩ with
      | .nx l1 C2 => endOf ([x] ++ [[]]) l1 C2
      | .exc k fs l' C' => .exc k fs l' C'
      | .ret v C' => .ret v C'
      | _ => .bad) = _
    rw [e1]
  refine said_exc (rep_exc (fun y hy => ?_) List.not_mem_nil (nl_bnd (fun y hy => ?_) (show 1 ≤ 100 by decide) (Nat.zero_le _)) er) e2 e3
  · rw [List.mem_singleton.mp hy]
    exact n1
  · rw [List.mem_singleton.mp hy]
    exact s1
end Ex

set_option Elab.async false
set_option linter.all false
set_option maxRecDepth 100000
set_option maxHeartbeats 4000000
/-! G5: what a law draws: its digits, a draw, a pick. -/
namespace Ex
open PySem PySem.Spec PyProof.Rows L2
/-- digits: some list of ints that are not below 0, in a new list -/
def spDig (K : PySem.W.Frag) : Sp := fun vs H Q _ => ∃ (a : Addr) (ns : List Int), vs = [.ref a, .int 0, .int 63] ∧ SqL K H a (ns.map V.int) ∧
  ∀ (p : Addr) (ds : List Int) (H' : Hp), (∀ x ∈ ds, 0 ≤ x) → (∀ b o, H b = some o → H' b = some o) → H p = none → H' p = some (.lst (ds.map V.int)) → Q (.ref p) H'
/-- a draw below m -/
def spDraw : Sp := fun vs H Q _ => ∃ (pb pd : Addr) (ds : List Int) (k : Nat) (m : Int), vs = [.ref pb, .int m] ∧ H pb = some (.lst [.ref pd, .int (k : Nat)]) ∧ H pd = some (.lst (ds.map V.int)) ∧ pd ≠ pb ∧ (∀ d ∈ ds, 0 ≤ d) ∧ 0 < m ∧ k ≤ 1000 ∧
  ∀ d : Int, 0 ≤ d → d < m → Q (.int d) (upd H pb (.lst [.ref pd, .int ((k + 1 : Nat) : Int)]))
/-- one of a list's things -/
def spPick : Sp := fun vs H Q _ => ∃ (pb pd pr : Addr) (ds : List Int) (k : Nat) (xs : List V), vs = [.ref pb, .ref pr] ∧ H pb = some (.lst [.ref pd, .int (k : Nat)]) ∧ H pd = some (.lst (ds.map V.int)) ∧ pd ≠ pb ∧ H pr = some (.lst xs) ∧ pr ≠ pb ∧ (∀ d ∈ ds, 0 ≤ d) ∧ xs ≠ [] ∧ k ≤ 1000 ∧
  ∀ (d : Nat) (x : V), xs[d]? = some x → Q x (upd H pb (.lst [.ref pd, .int ((k + 1 : Nat) : Int)]))
section
variable {P : Program} {w : World} {K : PySem.W.Frag} {mg : Str → Option Value} {base : Heap} {f fC : Addr} {fd fdC : FuncData} {pa : Arguments} {bd : List Stmt} {sc : Scope}
theorem at_len {ds : List Int} {k : Nat} (h : k < ds.length) : atI (ds.map V.int) ((k : Nat) : Int) = some (V.int ds[k]) := by
  have h1 : ixN (ds.map V.int).length ((k : Nat) : Int) = some k := by
    unfold ixN
    rw [List.length_map, if_pos (by omega), if_pos (by omega)]
    all_goals rfl
  unfold atI
  rw [h1]
  show (ds.map V.int)[k]? = _
  rw [List.getElem?_map, List.getElem?_eq_getElem h]
  rfl
theorem sc_law_draw : FnScope ["box", "m", "digits", "at"] ["box", "m"] (defScope s_law_draw) := ⟨rfl, rfl, rfl, by decide +kernel, rfl, by decide +kernel, by decide +kernel⟩
theorem ok_draw (F : FunD K "_law_draw" "_law_draw" (defArgs s_law_draw) (defBody s_law_draw) (defScope s_law_draw) [] [] f fd) (mL : mg "len" = none) : FnOk P w K mg base CX0 1 f fd ["box", "m"] spDraw := by
  have S := sc_law_draw
  refine F.ok S (fun vs H Q E h => ?_) (fun cdv A outer s H vs Q E hr h => ⟨_, PSs.nox (pss_cons (ps_asg (pv 0) (pg_unl (n := 2) rfl (pgs_cons (pg_name (i := 2) S.nd rfl (.inl rfl)) (pgs_cons (pg_name (i := 3) S.nd rfl (.inl rfl)) pgs_nil))))
    (pss_cons (ps_asg (pe_op op_add (pv 3) pe_int) (pg_sub (pv 0) pe_int set_list))
      (pss_cons (ps_if (pt_cmp (pc_lt (pv 3) (pe_callB call_len rfl mL boot_len (pa_cons (pv 2) pa_nil)))) (pss_one (ps_ret (pe_op op_mod (pe_ix ix_list (pv 2) (pv 3) fun _ _ => rfl) (pv 1)))) pss_nil)
        (pss_one (ps_ret (pe_op op_mod (pe_op op_add (pe_op op_add (pe_op op_add (pe_op op_mul (pe_op op_mul (pv 3) (pv 3)) pe_int) (pe_op op_mul (pv 3) pe_int)) (pe_op op_fdiv (pv 3) pe_int)) pe_int) (pv 1))))))), ?_⟩)
  · obtain ⟨pb, pd, ds, k, m, e, _⟩ := h
    rw [e]
    rfl
  · obtain ⟨pb, pd, ds, k, m, e, h1, h2, ne, nn, m0, kl, q⟩ := h
    subst e
    refine ⟨_, rfl, pb, _, rfl, SqL.of h1, rfl, _, _, rfl, _, _, rfl, rfl, ?_⟩
    refine ⟨_, rfl, _, _, rfl, rfl, _, rfl, pb, _, 1, 1, rfl, rfl, h1, rfl, ?_⟩
    have hH : ∀ b o, b ≠ pb → H b = some o → upd H pb (.lst [.ref pd, .int ((k + 1 : Nat) : Int)]) b = some o := fun b o n e => by
      rw [upd_ne n]
      exact e
    show tSeq _ _ _ _ (upd H pb (.lst [.ref pd, .int ((k : Int) + 1)]))
    have ek : (k : Int) + 1 = ((k + 1 : Nat) : Int) := by omega
    rw [ek]
    have h2' := hH pd _ ne h2
    refine ⟨_, rfl, _, rfl, ⟨_, _, rfl, .inl ⟨_, SqL.of h2', rfl⟩, _, _, rfl, rfl, _, rfl, ?_⟩⟩
    show if decide (((k : Nat) : Int) < (((ds.map V.int).length : Nat) : Int)) = true then _ else _
    by_cases c : decide (((k : Nat) : Int) < (((ds.map V.int).length : Nat) : Int)) = true
    · rw [if_pos c]
      have c' : k < ds.length := by
        have := of_decide_eq_true c
        rw [List.length_map] at this
        omega
      refine ⟨_, rfl, _, rfl, ⟨pd, _, _, _, rfl, rfl, SqL.of h2', at_len c', _, rfl, _, m, rfl, rfl, m0, ?_⟩⟩
      exact q _ (Int.emod_nonneg _ (by omega)) (Int.emod_lt_of_pos _ m0)
    · rw [if_neg c]
      refine ⟨_, rfl, _, rfl, _, _, rfl, rfl, .inl ⟨by omega, by omega⟩, _, _, rfl, rfl, .inr ⟨by omega, by omega⟩, _, rfl, _, _, rfl, rfl, .inr ⟨by omega, by omega⟩, _, _, rfl, rfl, _, rfl, _, _, rfl, rfl, ⟨by omega, by omega⟩, _, _, rfl, rfl, _, _, rfl, rfl, _, rfl, _, m, rfl, rfl, m0, ?_⟩
      exact q _ (Int.emod_nonneg _ (by omega)) (Int.emod_lt_of_pos _ m0)
theorem sc_law_pick : FnScope ["box", "rows"] ["box", "rows"] (defScope s_law_pick) := ⟨rfl, rfl, rfl, by decide +kernel, rfl, by decide +kernel, by decide +kernel⟩
theorem ok_pick (F : FunD K "_law_pick" "_law_pick" (defArgs s_law_pick) (defBody s_law_pick) (defScope s_law_pick) [] [] f fd) (FC : FnOk P w K mg base CX0 1 fC fdC ["box", "m"] spDraw) (kC : PySem.W.keepIn K (.ref fC) = true) (bC : Binds K fdC ["box", "m"] []) (mD : mg "_law_draw" = some (.ref fC)) (mL : mg "len" = none) : FnOk P w K mg base CX0 2 f fd ["box", "rows"] spPick := by
  have S := sc_law_pick
  refine F.ok S (fun vs H Q E h => ?_) (fun cdv A outer s H vs Q E hr h => ⟨_, PSs.nox (pss_one (ps_ret (pe_ix ix_list (pv 1) (pe_call FC hr rfl mD kC bC .nil pass0 (pa_cons (pv 0) (pa_cons (pe_callB call_len rfl mL boot_len (pa_cons (pv 1) pa_nil)) pa_nil))) fun _ _ => rfl))), ?_⟩)
  · obtain ⟨pb, pd, pr, ds, k, xs, e, _⟩ := h
    rw [e]
    rfl
  · obtain ⟨pb, pd, pr, ds, k, xs, e, h1, h2, ne, h3, ne3, nn, x0, kl, q⟩ := h
    subst e
    have l0 : 0 < xs.length := List.length_pos_iff.mpr x0
    refine ⟨_, rfl, _, rfl, _, rfl, _, xs.length, rfl, .inl ⟨_, SqL.of h3, rfl⟩, pb, pd, ds, k, (xs.length : Int), rfl, h1, h2, ne, nn, by omega, kl, fun d d0 dm => ?_⟩
    obtain ⟨n, en⟩ : ∃ n : Nat, d = (n : Int) := ⟨d.toNat, by omega⟩
    subst en
    have lt : n < xs.length := by omega
    have h3' : upd H pb (.lst [.ref pd, .int ((k + 1 : Nat) : Int)]) pr = some (.lst xs) := by
      rw [upd_ne ne3]
      exact h3
    have ea : atI xs ((n : Nat) : Int) = some xs[n] := by
      have h1 : ixN xs.length ((n : Nat) : Int) = some n := by
        unfold ixN
        rw [if_pos (by omega), if_pos (by omega)]
        all_goals rfl
      unfold atI
      rw [h1]
      exact List.getElem?_eq_getElem lt
    exact ⟨pr, xs, _, _, rfl, rfl, SqL.of h3', ea, q n _ (List.getElem?_eq_getElem lt)⟩
theorem sc_law_cell : FnScope ["script", "k"] ["script", "k"] (defScope s_law_cell) := ⟨rfl, rfl, rfl, by decide +kernel, rfl, by decide +kernel, by decide +kernel⟩
theorem ok_cell0 (F : FunD K "_law_cell" "_law_cell" (defArgs s_law_cell) (defBody s_law_cell) (defScope s_law_cell) [] [] f fd) (mL : mg "len" = none) : FnOk P w K mg base CX0 1 f fd ["script", "k"] (spCell K) := by
  refine F.ok sc_law_cell (fun vs H Q E h => ?_) (fun cdv A outer s H vs Q E hr h => ⟨tCell K, PSs.nox (pss_cell rfl rfl (.inl rfl) (.inl rfl) rfl mL), cell_run h⟩)
  obtain ⟨l, ns, j, e, _⟩ := h
  rw [e]
  rfl
theorem sc_law_digits : FnScope ["script", "first", "last", "found", "k", "c", "n", "turn", "s"] ["script", "first", "last"] (defScope s_law_digits) := ⟨rfl, rfl, rfl, by decide +kernel, rfl, by decide +kernel, by decide +kernel⟩
/-- at every point of the loops: the list found so far -/
structure DigS (H : Hp) (a p : Addr) (m : Nat) (σ : L2.St) (H' : Hp) : Prop where
  sl : ∃ o4 o5 o6 o7 o8, σ = [some (.ref a), some (.int 0), some (.int 63), some (.ref p), o4, o5, o6, o7, o8]
  ds : ∃ ds : List Int, H' p = some (.lst (ds.map V.int)) ∧ (∀ x ∈ ds, 0 ≤ x) ∧ ds.length ≤ m
  up : ∀ b o, H b = some o → H' b = some o
  np : H p = none
theorem dig_app {H H' : Hp} {p : Addr} {ds : List Int} {r : Int} (up : ∀ b o, H b = some o → H' b = some o) (np : H p = none) (nn : ∀ x ∈ ds, 0 ≤ x) (r0 : 0 ≤ r) :
    (∀ b o, H b = some o → upd H' p (.lst (ds.map V.int ++ [V.int r])) b = some o) ∧ upd H' p (.lst (ds.map V.int ++ [V.int r])) p = some (.lst ((ds ++ [r]).map V.int)) ∧ ∀ x ∈ ds ++ [r], 0 ≤ x := by
  refine ⟨fun b o e => ?_, ?_, fun x hx => ?_⟩
  · rw [upd_ne (ne_of_none e np)]
    exact up b o e
  · rw [upd_same, List.map_append]
    rfl
  · rcases List.mem_append.mp hx with h | h
    · exact nn x h
    · rw [List.mem_singleton.mp h]
      exact r0
def tL60 (K : PySem.W.Frag) : TS := tFor (iRng1 (tCons (tC (.int 60)) tNil)) (gName 7) (tIfS (tB (tGt (tVar 6) (tC (.int 0)))) (tSeq (tDrop (tBM K "list" rAppend (tVar 3) (tCons (tOp (rI (fun _ j => 0 < j) fun i j => .int (i % j)) (tVar 6) (tC (.int 1009))) tNil))) (tAsg (tOp (rI CDiv fun i j => .int (i / j)) (tVar 6) (tC (.int 1009))) (gName 6))) tNext)
theorem L60_ok {D : Ends} {H H' : Hp} {a p : Addr} {m : Nat} (hm : m ≤ 100000) {o4 o5 o7 o8 : Option V} {n : Int} {ds : List Int} (hp : H' p = some (.lst (ds.map V.int))) (nn : ∀ x ∈ ds, 0 ≤ x) (hl : ds.length ≤ m) (up : ∀ b o, H b = some o → H' b = some o) (np : H p = none) (hD : ∀ σ H', DigS H a p (m + 60) σ H' → D.nx σ H') :
    tL60 K D [some (.ref a), some (.int 0), some (.int 63), some (.ref p), o4, o5, some (.int n), o7, o8] H' := by
  refine ⟨60, rfl, by decide, by decide, ?_⟩
  refine for_range (fun i σ H' => DigS H a p (m + i) σ H' ∧ ∃ n, σ[6]? = some (some (.int n))) ⟨⟨⟨_, _, _, _, _, rfl⟩, ⟨ds, hp, nn, hl⟩, up, np⟩, n, rfl⟩ (fun i σ H2 hi hP => ?_) fun σ H2 hP => hD σ H2 hP.1
  obtain ⟨⟨⟨p4, p5, p6, p7, p8, e⟩, ⟨es, hp, nn, hl⟩, up, np⟩, n, e6⟩ := hP
  subst e
  have e6 : p6 = some (.int n) := Option.some.inj e6
  subst e6
  refine ⟨_, rfl, n, 0, rfl, rfl, _, rfl, ?_⟩
  have i60 : i < 60 := hi
  show if decide (n > 0) = true then _ else _
  by_cases c : decide (n > 0) = true
  · rw [if_pos c]
    have n0 : 0 < n := of_decide_eq_true c
    obtain ⟨q1, q2, q3⟩ := dig_app (r := n % 1009) up np nn (Int.emod_nonneg _ (by decide))
    refine ⟨.ref p, rfl, .inl ⟨rfl, _, SqL.of hp⟩, _, rfl, n, 1009, rfl, rfl, (by decide : (0 : Int) < 1009), p, _, _, rfl, rfl, hp, by rw [List.length_map, sizeLine_eq]; omega, ?_⟩
    refine ⟨_, rfl, n, 1009, rfl, rfl, ⟨by decide, by decide⟩, ⟨⟨_, _, _, _, _, rfl⟩, ⟨_, q2, q3, by rw [List.length_append]; show es.length + 1 ≤ _; omega⟩, q1, np⟩, _, rfl⟩
  · rw [if_neg c]
    exact ⟨⟨⟨_, _, _, _, _, rfl⟩, ⟨es, hp, nn, by omega⟩, up, np⟩, _, rfl⟩
def tL12 (K : PySem.W.Frag) : TS := tFor (iRng1 (tCons (tC (.int 12)) tNil)) (gName 7) (tSeq (tAsg (tOp (rI (fun _ j => 0 < j) fun i j => .int (i % j)) (tOp (rI0 fun i j => .int (i + j)) (tOp (rI0 fun i j => .int (i + j)) (tOp (rI CMul fun i j => .int (i * j)) (tVar 8) (tC (.int 16807))) (tOp (rI CMul fun i j => .int (i * j)) (tVar 7) (tC (.int 7)))) (tC (.int 1))) (tC (.int 2147483647))) (gName 8))
  (tDrop (tBM K "list" rAppend (tVar 3) (tCons (tOp (rI (fun _ j => 0 < j) fun i j => .int (i % j)) (tOp (rI CDiv fun i j => .int (i / j)) (tVar 8) (tC (.int 997))) (tC (.int 1009))) tNil))))
theorem L12_ok {D : Ends} {H H' : Hp} {a p : Addr} {m : Nat} (hm : m ≤ 100000) {o4 o5 o6 o7 : Option V} {n : Int} {ds : List Int} (hp : H' p = some (.lst (ds.map V.int))) (nn : ∀ x ∈ ds, 0 ≤ x) (hl : ds.length ≤ m) (up : ∀ b o, H b = some o → H' b = some o) (np : H p = none) (hD : ∀ σ H', DigS H a p (m + 60) σ H' → D.nx σ H') :
    tL12 K D [some (.ref a), some (.int 0), some (.int 63), some (.ref p), o4, o5, o6, o7, some (.int n)] H' := by
  refine ⟨12, rfl, by decide, by decide, ?_⟩
  refine for_range (fun i σ H' => DigS H a p (m + i) σ H' ∧ ∃ n, σ[8]? = some (some (.int n))) ⟨⟨⟨_, _, _, _, _, rfl⟩, ⟨ds, hp, nn, hl⟩, up, np⟩, n, rfl⟩ (fun i σ H2 hi hP => ?_) fun σ H2 hP => hD σ H2 ⟨hP.1.sl, let ⟨ds, h1, h2, h3⟩ := hP.1.ds; ⟨ds, h1, h2, by have : m + (12 : Int).toNat ≤ m + 60 := Nat.add_le_add_left (by decide) _; omega⟩, hP.1.up, hP.1.np⟩
  obtain ⟨⟨⟨p4, p5, p6, p7, p8, e⟩, ⟨es, hp, nn, hl⟩, up, np⟩, n, e8⟩ := hP
  subst e
  have e8 : p8 = some (.int n) := Option.some.inj e8
  subst e8
  have i12 : i < 12 := hi
  refine ⟨_, rfl, n, 16807, rfl, rfl, .inr ⟨by decide, by decide⟩, _, rfl, _, 7, rfl, rfl, .inr ⟨by decide, by decide⟩, _, _, rfl, rfl, _, 1, rfl, rfl, _, 2147483647, rfl, rfl, (by decide : (0 : Int) < 2147483647), ?_⟩
  obtain ⟨q1, q2, q3⟩ := dig_app (r := (n * 16807 + (0 + (i : Int)) * 7 + 1) % 2147483647 / 997 % 1009) up np nn (Int.emod_nonneg _ (by decide))
  exact ⟨.ref p, rfl, .inl ⟨rfl, _, SqL.of hp⟩, _, rfl, _, 997, rfl, rfl, ⟨by decide, by decide⟩, _, 1009, rfl, rfl, (by decide : (0 : Int) < 1009), p, _, _, rfl, rfl, hp, by rw [List.length_map, sizeLine_eq]; omega, ⟨⟨_, _, _, _, _, rfl⟩, ⟨_, q2, q3, by rw [List.length_append]; show es.length + 1 ≤ _; omega⟩, q1, np⟩, _, rfl⟩
def tMid (K : PySem.W.Frag) : TS := tIfS (tB (tGe (tVar 5) (tOp (rI CPow fun i j => .int (i ^ j.toNat)) (tC (.int 10)) (tC (.int 18))))) (tSeq (tAsg (tVar 5) (gName 6)) (tL60 K))
  (tSeq (tAsg (tOp (rI (fun _ j => 0 < j) fun i j => .int (i % j)) (tOp (rI0 fun i j => .int (i + j)) (tOp (rI0 fun i j => .int (i + j)) (tOp (rI CMul fun i j => .int (i * j)) (tVar 5) (tC (.int 48271)))
    (tOp (rI CMul fun i j => .int (i * j)) (tCB (fun xs H Q => (∃ i, xs = [V.int i] ∧ Q (.int i) H) ∨ ∃ k, xs = [V.bl k] ∧ Q (.int (if k = true then 1 else 0)) H) (tCons (tOp (rI0 fun i j => .int (i + j)) (tVar 4) (tC (.int 1))) tNil)) (tC (.int 69621)))) (tC (.int 11))) (tC (.int 2147483647))) (gName 8)) (tL12 K))
theorem mid_ok {D : Ends} {H H' : Hp} {a p : Addr} {m : Nat} (hm : m ≤ 100000) {o6 o7 o8 : Option V} {k c : Int} {ds : List Int} (hp : H' p = some (.lst (ds.map V.int))) (nn : ∀ x ∈ ds, 0 ≤ x) (hl : ds.length ≤ m) (up : ∀ b o, H b = some o → H' b = some o) (np : H p = none) (hD : ∀ σ H', DigS H a p (m + 60) σ H' → D.nx σ H') :
    tMid K D [some (.ref a), some (.int 0), some (.int 63), some (.ref p), some (.int k), some (.int c), o6, o7, o8] H' := by
  refine ⟨_, rfl, 10, 18, rfl, rfl, ⟨by decide, by decide, by decide⟩, c, _, rfl, rfl, _, rfl, ?_⟩
  show if decide (c ≥ 10 ^ (18 : Int).toNat) = true then _ else _
  by_cases hc : decide (c ≥ 10 ^ (18 : Int).toNat) = true
  · rw [if_pos hc]
    exact ⟨_, rfl, L60_ok hm hp nn hl up np hD⟩
  · rw [if_neg hc]
    exact ⟨_, rfl, c, 48271, rfl, rfl, .inr ⟨by decide, by decide⟩, _, rfl, k, 1, rfl, rfl, .inl ⟨_, rfl, _, 69621, rfl, rfl, .inr ⟨by decide, by decide⟩, _, _, rfl, rfl, _, 11, rfl, rfl, _, 2147483647, rfl, rfl, (by decide : (0 : Int) < 2147483647), L12_ok hm hp nn hl up np hD⟩⟩
theorem ok_digits (F : FunD K "_law_digits" "_law_digits" (defArgs s_law_digits) (defBody s_law_digits) (defScope s_law_digits) [] [] f fd) (FC : FnOk P w K mg base CX0 1 fC fdC ["script", "k"] (spCell K)) (kC : PySem.W.keepIn K (.ref fC) = true) (bC : Binds K fdC ["script", "k"] [])
    (mC : mg "_law_cell" = some (.ref fC)) (mR : mg "range" = none) (mI : mg "int" = none) : FnOk P w K mg base CX0 2 f fd ["script", "first", "last"] (spDig K) := by
  have S := sc_law_digits
  refine F.ok S (fun vs H Q E h => ?_) (fun cdv A outer s H vs Q E hr h => ⟨_, PSs.nox (pss_cons (ps_set (i := 3) S.nd rfl (.inl rfl) (pe_lst pa_nil))
    (pss_cons (ps_for PassesOwn.never rfl (pi_range2 rfl mR (pa_cons (pv 1) (pa_cons (pv 2) pa_nil))) (pg_name (i := 4) S.nd rfl (.inl rfl))
      (pss_cons (ps_set (i := 5) S.nd rfl (.inl rfl) (pe_call FC hr rfl mC kC bC .nil pass0 (pa_cons (pv 0) (pa_cons (pv 4) pa_nil))))
        (pss_cons (ps_if (pt_cmp (pc_lt (pv 5) pe_int)) (pss_one (ps_set (i := 5) S.nd rfl (.inl rfl) (pe_op op_sub pe_int (pe_op op_mul (pv 5) pe_int)))) pss_nil)
          (pss_one (ps_if (pt_cmp (pc_ge (pv 5) (pe_op op_pow pe_int pe_int)))
            (pss_cons (ps_set (i := 6) S.nd rfl (.inl rfl) (pv 5))
              (pss_one (ps_for PassesOwn.never rfl (pi_range1 rfl mR (pa_cons pe_int pa_nil)) (pg_name (i := 7) S.nd rfl (.inl rfl))
                (pss_one (ps_if (pt_cmp (pc_gt (pv 6) pe_int))
                  (pss_cons (ps_expr (pe_bm PySem.F.plainAttrs_list PySem.F.slot_list_append PySem.F.type_list_append mt_append (pv 3) (pa_cons (pe_op op_mod (pv 6) pe_int) pa_nil)))
                    (pss_one (ps_set (i := 6) S.nd rfl (.inl rfl) (pe_op op_fdiv (pv 6) pe_int)))) pss_nil)))))
            (pss_cons (ps_set (i := 8) S.nd rfl (.inl rfl) (pe_op op_mod (pe_op op_add (pe_op op_add (pe_op op_mul (pv 5) pe_int) (pe_op op_mul (pe_callTy call_int1 rfl mI boot_int (pa_cons (pe_op op_add (pv 4) pe_int) pa_nil)) pe_int)) pe_int) pe_int))
              (pss_one (ps_for PassesOwn.never rfl (pi_range1 rfl mR (pa_cons pe_int pa_nil)) (pg_name (i := 7) S.nd rfl (.inl rfl))
                (pss_cons (ps_set (i := 8) S.nd rfl (.inl rfl) (pe_op op_mod (pe_op op_add (pe_op op_add (pe_op op_mul (pv 8) pe_int) (pe_op op_mul (pv 7) pe_int)) pe_int) pe_int))
                  (pss_one (ps_expr (pe_bm PySem.F.plainAttrs_list PySem.F.slot_list_append PySem.F.type_list_append mt_append (pv 3) (pa_cons (pe_op op_mod (pe_op op_fdiv (pv 8) pe_int) pe_int) pa_nil)))))))))))))
      (pss_one (ps_ret (pv 3))))), ?_⟩)
  · obtain ⟨a, ns, e, _⟩ := h
    rw [e]
    rfl
  · obtain ⟨a, ns, e, hs, q⟩ := h
    subst e
    refine ⟨Nat.zero_le _, fun p np => ?_⟩
    have up0 : ∀ b o, H b = some o → upd H p (.lst []) b = some o := fun b o e => by
      rw [upd_ne (ne_of_none e np)]
      exact e
    have hs0 : ∀ H', (∀ b o, H b = some o → H' b = some o) → SqL K H' a (ns.map V.int) := fun H' u => by
      rcases hs with (e | ⟨ob, e⟩) | e
      · exact .inl (.inl (u _ _ e))
      · exact .inl (.inr ⟨ob, u _ _ e⟩)
      · exact .inr e
    refine ⟨.int 0, rfl, .int 63, rfl, 0, 63, rfl, ⟨by decide, by decide, by decide, by decide⟩, ?_⟩
    refine for_range (fun i σ H' => DigS H a p (60 * i) σ H') ⟨⟨_, _, _, _, _, rfl⟩, ⟨[], upd_same, (fun _ z => nomatch z), Nat.le_refl _⟩, up0, np⟩ (fun i σ H2 hi hP => ?_) fun σ H2 hP => ?_
    · obtain ⟨⟨p4, p5, p6, p7, p8, e⟩, ⟨ds, hp, nn, hl⟩, up, np⟩ := hP
      subst e
      have i63 : i < 63 := hi
      have e0 : (0 : Int) + (i : Int) = (i : Nat) := by omega
      refine ⟨.ref a, rfl, .int (0 + (i : Int)), rfl, a, ns, i, by rw [e0]; rfl, hs0 _ up, ?_⟩
      generalize cellOf ns i = c
      have hD : ∀ σ H', DigS H a p (60 * i + 60) σ H' → DigS H a p (60 * (i + 1)) σ H' := fun σ H' z => by
        have : 60 * (i + 1) = 60 * i + 60 := by omega
        rw [this]
        exact z
      refine ⟨_, rfl, c, 0, rfl, rfl, _, rfl, ?_⟩
      show if decide (c < 0) = true then _ else _
      by_cases hc : decide (c < 0) = true
      · rw [if_pos hc]
        exact ⟨_, rfl, c, 2, rfl, rfl, .inr ⟨by decide, by decide⟩, 1, _, rfl, rfl, mid_ok (by omega) hp nn hl up np hD⟩
      · rw [if_neg hc]
        exact mid_ok (by omega) hp nn hl up np hD
    · obtain ⟨⟨p4, p5, p6, p7, p8, e⟩, ⟨ds, hp, nn, hl⟩, up, np⟩ := hP
      subst e
      exact ⟨.ref p, rfl, q p ds H2 nn up np hp⟩
end
end Ex

set_option Elab.async false
set_option linter.all false
set_option maxRecDepth 100000
set_option maxHeartbeats 4000000
/-! G6: a law's statements between its draws: what is known at each, and for every draw. -/
namespace Ex
open PySem PySem.Spec PyProof.Rows L2
variable {T : Tab} {K : PySem.W.Frag} {X : Cx} {μ : Mu} {C : CH} {H : Hp}
/-- the box of draws stands at number 0, outside of the concrete heap -/
def Bx (μ : Mu) (C : CH) (H : Hp) (k : Nat) : Prop := 0 < C.nx ∧ ∃ (pd : Addr) (ds : List Int), Held μ C H (μ 0) (.lst [.ref pd, .int (k : Nat)]) ∧ Held μ C H pd (.lst (ds.map V.int)) ∧ pd ≠ μ 0 ∧ ∀ d ∈ ds, 0 ≤ d
theorem Bx.step {μ' : Mu} {C' : CH} {H' : Hp} {k : Nat} (b : Bx μ C H k) (s : Step K μ C H μ' C' H') : Bx μ' C' H' k := by
  obtain ⟨h0, pd, ds, h1, h2, ne, nn⟩ := b
  have e := s.ag 0 h0
  refine ⟨Nat.lt_of_lt_of_le h0 s.nx, pd, ds, ?_, h2.step s, by rw [e]; exact ne, nn⟩
  rw [e]
  exact h1.step s
variable (T K)
def LSt (l : CL) (C : CH) (k : Nat) (σ : L2.St) (H : Hp) : Prop := ∃ μ, Rel T K μ C H ∧ RL K μ C.nx H l σ ∧ Bx μ C H k
variable {T K}
/-- less is known -/
def LE (C C' : CH) : Prop := C.nx ≤ C'.nx ∧ (∀ n o, C'.get n = some o → C.get n = some o) ∧ (C'.os.map (·.1)).Pairwise (fun a b => b < a) ∧ (∀ n ∈ C'.os.map (·.1), n < C.nx)
theorem LSt.less {l l' : CL} {C' : CH} {k : Nat} {σ : L2.St} (h : LSt T K l C k σ H) (hl : l'.length = l.length) (hs : ∀ (i : Nat) (v : CV), l'[i]? = some (some v) → l[i]? = some (some v)) (hC : LE C C') : LSt T K l' C' k σ H := by
  obtain ⟨μ, r, rl, h0, pd, ds, h1, h2, ne, nn⟩ := h
  obtain ⟨c1, c2, c3, c4⟩ := hC
  have mono : ∀ {v : CV} {x : V}, RV K μ C.nx H v x → RV K μ C'.nx H v x := fun rv => rv.mono c1 (fun _ _ => rfl) fun _ _ h => h
  refine ⟨μ, ⟨fun n o e => ?_, fun n m o u e1 e2 => r.inj n m o u (c2 n o e1) (c2 m u e2), fun n o e => Nat.lt_of_lt_of_le (r.lt n o (c2 n o e)) c1, c3, fun n hn => Nat.lt_of_lt_of_le (c4 n hn) c1⟩, ⟨by rw [hl]; exact rl.len, fun i v e => ?_⟩, Nat.lt_of_lt_of_le h0 c1, pd, ds, ⟨h1.is, ?_⟩, ⟨h2.is, ?_⟩, ne, nn⟩
  · exact (r.obj n o (c2 n o e)).mono c1 (fun _ _ => rfl) (fun _ _ h => h) rfl
  · obtain ⟨x, e1, rv⟩ := rl.at_ i v (hs i v e)
    exact ⟨x, e1, mono rv⟩
  · exact fun ⟨n, o, e, q⟩ => h1.no ⟨n, o, c2 n o e, q⟩
  · exact fun ⟨n, o, e, q⟩ => h2.no ⟨n, o, c2 n o e, q⟩
/-- what a statement asks of the concrete state, for all that follows -/
structure LS where
  go : CL → CH → Nat → (CL → CH → Nat → Prop) → Prop
  mono : ∀ l C k Q Q', (∀ l C k, Q l C k → Q' l C k) → go l C k Q → go l C k Q'
variable (T K)
def tLS (m : LS) : TS := fun D σ H => ∃ l C k, LSt T K l C k σ H ∧ (∀ H', D.rt (.bl true) H') ∧ m.go l C k fun l' C' k' => ∀ σ' H', LSt T K l' C' k' σ' H' → D.nx σ' H'
variable {T K}
/-- a statement by its mirror -/
def lsM (m : SM) : LS where
  go l C k Q := match m l C with
    | .nx l1 C1 => Q l1 C1 k
    | .ret (.bl true) _ => True
    | _ => False
  mono := by
    intro l C k Q Q' h q
    split at q
    · exact h _ _ _ q
    · trivial
    · exact q.elim
def lsSeq (a b : LS) : LS where
  go l C k Q := a.go l C k fun l1 C1 k1 => b.go l1 C1 k1 Q
  mono := fun l C k Q Q' h q => a.mono _ _ _ _ _ (fun l1 C1 k1 z => b.mono _ _ _ _ _ h z) q
def lsNil : LS where
  go l C k Q := Q l C k
  mono := fun _ _ _ _ _ h q => h _ _ _ q
/-- with something chosen -/
def lsEx {α : Type} (m : α → LS) : LS where
  go l C k Q := ∃ p, (m p).go l C k Q
  mono := fun _ _ _ _ _ h ⟨p, q⟩ => ⟨p, (m p).mono _ _ _ _ _ h q⟩
/-- ahead of it, less is known -/
def lsLess (m : LS) : LS where
  go l C k Q := ∃ l' C', (l'.length = l.length ∧ (∀ (i : Nat) (v : CV), l'[i]? = some (some v) → l[i]? = some (some v)) ∧ LE C C') ∧ m.go l' C' k Q
  mono := by
    intro l C k Q Q' h q
    obtain ⟨l', C', z, q⟩ := q
    exact ⟨l', C', z, m.mono _ _ _ _ _ h q⟩
section
variable {st : Stmt} {rest : List Stmt} {m : SM} {a b : LS}
theorem ls_m (h : PS X st (tS T X.K W0 m)) : PS X st (tLS T X.K (lsM m)) := PS.imp h fun D σ H ⟨l, C, k, ⟨μ, r, rl, bx⟩, hr, q⟩ => by
  refine ⟨μ, l, C, r, rl, ?_⟩
  unfold lsM at q
  dsimp only at q
  cases em : m l C with
  | nx l1 C1 =>
    rw [em] at q
    exact fun μ' H' σ' st rel rl' => q σ' H' ⟨μ', rel, rl', bx.step st⟩
  | ret v C1 =>
    rw [em] at q
    cases v with
    | bl t =>
      cases t with
      | true =>
        intro μ' H' x st rel rv
        cases rv
        exact hr H'
      | false => exact (show False from q).elim
    | _ => exact (show False from q).elim
  | bk l1 C1 =>
    rw [em] at q
    exact (show False from q).elim
  | ct l1 C1 =>
    rw [em] at q
    exact (show False from q).elim
  | exc k fs l1 C1 =>
    rw [em] at q
    exact (show False from q).elim
  | bad =>
    rw [em] at q
    exact (show False from q).elim
theorem ls_cons (h1 : PS X st (tLS T X.K a)) (h2 : PSs X rest (tLS T X.K b)) : PSs X (st :: rest) (tLS T X.K (lsSeq a b)) := PSs.imp (pss_cons h1 h2) fun D σ H ⟨l, C, k, s, hr, q⟩ =>
  ⟨l, C, k, s, hr, a.mono _ _ _ _ _ (fun l1 C1 k1 z σ' H' s' => ⟨l1, C1, k1, s', hr, z⟩) q⟩
theorem ls_nil : PSs X [] (tLS T X.K lsNil) := PSs.imp pss_nil fun D σ H ⟨l, C, k, s, hr, q⟩ => q σ H s
theorem ls_less (h : PSs X rest (tLS T X.K b)) : PSs X rest (tLS T X.K (lsLess b)) := PSs.imp h fun D σ H ⟨l, C, k, s, hr, l', C', ⟨z1, z2, z3⟩, q⟩ => ⟨l', C', k, s.less z1 z2 z3, hr, q⟩
theorem pss_ex {α : Type} {ts : α → TS} (h : ∀ p, PSs X rest (ts p)) : PSs X rest (fun D σ H => ∃ p, ts p D σ H) := ⟨fun pins s σ H D I ⟨p, q⟩ => (h p).run pins s σ H D I q⟩
theorem ls_ex {α : Type} {m : α → LS} (h : ∀ p, PSs X rest (tLS T X.K (m p))) : PSs X rest (tLS T X.K (lsEx m)) := PSs.imp (pss_ex h) fun D σ H ⟨l, C, k, s, hr, p, q⟩ => ⟨p, l, C, k, s, hr, q⟩
theorem ps_ex {α : Type} {ts : α → TS} (h : ∀ p, PS X st (ts p)) : PS X st (fun D σ H => ∃ p, ts p D σ H) := ⟨fun pins s σ H D I ⟨p, q⟩ => (h p).run pins s σ H D I q⟩
theorem ls_exS {α : Type} {m : α → LS} (h : ∀ p, PS X st (tLS T X.K (m p))) : PS X st (tLS T X.K (lsEx m)) := PS.imp (ps_ex h) fun D σ H ⟨l, C, k, s, hr, p, q⟩ => ⟨p, l, C, k, s, hr, q⟩
end
/-! ### the draws -/
/-- the box as it lies behind a draw -/
theorem box_draw {l : CL} {σ : L2.St} {k : Nat} {pd : Addr} {ds : List Int} (r : Rel T K μ C H) (rl : RL K μ C.nx H l σ) (h0 : 0 < C.nx) (h1 : Held μ C H (μ 0) (.lst [.ref pd, .int (k : Nat)])) (h2 : Held μ C H pd (.lst (ds.map V.int))) (ne : pd ≠ μ 0) (nn : ∀ d ∈ ds, 0 ≤ d) :
    LSt T K l C (k + 1) σ (upd H (μ 0) (.lst [.ref pd, .int ((k + 1 : Nat) : Int)])) ∧ ∀ {v : CV} {x : V}, RV K μ C.nx H v x → RV K μ C.nx (upd H (μ 0) (.lst [.ref pd, .int ((k + 1 : Nat) : Int)])) v x := by
  have keep : ∀ b, b ≠ μ 0 → upd H (μ 0) (.lst [.ref pd, .int ((k + 1 : Nat) : Int)]) b = H b := fun b n => upd_ne n
  have sq : ∀ a vs, TupAt K H a vs → TupAt K (upd H (μ 0) (.lst [.ref pd, .int ((k + 1 : Nat) : Int)])) a vs := fun a vs h => by
    have n : a ≠ μ 0 := fun z => by
      have h' : H a = some (.tup vs) := h
      rw [z, h1.is] at h'
      cases h'
    exact (keep a n).trans h
  have own : ∀ n o, C.get n = some o → μ n ≠ μ 0 := fun n o e z => h1.no ⟨n, o, e, z⟩
  refine ⟨⟨μ, ⟨fun n o e => (r.obj n o e).mono (Nat.le_refl _) (fun _ _ => rfl) sq (keep _ (own n o e)), r.inj, r.lt, r.dec, r.low⟩, rl.mono (Nat.le_refl _) (fun _ _ => rfl) sq, h0, pd, ds, ⟨upd_same, h1.no⟩, ⟨(keep pd ne).trans h2.is, h2.no⟩, ne, nn⟩, fun rv => rv.mono (Nat.le_refl _) (fun _ _ => rfl) sq⟩
variable (T K)
/-- a call of the draw -/
def tDr (as : AM) : TE := fun σ H Q => ∃ l C k, LSt T K l C k σ H ∧ match as l C with
  | .ok [.ref 0, .int m] C1 => 0 < m ∧ k ≤ 1000 ∧ ∀ (d : Int) (H' : Hp), 0 ≤ d → d < m → LSt T K l C1 (k + 1) σ H' → Q (.int d) H'
  | _ => False
/-- a call of the pick -/
def tPk (as : AM) : TE := fun σ H Q => ∃ l C k, LSt T K l C k σ H ∧ match as l C with
  | .ok [.ref 0, .ref n] C1 => k ≤ 1000 ∧ ∃ xs, C1.get n = some (.lst xs) ∧ xs ≠ [] ∧ ∀ (d : Nat) (v : CV) (H' : Hp) (x : V), xs[d]? = some v → (∃ μ, Rel T K μ C1 H' ∧ RL K μ C1.nx H' l σ ∧ Bx μ C1 H' (k + 1) ∧ RV K μ C1.nx H' v x) → Q x H'
  | _ => False
variable {T K}
section
variable {as : AM} {f : Addr} {x : Str} {e : Expr} {es : List Expr} {p pos : Pos} {k j : Nat} {ps : List Str}
theorem pe_draw (G : Good X.prog X.w X.K X.mg X.base CX0 k f ps spDraw) (hr : Room j X.A) (hj : k ≤ j) (hg : Gl X x) (hm : X.mg x = some (.ref f)) (ha : PA X (e :: es) (tA T X.K W0 as))
    (hdb : (x == ("__debug__" : Str)) = false := by decide) (he : starEach (e :: es) X.env = (false, eval e X.env) :: starEach es X.env := by rfl) (hpl : (backTo pos (starEach es X.env)).any (·.1) = false := by rfl) : PE X (.Call (.Name x p) (e :: es) [] pos) (tDr T X.K as) := by
  obtain ⟨fd, F, hb, hk⟩ := G
  refine PE.imp (pe_callS (E := fun _ => E0) F (hr.mono hj) hg hm hk hb (fun σ _ _ _ _ _ _ z => z.elim) ha hdb he hpl) fun σ H Q ⟨l, C, kk, ⟨μ, r, rl, bx⟩, q⟩ => ?_
  refine ⟨μ, l, C, r, rl, ?_⟩
  cases ea : as l C with
  | bad =>
    rw [ea] at q
    exact q
  | exc k fs l' C' =>
    rw [ea] at q
    exact q.elim
  | ok vs C1 =>
    rw [ea] at q
    intro μ1 H1 xs st rel rvs
    split at q
    · rename_i m C2 eq
      cases eq
      cases rvs with
      | cons h1 h2 =>
      cases h2 with
      | cons h2 h3 =>
      cases h3
      cases h1
      cases h2
      obtain ⟨m0, kl, q⟩ := q
      obtain ⟨g0, pd, ds, b1, b2, ne, nn⟩ := bx.step st
      obtain ⟨z1, _⟩ := box_draw rel (rl.step st) g0 b1 b2 ne nn
      exact ⟨μ1 0, pd, ds, kk, m, rfl, b1.is, b2.is, ne, nn, m0, kl, fun d d0 dm => q d _ d0 dm z1⟩
    · exact q.elim
theorem pe_pick (G : Good X.prog X.w X.K X.mg X.base CX0 k f ps spPick) (hr : Room j X.A) (hj : k ≤ j) (hg : Gl X x) (hm : X.mg x = some (.ref f)) (ha : PA X (e :: es) (tA T X.K W0 as))
    (hdb : (x == ("__debug__" : Str)) = false := by decide) (he : starEach (e :: es) X.env = (false, eval e X.env) :: starEach es X.env := by rfl) (hpl : (backTo pos (starEach es X.env)).any (·.1) = false := by rfl) : PE X (.Call (.Name x p) (e :: es) [] pos) (tPk T X.K as) := by
  obtain ⟨fd, F, hb, hk⟩ := G
  refine PE.imp (pe_callS (E := fun _ => E0) F (hr.mono hj) hg hm hk hb (fun σ _ _ _ _ _ _ z => z.elim) ha hdb he hpl) fun σ H Q ⟨l, C, kk, ⟨μ, r, rl, bx⟩, q⟩ => ?_
  refine ⟨μ, l, C, r, rl, ?_⟩
  cases ea : as l C with
  | bad =>
    rw [ea] at q
    exact q
  | exc k fs l' C' =>
    rw [ea] at q
    exact q.elim
  | ok vs C1 =>
    rw [ea] at q
    intro μ1 H1 xs st rel rvs
    split at q
    · rename_i n C2 eq
      cases eq
      cases rvs with
      | cons h1 h2 =>
      cases h2 with
      | cons h2 h3 =>
      cases h3
      cases h1
      cases h2
      obtain ⟨kl, ys, hn, y0, q⟩ := q
      obtain ⟨g0, pd, ds, b1, b2, ne, nn⟩ := bx.step st
      obtain ⟨zs, hz, rz⟩ := rel.obj n _ hn
      obtain ⟨⟨μ2, z1, z2, z3⟩, mv⟩ := box_draw rel (rl.step st) g0 b1 b2 ne nn
      have own : μ1 n ≠ μ1 0 := fun z => b1.no ⟨n, _, hn, z⟩
      have zn : zs ≠ [] := fun z => by
        rw [z] at rz
        cases rz
        exact y0 rfl
      refine ⟨μ1 0, pd, μ1 n, ds, kk, zs, rfl, b1.is, b2.is, ne, hz, own, nn, zn, kl, fun d x ex => ?_⟩
      obtain ⟨lt, _⟩ := List.getElem?_eq_some_iff.mp ex
      have len := rz.length
      obtain ⟨x', e1, rv⟩ := rz.get (i := d) (List.getElem?_eq_getElem (l := ys) (by omega))
      have ee : x' = x := Option.some.inj (e1.symm.trans ex)
      subst ee
      have keep : ∀ b, b ≠ μ1 0 → upd H1 (μ1 0) (.lst [.ref pd, .int ((kk + 1 : Nat) : Int)]) b = H1 b := fun b n => upd_ne n
      have sq : ∀ a vs, TupAt X.K H1 a vs → TupAt X.K (upd H1 (μ1 0) (.lst [.ref pd, .int ((kk + 1 : Nat) : Int)])) a vs := fun a vs h => by
        have n : a ≠ μ1 0 := fun z => by
          have h' : H1 a = some (.tup vs) := h
          rw [z, b1.is] at h'
          cases h'
        exact (keep a n).trans h
      have own' : ∀ n o, C1.get n = some o → μ1 n ≠ μ1 0 := fun n o e z => b1.no ⟨n, o, e, z⟩
      exact q d _ _ _ (List.getElem?_eq_getElem (l := ys) (by omega)) ⟨μ1, ⟨fun n o e => (rel.obj n o e).mono (Nat.le_refl _) (fun _ _ => rfl) sq (keep _ (own' n o e)), rel.inj, rel.lt, rel.dec, rel.low⟩, (rl.step st).mono (Nat.le_refl _) (fun _ _ => rfl) sq, ⟨g0, pd, ds, ⟨upd_same, b1.no⟩, ⟨(keep pd ne).trans b2.is, b2.no⟩, ne, nn⟩, mv rv⟩
    · exact q.elim
/-- a draw is stored, with a number added -/
def lsDr (i : Nat) (c : Int) (as : AM) : LS where
  go l C k Q := match as l C with
    | .ok [.ref 0, .int m] C1 => 0 < m ∧ k ≤ 1000 ∧ ∀ d : Int, 0 ≤ d → d < m → Q (l.set i (some (.int (c + d)))) C1 (k + 1)
    | _ => False
  mono := by
    intro l C k Q Q' h q
    split at q
    · exact ⟨q.1, q.2.1, fun d d0 dm => h _ _ _ (q.2.2 d d0 dm)⟩
    · exact q.elim
def lsPk (i : Nat) (as : AM) : LS where
  go l C k Q := match as l C with
    | .ok [.ref 0, .ref n] C1 => k ≤ 1000 ∧ ∃ xs, C1.get n = some (.lst xs) ∧ xs ≠ [] ∧ ∀ (d : Nat) (v : CV), xs[d]? = some v → Q (l.set i (some v)) C1 (k + 1)
    | _ => False
  mono := by
    intro l C k Q Q' h q
    split at q
    · obtain ⟨q1, xs, q2, q3, q4⟩ := q
      exact ⟨q1, xs, q2, q3, fun d v e => h _ _ _ (q4 d v e)⟩
    · exact q.elim
theorem LSt.setI {l : CL} {k : Nat} {σ : L2.St} (s : LSt T K l C k σ H) (i : Nat) (n : Int) : LSt T K (l.set i (some (.int n))) C k (σ.set i (some (.int n))) H := by
  obtain ⟨μ, r, rl, bx⟩ := s
  exact ⟨μ, r, rl.set i (.int n), bx⟩
theorem ls_dr0 {y : Str} {pos' pos2 : Pos} (i : Nat) (hN : X.N.Nodup) (hi : X.N[i]? = some y) (hx : Loc X.env.scope y) (he : PE X e (tDr T X.K as)) (hs : swapsWith e (some (.Name y pos')) pos2.line X.env = pure false := by rfl) (hf : X.fn y = true ∨ X.env.scope.names.lookup y = some .local := by first | exact .inl rfl | exact .inr rfl | assumption) :
    PS X (.Assign [.Name y pos'] e pos2) (tLS T X.K (lsDr i 0 as)) := PS.imp (ps_set hN hi hx he hs hf) fun D σ H ⟨l, C, k, s, hr, q⟩ => by
  refine ⟨l, C, k, s, ?_⟩
  unfold lsDr at q
  dsimp only at q
  split at q
  · rename_i m C1 ea
    refine ⟨q.1, q.2.1, fun d H' d0 dm s' => ?_⟩
    have := q.2.2 d d0 dm (σ.set i (some (.int d))) H'
    rw [Int.zero_add] at this
    exact this (s'.setI i d)
  · exact q.elim
theorem ls_dr1 {y : Str} {pos' pos2 pos3 pos4 : Pos} {c : Int} {kk : Nat} (i : Nat) (hN : X.N.Nodup) (hi : X.N[i]? = some y) (hx : Loc X.env.scope y) (he : PE X e (tDr T X.K as)) (hs : swapsWith (.BinOp (.Constant (.int c) kk pos3) .Add e pos4) (some (.Name y pos')) pos2.line X.env = pure false := by rfl) (hf : X.fn y = true ∨ X.env.scope.names.lookup y = some .local := by first | exact .inl rfl | exact .inr rfl | assumption) :
    PS X (.Assign [.Name y pos'] (.BinOp (.Constant (.int c) kk pos3) .Add e pos4) pos2) (tLS T X.K (lsDr i c as)) := PS.imp (ps_set hN hi hx (pe_op op_add pe_int he) hs hf) fun D σ H ⟨l, C, k, s, hr, q⟩ => by
  refine ⟨l, C, k, s, ?_⟩
  unfold lsDr at q
  dsimp only at q
  split at q
  · rename_i m C1 ea
    exact ⟨q.1, q.2.1, fun d H' d0 dm s' => ⟨c, d, rfl, rfl, q.2.2 d d0 dm _ H' (s'.setI i _)⟩⟩
  · exact q.elim
theorem ls_pk {y : Str} {pos' pos2 : Pos} (i : Nat) (hN : X.N.Nodup) (hi : X.N[i]? = some y) (hx : Loc X.env.scope y) (he : PE X e (tPk T X.K as)) (hs : swapsWith e (some (.Name y pos')) pos2.line X.env = pure false := by rfl) (hf : X.fn y = true ∨ X.env.scope.names.lookup y = some .local := by first | exact .inl rfl | exact .inr rfl | assumption) :
    PS X (.Assign [.Name y pos'] e pos2) (tLS T X.K (lsPk i as)) := PS.imp (ps_set hN hi hx he hs hf) fun D σ H ⟨l, C, k, s, hr, q⟩ => by
  refine ⟨l, C, k, s, ?_⟩
  unfold lsPk at q
  dsimp only at q
  split at q
  · rename_i n C1 ea
    obtain ⟨q1, xs, q2, q3, q4⟩ := q
    exact ⟨q1, xs, q2, q3, fun d v H' x ex ⟨μ, z1, z2, z3, z4⟩ => q4 d v ex _ H' ⟨μ, z1, z2.set i z4, z3⟩⟩
  · exact q.elim
end
end Ex

set_option Elab.async false
set_option linter.all false
set_option maxRecDepth 100000
set_option maxHeartbeats 4000000
/-! G7: answers told ahead; except C as e: if e.f != text: return False. -/
namespace Ex
open PySem PySem.Spec PyProof.Rows L2
variable {T : Tab} {X : Cx} {W : WX}
theorem Good.imp {P : Program} {w : World} {K : PySem.W.Frag} {mg : Str → Option Value} {base : Heap} {CX : CXT} {k : Nat} {f : Addr} {ps : List Str} {sp sp' : Sp} (G : Good P w K mg base CX k f ps sp) (h : ∀ vs H Q E, sp' vs H Q E → sp vs H Q E) : Good P w K mg base CX k f ps sp' := by
  obtain ⟨fd, F, hb, hk⟩ := G
  exact ⟨fd, F.imp h, hb, hk⟩
def oneL (n i : Nat) (v : CV) : CL := (repN n).set i (some v)
/-- an expression that reads the text in slot i alone, told by its answers -/
def xOrE (n i : Nat) (tab : List Nat → Option CV) : EM := fun l C => match Nat.beq l.length n, nthO l i with
  | true, some (.str s) => (match tab s with
    | some w => .ok w C
    | none => .bad)
  | _, _ => .bad
theorem xe_orE {e : Expr} {m : EM} {n i : Nat} {tab : List Nat → Option CV} (he : PE X e (tX T X.K W m)) (ht : ∀ s w, tab s = some w → flatV w = true ∧ ∃ C', m (oneL n i (.str s)) C00 = .ok w C') : PE X e (tX T X.K W (xOrE n i tab)) := by
  refine PE.imp he fun σ H Q ⟨μ, l, C, r, rl, h⟩ => ?_
  unfold xOrE at h
  split at h
  · rename_i s el es
    cases et : tab s with
    | none =>
      rw [et] at h
      exact (show False from h).elim
    | some w =>
      rw [et] at h
      obtain ⟨fw, C1, em⟩ := ht s w et
      have len := beq_t el
      refine ⟨μ, oneL n i (.str s), C00, rel0, ⟨?_, fun j v e => ?_⟩, ?_⟩
      · rw [rl.len, len]
        unfold oneL
        rw [List.length_set, repN_eq, List.length_replicate]
      · unfold oneL at e
        rw [List.getElem?_set] at e
        by_cases ij : i = j
        · subst ij
          rw [if_pos rfl] at e
          split at e
          · cases e
            obtain ⟨x, q1, q2⟩ := rl.at_ i _ (nthO_ok es)
            exact ⟨x, q1, q2.flat rfl⟩
          · cases e
        · rw [if_neg ij, repN_eq, List.getElem?_replicate] at e
          split at e <;> cases e
      · rw [em]
        intro μ1 H1 x st rel rx
        obtain ⟨r1, s1⟩ := iso_back r st
        exact h μ H1 x s1 r1 (rx.flat fw)
  · exact (show False from h).elim
theorem xt_iso {e : Expr} {m : EM} (he : L2.PT X e (tT T X.K W m)) : L2.PT X e (tT T X.K W (xIso m)) := by
  refine Ex.PT.imp he fun σ H Q ⟨μ, l, C, r, rl, h⟩ => ⟨μ, flatL l, C00, rel0, flat_rl rl, ?_⟩
  unfold xIso at h
  cases em : m (flatL l) C00 with
  | ok v C1 =>
    rw [em] at h
    dsimp only at h
    cases ef : flatV v with
    | false =>
      rw [ef] at h
      exact (show False from h).elim
    | true =>
      rw [ef] at h
      intro μ1 H1 x st rel rv
      obtain ⟨r1, s1⟩ := iso_back r st
      exact h μ H1 x s1 r1 (rv.flat ef)
  | exc k fs l' C' =>
    rw [em] at h
    exact (show False from h).elim
  | bad =>
    rw [em] at h
    exact h
def sTryIf (c i g : Nat) (z : List Nat) (b : SM) : SM := fun l C => match b l C with
  | .nx l1 C1 => .nx l1 C1
  | .ret v C1 => .ret v C1
  | .bk l1 C1 => .bk l1 C1
  | .ct l1 C1 => .ct l1 C1
  | .bad => .bad
  | .exc k fs l1 C1 => (match Nat.beq k c, Nat.blt i l1.length, lkN fs g with
    | true, true, some (.str s) => (match eqL s z with
      | true => .nx (l1.set i none) C1
      | false => .bad)
    | _, _, _ => .bad)
theorem xs_tryIf {c i g : Nat} {z : List Nat} {b : SM} {x n gn : Str} {body : List Stmt} {np pos pos' p1 p2 p3 p4 p5 p6 p7 : Pos} {k1 k2 : Nat} {zs : Str} (hz : zs = ⟨z.toArray⟩) (hs : X.stack = X.env :: X.outer) (hf : X.env.frame = some X.env.locals) (hN : X.N.Nodup) (hi : X.N[i]? = some n) (hln : X.env.kindOf n = some .local) (tk : L2N.Takes X W) (hc : Names X x (.ref (T.cls c))) (hex : PySem.W.exmOne X.K (.ref (T.cls c)) (.ref (T.cls c)) = some true)
    (xf : XfC X.K (T.cls c)) (no2 : PySem.W.findIn X.K (.ref (T.cls c)) gn = some none) (e2 : T.nms[g]? = some gn)
    (hv : ∀ (a : Addr) (oe : Obj) (pn : List (Addr × Obj)) (p : Pos), PE (X.suite a ((a, oe) :: pn)) (.Name n p) (tVar i))
    (hb : ∀ (W' : WX) (pn : List (Addr × Obj)) (xe : Value → Shared → Prop), L2N.Takes (X.tr pn xe) W' → PassesOwn (model X.prog X.w) X.A X.env xe → PSs (X.tr pn xe) body (tS T X.K W' b)) :
    PS X (.Try body [.ExceptHandler (some (.Name x np)) (some n) [.If (.Compare (.Attribute (.Name n p1) gn p2) [.NotEq] [.Constant (.str zs) k1 p3] p4) [.Return (some (.Constant (.bool false) k2 p5)) p6] [] p7] pos'] [] [] pos) (tS T X.K W (sTryIf c i g z b)) := by
  subst hz
  refine PS.imp (L2N.ps_try_as (tb := fun W' => tS T X.K W' b) (ts := fun a cls d => tIfS (tB (tOp rNe (tXf a cls d (T.cls c) gn (tVar i)) (tC (.str ⟨z.toArray⟩)))) (tRet (tC (.bl false))) tNext) hs hf hN hi hln hc tk hb fun a oe cls d pn hz hfv => pss_one (ps_if (pt_cmpR op_ne (pe_xf xf no2 (L2N.Zn.zc hz) hfv (hv a oe pn p1)) pe_str (nomark _)) (pss_one (ps_ret pe_bl)) pss_nil)) fun D σ H ⟨μ, l, C, r, rl, h⟩ => ?_
  refine ⟨μ, l, C, r, rl, ?_⟩
  unfold sTryIf at h
  cases ea : b l C with
  | exc k fs l1 C1 =>
    rw [ea] at h
    dsimp only at h
    split at h
    · rename_i s h1 h2 h4
      have ek := beq_t h1
      subst ek
      cases ez : eqL s z with
      | false =>
        rw [ez] at h
        exact (show False from h).elim
      | true =>
      rw [ez] at h
      dsimp only at h
      have es := (eqL_ok s z).mp ez
      subst es
      intro μ' H' σ' cls d st rel rl' xr
      obtain ⟨ec, dd, gs, ed, eg, fields⟩ := xr
      subst ec ed
      obtain ⟨z2, y2, q4, q5, q6⟩ := fields g _ h4
      rw [e2] at q4
      cases q4
      cases q6
      have il : i < σ'.length := by
        rw [rl'.len]
        simpa using h2
      refine ⟨true, hex, fun _ a na => ?_, fun z => nomatch z⟩
      have sl : (σ'.set i (some (V.ref a)))[i]? = some (some (V.ref a)) := List.getElem?_set_self il
      refine ⟨.ref a, sl, rfl, rfl, dd, gs, _, rfl, eg, q5, rfl, _, rfl, ?_⟩
      have ed : (!decide (V.str ⟨s.toArray⟩ = V.str ⟨s.toArray⟩)) = false := by
        rw [decide_eq_true rfl]
        rfl
      show if (!decide (V.str ⟨s.toArray⟩ = V.str ⟨s.toArray⟩)) = true then _ else _
      rw [ed, if_neg Bool.false_ne_true]
      refine h μ' H' _ st rel ?_
      have := (rl'.wipe i)
      rw [List.set_set]
      exact this
    · exact (show False from h).elim
  | nx l1 C1 =>
    rw [ea] at h
    exact h
  | ret v C1 =>
    rw [ea] at h
    exact h
  | bk l1 C1 =>
    rw [ea] at h
    exact h
  | ct l1 C1 =>
    rw [ea] at h
    exact h
  | bad =>
    rw [ea] at h
    exact h
end Ex

set_option Elab.async false
set_option linter.all false
set_option maxRecDepth 100000
set_option maxHeartbeats 0
namespace Ex
open PySem PySem.Spec PyProof.Rows L2
def m_J : EM := xMeth 2 m_Desk_journal (xFn m_replay_desk (aCons (xVar 5) aNil)) aNil
abbrev TabS := {tab : List Nat → Option CV // ∀ s w, tab s = some w → flatV w = true ∧ ∃ C', m_law_said [.str s] C00 = .ok w C'}
abbrev TabJ := {tab : List Nat → Option CV // ∀ s w, tab s = some w → flatV w = true ∧ ∃ C', m_J (oneL 15 5 (.str s)) C00 = .ok w C'}
def ml_1 : SM := sAsg (xCall fLst (aCons (xC (.str [112, 117, 116, 32, 97, 32, 48, 32, 49, 32, 50, 32, 47, 32, 50, 32, 51])) (aCons (xC (.str [97, 100, 100, 32, 97, 32, 51, 32, 52])) (aCons (xC (.str [100, 105, 118, 105, 100, 101, 32, 97, 32, 48, 32, 49])) (aCons (xC (.str [112, 117, 116, 32, 98, 32, 48, 32, 49, 32, 47, 32, 48, 32, 51, 32, 47, 32, 49, 32, 50, 32, 47, 32, 50, 32, 51])) (aCons (xC (.str [99, 111, 108, 108, 97, 112, 115, 101, 32, 97, 32, 52])) (aCons (xC (.str [102, 108, 105, 112, 32, 98, 32, 48])) (aCons (xC (.str [100, 114, 111, 112, 32, 97])) (aCons (xC (.str [117, 110, 100, 111])) (aCons (xC (.str [97, 100, 100, 32, 98, 32, 53])) aNil)))))))))) (.nm 2)
def as_2 : AM := (aCons (xVar 1) (aCons (xCall fLen (aCons (xVar 2) aNil)) aNil))
def ml_3 : SM := sAsg (xSl (xVar 2) oNone (oSome (xVar 3))) (.nm 4)
def ml_4 : SM := sAsg (xBM 0 fJoin (xC (.str [])) (aCons (xLc (iSeqL (xVar 4)) [14] (.nm 14) none (x2 fAdd (xVar 14) (xC (.str [10])))) aNil)) (.nm 5)
def ml_5 (tab : List Nat → Option CV) (tabJ : List Nat → Option CV) : SM := sIf (yOr (x2 fNotN (xFn (orF tab) (aCons (xVar 5) aNil)) (xC .non)) (yOr (x2 fNe (xOrE 15 5 tabJ) (xVar 5)) (xIso (x2 fNe (xMeth 2 m_Desk_names (xFn m_replay_desk (aCons (xC (.str [])) aNil)) aNil) (xCall fLst aNil))))) (sSeq (sRet (xC (.bl false))) sNil) sNil
def ml_6 : SM := sAsg (xCall fLst (aCons (xC (.str [])) (aCons (xC (.str [112, 117, 116])) (aCons (xC (.str [112, 117, 116, 32, 97])) (aCons (xC (.str [112, 117, 116, 32, 32, 48])) (aCons (xC (.str [112, 117, 116, 32, 99, 32, 49, 32, 48])) (aCons (xC (.str [112, 117, 116, 32, 99, 32, 48, 32, 47, 32, 48, 32, 49])) (aCons (xC (.str [112, 117, 116, 32, 99])) (aCons (xC (.str [80, 117, 116, 32, 99, 32, 48])) (aCons (xC (.str [100, 114, 111, 112])) (aCons (xC (.str [100, 114, 111, 112, 32, 97, 32, 98])) (aCons (xC (.str [97, 100, 100, 32, 97])) (aCons (xC (.str [97, 100, 100, 32, 98, 32, 48, 32, 48])) (aCons (xC (.str [97, 100, 100, 32, 98, 32, 120])) (aCons (xC (.str [117, 110, 100, 111, 32])) (aCons (xC (.str [117, 110, 100, 111, 32, 120])) aNil)))))))))))))))) (.nm 6)
def ml_7 : SM := sAsg (x2 fAdd (xVar 6) (xCall fLst (aCons (xC (.str [99, 111, 108, 108, 97, 112, 115, 101, 32, 98])) (aCons (xC (.str [102, 108, 105, 112, 32, 98])) (aCons (xC (.str [116, 117, 114, 110, 32, 98, 32, 48])) (aCons (xC (.str [100, 105, 118, 105, 100, 101, 32, 98, 32, 49, 32, 48])) (aCons (xC (.str [32, 117, 110, 100, 111])) (aCons (xC (.str [112, 117, 116, 32, 99, 32, 48, 32, 32, 49])) (aCons (xC (.str [97, 100, 100, 32, 98, 32, 45, 49])) (aCons (xC (.str [97, 100, 100, 32, 98, 32, 48, 32, 49, 32])) (aCons (xC (.str [112, 117, 116, 32, 99, 32, 48, 32, 49, 32, 47, 50])) aNil))))))))))) (.nm 6)
def ml_8 : SM := sAsg (xCall fLst (aCons (xC (.str [100, 114, 111, 112, 32, 122, 122])) (aCons (xC (.str [112, 117, 116, 32, 65, 32, 48])) (aCons (xC (.str [112, 117, 116, 32, 98, 32, 48])) (aCons (xC (.str [97, 100, 100, 32, 122, 122, 32, 48])) (aCons (xC (.str [97, 100, 100, 32, 98, 32, 48, 32, 49])) (aCons (xC (.str [99, 111, 108, 108, 97, 112, 115, 101, 32, 98, 32, 55, 55])) (aCons (xC (.str [100, 105, 118, 105, 100, 101, 32, 98, 32, 48])) (aCons (xC (.str [102, 108, 105, 112, 32, 98, 32, 55, 55])) (aCons (xC (.str [112, 117, 116, 32, 50, 99, 32, 48])) (aCons (xC (.str [112, 117, 116, 32, 116, 111, 111, 108, 111, 110, 103, 110, 97, 109, 101, 115, 32, 48])) (aCons (xC (.str [100, 105, 118, 105, 100, 101, 32, 98, 32, 48, 32, 55, 55])) aNil)))))))))))) (.nm 7)
def as_9 : AM := (aCons (xVar 1) (aCons (x2 fAdd (xVar 3) (xC (.int 1))) aNil))
def as_10 : AM := (aCons (xVar 1) (aCons (xVar 6) aNil))
def ml_11 (tab : List Nat → Option CV) : SM := sIf (x2 fNe (xFn (orF tab) (aCons (x2 fAdd (x2 fAdd (x2 fAdd (xBM 0 fJoin (xC (.str [])) (aCons (xLc (iSeqL (xSl (xVar 4) oNone (oSome (xVar 8)))) [14] (.nm 14) none (x2 fAdd (xVar 14) (xC (.str [10])))) aNil)) (xVar 9)) (xC (.str [10]))) (xC (.str [100, 114, 111, 112, 32, 122, 122, 10]))) aNil)) (xCall fTup (aCons (x2 fAdd (xVar 8) (xC (.int 1))) (aCons (xC (.str [110, 111, 116, 32, 97, 110, 32, 101, 110, 116, 114, 121])) aNil)))) (sSeq (sRet (xC (.bl false))) sNil) sNil
def as_12 : AM := (aCons (xVar 1) (aCons (xVar 7) aNil))
def ml_13 : SM := sIf (yAnd (x2 fIn (xVar 9) (xCall fTup (aCons (xC (.str [112, 117, 116, 32, 98, 32, 48])) (aCons (xC (.str [97, 100, 100, 32, 98, 32, 48, 32, 49])) aNil)))) (x2 fLt (xVar 8) (xC (.int 4)))) (sSeq (sAsg (xC (.str [100, 114, 111, 112, 32, 122, 122])) (.nm 9)) sNil) sNil
def ml_14 : SM := sIf (yAnd (x2 fEq (xVar 9) (xC (.str [97, 100, 100, 32, 98, 32, 48, 32, 49]))) (x2 fGt (xVar 8) (xC (.int 5)))) (sSeq (sAsg (xC (.str [100, 114, 111, 112, 32, 122, 122])) (.nm 9)) sNil) sNil
def ml_15 (tab : List Nat → Option CV) : SM := sIf (x2 fNe (xFn (orF tab) (aCons (x2 fAdd (x2 fAdd (x2 fAdd (xBM 0 fJoin (xC (.str [])) (aCons (xLc (iSeqL (xSl (xVar 4) oNone (oSome (xVar 8)))) [14] (.nm 14) none (x2 fAdd (xVar 14) (xC (.str [10])))) aNil)) (xVar 9)) (xC (.str [10]))) (xC (.str [120, 10]))) aNil)) (xCall fTup (aCons (x2 fAdd (xVar 8) (xC (.int 1))) (aCons (xC (.str [114, 101, 102, 117, 115, 101, 100])) aNil)))) (sSeq (sRet (xC (.bl false))) sNil) sNil
def ml_16 (tab : List Nat → Option CV) : SM := sIf (yOr (x2 fNe (xFn (orF tab) (aCons (xC (.str [117, 110, 100, 111, 10])) aNil)) (xCall fTup (aCons (xC (.int 1)) (aCons (xC (.str [114, 101, 102, 117, 115, 101, 100])) aNil)))) (x2 fNe (xFn (orF tab) (aCons (x2 fAdd (xVar 5) (xC (.str [117, 110, 100, 111]))) aNil)) (xCall fTup (aCons (x2 fAdd (xVar 3) (xC (.int 1))) (aCons (xC (.str [110, 111, 116, 32, 97, 110, 32, 101, 110, 116, 114, 121])) aNil))))) (sSeq (sRet (xC (.bl false))) sNil) sNil
def ml_17 : SM := sAsg (xMake 2 m_Desk_init aNil) (.nm 10)
def ml_18 : SM := sFor (iOne ri1 (aCons (xC (.int 20)) aNil)) (.nm 11) (sSeq (sDrop (xMeth 2 m_Desk_put (xVar 10) (aCons (x2 fAdd (xC (.str [110])) (xCall fStr (aCons (xVar 11) aNil))) (aCons (xCall fTup (aCons (xCall fTup (aCons (xCall fInt (aCons (xVar 11) aNil)) aNil)) aNil)) aNil)))) sNil)
def ml_19 : SM := sTryIf 6 12 17 [109, 97, 110, 121] (sSeq (sDrop (xMeth 2 m_Desk_put (xVar 10) (aCons (xC (.str [109, 111, 114, 101])) (aCons (xCall fTup (aCons (xCall fTup (aCons (xC (.int 0)) aNil)) aNil)) aNil)))) sNil)
def ml_20 : SM := sAsg (xBM 0 fJoin (xC (.str [])) (aCons (xLc (iOne ri1 (aCons (xC (.int 20)) aNil)) [11] (.nm 11) none (x2 fAdd (x2 fAdd (x2 fAdd (x2 fAdd (xC (.str [112, 117, 116, 32, 110])) (xCall fStr (aCons (xVar 11) aNil))) (xC (.str [32]))) (xCall fStr (aCons (xVar 11) aNil))) (xC (.str [10])))) aNil)) (.nm 13)
def ml_21 : SM := sIf (yOr (x2 fNe (xMeth 2 m_Desk_journal (xVar 10) aNil) (xVar 13)) (yOr (x2 fNe (xCall fLen (aCons (xMeth 2 m_Desk_names (xVar 10) aNil) aNil)) (xC (.int 20))) (x2 fNe (xMeth 2 m_Desk_kinds (xVar 10) aNil) (xCall fLst (aCons (xCall fSorted (aCons (xLc (iOne ri1 (aCons (xC (.int 20)) aNil)) [11] (.nm 11) none (x2 fAdd (xC (.str [110])) (xCall fStr (aCons (xVar 11) aNil)))) aNil)) aNil))))) (sSeq (sRet (xC (.bl false))) sNil) sNil
def ml_22 (tab : List Nat → Option CV) : SM := sRet (x2 fEq (xFn (orF tab) (aCons (x2 fAdd (xVar 13) (xC (.str [112, 117, 116, 32, 109, 111, 114, 101, 32, 48, 10]))) aNil)) (xCall fTup (aCons (xC (.int 21)) (aCons (xC (.str [114, 101, 102, 117, 115, 101, 100])) aNil))))
end Ex

set_option Elab.async false
set_option linter.all false
set_option maxRecDepth 100000
set_option maxHeartbeats 0
/-! G9: the law, statement by statement. -/
namespace Ex
open PySem PySem.Spec PyProof.Rows L2
theorem takesN_none {X : Cx} : L2N.Takes X (fun _ _ _ _ => False) := fun _ _ ⟨_, _, _, _, _, _, _, _, _, _, _, _, _, _, _, _, w⟩ => w.elim
def lsLaw : LS := (lsSeq (lsM ml_1) (lsSeq (lsDr 3 1 as_2) (lsSeq (lsM ml_3) (lsSeq (lsM ml_4) (lsSeq ((lsEx fun q : TabS × TabJ => lsM (ml_5 q.1.1 q.2.1))) (lsSeq (lsM ml_6) (lsSeq (lsM ml_7) (lsSeq (lsM ml_8) (lsLess (lsSeq (lsDr 8 0 as_9) (lsSeq (lsPk 9 as_10) (lsSeq ((lsEx fun q : TabS => lsM (ml_11 q.1))) (lsLess (lsSeq (lsPk 9 as_12) (lsSeq (lsM ml_13) (lsSeq (lsM ml_14) (lsSeq ((lsEx fun q : TabS => lsM (ml_15 q.1))) (lsLess (lsSeq ((lsEx fun q : TabS => lsM (ml_16 q.1))) (lsLess (lsSeq (lsM ml_17) (lsSeq (lsM ml_18) (lsSeq (lsM ml_19) (lsSeq (lsM ml_20) (lsSeq (lsM ml_21) (lsSeq ((lsEx fun q : TabS => lsM (ml_22 q.1))) lsNil))))))))))))))))))))))))))
theorem sc_law : FnScope ["script", "box", "lines", "many", "rows", "text", "wrong", "bad", "at", "line", "desk", "k", "e", "full", "row"] ["script"] (defScope s_law) := ⟨rfl, rfl, rfl, by decide +kernel, rfl, by decide +kernel, by decide +kernel⟩
def lawRest : List Stmt := (defBody s_law).drop 1
section
variable {P : Program} {w : World} {K : PySem.W.Frag} {mg : Str → Option Value} {base : Heap} {f : Addr} {fDr fPk : Addr}
theorem law_rest (G : Cm P K mg) (G_draw : Good P w K mg base CX0 1 (He.ga K "_law_draw") ["box", "m"] spDraw) (G_pick : Good P w K mg base CX0 2 (He.ga K "_law_pick") ["box", "rows"] spPick) (cdv : Value) (A : Around) (outer : List Env) (s : Shared) (H : Hp) (E : XK) (hr : Room 12 (A.deeper (envOfC "law" (defScope s_law) s.heap.objs.size f cdv))) (hu : (A.deeper (envOfC "law" (defScope s_law) s.heap.objs.size f cdv)).units + 65 < cLine) :
    PSs (cxOf CX0 P w K mg base ["script", "box", "lines", "many", "rows", "text", "wrong", "bad", "at", "line", "desk", "k", "e", "full", "row"] "law" (defScope s_law) f cdv A outer s H E).nox lawRest (tLS (tb K) K lsLaw) :=
  (ls_cons (ls_m (xs_set 2 sc_law.nd rfl (by first | exact .inl rfl | exact .inr rfl) (xe_lst (xa_cons (xe_str [112, 117, 116, 32, 97, 32, 48, 32, 49, 32, 50, 32, 47, 32, 50, 32, 51]) (xa_cons (xe_str [97, 100, 100, 32, 97, 32, 51, 32, 52]) (xa_cons (xe_str [100, 105, 118, 105, 100, 101, 32, 97, 32, 48, 32, 49]) (xa_cons (xe_str [112, 117, 116, 32, 98, 32, 48, 32, 49, 32, 47, 32, 48, 32, 51, 32, 47, 32, 49, 32, 50, 32, 47, 32, 50, 32, 51]) (xa_cons (xe_str [99, 111, 108, 108, 97, 112, 115, 101, 32, 97, 32, 52]) (xa_cons (xe_str [102, 108, 105, 112, 32, 98, 32, 48]) (xa_cons (xe_str [100, 114, 111, 112, 32, 97]) (xa_cons (xe_str [117, 110, 100, 111]) (xa_cons (xe_str [97, 100, 100, 32, 98, 32, 53]) xa_nil)))))))))))) (ls_cons (ls_dr1 3 sc_law.nd rfl (.inl rfl) (pe_draw G_draw hr (by decide) rfl G.glo__law_draw (xa_cons (xe_var 1 rfl) (xa_cons (xe_callB (or_len) rfl G.free_len boot_len (xa_cons (xe_var 2 rfl) xa_nil)) xa_nil)))) (ls_cons (ls_m (xs_set 4 sc_law.nd rfl (by first | exact .inl rfl | exact .inr rfl) (xe_slice (xe_var 2 rfl) xo_none (xo_some (xe_var 3 rfl))))) (ls_cons (ls_m (xs_set 5 sc_law.nd rfl (by first | exact .inl rfl | exact .inr rfl) (xe_bm (t := 0) PySem.F.plainAttrs_str PySem.F.slot_str_join PySem.F.type_str_join mr_join (xe_str []) (xa_cons (xe_lc (own := [("row", 14)]) rfl sc_law.nd (blkOk_by (by rfl)) (tin_of rfl) (xi_lst (xe_var 4 rfl)) (fun _ _ _ _ _ => (xg_nm 14 sc_law.nd rfl (by first | exact .inl rfl | exact .inr rfl))) (fun _ _ _ _ _ =>  xc_none) (fun _ _ _ _ _ => (xe_bin or_add (xe_var 14 rfl) (xe_str [10])))) xa_nil)))) (ls_cons (ls_exS fun ⟨⟨tab, ht⟩, ⟨tabJ, htJ⟩⟩ => ls_m (xs_if (PW.pt (yw_or (xt_cmp or_notN (xe_callG (Good.imp (ok_law_said G) (fun vs H Q E h => orF_sp ht h)) hr (by decide) rfl G.glo__law_said (fun vs C => orF_bad vs C) (xa_cons (xe_var 5 rfl) xa_nil)) (xe_non) rfl) (yw_or (xt_cmp (or_ne hu) (xe_orE (m := m_J) (xe_methG0 (c := 2) (ok_Desk_journal G) hr (by decide) nn_journal G.cls_Desk G.meth_Desk_journal (fun vs C => runN_bad vs C) (xe_callL takes_none5 (ok_replay_desk G) hr (by decide) rfl G.glo_replay_desk (fun vs C => run_bad vs C) (xa_cons (xe_var 5 rfl) xa_nil))) htJ) (xe_var 5 rfl) rfl) (yw_or1 (xt_iso (xt_cmp (or_ne hu) (xe_methG0 (c := 2) (ok_Desk_names G) hr (by decide) nn_names G.cls_Desk G.meth_Desk_names (fun vs C => runN_bad vs C) (xe_callL takes_none5 (ok_replay_desk G) hr (by decide) rfl G.glo_replay_desk (fun vs C => run_bad vs C) (xa_cons (xe_str []) xa_nil))) (xe_lst xa_nil) rfl)))))) (xs_cons (xs_ret (xe_bl)) xs_nil) xs_nil)) (ls_cons (ls_m (xs_set 6 sc_law.nd rfl (by first | exact .inl rfl | exact .inr rfl) (xe_lst (xa_cons (xe_str []) (xa_cons (xe_str [112, 117, 116]) (xa_cons (xe_str [112, 117, 116, 32, 97]) (xa_cons (xe_str [112, 117, 116, 32, 32, 48]) (xa_cons (xe_str [112, 117, 116, 32, 99, 32, 49, 32, 48]) (xa_cons (xe_str [112, 117, 116, 32, 99, 32, 48, 32, 47, 32, 48, 32, 49]) (xa_cons (xe_str [112, 117, 116, 32, 99]) (xa_cons (xe_str [80, 117, 116, 32, 99, 32, 48]) (xa_cons (xe_str [100, 114, 111, 112]) (xa_cons (xe_str [100, 114, 111, 112, 32, 97, 32, 98]) (xa_cons (xe_str [97, 100, 100, 32, 97]) (xa_cons (xe_str [97, 100, 100, 32, 98, 32, 48, 32, 48]) (xa_cons (xe_str [97, 100, 100, 32, 98, 32, 120]) (xa_cons (xe_str [117, 110, 100, 111, 32]) (xa_cons (xe_str [117, 110, 100, 111, 32, 120]) xa_nil)))))))))))))))))) (ls_cons (ls_m (xs_set 6 sc_law.nd rfl (by first | exact .inl rfl | exact .inr rfl) (xe_bin or_add (xe_var 6 rfl) (xe_lst (xa_cons (xe_str [99, 111, 108, 108, 97, 112, 115, 101, 32, 98]) (xa_cons (xe_str [102, 108, 105, 112, 32, 98]) (xa_cons (xe_str [116, 117, 114, 110, 32, 98, 32, 48]) (xa_cons (xe_str [100, 105, 118, 105, 100, 101, 32, 98, 32, 49, 32, 48]) (xa_cons (xe_str [32, 117, 110, 100, 111]) (xa_cons (xe_str [112, 117, 116, 32, 99, 32, 48, 32, 32, 49]) (xa_cons (xe_str [97, 100, 100, 32, 98, 32, 45, 49]) (xa_cons (xe_str [97, 100, 100, 32, 98, 32, 48, 32, 49, 32]) (xa_cons (xe_str [112, 117, 116, 32, 99, 32, 48, 32, 49, 32, 47, 50]) xa_nil))))))))))))) (ls_cons (ls_m (xs_set 7 sc_law.nd rfl (by first | exact .inl rfl | exact .inr rfl) (xe_lst (xa_cons (xe_str [100, 114, 111, 112, 32, 122, 122]) (xa_cons (xe_str [112, 117, 116, 32, 65, 32, 48]) (xa_cons (xe_str [112, 117, 116, 32, 98, 32, 48]) (xa_cons (xe_str [97, 100, 100, 32, 122, 122, 32, 48]) (xa_cons (xe_str [97, 100, 100, 32, 98, 32, 48, 32, 49]) (xa_cons (xe_str [99, 111, 108, 108, 97, 112, 115, 101, 32, 98, 32, 55, 55]) (xa_cons (xe_str [100, 105, 118, 105, 100, 101, 32, 98, 32, 48]) (xa_cons (xe_str [102, 108, 105, 112, 32, 98, 32, 55, 55]) (xa_cons (xe_str [112, 117, 116, 32, 50, 99, 32, 48]) (xa_cons (xe_str [112, 117, 116, 32, 116, 111, 111, 108, 111, 110, 103, 110, 97, 109, 101, 115, 32, 48]) (xa_cons (xe_str [100, 105, 118, 105, 100, 101, 32, 98, 32, 48, 32, 55, 55]) xa_nil)))))))))))))) (ls_less (ls_cons (ls_dr0 8 sc_law.nd rfl (.inl rfl) (pe_draw G_draw hr (by decide) rfl G.glo__law_draw (xa_cons (xe_var 1 rfl) (xa_cons (xe_bin or_add (xe_var 3 rfl) (xe_int)) xa_nil)))) (ls_cons (ls_pk 9 sc_law.nd rfl (.inl rfl) (pe_pick G_pick hr (by decide) rfl G.glo__law_pick (xa_cons (xe_var 1 rfl) (xa_cons (xe_var 6 rfl) xa_nil)))) (ls_cons (ls_exS fun ⟨tab, ht⟩ => ls_m (xs_if (xt_cmp (or_ne hu) (xe_callG (Good.imp (ok_law_said G) (fun vs H Q E h => orF_sp ht h)) hr (by decide) rfl G.glo__law_said (fun vs C => orF_bad vs C) (xa_cons (xe_bin or_add (xe_bin or_add (xe_bin or_add (xe_bm (t := 0) PySem.F.plainAttrs_str PySem.F.slot_str_join PySem.F.type_str_join mr_join (xe_str []) (xa_cons (xe_lc (own := [("row", 14)]) rfl sc_law.nd (blkOk_by (by rfl)) (tin_of rfl) (xi_lst (xe_slice (xe_var 4 rfl) xo_none (xo_some (xe_var 8 rfl)))) (fun _ _ _ _ _ => (xg_nm 14 sc_law.nd rfl (by first | exact .inl rfl | exact .inr rfl))) (fun _ _ _ _ _ =>  xc_none) (fun _ _ _ _ _ => (xe_bin or_add (xe_var 14 rfl) (xe_str [10])))) xa_nil)) (xe_var 9 rfl)) (xe_str [10])) (xe_str [100, 114, 111, 112, 32, 122, 122, 10])) xa_nil)) (xe_tup (xa_cons (xe_bin or_add (xe_var 8 rfl) (xe_int)) (xa_cons (xe_str [110, 111, 116, 32, 97, 110, 32, 101, 110, 116, 114, 121]) xa_nil))) rfl) (xs_cons (xs_ret (xe_bl)) xs_nil) xs_nil)) (ls_less (ls_cons (ls_pk 9 sc_law.nd rfl (.inl rfl) (pe_pick G_pick hr (by decide) rfl G.glo__law_pick (xa_cons (xe_var 1 rfl) (xa_cons (xe_var 7 rfl) xa_nil)))) (ls_cons (ls_m (xs_if (PW.pt (yw_and (xt_cmp (or_in hu) (xe_var 9 rfl) (xe_tup (xa_cons (xe_str [112, 117, 116, 32, 98, 32, 48]) (xa_cons (xe_str [97, 100, 100, 32, 98, 32, 48, 32, 49]) xa_nil))) rfl) (yw_and1 (xt_cmp (or_lt hu) (xe_var 8 rfl) (xe_int) rfl)))) (xs_cons (xs_set 9 sc_law.nd rfl (by first | exact .inl rfl | exact .inr rfl) (xe_str [100, 114, 111, 112, 32, 122, 122])) xs_nil) xs_nil)) (ls_cons (ls_m (xs_if (PW.pt (yw_and (xt_cmp (or_eq hu) (xe_var 9 rfl) (xe_str [97, 100, 100, 32, 98, 32, 48, 32, 49]) rfl) (yw_and1 (xt_cmp or_gt (xe_var 8 rfl) (xe_int) rfl)))) (xs_cons (xs_set 9 sc_law.nd rfl (by first | exact .inl rfl | exact .inr rfl) (xe_str [100, 114, 111, 112, 32, 122, 122])) xs_nil) xs_nil)) (ls_cons (ls_exS fun ⟨tab, ht⟩ => ls_m (xs_if (xt_cmp (or_ne hu) (xe_callG (Good.imp (ok_law_said G) (fun vs H Q E h => orF_sp ht h)) hr (by decide) rfl G.glo__law_said (fun vs C => orF_bad vs C) (xa_cons (xe_bin or_add (xe_bin or_add (xe_bin or_add (xe_bm (t := 0) PySem.F.plainAttrs_str PySem.F.slot_str_join PySem.F.type_str_join mr_join (xe_str []) (xa_cons (xe_lc (own := [("row", 14)]) rfl sc_law.nd (blkOk_by (by rfl)) (tin_of rfl) (xi_lst (xe_slice (xe_var 4 rfl) xo_none (xo_some (xe_var 8 rfl)))) (fun _ _ _ _ _ => (xg_nm 14 sc_law.nd rfl (by first | exact .inl rfl | exact .inr rfl))) (fun _ _ _ _ _ =>  xc_none) (fun _ _ _ _ _ => (xe_bin or_add (xe_var 14 rfl) (xe_str [10])))) xa_nil)) (xe_var 9 rfl)) (xe_str [10])) (xe_str [120, 10])) xa_nil)) (xe_tup (xa_cons (xe_bin or_add (xe_var 8 rfl) (xe_int)) (xa_cons (xe_str [114, 101, 102, 117, 115, 101, 100]) xa_nil))) rfl) (xs_cons (xs_ret (xe_bl)) xs_nil) xs_nil)) (ls_less (ls_cons (ls_exS fun ⟨tab, ht⟩ => ls_m (xs_if (PW.pt (yw_or (xt_cmp (or_ne hu) (xe_callG (Good.imp (ok_law_said G) (fun vs H Q E h => orF_sp ht h)) hr (by decide) rfl G.glo__law_said (fun vs C => orF_bad vs C) (xa_cons (xe_str [117, 110, 100, 111, 10]) xa_nil)) (xe_tup (xa_cons (xe_int) (xa_cons (xe_str [114, 101, 102, 117, 115, 101, 100]) xa_nil))) rfl) (yw_or1 (xt_cmp (or_ne hu) (xe_callG (Good.imp (ok_law_said G) (fun vs H Q E h => orF_sp ht h)) hr (by decide) rfl G.glo__law_said (fun vs C => orF_bad vs C) (xa_cons (xe_bin or_add (xe_var 5 rfl) (xe_str [117, 110, 100, 111])) xa_nil)) (xe_tup (xa_cons (xe_bin or_add (xe_var 3 rfl) (xe_int)) (xa_cons (xe_str [110, 111, 116, 32, 97, 110, 32, 101, 110, 116, 114, 121]) xa_nil))) rfl)))) (xs_cons (xs_ret (xe_bl)) xs_nil) xs_nil)) (ls_less (ls_cons (ls_m (xs_set 10 sc_law.nd rfl (by first | exact .inl rfl | exact .inr rfl) (xe_makeG0 (c := 2) (ok_Desk_init G) hr (by decide) G.mkr_Desk rfl G.glo_Desk (fun vs C => runN_bad vs C)))) (ls_cons (ls_m (xs_for PassesOwn.never rfl (xi_range1 rfl G.free_range (xa_cons (xe_int) xa_nil)) (xg_nm 11 sc_law.nd rfl (by first | exact .inl rfl | exact .inr rfl)) (xs_cons (xs_drop (xe_methX takesN_none (c := 2) (ok_Desk_put G) hr (by decide) nn_put G.cls_Desk G.meth_Desk_put (fun vs C => run_bad vs C) (xe_var 10 rfl) (xa_cons (xe_bin or_add (xe_str [110]) (xe_callTy (or_str) rfl G.free_str boot_str (xa_cons (xe_var 11 rfl) xa_nil))) (xa_cons (xe_tup (xa_cons (xe_tup (xa_cons (xe_callTy (or_int) rfl G.free_int boot_int (xa_cons (xe_var 11 rfl) xa_nil)) xa_nil)) xa_nil)) xa_nil)))) xs_nil))) (ls_cons (ls_m (xs_tryIf (c := 6) (i := 12) (g := 17) (z := [109, 97, 110, 121]) (by decide +kernel) rfl rfl sc_law.nd rfl rfl takesN_none ⟨rfl, by decide, .inl G.glo_Refused⟩ G.exm_Refused_Refused (G.c.xf 0 (d := X_Refused) rfl) G.noat_Refused_reason rfl (fun _ _ _ _ => pv 12) (fun W' pn xe tk' hp' => (xs_cons (xs_drop (xe_methX tk' (c := 2) (ok_Desk_put G) hr (by decide) nn_put G.cls_Desk G.meth_Desk_put (fun vs C => run_bad vs C) (xe_var 10 rfl) (xa_cons (xe_str [109, 111, 114, 101]) (xa_cons (xe_tup (xa_cons (xe_tup (xa_cons (xe_int) xa_nil)) xa_nil)) xa_nil)))) xs_nil)))) (ls_cons (ls_m (xs_set 13 sc_law.nd rfl (by first | exact .inl rfl | exact .inr rfl) (xe_bm (t := 0) PySem.F.plainAttrs_str PySem.F.slot_str_join PySem.F.type_str_join mr_join (xe_str []) (xa_cons (xe_lc (own := [("k", 11)]) rfl sc_law.nd (blkOk_by (by rfl)) (tin_of rfl) (xi_range1 rfl G.free_range (xa_cons (xe_int) xa_nil)) (fun _ _ _ _ _ => (xg_nm 11 sc_law.nd rfl (by first | exact .inl rfl | exact .inr rfl))) (fun _ _ _ _ _ =>  xc_none) (fun _ _ _ _ _ => (xe_bin or_add (xe_bin or_add (xe_bin or_add (xe_bin or_add (xe_str [112, 117, 116, 32, 110]) (xe_callTy (or_str) rfl G.free_str boot_str (xa_cons (xe_var 11 rfl) xa_nil))) (xe_str [32])) (xe_callTy (or_str) rfl G.free_str boot_str (xa_cons (xe_var 11 rfl) xa_nil))) (xe_str [10])))) xa_nil)))) (ls_cons (ls_m (xs_if (PW.pt (yw_or (xt_cmp (or_ne hu) (xe_methG0 (c := 2) (ok_Desk_journal G) hr (by decide) nn_journal G.cls_Desk G.meth_Desk_journal (fun vs C => runN_bad vs C) (xe_var 10 rfl)) (xe_var 13 rfl) rfl) (yw_or (xt_cmp (or_ne hu) (xe_callB (or_len) rfl G.free_len boot_len (xa_cons (xe_methG0 (c := 2) (ok_Desk_names G) hr (by decide) nn_names G.cls_Desk G.meth_Desk_names (fun vs C => runN_bad vs C) (xe_var 10 rfl)) xa_nil)) (xe_int) rfl) (yw_or1 (xt_cmp (or_ne hu) (xe_methG0 (c := 2) (ok_Desk_kinds G) hr (by decide) nn_kinds G.cls_Desk G.meth_Desk_kinds (fun vs C => runN_bad vs C) (xe_var 10 rfl)) (xe_lst (xa_cons (xe_callB (or_sorted hu) rfl G.free_sorted boot_sorted (xa_cons (xe_lc (own := [("k", 11)]) rfl sc_law.nd (blkOk_by (by rfl)) (tin_of rfl) (xi_range1 rfl G.free_range (xa_cons (xe_int) xa_nil)) (fun _ _ _ _ _ => (xg_nm 11 sc_law.nd rfl (by first | exact .inl rfl | exact .inr rfl))) (fun _ _ _ _ _ =>  xc_none) (fun _ _ _ _ _ => (xe_bin or_add (xe_str [110]) (xe_callTy (or_str) rfl G.free_str boot_str (xa_cons (xe_var 11 rfl) xa_nil))))) xa_nil)) xa_nil)) rfl))))) (xs_cons (xs_ret (xe_bl)) xs_nil) xs_nil)) (ls_cons (ls_exS fun ⟨tab, ht⟩ => ls_m (xs_ret (xe_cmp (or_eq hu) (xe_callG (Good.imp (ok_law_said G) (fun vs H Q E h => orF_sp ht h)) hr (by decide) rfl G.glo__law_said (fun vs C => orF_bad vs C) (xa_cons (xe_bin or_add (xe_var 13 rfl) (xe_str [112, 117, 116, 32, 109, 111, 114, 101, 32, 48, 10])) xa_nil)) (xe_tup (xa_cons (xe_int) (xa_cons (xe_str [114, 101, 102, 117, 115, 101, 100]) xa_nil))) rfl))) ls_nil))))))))))))))))))))))))))
end
end Ex

set_option Elab.async false
set_option linter.all false
set_option maxRecDepth 100000
set_option maxHeartbeats 0
/-! G10: what the kernel finds at the law's texts. -/
namespace Ex
open PySem PySem.Spec PyProof.Rows L2
/-! ### the rest: twenty puts, one more, the full journal -/
def zMORE : List Nat := [112, 117, 116, 32, 109, 111, 114, 101, 32, 48]
def digs (n : Nat) : List Nat := match Nat.blt n 10 with
  | true => [48 + n]
  | false => [48 + n / 10, 48 + n % 10]
def fullS : List (List Nat) := (List.range 20).map fun k => [112, 117, 116, 32, 110] ++ digs k ++ [32] ++ digs k
def run2 : Nat → List (List Nat) → CL → CH → Bool
  | k, [], l, C => isExc (stepL k zMORE l C) (k + 1) zREF
  | k, x :: r, l, C => (match stepL k x l C with
    | .nx l1 C1 => fcL l1 fun l2 => fcC C1 fun C2 => run2 (k + 1) r l2 C2
    | _ => false)
/-- one answer, told -/
def tab1 (key : List Nat) (v : CV) : List Nat → Option CV := fun s => match eqL s key with
  | true => some v
  | false => none
def tab2 (key : List Nat) (v : CV) (key' : List Nat) (v' : CV) : List Nat → Option CV := fun s => match eqL s key with
  | true => some v
  | false => tab1 key' v' s
def nextS (m : SM) (r : RS) : RS := match r with
  | .nx l C => m l C
  | r => r
def ans (p : Nat) (z : List Nat) : CV := .tup [.int (p : Nat), .str z]
def tFull : List Nat → Option CV := tab1 (nl (fullS ++ [zMORE]) []) (ans 21 zREF)
def isTrue (r : RS) : Bool := match r with
  | .ret (.bl true) _ => true
  | _ => false
/-- with all made whole between the statements -/
def thenB (r : RS) (k : CL → CH → Bool) : Bool := match r with
  | .nx l C => fcL l fun l => fcC C fun C => k l C
  | _ => false
def chk17 : Bool := thenB (ml_17 (repN 15) ⟨1000, []⟩) fun l C => thenB (ml_18 l C) fun l C => thenB (ml_19 l C) fun l C => thenB (ml_20 l C) fun l C => thenB (ml_21 l C) fun l C => isTrue (ml_22 tFull l C)
/-! ### the states between the draws -/
def eq1 : CV → CV → Bool
  | .non, .non => true
  | .int i, .int j => eqI i j
  | .str a, .str b => eqL a b
  | .ref a, .ref b => Nat.beq a b
  | _, _ => false
theorem eq1_ok {v w : CV} (h : eq1 v w = true) : v = w := by
  unfold eq1 at h
  split at h
  · rfl
  · rw [(eqI_ok _ _).mp h]
  · rw [(eqL_ok _ _).mp h]
  · rw [beq_t h]
  · cases h
def eq1s : List CV → List CV → Bool
  | [], [] => true
  | v :: r, w :: s => (match eq1 v w with
    | true => eq1s r s
    | false => false)
  | _, _ => false
theorem eq1s_ok : ∀ {r s : List CV}, eq1s r s = true → r = s
  | [], [], _ => rfl
  | v :: r, w :: s, h => by
    unfold eq1s at h
    cases e : eq1 v w with
    | false =>
      rw [e] at h
      cases h
    | true =>
      rw [e] at h
      rw [eq1_ok e, eq1s_ok h]
  | [], _ :: _, h => by cases h
  | _ :: _, [], h => by cases h
/-- l' knows less than l -/
def subL : CL → CL → Bool
  | [], [] => true
  | none :: r, _ :: s => subL r s
  | some v :: r, some w :: s => (match eq1 v w with
    | true => subL r s
    | false => false)
  | _, _ => false
theorem subL_ok : ∀ {l' l : CL}, subL l' l = true → l'.length = l.length ∧ ∀ (i : Nat) (v : CV), l'[i]? = some (some v) → l[i]? = some (some v)
  | [], [], _ => ⟨rfl, fun i v h => h⟩
  | none :: r, o :: s, h => by
    unfold subL at h
    obtain ⟨h1, h2⟩ := subL_ok h
    refine ⟨by rw [List.length_cons, List.length_cons, h1], fun i v e => ?_⟩
    cases i with
    | zero => simp at e
    | succ i => simpa using h2 i v (by simpa using e)
  | some v :: r, some w :: s, h => by
    unfold subL at h
    cases e1 : eq1 v w with
    | false =>
      rw [e1] at h
      cases h
    | true =>
      rw [e1] at h
      obtain ⟨h1, h2⟩ := subL_ok h
      refine ⟨by rw [List.length_cons, List.length_cons, h1], fun i u e => ?_⟩
      rw [← eq1_ok e1]
      cases i with
      | zero => exact e
      | succ i => simpa using h2 i u (by simpa using e)
  | some _ :: _, none :: _, h => by cases h
  | [], _ :: _, h => by cases h
  | none :: _, [], h => by cases h
  | some _ :: _, [], h => by cases h
def hasB (C : CH) : List (Nat × CO) → Bool
  | [] => true
  | (n, o) :: r => (match C.get n, o with
    | some (.lst xs), .lst ys => (match eq1s xs ys, Nat.blt n C.nx with
      | true, true => hasB C r
      | _, _ => false)
    | _, _ => false)
theorem hasB_ok {C : CH} : ∀ {os : List (Nat × CO)}, hasB C os = true → ∀ p ∈ os, C.get p.1 = some p.2 ∧ p.1 < C.nx
  | [], _, _, h => nomatch h
  | (n, o) :: r, h, p, hp => by
    unfold hasB at h
    split at h
    · rename_i xs ys e1
      split at h
      · rename_i e2 e3
        rcases List.mem_cons.mp hp with q | q
        · rw [q]
          refine ⟨?_, by simpa using e3⟩
          rw [← eq1s_ok e2]
          exact e1
        · exact hasB_ok h p q
      · cases h
    · cases h
/-- C' knows less than C; its numbers are in order -/
def leC (C C' : CH) : Bool := match Nat.ble C.nx C'.nx with
  | true => hasB C C'.os
  | false => false
theorem leC_ok {C C' : CH} (hp : (C'.os.map (·.1)).Pairwise (fun a b => b < a)) (h : leC C C' = true) : LE C C' := by
  unfold leC at h
  cases e : Nat.ble C.nx C'.nx with
  | false =>
    rw [e] at h
    cases h
  | true =>
    rw [e] at h
    have q := hasB_ok h
    refine ⟨Nat.le_of_ble_eq_true e, fun n o g => (q _ (lk_mem g)).1, hp, fun n hn => ?_⟩
    obtain ⟨p, h1, h2⟩ := List.mem_map.mp hn
    rw [← h2]
    exact (q p h1).2
def l0 : CL := [none, some (.ref 0), none, none, none, none, none, none, none, none, none, none, none, none, none]
def coS (ls : List (List Nat)) : CO := .lst (ls.map .str)
def CA : CH := ⟨2, [(1, coS linesS)]⟩
def lA : CL := l0.set 2 (some (.ref 1))
def pre_ (k : Nat) : List (List Nat) := linesS.take k
def lB (d : Nat) : CL := lA.set 3 (some (.int (1 + (d : Int))))
def tx (d : Nat) : List Nat := nl (pre_ (d + 1)) []
def l8 (d : Nat) : CL := [none, some (.ref 0), none, some (.int (1 + (d : Int))), some (.ref 2), some (.str (tx d)), some (.ref 6), some (.ref 7), none, none, none, none, none, none, none]
def os8 (d : Nat) : List (Nat × CO) := [(7, coS badS), (6, coS wrongS), (2, coS (pre_ (d + 1)))]
def C8 (d : Nat) : CH := ⟨8, os8 d⟩
def C11 (d : Nat) : CH := ⟨100, os8 d⟩
def l9 (d a : Nat) : CL := (l8 d).set 8 (some (.int (0 + (a : Int))))
def l16 (d : Nat) : CL := [none, none, none, some (.int (1 + (d : Int))), none, some (.str (tx d)), none, none, none, none, none, none, none, none, none]
def C16 : CH := ⟨900, []⟩
def C17 : CH := ⟨1000, []⟩
def st8 (d : Nat) : RS := nextS ml_8 (nextS ml_7 (nextS ml_6 (nextS (ml_5 (tab1 (tx d) .non) (tab1 (tx d) (.str (tx d)))) (nextS ml_4 (ml_3 (lB d) CA)))))
def toB (r : RS) (l' : CL) (C' : CH) : Bool := match r with
  | .nx l C => (match subL l' l with
    | true => leC C C'
    | false => false)
  | _ => false
def chk8 (d : Nat) : Bool := toB (st8 d) (l8 d) (C8 d)
def t11 (a : Nat) (x : List Nat) : List Nat → Option CV := tab1 (nl (pre_ a ++ [x, zZZ]) []) (ans (a + 1) zNOT)
def st11 (d a : Nat) (x : List Nat) : RS := ml_11 (t11 a x) ((l9 d a).set 9 (some (.str x))) (C8 d)
def chk11 (d a : Nat) (x : List Nat) : Bool := toB (st11 d a x) (l9 d a) (C11 d)
def t15 (a : Nat) (x : List Nat) : List Nat → Option CV := tab1 (nl (pre_ a ++ [adj a x, [120]]) []) (ans (a + 1) zREF)
def st15 (d a : Nat) (x : List Nat) : RS := nextS (ml_15 (t15 a x)) (nextS ml_14 (ml_13 ((l9 d a).set 9 (some (.str x))) (C11 d)))
def chk15 (d a : Nat) (x : List Nat) : Bool := toB (st15 d a x) (l16 d) C16
def t16 (d : Nat) : List Nat → Option CV := tab2 (nl [zUN] []) (ans 1 zREF) (nl (pre_ (d + 1)) zUN) (ans (d + 2) zNOT)
def chk16 (d : Nat) : Bool := toB (ml_16 (t16 d) (l16 d) C16) (repN 15) C17
def upTo : Nat → (Nat → Bool) → Bool
  | 0, _ => true
  | n + 1, p => (match p n with
    | true => upTo n p
    | false => false)
theorem upTo_ok {p : Nat → Bool} : ∀ {n : Nat}, upTo n p = true → ∀ k, k < n → p k = true
  | 0, _, k, h => absurd h (Nat.not_lt_zero k)
  | n + 1, h, k, hk => by
    unfold upTo at h
    cases e : p n with
    | false =>
      rw [e] at h
      cases h
    | true =>
      rw [e] at h
      rcases Nat.lt_succ_iff_lt_or_eq.mp hk with q | q
      · exact upTo_ok h k q
      · rw [q]
        exact e
def all8 : Bool := upTo 9 chk8
def all11 : Bool := upTo 9 fun d => upTo (d + 2) fun a => evB (chk11 d a) wrongS
def all15 : Bool := upTo 9 fun d => upTo (d + 2) fun a => evB (chk15 d a) badS
def all16 : Bool := upTo 9 chk16
theorem look1 : run1 0 linesS l00 ⟨6, cDos⟩ = true := by decide +kernel
theorem look2 : run2 0 fullS l00 ⟨6, cDos⟩ = true := by decide +kernel
theorem lookU : isExc (stepL 0 zUN l00 ⟨6, cDos⟩) 1 zREF = true := by decide +kernel
theorem look_all8 : all8 = true := by decide +kernel
theorem look_all11 : all11 = true := by decide +kernel
theorem look_all15 : all15 = true := by decide +kernel
theorem look_all16 : all16 = true := by decide +kernel
theorem look_chk17 : chk17 = true := by decide +kernel
end Ex

set_option Elab.async false
set_option linter.all false
set_option maxRecDepth 100000
set_option maxHeartbeats 4000000
/-! G11: the law's statements, for every draw. -/
namespace Ex
open PySem PySem.Spec PyProof.Rows L2
/-! ### the answers, told -/
theorem tab1_ok {key : List Nat} {v : CV} {P : List Nat → CV → Prop} (h : P key v) : ∀ s w, tab1 key v s = some w → P s w := fun s w e => by
  unfold tab1 at e
  cases q : eqL s key with
  | false =>
    rw [q] at e
    cases e
  | true =>
    rw [q] at e
    cases e
    rw [(eqL_ok s key).mp q]
    exact h
theorem tab2_ok {key key' : List Nat} {v v' : CV} {P : List Nat → CV → Prop} (h : P key v) (h' : P key' v') : ∀ s w, tab2 key v key' v' s = some w → P s w := fun s w e => by
  unfold tab2 at e
  cases q : eqL s key with
  | false =>
    rw [q] at e
    exact tab1_ok h' s w e
  | true =>
    rw [q] at e
    cases e
    rw [(eqL_ok s key).mp q]
    exact h
abbrev Said (s : List Nat) (w : CV) : Prop := flatV w = true ∧ ∃ C', m_law_said [.str s] C00 = .ok w C'
abbrev Jour (s : List Nat) (w : CV) : Prop := flatV w = true ∧ ∃ C', m_J (oneL 15 5 (.str s)) C00 = .ok w C'
theorem j_said (j : Nat) (hj : j ≤ linesS.length) : Said (nl (pre_ j) []) .non ∧ Jour (nl (pre_ j) []) (.str (nl (pre_ j) [])) ∧ Said (nl (pre_ j) zUN) (ans (j + 1) zNOT) := by
  obtain ⟨h1, ⟨d, C1, C2, h2, h3⟩, h4⟩ := said_fin hj look1
  have h2 : m_replay_desk [.str (nl (pre_ j) [])] C00 = .ok d C1 := h2
  refine ⟨⟨rfl, h1⟩, ⟨rfl, C2, ?_⟩, ⟨rfl, h4⟩⟩
  have e1 : xFn m_replay_desk (aCons (xVar 5) aNil) (oneL 15 5 (.str (nl (pre_ j) []))) C00 = .ok d C1 := by
    show (match m_replay_desk [.str (nl (pre_ j) [])] C00 with
      | .ok v C2 => RE.ok v C2
      | .exc k fs _ C2 => .exc k fs (oneL 15 5 (.str (nl (pre_ j) []))) C2
      | .bad => .bad) = _
    rw [h2]
  unfold m_J xMeth
  rw [e1]
  dsimp only
  have h3 : (match insO 2 d C1 with
    | some _ => back [some d] (m_Desk_journal [d] C1)
    | none => .bad) = RE.ok (.str (nl (pre_ j) [])) C2 := h3
  cases e2 : insO 2 d C1 with
  | none =>
    rw [e2] at h3
    cases h3
  | some p =>
    rw [e2] at h3
    dsimp only at h3
    show back _ (m_Desk_journal [d] C1) = _
    cases e3 : m_Desk_journal [d] C1 with
    | ok v C3 =>
      rw [e3] at h3
      exact h3
    | exc k fs l' C3 =>
      rw [e3] at h3
      cases h3
    | bad =>
      rw [e3] at h3
      cases h3
theorem said11 {a : Nat} (ha : a ≤ linesS.length) {x : List Nat} (hx : x ∈ wrongS) : Said (nl (pre_ a ++ [x, zZZ]) []) (ans (a + 1) zNOT) :=
  ⟨rfl, said_line ha look1 (fun l C h => (testAt_ok h).2.1 x hx) (look_wrong x hx) (by decide) ((by decide : ∀ y ∈ wrongS, y.length ≤ 100) x hx) (by decide) (by decide)⟩
theorem said15 {a : Nat} (ha : a ≤ linesS.length) {x : List Nat} (hx : x ∈ badS) : Said (nl (pre_ a ++ [adj a x, [120]]) []) (ans (a + 1) zREF) := by
  refine ⟨rfl, said_line ha look1 (fun l C h => (testAt_ok h).2.2 x hx) ?_ (by decide) ?_ (by decide) (by decide)⟩
  · rcases adj_mem a x with e | e
    · rw [e]
      exact look_bad x hx
    · rw [e]
      decide
  · rcases adj_mem a x with e | e
    · rw [e]
      exact (by decide : ∀ y ∈ badS, y.length ≤ 100) x hx
    · rw [e]
      decide
theorem run2_exc : ∀ (r : List (List Nat)) (k : Nat) (l : CL) (C : CH), run2 k r l C = true → ∃ fs l' C', lpL ((r ++ [zMORE]).map .str) k l C = .exc 4 fs l' C' ∧ lkN fs 16 = some (.int ((k + r.length + 1 : Nat) : Int)) ∧ lkN fs 17 = some (.str zREF)
  | [], k, l, C, h => lpL_exc (r := []) h
  | x :: r, k, l, C, h => by
    unfold run2 at h
    cases es : stepL k x l C with
    | nx l1 C1 =>
      rw [es] at h
      dsimp only at h
      rw [fcL_eq, fcC_eq] at h
      obtain ⟨fs, l', C', e1, e2, e3⟩ := run2_exc r (k + 1) l1 C1 h
      refine ⟨fs, l', C', ?_, ?_, e3⟩
      · rw [List.cons_append, lpL_cons, es]
        exact e1
      · have ek : k + 1 + r.length + 1 = k + (x :: r).length + 1 := by rw [List.length_cons]; omega
        rw [← ek]
        exact e2
    | _ =>
      rw [es] at h
      cases h
theorem said22 : Said (nl (fullS ++ [zMORE]) []) (ans 21 zREF) := by
  obtain ⟨fs, l', C', e1, e2, e3⟩ := run2_exc fullS 0 l00 ⟨6, cDos⟩ look2
  have er : rep (fullS ++ [zMORE]) [] = .exc 4 fs l' C' := by
    unfold rep
    show (match lpL _ 0 l00 ⟨6, cDos⟩ with
      | .nx l1 C2 => endOf (fullS ++ [zMORE] ++ [[]]) l1 C2
      | .exc k fs l' C' => .exc k fs l' C'
      | .ret v C' => .ret v C'
      | _ => .bad) = _
    rw [e1]
  exact ⟨rfl, said_exc (rep_exc (by decide) List.not_mem_nil (nl_bnd (by decide) (by decide) (Nat.zero_le _)) er) e2 e3⟩
theorem saidU : Said (nl [zUN] []) (ans 1 zREF) := ⟨rfl, said_first lookU (by decide) (by decide)⟩
/-! ### from statement to statement -/
def afterS (r : RS) (c : LS) (k : Nat) (Q : CL → CH → Nat → Prop) : Prop := match r with
  | .nx l C => c.go l C k Q
  | .ret (.bl true) _ => True
  | _ => False
/-- so that nothing is unfolded on the way -/
structure Go (m : LS) (l : CL) (C : CH) (k : Nat) (Q : CL → CH → Nat → Prop) : Prop where
  h : m.go l C k Q
structure Aft (r : RS) (c : LS) (k : Nat) (Q : CL → CH → Nat → Prop) : Prop where
  h : afterS r c k Q
section
variable {l l' : CL} {C C' C1 : CH} {k : Nat} {Q : CL → CH → Nat → Prop} {m : SM} {c : LS} {r : RS}
theorem go_m0 (h : afterS (m l C) c k Q) : (lsSeq (lsM m) c).go l C k Q := by
  show (match m l C with
    | .nx l1 C1 => c.go l1 C1 k Q
    | .ret (.bl true) _ => True
    | _ => False)
  unfold afterS at h
  cases e : m l C with
  | nx l1 C1 =>
    rw [e] at h
    exact h
  | ret v C1 =>
    rw [e] at h
    cases v with
    | bl t =>
      cases t with
      | true => trivial
      | false => exact (show False from h).elim
    | _ => exact (show False from h).elim
  | _ =>
    rw [e] at h
    exact (show False from h).elim
theorem go_m (h : Aft (m l C) c k Q) : Go (lsSeq (lsM m) c) l C k Q := ⟨go_m0 h.h⟩
theorem aft_nx (e : r = .nx l C) (h : Go c l C k Q) : Aft r c k Q := by
  subst e
  exact ⟨h.h⟩
theorem go_next (h : Aft (nextS m r) c k Q) : Aft r (lsSeq (lsM m) c) k Q := by
  obtain ⟨h⟩ := h
  refine ⟨?_⟩
  cases r with
  | nx l C => exact go_m0 h
  | ret v C =>
    cases v with
    | bl t =>
      cases t with
      | true => trivial
      | false => exact (show False from h).elim
    | _ => exact (show False from h).elim
  | _ => exact (show False from h).elim
theorem go_mE {α : Type} {m : α → SM} (p : α) (h : Aft (m p l C) c k Q) : Go (lsSeq (lsEx fun q => lsM (m q)) c) l C k Q := ⟨⟨p, go_m0 (m := m p) h.h⟩⟩
theorem go_nextE {α : Type} {m : α → SM} (p : α) (h : Aft (nextS (m p) r) c k Q) : Aft r (lsSeq (lsEx fun q => lsM (m q)) c) k Q := by
  obtain ⟨h⟩ := h
  refine ⟨?_⟩
  cases r with
  | nx l C => exact (go_mE (m := m) p ⟨h⟩).h
  | ret v C =>
    cases v with
    | bl t =>
      cases t with
      | true => trivial
      | false => exact (show False from h).elim
    | _ => exact (show False from h).elim
  | _ => exact (show False from h).elim
theorem go_to (h : toB r l' C' = true) (hp : (C'.os.map (·.1)).Pairwise (fun a b => b < a)) (q : Go c l' C' k Q) : Aft r (lsLess c) k Q := by
  unfold toB at h
  refine ⟨?_⟩
  cases r with
  | nx l C =>
    dsimp only at h
    cases e : subL l' l with
    | false =>
      rw [e] at h
      cases h
    | true =>
      rw [e] at h
      obtain ⟨h1, h2⟩ := subL_ok e
      exact ⟨l', C', ⟨h1, h2, leC_ok hp h⟩, q.h⟩
  | _ => cases h
theorem go_dr {i m : Nat} {c0 : Int} {as : AM} (h : as l C = .ok [.ref 0, .int (m : Int)] C1) (m0 : 0 < m) (kl : k ≤ 1000) (q : ∀ d : Nat, d < m → Go c (l.set i (some (.int (c0 + (d : Int))))) C1 (k + 1) Q) : Go (lsSeq (lsDr i c0 as) c) l C k Q := by
  refine ⟨?_⟩
  show (match as l C with
    | .ok [.ref 0, .int m] C1 => 0 < m ∧ k ≤ 1000 ∧ ∀ d : Int, 0 ≤ d → d < m → c.go (l.set i (some (.int (c0 + d)))) C1 (k + 1) Q
    | _ => False)
  rw [h]
  refine ⟨by omega, kl, fun d d0 dm => ?_⟩
  obtain ⟨n, en⟩ : ∃ n : Nat, d = (n : Int) := ⟨d.toNat, by omega⟩
  subst en
  exact (q n (by omega)).h
theorem go_pk {i n : Nat} {as : AM} {ls : List (List Nat)} (h : as l C = .ok [.ref 0, .ref n] C1) (g : C1.get n = some (coS ls)) (ne : ls ≠ []) (kl : k ≤ 1000) (q : ∀ x ∈ ls, Go c (l.set i (some (.str x))) C1 (k + 1) Q) : Go (lsSeq (lsPk i as) c) l C k Q := by
  refine ⟨?_⟩
  show (match as l C with
    | .ok [.ref 0, .ref n] C1 => k ≤ 1000 ∧ ∃ xs, C1.get n = some (.lst xs) ∧ xs ≠ [] ∧ ∀ (d : Nat) (v : CV), xs[d]? = some v → c.go (l.set i (some v)) C1 (k + 1) Q
    | _ => False)
  rw [h]
  refine ⟨kl, ls.map .str, g, fun z => ne (List.map_eq_nil_iff.mp z), fun d v e => ?_⟩
  rw [List.getElem?_map] at e
  cases e2 : ls[d]? with
  | none =>
    rw [e2] at e
    cases e
  | some x =>
    rw [e2] at e
    cases e
    exact (q x (List.mem_of_getElem? e2)).h
theorem thenB_ok {k : CL → CH → Bool} (h : thenB r k = true) : ∃ l C, r = .nx l C ∧ k l C = true := by
  unfold thenB at h
  cases r with
  | nx l C =>
    dsimp only at h
    rw [fcL_eq, fcC_eq] at h
    exact ⟨l, C, rfl, h⟩
  | _ => cases h
theorem isTrue_ok (h : isTrue r = true) : Aft r lsNil k Q := by
  unfold isTrue at h
  refine ⟨?_⟩
  split at h
  · exact True.intro
  · cases h
end
theorem pw8 (d : Nat) : ((os8 d).map (·.1)).Pairwise (fun a b => b < a) := (by decide : [7, 6, 2].Pairwise (fun a b => b < a))
theorem pw0 : (([] : List (Nat × CO)).map (·.1)).Pairwise (fun a b => b < a) := List.Pairwise.nil
theorem go_end {Q : CL → CH → Nat → Prop} {k : Nat} : Go (lsSeq (lsM ml_17) (lsSeq (lsM ml_18) (lsSeq (lsM ml_19) (lsSeq (lsM ml_20) (lsSeq (lsM ml_21) (lsSeq (lsEx fun q : TabS => lsM (ml_22 q.1)) lsNil)))))) (repN 15) C17 k Q := by
  have h := look_chk17
  unfold chk17 at h
  obtain ⟨l1, C1, e1, h⟩ := thenB_ok h
  obtain ⟨l2, C2, e2, h⟩ := thenB_ok h
  obtain ⟨l3, C3, e3, h⟩ := thenB_ok h
  obtain ⟨l4, C4, e4, h⟩ := thenB_ok h
  obtain ⟨l5, C5, e5, h⟩ := thenB_ok h
  refine go_m (aft_nx e1 (go_m (aft_nx e2 (go_m (aft_nx e3 (go_m (aft_nx e4 (go_m (aft_nx e5 ?_)))))))))
  exact go_mE (m := fun q : TabS => ml_22 q.1) (⟨tFull, tab1_ok (P := Said) said22⟩ : TabS) (isTrue_ok h)
theorem as9_ok (d : Nat) : as_9 (l8 d) (C8 d) = .ok [.ref 0, .int ((d + 2 : Nat) : Int)] (C8 d) := by
  have ei : ((d + 2 : Nat) : Int) = 1 + (d : Int) + 1 := by omega
  rw [ei]
  rfl
theorem law_go {Q : CL → CH → Nat → Prop} : Go lsLaw l0 ⟨1, []⟩ 0 Q := by
  have e1 : ml_1 l0 ⟨1, []⟩ = .nx lA CA := rfl
  have hl : linesS.length = 9 := rfl
  refine go_m (aft_nx e1 ?_)
  refine go_dr (m := 9) (C1 := CA) rfl (by decide) (by decide) fun d hd => ?_
  obtain ⟨g1, g2, g3⟩ := j_said (d + 1) (by omega)
  refine go_m (go_next ?_)
  refine go_nextE (m := fun q : TabS × TabJ => ml_5 q.1.1 q.2.1) ((⟨tab1 (tx d) .non, tab1_ok (P := Said) g1⟩, ⟨tab1 (tx d) (.str (tx d)), tab1_ok (P := Jour) g2⟩) : TabS × TabJ) ?_
  refine go_next (go_next (go_next (go_to (l' := l8 d) (C' := C8 d) (upTo_ok look_all8 d hd) (pw8 d) ?_)))
  refine go_dr (m := d + 2) (C1 := C8 d) (as9_ok d) (by omega) (by decide) fun a ha => ?_
  refine go_pk (n := 6) (C1 := C8 d) (ls := wrongS) rfl rfl (by decide) (by decide) fun x hx => ?_
  refine go_mE (m := fun q : TabS => ml_11 q.1) (⟨t11 a x, tab1_ok (P := Said) (said11 (by omega) hx)⟩ : TabS) ?_
  refine go_to (l' := l9 d a) (C' := C11 d) (evB_ok (upTo_ok (upTo_ok look_all11 d hd) a ha) x hx) (pw8 d) ?_
  refine go_pk (n := 7) (C1 := C11 d) (ls := badS) rfl rfl (by decide) (by decide) fun y hy => ?_
  refine go_m (go_next (go_nextE (m := fun q : TabS => ml_15 q.1) (⟨t15 a y, tab1_ok (P := Said) (said15 (by omega) hy)⟩ : TabS) ?_))
  refine go_to (l' := l16 d) (C' := C16) (evB_ok (upTo_ok (upTo_ok look_all15 d hd) a ha) y hy) pw0 ?_
  refine go_mE (m := fun q : TabS => ml_16 q.1) (⟨t16 d, tab2_ok (P := Said) saidU g3⟩ : TabS) ?_
  exact go_to (l' := repN 15) (C' := C17) (upTo_ok look_all16 d hd) pw0 go_end
end Ex

set_option Elab.async false
set_option linter.all false
set_option maxRecDepth 100000
set_option maxHeartbeats 4000000
/-! G12: the law keeps its promise. -/
namespace Ex
open PySem PySem.Spec PyProof.Rows L2
def spLaw (K : PySem.W.Frag) : Sp := fun vs H Q _ => ∃ (a : Addr) (ns : List Int), vs = [.ref a] ∧ SqL K H a (ns.map V.int) ∧ ∀ H', Q (.bl true) H'
section
variable {P : Program} {w : World} {K : PySem.W.Frag} {mg : Str → Option Value} {base : Heap}
theorem good_cell (G : Cm P K mg) : Good P w K mg base CX0 1 (He.ga K "_law_cell") ["script", "k"] (spCell K) := by
  obtain ⟨fd, F⟩ := G.c.d.def_ 56 (d := D_law_cell) rfl
  exact ⟨fd, ok_cell0 F G.free_len, F.bindsN fun _ _ _ _ _ _ us hl => match us, hl with | [_, _], _ => rfl, F.kp⟩
theorem good_digits (G : Cm P K mg) : Good P w K mg base CX0 2 (He.ga K "_law_digits") ["script", "first", "last"] (spDig K) := by
  obtain ⟨fd, F⟩ := G.c.d.def_ 57 (d := D_law_digits) rfl
  obtain ⟨fc, FC, bc, kc⟩ := good_cell (P := P) (w := w) (base := base) G
  exact ⟨fd, ok_digits F FC kc bc G.glo__law_cell G.free_range G.free_int, F.bindsN fun _ _ _ _ _ _ us hl => match us, hl with | [_, _, _], _ => rfl, F.kp⟩
theorem good_draw (G : Cm P K mg) : Good P w K mg base CX0 1 (He.ga K "_law_draw") ["box", "m"] spDraw := by
  obtain ⟨fd, F⟩ := G.c.d.def_ 58 (d := D_law_draw) rfl
  exact ⟨fd, ok_draw F G.free_len, F.bindsN fun _ _ _ _ _ _ us hl => match us, hl with | [_, _], _ => rfl, F.kp⟩
theorem good_pick (G : Cm P K mg) : Good P w K mg base CX0 2 (He.ga K "_law_pick") ["box", "rows"] spPick := by
  obtain ⟨fd, F⟩ := G.c.d.def_ 59 (d := D_law_pick) rfl
  obtain ⟨fc, FC, bc, kc⟩ := good_draw (P := P) (w := w) (base := base) G
  exact ⟨fd, ok_pick F FC kc bc G.glo__law_draw G.free_len, F.bindsN fun _ _ _ _ _ _ us hl => match us, hl with | [_, _], _ => rfl, F.kp⟩
theorem fn_law (G : Cm P K mg) : ∃ fd : FuncData, (∀ (s : Shared) (v : Value), BindsTo s fd ⟨[v], []⟩ [("script", v)]) ∧ ∀ base : Heap, FnOk P w K mg base CX0 13 (He.ga K "law") fd ["script"] (spLaw K) := by
  obtain ⟨fd, F⟩ := G.c.d.def_ 60 (d := D_law) rfl
  have b := FunD.bindsA (ps := ["script"]) F fun _ _ _ _ _ _ us hl => match us, hl with | [_], _ => rfl
  refine ⟨fd, fun s v => b s [v] rfl, fun base => ?_⟩
  obtain ⟨fg, FG, bg, kg⟩ := good_digits (P := P) (w := w) (base := base) G
  refine F.ok sc_law (fun vs H Q E h => ?_) (fun cdv A outer s H vs Q E hr h => ⟨_, PSs.nox (pss_cons (ps_set (i := 1) sc_law.nd rfl (.inl rfl) (pe_lst (pa_cons (pe_call FG (hr.mono (by decide)) rfl G.glo__law_digits kg bg .nil pass0 (pa_cons (pv 0) (pa_cons pe_int (pa_cons pe_int pa_nil)))) (pa_cons pe_int pa_nil))))
    (law_rest G (good_draw G) (good_pick G) cdv A outer s H E hr (by have h2 : Room 12 (A.deeper (envOfC "law" (defScope s_law) s.heap.objs.size (He.fAd K D_law.at_) cdv)) := hr; have := h2.un; omega))), ?_⟩)
  · obtain ⟨a, ns, e, _⟩ := h
    rw [e]
    rfl
  · obtain ⟨a, ns, e, hs, q⟩ := h
    subst e
    refine ⟨.ref a, rfl, a, ns, rfl, hs, fun p ds H' nn up np hp => ⟨by show 2 ≤ sizeLine; decide, fun pb nb => ?_⟩⟩
    have ne : p ≠ pb := fun z => by
      rw [z, nb] at hp
      cases hp
    refine ⟨l0, ⟨1, []⟩, 0, ⟨fun _ => pb, ⟨fun _ _ h => (nomatch (show none = some _ from h)), fun _ _ _ _ h => (nomatch (show none = some _ from h)), fun _ _ h => (nomatch (show none = some _ from h)), List.Pairwise.nil, fun _ h => (nomatch h)⟩, ⟨rfl, fun i v e => ?_⟩, Nat.lt_succ_self 0, p, ds, ⟨upd_same, fun ⟨_, _, e, _⟩ => nomatch (show none = some _ from e)⟩, ⟨?_, fun ⟨_, _, e, _⟩ => nomatch (show none = some _ from e)⟩, ne, nn⟩, q, law_go.h⟩
    · match i, e with
      | 0, e => exact nomatch (show some none = some (some v) from e)
      | 1, e =>
        have e : CV.ref 0 = v := Option.some.inj (Option.some.inj e)
        subst e
        exact ⟨.ref pb, rfl, .ref (n := 0) (Nat.lt_succ_self 0)⟩
      | i + 2, e =>
        have : ∀ (j : Nat), (repN 13)[j]? ≠ some (some v) := fun j z => by
          rw [repN_eq, List.getElem?_replicate] at z
          split at z <;> cases z
        exact absurd (show (repN 13)[i]? = some (some v) from e) (this i)
    · rw [upd_ne ne]
      exact hp
end
end Ex

set_option Elab.async false
set_option linter.all false
set_option maxRecDepth 100000
set_option maxHeartbeats 0
namespace Ex
open PySem PySem.W PySem.Calls PyProof.Rows
abbrev RW : OpenRow := OpenLaw.row PySem.Challenge.rw_allfaces_k25_journals_read
def topNames : List PySem.Str := (["_wall", "FaceError", "BadFaces", "BadText", "TooMany", "Refused", "is_whole", "subsets", "is_part", "left_out", "is_within_row", "NAMES_MOST", "FACES_MOST", "is_face_shape", "is_complex", "check_complex", "complex_of", "all_faces", "faces_of", "points_of"] : List PySem.Str) ++ (["dimension", "has_face", "is_in", "parts", "parts_faces", "face_counts", "boundary_faces", "boundary_table", "unit", "row_times", "Former", "smith", "free_pairs", "collapsed", "above", "divided_at", "flips", "flipped", "Level", "homology"] : List PySem.Str) ++ (["homology_homology", "reduced_homology", "face_text", "complex_text", "read_number", "read_face", "read_complex", "NAMES", "FIGURES", "MANY", "is_name", "Desk", "is_new_face", "done", "replay_desk", "_law_cell", "_law_digits", "_law_draw", "_law_pick", "_law_said"] : List PySem.Str)
abbrev hkL : PySem.W.Hook := hookX RW.prog 5 fa fn exs
def obL (s : PySem.W.SharedT) : AlX := obsXG RW.prog 5 fa fn exs (HandSHeadRun.getT s)
theorem obL_eq (s : PySem.W.SharedT) : obL s = hkL.obs s.abs := obsXG_eq (HandSHeadRun.getT_eq s)
theorem runL (w : World) : HandSHeadRun.RunEq RW (view RW.prog [72]) hkL obL 6000 topNames w := by
  intro os
  kernel_rfl
end Ex

set_option Elab.async false
set_option linter.all false
set_option maxRecDepth 100000
set_option maxHeartbeats 0
open PySem PySem.W PySem.Calls PyProof.Rows
theorem PySem.Challenge.cw_allfaces_k25_journals_read_holds : PySem.Challenge.rw_allfaces_k25_journals_read.Holds := by
  w_on; o_law
  refine HandSHeadRun.head_any (r := OpenLaw.row PySem.Challenge.rw_allfaces_k25_journals_read) (q := view (OpenLaw.row PySem.Challenge.rw_allfaces_k25_journals_read).prog [72]) (H := Ex.hkL) (ob := Ex.obL) (M := 6000) (loose := Ex.topNames) (d := HandSHeadRun.topDef (OpenLaw.row PySem.Challenge.rw_allfaces_k25_journals_read).prog 72) (kwd := []) Ex.obL_eq
    (by kernel_rfl) (fun s => by kernel_rfl) Ex.runL (by kernel_rfl) (by kernel_rfl) (by kernel_rfl) (by rfl) (by first | assumption | decide +kernel) (by decide +kernel) ⟨rfl, rfl, rfl, rfl, rfl, by decide +kernel⟩ ?hw ?hc
  case hw => w_witness2
  case hc =>
    refine L2.walk_ofE (l := PySem.Challenge.rw_allfaces_k25_journals_read) (n := 63) (k := 13) (x := "script") (CX := L2.CX0) rfl (by decide) (by kernel_rfl) ⟨rfl, by decide, by decide⟩ ?F (fun _ _ _ _ z => z)
    intro w mg fa h Y G hmg0
    obtain ⟨K, KX, c⟩ := Y
    have hmg : mg ("law" : PySem.Str) = some (.ref fa) := by
      have e : (HandSHeadRun.topDef (OpenLaw.row PySem.Challenge.rw_allfaces_k25_journals_read).prog 72).name = ("law" : PySem.Str) := by kernel_rfl
      rw [← e]
      exact hmg0
    have cm : Ex.Cm (PySem.Challenge.rw_allfaces_k25_journals_read).prog K mg := ⟨c, by decide +kernel, h, KX, G⟩
    obtain ⟨fd, hb, hF⟩ := Ex.fn_law (w := w) cm
    have e := hmg.symm.trans cm.glo_law
    have e2 : fa = He.ga K "law" := Value.ref.inj (Option.some.inj e)
    subst e2
    exact ⟨K, fd, Ex.spLaw K, KX, hb, fun H a ns hl _ hS => ⟨a, ns, rfl, hS, fun _ => rfl⟩, fun base _ _ => hF base⟩
