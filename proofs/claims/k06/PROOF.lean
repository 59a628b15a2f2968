import PyProof.Rows.All
import Wide.All
import OpenK.AllK
import Wide.FinOn
import HandS.ForMost
import KE.KeyNested
import KE.KDictKeyed
import HandS.TupAny
import HandS.TupMul
import HandS.Flow
import HandS.Deep
import HandS.Style
import KE.GoesNewDict
import HandS.IsInst
import HandS.Conv
import KE.GoesDict
import PyProof.StrLaws
import HandS.Set
import HandS.Strs
import HandS.More
import HandS.RaiseMore
import HandS.SetKeys
import KE.DataMinMax
import PyProof.MaxThree
import KE.KDictZip
import KE.KDictPairs
import HandS.DictComp
import HandS.Star
import HandS.Defaults
import HandS.Property
import HandS.HeadEnd
import HandS.HeadHook2
import HandS.Head2
import HandS.Codes
import HandS.HeadHook1
import PySem.Challenge.RW_partstold_k06_clauses_that_count
set_option Elab.async false
set_option linter.all false
set_option maxRecDepth 100000
set_option maxHeartbeats 1000000
/-! ### data, the virtual heap, programs with draws -/
namespace PV
open PySem
noncomputable section

/-- data: tuples are values, lists, dicts, instances stand at virtual addresses -/
inductive D where
  | non
  | bl (b : Bool)
  | int (i : Int)
  | str (s : List Nat)
  | tup (xs : List D)
  | ref (a : Nat)
  | kls (ns : List Int)

/-- objects of the virtual heap -/
inductive O where
  | lst (xs : List D)
  | dic (kvs : List (D × D))
  | dix (kvs : List (D × D))
  | lck (kvs : List (D × D))
  | lcx (kvs : List (D × D))
  | ins (c : Nat) (fs : List (Nat × D))
  | src (n : Nat)

/-- a map from numbers to objects -/
inductive T where
  | nil
  | node (l : T) (v : Option O) (r : T)

def T.get (t : T) : Nat → Option O := @T.rec (fun _ => Nat → Option O) (fun _ => none)
  (fun _ v _ gl gr k => @Nat.rec (fun _ => Option O) v (fun k _ => @Nat.rec (fun _ => Option O) (gl (k / 2)) (fun _ _ => gr (k / 2)) (k % 2)) k) t
theorem T.get_node (l r : T) (v : Option O) (k : Nat) : T.get (.node l v r) k = match k with
    | 0 => v
    | k + 1 => if k % 2 = 0 then T.get l (k / 2) else T.get r (k / 2) := by
  cases k with
  | zero => rfl
  | succ k =>
    show @Nat.rec (fun _ => Option O) (T.get l (k / 2)) (fun _ _ => T.get r (k / 2)) (k % 2) = _
    cases e : k % 2 with
    | zero => show _ = if k % 2 = 0 then _ else _; rw [if_pos e]; rfl
    | succ j => show _ = if k % 2 = 0 then _ else _; rw [if_neg (by omega)]
def T.put : Nat → T → Nat → O → T := @Nat.rec (fun _ => T → Nat → O → T) (fun t _ _ => t)
  (fun _ ih t k o => @T.rec (fun _ => T)
    (@Nat.rec (fun _ => T) (.node .nil (some o) .nil) (fun k _ => @Nat.rec (fun _ => T) (.node (ih .nil (k / 2) o) none .nil) (fun _ _ => .node .nil none (ih .nil (k / 2) o)) (k % 2)) k)
    (fun l v r _ _ => @Nat.rec (fun _ => T) (.node l (some o) r) (fun k _ => @Nat.rec (fun _ => T) (.node (ih l (k / 2) o) v r) (fun _ _ => .node l v (ih r (k / 2) o)) (k % 2)) k) t)
theorem T.put_zero (t : T) (k : Nat) (o : O) : T.put 0 t k o = t := rfl
theorem T.put_nil (f k : Nat) (o : O) : T.put (f + 1) .nil k o = match k with
    | 0 => .node .nil (some o) .nil
    | k + 1 => if k % 2 = 0 then .node (T.put f .nil (k / 2) o) none .nil else .node .nil none (T.put f .nil (k / 2) o) := by
  cases k with
  | zero => rfl
  | succ k =>
    show @Nat.rec (fun _ => T) (.node (T.put f .nil (k / 2) o) none .nil) (fun _ _ => .node .nil none (T.put f .nil (k / 2) o)) (k % 2) = _
    cases e : k % 2 with
    | zero => show _ = if k % 2 = 0 then _ else _; rw [if_pos e]; rfl
    | succ j => show _ = if k % 2 = 0 then _ else _; rw [if_neg (by omega)]
theorem T.put_node (f k : Nat) (o : O) (l r : T) (v : Option O) : T.put (f + 1) (.node l v r) k o = match k with
    | 0 => .node l (some o) r
    | k + 1 => if k % 2 = 0 then .node (T.put f l (k / 2) o) v r else .node l v (T.put f r (k / 2) o) := by
  cases k with
  | zero => rfl
  | succ k =>
    show @Nat.rec (fun _ => T) (.node (T.put f l (k / 2) o) v r) (fun _ _ => .node l v (T.put f r (k / 2) o)) (k % 2) = _
    cases e : k % 2 with
    | zero => show _ = if k % 2 = 0 then _ else _; rw [if_pos e]; rfl
    | succ j => show _ = if k % 2 = 0 then _ else _; rw [if_neg (by omega)]
theorem T.get_nil (k : Nat) : T.get .nil k = none := rfl
theorem T.get_put : ∀ (f : Nat) (t : T) (k j : Nat) (o : O), k < f → T.get (T.put f t k o) j = if j = k then some o else T.get t j
  | 0, _, _, _, _, h => absurd h (Nat.not_lt_zero _)
  | f + 1, .nil, 0, j, o, _ => by
    cases j with
    | zero => simp [T.put_nil, T.put_node, T.get_node, T.get_nil]
    | succ j => simp [T.put_nil, T.put_node, T.get_node, T.get_nil]
  | f + 1, .node l v r, 0, j, o, _ => by
    cases j with
    | zero => simp [T.put_nil, T.put_node, T.get_node, T.get_nil]
    | succ j => simp [T.put_nil, T.put_node, T.get_node, T.get_nil]
  | f + 1, .nil, k + 1, j, o, h => by
    have hk : k / 2 < f := by omega
    rw [T.put_nil]
    by_cases e : k % 2 = 0
    · simp only [e, if_true]
      cases j with
      | zero => simp [T.get_node, T.get_nil]
      | succ j =>
        simp only [T.get_node]
        by_cases e2 : j % 2 = 0
        · simp only [e2, if_true]
          rw [T.get_put f .nil (k / 2) (j / 2) o hk, T.get_nil]
          have : (j / 2 = k / 2) ↔ (j + 1 = k + 1) := by omega
          simp only [this, T.get_nil]
        · simp only [e2, if_false]
          rw [T.get_nil]
          have : ¬ (j + 1 = k + 1) := by omega
          simp only [if_neg this, T.get_nil]
    · simp only [e, if_false]
      cases j with
      | zero => simp [T.get_node, T.get_nil]
      | succ j =>
        simp only [T.get_node]
        by_cases e2 : j % 2 = 0
        · simp only [e2, if_true]
          rw [T.get_nil]
          have : ¬ (j + 1 = k + 1) := by omega
          simp only [if_neg this, T.get_nil]
        · simp only [e2, if_false]
          rw [T.get_put f .nil (k / 2) (j / 2) o hk, T.get_nil]
          have : (j / 2 = k / 2) ↔ (j + 1 = k + 1) := by omega
          simp only [this, T.get_nil]
  | f + 1, .node l v r, k + 1, j, o, h => by
    have hk : k / 2 < f := by omega
    rw [T.put_node]
    by_cases e : k % 2 = 0
    · simp only [e, if_true]
      cases j with
      | zero => simp [T.get_node, T.get_nil]
      | succ j =>
        simp only [T.get_node]
        by_cases e2 : j % 2 = 0
        · simp only [e2, if_true]
          rw [T.get_put f l (k / 2) (j / 2) o hk]
          have : (j / 2 = k / 2) ↔ (j + 1 = k + 1) := by omega
          simp only [this]
        · simp only [e2, if_false]
          have : ¬ (j + 1 = k + 1) := by omega
          simp only [if_neg this]
    · simp only [e, if_false]
      cases j with
      | zero => simp [T.get_node, T.get_nil]
      | succ j =>
        simp only [T.get_node]
        by_cases e2 : j % 2 = 0
        · simp only [e2, if_true]
          have : ¬ (j + 1 = k + 1) := by omega
          simp only [if_neg this]
        · simp only [e2, if_false]
          rw [T.get_put f r (k / 2) (j / 2) o hk]
          have : (j / 2 = k / 2) ↔ (j + 1 = k + 1) := by omega
          simp only [this]

/-- the virtual heap: the next address, the objects -/
structure VH where
  n : Nat
  t : T

def VH.get (h : VH) (a : Nat) : Option O := @Bool.rec (fun _ => Option O) none (h.t.get a) (Nat.ble (a + 1) h.n)
theorem VH.get_eq (h : VH) (a : Nat) : h.get a = if a < h.n then h.t.get a else none := by
  unfold VH.get
  cases e : Nat.ble (a + 1) h.n with
  | true => rw [if_pos (show a < h.n from Nat.le_of_ble_eq_true e)]
  | false => rw [if_neg fun q => by rw [Nat.ble_eq_true_of_le q] at e; cases e]
def VH.set (h : VH) (a : Nat) (o : O) : VH := ⟨h.n, h.t.put (a + 1) a o⟩
def VH.new (h : VH) (o : O) : VH := ⟨h.n + 1, h.t.put (h.n + 1) h.n o⟩
theorem VH.get_set {h : VH} {a b : Nat} {o : O} (ha : a < h.n) : (h.set a o).get b = if b = a then some o else h.get b := by
  rw [VH.get_eq, VH.get_eq]
  unfold VH.set
  simp only
  rw [T.get_put _ _ _ _ _ (Nat.lt_succ_self a)]
  by_cases e : b = a
  · subst e; simp [ha]
  · simp [e]
theorem VH.get_new {h : VH} {b : Nat} {o : O} : (h.new o).get b = if b = h.n then some o else h.get b := by
  rw [VH.get_eq, VH.get_eq]
  unfold VH.new
  simp only
  rw [T.get_put _ _ _ _ _ (Nat.lt_succ_self h.n)]
  by_cases e : b = h.n
  · subst e; simp
  · have : b < h.n + 1 ↔ b < h.n := by omega
    simp [e, this]
theorem VH.get_lt {h : VH} {a : Nat} {o : O} (e : h.get a = some o) : a < h.n := by
  rw [VH.get_eq] at e
  by_cases q : a < h.n
  · exact q
  · rw [if_neg q] at e; cases e

/-- programs with draws -/
inductive P (α : Type) where
  | ret (a : α)
  | draw (m : Nat) (k : Nat → P α)
def P.bind {α β : Type} : P α → (α → P β) → P β
  | .ret a, f => f a
  | .draw m k, f => .draw m (fun d => P.bind (k d) f)
def P.all {α : Type} (p : α → Prop) : P α → Prop
  | .ret a => p a
  | .draw m k => ∀ d, d < m → P.all p (k d)
theorem P.all_bind {α β : Type} {p : β → Prop} {f : α → P β} : ∀ {x : P α}, (x.bind f).all p → x.all (fun a => (f a).all p)
  | .ret _, h => h
  | .draw _ _, h => fun d hd => P.all_bind (h d hd)
theorem P.bind_all {α β : Type} {p : β → Prop} {f : α → P β} : ∀ {x : P α}, x.all (fun a => (f a).all p) → (x.bind f).all p
  | .ret _, h => h
  | .draw _ _, h => fun d hd => P.bind_all (h d hd)
theorem P.all_mono {α : Type} {p q : α → Prop} (i : ∀ a, p a → q a) : ∀ {x : P α}, x.all p → x.all q
  | .ret _, h => i _ h
  | .draw _ _, h => fun d hd => P.all_mono i (h d hd)

/-- a result: a value and a heap, or nothing told -/
inductive R (α : Type) where
  | ok (a : α) (h : VH)
  | bad
abbrev M (α : Type) := VH → P (R α)
def M.pure {α : Type} (a : α) : M α := fun h => .ret (.ok a h)
def M.bad {α : Type} : M α := fun _ => .ret .bad
def M.next {α β : Type} (f : α → M β) (r : R α) : P (R β) := @R.rec α (fun _ => P (R β)) f (.ret .bad) r
def M.bind {α β : Type} (x : M α) (f : α → M β) : M β := fun h => @P.rec (R α) (fun _ => P (R β)) (M.next f) (fun m _ ih => .draw m ih) (x h)
theorem M.bind_eq {α β : Type} (x : M α) (f : α → M β) (h : VH) : M.bind x f h = (x h).bind fun r => match r with
    | .ok a h' => f a h'
    | .bad => .ret .bad := by
  unfold M.bind
  generalize x h = p
  induction p with
  | ret r => cases r <;> rfl
  | draw m k ih =>
    show P.draw m _ = P.draw m _
    exact congrArg (P.draw m) (funext ih)
instance : Monad M where
  pure := M.pure
  bind := M.bind
end
end PV
set_option Elab.async false
set_option linter.all false
set_option maxRecDepth 100000
set_option maxHeartbeats 1000000
set_option autoImplicit false
namespace PV
noncomputable section
open PySem L2
/-! ### dicts whose keys are tuples, nested -/
mutual
inductive NKv (K : PySem.W.Frag) (H : Hp) : NestedKey → V → Prop
  | non : NKv K H .none .non
  | int (i : Int) : NKv K H (.num i) (.int i)
  | str (x : Str) : NKv K H (.text x) (.str x)
  | tup {p : Addr} {vs : List V} {ks : List NestedKey} : SqT K H p vs → NKs K H ks vs → NKv K H (.tup ks) (.ref p)
inductive NKs (K : PySem.W.Frag) (H : Hp) : List NestedKey → List V → Prop
  | nil : NKs K H [] []
  | cons {k : NestedKey} {v : V} {ks : List NestedKey} {vs : List V} : NKv K H k v → NKs K H ks vs → NKs K H (k :: ks) (v :: vs)
end
/-- the entries: keys, the keys' tuples, values -/
abbrev XE := List (NestedKey × Addr × V)
def XP (xs : XE) (ys : List (NestedKey × Addr × Value)) : Prop := Paired (fun (p : NestedKey × Addr × V) (q : NestedKey × Addr × Value) => p.1 = q.1 ∧ p.2.1 = q.2.1 ∧ RelV p.2.2 q.2.2) xs ys
def xdO (P : Program) (w : World) (a : Addr) (xs : XE) : HO := .ext fun h => (a == sysModules) = false ∧ ∃ ys, XP xs ys ∧ ∃ o es ep, h.get? a = some o ∧ o.ExactDict ∧ o.data = .dict es ep ∧ es.toList = ys.map (entryOfKey (nestedKind P w)) ∧ (ys.map (·.1)).Nodup
/-! keys as data -/
mutual
def nkD : D → NestedKey
  | .non => .none
  | .bl b => .num (if b then 1 else 0)
  | .int i => .num i
  | .str s => .text ⟨s.toArray⟩
  | .tup xs => .tup (nkDs xs)
  | .ref _ => .none
  | .kls _ => .none
def nkDs : List D → List NestedKey
  | [] => []
  | x :: r => nkD x :: nkDs r
end
/-- is it such a key, at most so deep (no bools) -/
def isNK : Nat → D → Bool
  | 0, d => match d with
    | .non => true
    | .int _ => true
    | .str _ => true
    | _ => false
  | f + 1, d => match d with
    | .non => true
    | .int _ => true
    | .str _ => true
    | .tup xs => xs.all (isNK f)
    | _ => false
def isTK : D → Bool
  | .tup xs => isNK 8 (.tup xs)
  | _ => false
end
end PV
set_option Elab.async false
set_option linter.all false
set_option maxRecDepth 100000
set_option maxHeartbeats 1000000
set_option autoImplicit false
namespace PV
noncomputable section
open PySem L2

/-- a text as Python has them -/
def OkS (s : List Nat) : Prop := (∀ c, c ∈ s → c < 1114112) ∧ s.length ≤ 16777216
/-- a list of ints of the head -/
def KLk (K : PySem.W.Frag) (p : Addr) (ns : List Int) : Prop := ∃ (o : Obj) (its : Array Value) (n : Nat), K.lookup p = some o ∧ o.cls = .type "list" ∧ o.dict = none ∧ o.data = .seq its n ∧ its.size ≤ sizeLine ∧ Vals (ns.map V.int) its.toList
mutual
def RelD (K : PySem.W.Frag) (ρ : Nat → Addr) (n : Nat) (H : Hp) : D → V → Prop
  | .non, v => v = .non
  | .bl b, v => v = .bl b
  | .int i, v => v = .int i
  | .str s, v => v = .str ⟨s.toArray⟩ ∧ OkS s
  | .tup xs, v => ∃ p vs, v = .ref p ∧ SqT K H p vs ∧ RelDs K ρ n H xs vs
  | .ref a, v => a < n ∧ v = .ref (ρ a)
  | .kls ns, v => ∃ p, v = .ref p ∧ ns.length ≤ 1000 ∧ ((∃ o, H p = some (.frz o (.lst (ns.map V.int))) ∧ ∀ a, a < n → ρ a ≠ p) ∨ KLk K p ns)
def RelDs (K : PySem.W.Frag) (ρ : Nat → Addr) (n : Nat) (H : Hp) : List D → List V → Prop
  | [], vs => vs = []
  | x :: xs, vs => ∃ v r, vs = v :: r ∧ RelD K ρ n H x v ∧ RelDs K ρ n H xs r
end

/-- what data need of a later state -/
structure Le0 (K : PySem.W.Frag) (ρ : Nat → Addr) (n : Nat) (H : Hp) (ρ' : Nat → Addr) (n' : Nat) (H' : Hp) : Prop where
  le : n ≤ n'
  ad : ∀ a, a < n → ρ' a = ρ a
  tp : ∀ p vs, SqT K H p vs → SqT K H' p vs
  fz : ∀ p o u, H p = some (.frz o u) → (∀ a, a < n → ρ a ≠ p) → H' p = some (.frz o u) ∧ ∀ a, a < n' → ρ' a ≠ p
/-- the later state knows what the earlier knew -/
structure Le (K : PySem.W.Frag) (ρ : Nat → Addr) (n : Nat) (H : Hp) (ρ' : Nat → Addr) (n' : Nat) (H' : Hp) : Prop where
  le : n ≤ n'
  ad : ∀ a, a < n → ρ' a = ρ a
  tp : ∀ p vs, SqT K H p vs → SqT K H' p vs
  fr : ∀ p o, H p = some o → (∀ a, a < n → ρ a ≠ p) → H' p = some o ∧ ∀ a, a < n' → ρ' a ≠ p
  lk : ∀ p o u, H p = some (.frz o u) → H' p = some (.frz o u)
theorem Le.z {K : PySem.W.Frag} {ρ ρ' : Nat → Addr} {n n' : Nat} {H H' : Hp} (l : Le K ρ n H ρ' n' H') : Le0 K ρ n H ρ' n' H' := ⟨l.le, l.ad, l.tp, fun p o u => l.fr p (.frz o u)⟩
theorem Le.refl {K : PySem.W.Frag} {ρ : Nat → Addr} {n : Nat} {H : Hp} : Le K ρ n H ρ n H := ⟨Nat.le_refl _, fun _ _ => rfl, fun _ _ h => h, fun _ _ h f => ⟨h, f⟩, fun _ _ _ h => h⟩
theorem Le.trans {K : PySem.W.Frag} {ρ ρ1 ρ2 : Nat → Addr} {n n1 n2 : Nat} {H H1 H2 : Hp} (a : Le K ρ n H ρ1 n1 H1) (b : Le K ρ1 n1 H1 ρ2 n2 H2) : Le K ρ n H ρ2 n2 H2 :=
  ⟨Nat.le_trans a.le b.le, fun x hx => (b.ad x (Nat.lt_of_lt_of_le hx a.le)).trans (a.ad x hx), fun p vs h => b.tp p vs (a.tp p vs h), fun p o h f => let ⟨x, y⟩ := a.fr p o h f; b.fr p o x y, fun p o u h => b.lk p o u (a.lk p o u h)⟩
section
variable {K : PySem.W.Frag} {ρ ρ' : Nat → Addr} {n n' : Nat} {H H' : Hp}
mutual
theorem RelD.mono0 (l : Le0 K ρ n H ρ' n' H') : ∀ {d : D} {v : V}, RelD K ρ n H d v → RelD K ρ' n' H' d v
  | .non, v, h => by unfold RelD at h ⊢; exact h
  | .bl b, v, h => by unfold RelD at h ⊢; exact h
  | .int i, v, h => by unfold RelD at h ⊢; exact h
  | .str s, v, h => by unfold RelD at h ⊢; exact h
  | .tup xs, v, h => by
    unfold RelD at h ⊢
    obtain ⟨p, vs, e, q, r⟩ := h
    exact ⟨p, vs, e, l.tp _ _ q, RelDs.mono0 l r⟩
  | .ref a, v, h => by
    unfold RelD at h ⊢
    exact ⟨Nat.lt_of_lt_of_le h.1 l.le, by rw [l.ad a h.1]; exact h.2⟩
  | .kls ns, v, h => by
    unfold RelD at h ⊢
    obtain ⟨p, e, hl, ⟨o, q, f⟩ | q⟩ := h
    · exact ⟨p, e, hl, .inl ⟨o, l.fz p o _ q f⟩⟩
    · exact ⟨p, e, hl, .inr q⟩
theorem RelDs.mono0 (l : Le0 K ρ n H ρ' n' H') : ∀ {ds : List D} {vs : List V}, RelDs K ρ n H ds vs → RelDs K ρ' n' H' ds vs
  | [], vs, h => by unfold RelDs at h ⊢; exact h
  | x :: xs, vs, h => by
    unfold RelDs at h ⊢
    obtain ⟨v, r, e, a, b⟩ := h
    exact ⟨v, r, e, RelD.mono0 l a, RelDs.mono0 l b⟩
end
theorem RelD.mono (l : Le K ρ n H ρ' n' H') {d : D} {v : V} (h : RelD K ρ n H d v) : RelD K ρ' n' H' d v := RelD.mono0 l.z h
theorem RelDs.mono (l : Le K ρ n H ρ' n' H') {ds : List D} {vs : List V} (h : RelDs K ρ n H ds vs) : RelDs K ρ' n' H' ds vs := RelDs.mono0 l.z h
end

/-- keys: ints and texts -/
def KRel : D → Key → Prop
  | .int i, k => k = .inl i
  | .str s, k => k = .inr ⟨s.toArray⟩ ∧ OkS s
  | _, _ => False
def DRel (K : PySem.W.Frag) (ρ : Nat → Addr) (n : Nat) (H : Hp) : List (D × D) → List (Key × V) → Prop
  | [], es => es = []
  | q :: r, es => ∃ k v es', es = (k, v) :: es' ∧ KRel q.1 k ∧ RelD K ρ n H q.2 v ∧ DRel K ρ n H r es'
theorem DRel.mono0 {K : PySem.W.Frag} {ρ ρ' : Nat → Addr} {n n' : Nat} {H H' : Hp} (l : Le0 K ρ n H ρ' n' H') : ∀ {kvs : List (D × D)} {es : List (Key × V)}, DRel K ρ n H kvs es → DRel K ρ' n' H' kvs es
  | [], es, h => h
  | q :: r, es, h => by
    obtain ⟨k, v, es', e, a, b, c⟩ := h
    exact ⟨k, v, es', e, a, b.mono0 l, DRel.mono0 l c⟩
theorem DRel.mono {K : PySem.W.Frag} {ρ ρ' : Nat → Addr} {n n' : Nat} {H H' : Hp} (l : Le K ρ n H ρ' n' H') {kvs : List (D × D)} {es : List (Key × V)} (h : DRel K ρ n H kvs es) : DRel K ρ' n' H' kvs es := DRel.mono0 l.z h
/-- entries with tuples as keys -/
def XRel (K : PySem.W.Frag) (ρ : Nat → Addr) (n : Nat) (H : Hp) : List (D × D) → XE → Prop
  | [], xs => xs = []
  | q :: r, xs => ∃ b v xs', xs = (nkD q.1, b, v) :: xs' ∧ isTK q.1 = true ∧ RelD K ρ n H q.1 (.ref b) ∧ RelD K ρ n H q.2 v ∧ XRel K ρ n H r xs'
theorem XRel.mono0 {K : PySem.W.Frag} {ρ ρ' : Nat → Addr} {n n' : Nat} {H H' : Hp} (l : Le0 K ρ n H ρ' n' H') : ∀ {kvs : List (D × D)} {es : XE}, XRel K ρ n H kvs es → XRel K ρ' n' H' kvs es
  | [], es, h => h
  | q :: r, es, h => by
    obtain ⟨k, v, es', e, a, b, c, d⟩ := h
    exact ⟨k, v, es', e, a, b.mono0 l, c.mono0 l, XRel.mono0 l d⟩
theorem XRel.mono {K : PySem.W.Frag} {ρ ρ' : Nat → Addr} {n n' : Nat} {H H' : Hp} (l : Le K ρ n H ρ' n' H') {kvs : List (D × D)} {es : XE} (h : XRel K ρ n H kvs es) : XRel K ρ' n' H' kvs es := XRel.mono0 l.z h
/-- what the class ids and attribute ids stand for -/
structure Gs where
  P : Program
  w : World
  nc : Nat
  cls : Nat → Addr
  na : Nat
  att : Nat → Str
  inj : ∀ i j, i < na → j < na → att i = att j → i = j

def ORel (G : Gs) (K : PySem.W.Frag) (ρ : Nat → Addr) (n : Nat) (H : Hp) (p : Addr) : O → Prop
  | .lst xs => ∃ vs, H p = some (.lst vs) ∧ RelDs K ρ n H xs vs
  | .dic kvs => ∃ es : List (Key × V), H p = some (.dK es) ∧ DRel K ρ n H kvs es ∧ (es.map (·.1)).Nodup
  | .dix kvs => ∃ xs : XE, H p = some (xdO G.P G.w p xs) ∧ XRel K ρ n H kvs xs ∧ (xs.map (·.1)).Nodup
  | .lck kvs => ∃ (od : Obj) (es : List (Key × V)), H p = some (.frz od (.dK es)) ∧ DRel K ρ n H kvs es ∧ (es.map (·.1)).Nodup
  | .lcx kvs => ∃ (od : Obj) (xs : XE), H p = some (.frz od (xdO G.P G.w p xs)) ∧ XRel K ρ n H kvs xs ∧ (xs.map (·.1)).Nodup
  | .ins c fs => ∃ (dx : Addr) (vs : List V), H p = some (.ins (G.cls c) dx ((fs.map fun q => G.att q.1).zip vs)) ∧ RelDs K ρ n H (fs.map (·.2)) vs ∧ c < G.nc ∧ ∀ q, q ∈ fs → q.1 < G.na
  | .src c => ∃ g s : Int, H p = some (.lst [.int g, .int s, .int c]) ∧ 0 ≤ s ∧ s < 2147483648 ∧ 0 ≤ g

structure HR (G : Gs) (K : PySem.W.Frag) (ρ : Nat → Addr) (h : VH) (H : Hp) : Prop where
  inj : ∀ a b, a < h.n → b < h.n → ρ a = ρ b → a = b
  obj : ∀ a, a < h.n → ∃ o, h.get a = some o ∧ ORel G K ρ h.n H (ρ a) o

/-- the frame's slots -/
def ER (K : PySem.W.Frag) (ρ : Nat → Addr) (n : Nat) (H : Hp) (env : List (Option D)) (σ : St) : Prop :=
  env.length = σ.length ∧ ∀ (i : Nat) (d : D), env[i]? = some (some d) → ∃ v, σ[i]? = some (some v) ∧ RelD K ρ n H d v
theorem ER.mono {K : PySem.W.Frag} {ρ ρ' : Nat → Addr} {n n' : Nat} {H H' : Hp} {env : List (Option D)} {σ : St} (l : Le K ρ n H ρ' n' H') (e : ER K ρ n H env σ) : ER K ρ' n' H' env σ :=
  ⟨e.1, fun i d h => let ⟨v, a, b⟩ := e.2 i d h; ⟨v, a, b.mono l⟩⟩

/-- what is wanted behind an expression -/
def PostE (G : Gs) (K : PySem.W.Frag) (ρ : Nat → Addr) (n : Nat) (H : Hp) (Q : VK) : R D → Prop
  | .ok d h' => ∀ ρ' H' v, Le K ρ n H ρ' h'.n H' → HR G K ρ' h' H' → RelD K ρ' h'.n H' d v → Q v H'
  | .bad => False
def PostA (G : Gs) (K : PySem.W.Frag) (ρ : Nat → Addr) (n : Nat) (H : Hp) (Q : List V → Hp → Prop) : R (List D) → Prop
  | .ok d h' => ∀ ρ' H' v, Le K ρ n H ρ' h'.n H' → HR G K ρ' h' H' → RelDs K ρ' h'.n H' d v → Q v H'
  | .bad => False
def PostT (G : Gs) (K : PySem.W.Frag) (ρ : Nat → Addr) (n : Nat) (H : Hp) (Q : Bool → Hp → Prop) : R Bool → Prop
  | .ok b h' => ∀ ρ' H', Le K ρ n H ρ' h'.n H' → HR G K ρ' h' H' → Q b H'
  | .bad => False

abbrev Env := List (Option D)
/-- the expression e does what m tells -/
def SE (G : Gs) (K : PySem.W.Frag) (C : Cx → Prop) (e : Expr) (m : Env → M D) : Prop :=
  ∃ t, (∀ X, C X → X.K = K → PE X e t) ∧ ∀ ρ env h σ H Q, HR G K ρ h H → ER K ρ h.n H env σ → (m env h).all (PostE G K ρ h.n H Q) → t σ H Q
def SA (G : Gs) (K : PySem.W.Frag) (C : Cx → Prop) (es : List Expr) (m : Env → M (List D)) : Prop :=
  ∃ t, (∀ X, C X → X.K = K → PA X es t) ∧ ∀ ρ env h σ H Q, HR G K ρ h H → ER K ρ h.n H env σ → (m env h).all (PostA G K ρ h.n H Q) → t σ H Q
def STt (G : Gs) (K : PySem.W.Frag) (C : Cx → Prop) (e : Expr) (m : Env → M Bool) : Prop :=
  ∃ t, (∀ X, C X → X.K = K → PT X e t) ∧ ∀ ρ env h σ H Q, HR G K ρ h H → ER K ρ h.n H env σ → (m env h).all (PostT G K ρ h.n H Q) → t σ H Q

section
variable {G : Gs} {K : PySem.W.Frag} {ρ ρ' : Nat → Addr} {n n' : Nat} {H H' : Hp}
theorem PostE.mono (l : Le K ρ n H ρ' n' H') {Q : VK} {r : R D} (p : PostE G K ρ n H Q r) : PostE G K ρ' n' H' Q r := by
  cases r with
  | bad => exact p
  | ok d h' => exact fun ρ2 H2 v l2 => p ρ2 H2 v (l.trans l2)
theorem PostA.mono (l : Le K ρ n H ρ' n' H') {Q : List V → Hp → Prop} {r : R (List D)} (p : PostA G K ρ n H Q r) : PostA G K ρ' n' H' Q r := by
  cases r with
  | bad => exact p
  | ok d h' => exact fun ρ2 H2 v l2 => p ρ2 H2 v (l.trans l2)
/-- bind, taken apart -/
theorem all_M {α β : Type} {x : M α} {f : α → M β} {h : VH} {p : R β → Prop} (hb : (M.bind x f h).all p) (hp : p .bad → False) : (x h).all fun r => match r with | .ok a h' => (f a h').all p | .bad => False := by
  rw [M.bind_eq] at hb
  refine P.all_mono (fun r hr => ?_) (P.all_bind hb)
  cases r with
  | ok a h' => exact hr
  | bad => exact hp hr
end

section
variable {G : Gs} {K : PySem.W.Frag} {ρ : Nat → Addr} {n : Nat} {H : Hp} {v : V}
theorem relD_non : RelD K ρ n H .non v ↔ v = .non := by unfold RelD; exact Iff.rfl
theorem relD_bl {b : Bool} : RelD K ρ n H (.bl b) v ↔ v = .bl b := by unfold RelD; exact Iff.rfl
theorem relD_int {i : Int} : RelD K ρ n H (.int i) v ↔ v = .int i := by unfold RelD; exact Iff.rfl
theorem relD_str {s : List Nat} : RelD K ρ n H (.str s) v ↔ v = .str ⟨s.toArray⟩ ∧ OkS s := by unfold RelD; exact Iff.rfl
theorem relD_tup {xs : List D} : RelD K ρ n H (.tup xs) v ↔ ∃ p vs, v = .ref p ∧ SqT K H p vs ∧ RelDs K ρ n H xs vs := by unfold RelD; exact Iff.rfl
theorem relD_ref {a : Nat} : RelD K ρ n H (.ref a) v ↔ a < n ∧ v = .ref (ρ a) := by unfold RelD; exact Iff.rfl
theorem relD_kls {ns : List Int} : RelD K ρ n H (.kls ns) v ↔ ∃ p, v = .ref p ∧ ns.length ≤ 1000 ∧ ((∃ o, H p = some (.frz o (.lst (ns.map V.int))) ∧ ∀ a, a < n → ρ a ≠ p) ∨ KLk K p ns) := by unfold RelD; exact Iff.rfl
theorem relDs_nil {vs : List V} : RelDs K ρ n H [] vs ↔ vs = [] := by unfold RelDs; exact Iff.rfl
theorem relDs_cons {x : D} {xs : List D} {vs : List V} : RelDs K ρ n H (x :: xs) vs ↔ ∃ v r, vs = v :: r ∧ RelD K ρ n H x v ∧ RelDs K ρ n H xs r := by rw [RelDs]
theorem relDs_one {x : D} {vs : List V} : RelDs K ρ n H [x] vs ↔ ∃ v, vs = [v] ∧ RelD K ρ n H x v := by
  rw [relDs_cons]
  constructor
  · rintro ⟨v, r, e, a, b⟩
    rw [relDs_nil] at b
    subst b
    exact ⟨v, e, a⟩
  · rintro ⟨v, e, a⟩
    exact ⟨v, [], e, a, relDs_nil.mpr rfl⟩
theorem relDs_two {x y : D} {vs : List V} : RelDs K ρ n H [x, y] vs ↔ ∃ v u, vs = [v, u] ∧ RelD K ρ n H x v ∧ RelD K ρ n H y u := by
  rw [relDs_cons]
  constructor
  · rintro ⟨v, r, e, a, b⟩
    rw [relDs_one] at b
    obtain ⟨u, e2, b⟩ := b
    subst e2
    exact ⟨v, u, e, a, b⟩
  · rintro ⟨v, u, e, a, b⟩
    exact ⟨v, [u], e, a, relDs_one.mpr ⟨u, rfl, b⟩⟩
theorem relDs_append : ∀ {xs ys : List D} {vs us : List V}, RelDs K ρ n H xs vs → RelDs K ρ n H ys us → RelDs K ρ n H (xs ++ ys) (vs ++ us)
  | [], ys, vs, us, a, b => by rw [relDs_nil] at a; subst a; exact b
  | x :: xs, ys, vs, us, a, b => by
    rw [relDs_cons] at a
    obtain ⟨v, r, e, a1, a2⟩ := a
    subst e
    exact relDs_cons.mpr ⟨v, r ++ us, rfl, a1, relDs_append a2 b⟩
theorem relDs_get : ∀ {xs : List D} {vs : List V} {i : Nat} {x : D}, RelDs K ρ n H xs vs → xs[i]? = some x → ∃ v, vs[i]? = some v ∧ RelD K ρ n H x v
  | [], vs, i, x, a, e => by simp at e
  | y :: xs, vs, 0, x, a, e => by
    rw [relDs_cons] at a
    obtain ⟨v, r, e1, a1, a2⟩ := a
    subst e1
    simp at e
    subst e
    exact ⟨v, by simp, a1⟩
  | y :: xs, vs, i + 1, x, a, e => by
    rw [relDs_cons] at a
    obtain ⟨v, r, e1, a1, a2⟩ := a
    subst e1
    obtain ⟨u, e2, q⟩ := relDs_get (i := i) a2 (by simpa using e)
    exact ⟨u, by simpa using e2, q⟩
theorem relDs_take : ∀ {xs : List D} {vs : List V} (k : Nat), RelDs K ρ n H xs vs → RelDs K ρ n H (xs.take k) (vs.take k)
  | xs, vs, 0, a => by simpa using relDs_nil.mpr rfl
  | [], vs, k + 1, a => by rw [relDs_nil] at a; subst a; simpa using relDs_nil.mpr rfl
  | x :: xs, vs, k + 1, a => by
    rw [relDs_cons] at a
    obtain ⟨v, r, e1, a1, a2⟩ := a
    subst e1
    exact relDs_cons.mpr ⟨v, r.take k, rfl, a1, relDs_take k a2⟩
theorem relDs_drop : ∀ {xs : List D} {vs : List V} (k : Nat), RelDs K ρ n H xs vs → RelDs K ρ n H (xs.drop k) (vs.drop k)
  | xs, vs, 0, a => by simpa using a
  | [], vs, k + 1, a => by rw [relDs_nil] at a; subst a; simpa using relDs_nil.mpr rfl
  | x :: xs, vs, k + 1, a => by
    rw [relDs_cons] at a
    obtain ⟨v, r, e1, a1, a2⟩ := a
    subst e1
    simpa using relDs_drop k a2
theorem relDs_set {x : D} {v : V} (hx : RelD K ρ n H x v) : ∀ {xs : List D} {vs : List V} (k : Nat), RelDs K ρ n H xs vs → RelDs K ρ n H (xs.set k x) (vs.set k v)
  | [], vs, k, a => by rw [relDs_nil] at a; subst a; simpa using relDs_nil.mpr rfl
  | y :: xs, vs, 0, a => by
    rw [relDs_cons] at a
    obtain ⟨w, r, e1, a1, a2⟩ := a
    subst e1
    exact relDs_cons.mpr ⟨v, r, rfl, hx, a2⟩
  | y :: xs, vs, k + 1, a => by
    rw [relDs_cons] at a
    obtain ⟨w, r, e1, a1, a2⟩ := a
    subst e1
    exact relDs_cons.mpr ⟨w, r.set k v, rfl, a1, relDs_set hx k a2⟩
theorem relDs_erase : ∀ {xs : List D} {vs : List V} (k : Nat), RelDs K ρ n H xs vs → RelDs K ρ n H (xs.eraseIdx k) (vs.eraseIdx k)
  | [], vs, k, a => by rw [relDs_nil] at a; subst a; simpa using relDs_nil.mpr rfl
  | y :: xs, vs, 0, a => by
    rw [relDs_cons] at a
    obtain ⟨w, r, e1, a1, a2⟩ := a
    subst e1
    simpa using a2
  | y :: xs, vs, k + 1, a => by
    rw [relDs_cons] at a
    obtain ⟨w, r, e1, a1, a2⟩ := a
    subst e1
    exact relDs_cons.mpr ⟨w, r.eraseIdx k, rfl, a1, relDs_erase k a2⟩
theorem relDs_rep {xs : List D} {vs : List V} (a : RelDs K ρ n H xs vs) : ∀ k : Nat, RelDs K ρ n H (List.replicate k xs).flatten (List.replicate k vs).flatten
  | 0 => by simpa using relDs_nil.mpr rfl
  | k + 1 => by
    rw [List.replicate_succ, List.replicate_succ, List.flatten_cons, List.flatten_cons]
    exact relDs_append a (relDs_rep a k)
theorem relDs_rev : ∀ {xs : List D} {vs : List V}, RelDs K ρ n H xs vs → RelDs K ρ n H xs.reverse vs.reverse
  | [], vs, a => by rw [relDs_nil] at a; subst a; simpa using relDs_nil.mpr rfl
  | x :: xs, vs, a => by
    rw [relDs_cons] at a
    obtain ⟨v, r, e1, a1, a2⟩ := a
    subst e1
    rw [List.reverse_cons, List.reverse_cons]
    exact relDs_append (relDs_rev a2) (relDs_one.mpr ⟨v, rfl, a1⟩)
theorem HR.dic {h : VH} (r : HR G K ρ h H) {a : Nat} {kvs : List (D × D)} (e : h.get a = some (.dic kvs)) : ∃ es : List (Key × V), H (ρ a) = some (.dK es) ∧ DRel K ρ h.n H kvs es ∧ (es.map (·.1)).Nodup := by
  obtain ⟨o, e2, q⟩ := r.obj a (VH.get_lt e)
  rw [e] at e2
  cases e2
  exact q
theorem HR.dk {h : VH} (r : HR G K ρ h H) {a : Nat} {kvs : List (D × D)} (e : h.get a = some (.dic kvs) ∨ h.get a = some (.lck kvs)) : ∃ es : List (Key × V), Rd H (ρ a) (.dK es) ∧ DRel K ρ h.n H kvs es ∧ (es.map (·.1)).Nodup := by
  rcases e with e | e
  · obtain ⟨o, e2, q⟩ := r.obj a (VH.get_lt e)
    rw [e] at e2
    cases e2
    obtain ⟨es, q1, q2⟩ := q
    exact ⟨es, .inl q1, q2⟩
  · obtain ⟨o, e2, q⟩ := r.obj a (VH.get_lt e)
    rw [e] at e2
    cases e2
    obtain ⟨od, es, q1, q2⟩ := q
    exact ⟨es, .inr ⟨od, q1⟩, q2⟩
theorem HR.dx {h : VH} (r : HR G K ρ h H) {a : Nat} {kvs : List (D × D)} (e : h.get a = some (.dix kvs) ∨ h.get a = some (.lcx kvs)) : ∃ xs : XE, Rd H (ρ a) (xdO G.P G.w (ρ a) xs) ∧ XRel K ρ h.n H kvs xs ∧ (xs.map (·.1)).Nodup := by
  rcases e with e | e
  · obtain ⟨o, e2, q⟩ := r.obj a (VH.get_lt e)
    rw [e] at e2
    cases e2
    obtain ⟨es, q1, q2⟩ := q
    exact ⟨es, .inl q1, q2⟩
  · obtain ⟨o, e2, q⟩ := r.obj a (VH.get_lt e)
    rw [e] at e2
    cases e2
    obtain ⟨od, es, q1, q2⟩ := q
    exact ⟨es, .inr ⟨od, q1⟩, q2⟩
theorem HR.lst {h : VH} (r : HR G K ρ h H) {a : Nat} {xs : List D} (e : h.get a = some (.lst xs)) : ∃ vs, H (ρ a) = some (.lst vs) ∧ RelDs K ρ h.n H xs vs := by
  obtain ⟨o, e2, q⟩ := r.obj a (VH.get_lt e)
  rw [e] at e2
  cases e2
  exact q
end

/-! ### names, constants, tuples, lists -/
section
variable {G : Gs} {K : PySem.W.Frag} {C : Cx → Prop} {X : Cx}
theorem se_loc {i : Nat} {x : Str} {pos : Pos} (hN : ∀ X, C X → X.N[i]? = some x) (hv : ∀ X, C X → Vis X.env.scope x) (hd : (x == ("__debug__" : Str)) = false) (hcd : (x == ("__classdict__" : Str)) = false) :
    SE G K C (.Name x pos) (fun env h => match env[i]? with | some (some d) => .ret (.ok d h) | _ => .ret .bad) := by
  refine ⟨_, fun X hX eK => pe_var (hN X hX) (hv X hX) hd hcd, fun ρ env h σ H Q hr er hq => ?_⟩
  dsimp only at hq
  cases e : env[i]? with
  | none => rw [e] at hq; exact hq.elim
  | some o =>
    cases o with
    | none => rw [e] at hq; exact hq.elim
    | some d =>
      rw [e] at hq
      obtain ⟨v, hs, rd⟩ := er.2 i d e
      exact ⟨v, hs, hq ρ H v Le.refl hr rd⟩
theorem se_cst {e : Expr} {d : D} {v : V} (hp : ∀ X, C X → X.K = K → PE X e (tC v)) (hd : ∀ ρ n H, RelD K ρ n H d v) : SE G K C e (fun _ => M.pure d) :=
  ⟨_, hp, fun ρ env h σ H Q hr er hq => hq ρ H v Le.refl hr (hd _ _ _)⟩
theorem sa_nil : SA G K C [] (fun _ => M.pure []) := ⟨_, fun X hX eK => pa_nil, fun ρ env h σ H Q hr er hq => hq ρ H [] Le.refl hr (by unfold RelDs; rfl)⟩
theorem sa_cons {e : Expr} {es : List Expr} {m : Env → M D} {ms : Env → M (List D)} (he : SE G K C e m) (hes : SA G K C es ms) (hs : ∀ X, C X → starEach (e :: es) X.env = (false, eval e X.env) :: starEach es X.env) :
    SA G K C (e :: es) (fun env => M.bind (m env) fun x => M.bind (ms env) fun xs => M.pure (x :: xs)) := by
  obtain ⟨t, pt, ht⟩ := he
  obtain ⟨u, pu, hu⟩ := hes
  refine ⟨_, fun X hX eK => pa_cons (pt X hX eK) (pu X hX eK) (hs X hX), fun ρ env h σ H Q hr er hq => ?_⟩
  refine ht ρ env h σ H _ hr er (P.all_mono (fun r hr1 => ?_) (all_M hq (fun z => z)))
  cases r with
  | bad => exact hr1
  | ok d h1 =>
    intro ρ1 H1 v l1 hr2 rd
    refine hu ρ1 env h1 σ H1 _ hr2 (er.mono l1) (P.all_mono (fun r2 hr3 => ?_) (all_M hr1 (fun z => z)))
    cases r2 with
    | bad => exact hr3
    | ok ds h2 =>
      intro ρ2 H2 vs l2 hr4 rds
      exact hr3 ρ2 H2 (v :: vs) (l1.trans l2) hr4 (by unfold RelDs; exact ⟨v, vs, rfl, rd.mono l2, rds⟩)
theorem relDs_len {K : PySem.W.Frag} {ρ : Nat → Addr} {n : Nat} {H : Hp} : ∀ {ds : List D} {vs : List V}, RelDs K ρ n H ds vs → ds.length = vs.length
  | [], vs, h => by unfold RelDs at h; subst h; rfl
  | d :: ds, vs, h => by
    unfold RelDs at h
    obtain ⟨v, r, e, _, b⟩ := h
    subst e
    simp [relDs_len b]
/-- a fresh address: what was known is known -/
theorem Le.upd_fresh {K : PySem.W.Frag} {ρ : Nat → Addr} {n : Nat} {H : Hp} {p : Addr} {o : HO} (hp : H p = none) : Le K ρ n H ρ n (upd H p o) :=
  ⟨Nat.le_refl _, fun _ _ => rfl, fun q vs h => by
    rcases h with (h | ⟨ob, h⟩) | h
    · exact .inl (.inl (by rw [upd_ne (ne_of_none h hp)]; exact h))
    · exact .inl (.inr ⟨ob, by rw [upd_ne (ne_of_none h hp)]; exact h⟩)
    · exact .inr h, fun q o hq f => ⟨by rw [upd_ne (ne_of_none hq hp)]; exact hq, f⟩, fun q o u hq => by rw [upd_ne (ne_of_none hq hp)]; exact hq⟩
theorem ORel.some {G : Gs} {K : PySem.W.Frag} {ρ : Nat → Addr} {n : Nat} {H : Hp} {p : Addr} {o : O} (h : ORel G K ρ n H p o) : ∃ u, H p = some u := by
  cases o with
  | lst xs => obtain ⟨_, e, _⟩ := h; exact ⟨_, e⟩
  | dic kvs => obtain ⟨_, e, _⟩ := h; exact ⟨_, e⟩
  | dix kvs => obtain ⟨_, e, _⟩ := h; exact ⟨_, e⟩
  | lck kvs => obtain ⟨_, _, e, _⟩ := h; exact ⟨_, e⟩
  | lcx kvs => obtain ⟨_, _, e, _⟩ := h; exact ⟨_, e⟩
  | ins c fs => obtain ⟨_, _, e, _⟩ := h; exact ⟨_, e⟩
  | src c => obtain ⟨_, _, e, _⟩ := h; exact ⟨_, e⟩
/-- an object stays, where its own address stays -/
theorem ORel.mono0 {G : Gs} {K : PySem.W.Frag} {ρ ρ' : Nat → Addr} {n n' : Nat} {H H' : Hp} {p : Addr} {o : O} (l : Le0 K ρ n H ρ' n' H') (e : H' p = H p) (h : ORel G K ρ n H p o) : ORel G K ρ' n' H' p o := by
  cases o with
  | lst xs => obtain ⟨vs, a, b⟩ := h; exact ⟨vs, e.trans a, b.mono0 l⟩
  | dic kvs => obtain ⟨es, a, b, c⟩ := h; exact ⟨es, e.trans a, b.mono0 l, c⟩
  | dix kvs => obtain ⟨es, a, b, c⟩ := h; exact ⟨es, e.trans a, b.mono0 l, c⟩
  | lck kvs => obtain ⟨od, es, a, b, c⟩ := h; exact ⟨od, es, e.trans a, b.mono0 l, c⟩
  | lcx kvs => obtain ⟨od, es, a, b, c⟩ := h; exact ⟨od, es, e.trans a, b.mono0 l, c⟩
  | ins c fs => obtain ⟨dx, vs, a, b, c⟩ := h; exact ⟨dx, vs, e.trans a, b.mono0 l, c⟩
  | src c => obtain ⟨g, s, a, b⟩ := h; exact ⟨g, s, e.trans a, b⟩
theorem ORel.mono {G : Gs} {K : PySem.W.Frag} {ρ ρ' : Nat → Addr} {n n' : Nat} {H H' : Hp} {p : Addr} {o : O} (l : Le K ρ n H ρ' n' H') (e : H' p = H p) (h : ORel G K ρ n H p o) : ORel G K ρ' n' H' p o := ORel.mono0 l.z e h
theorem HR.fresh {G : Gs} {K : PySem.W.Frag} {ρ : Nat → Addr} {h : VH} {H : Hp} (r : HR G K ρ h H) {p : Addr} {o : HO} (hp : H p = none) : HR G K ρ h (upd H p o) :=
  ⟨r.inj, fun a ha => let ⟨ob, e, q⟩ := r.obj a ha; ⟨ob, e, q.mono (Le.upd_fresh hp) (by obtain ⟨u, z⟩ := q.some; exact upd_ne (ne_of_none z hp))⟩⟩
def mkTup (xs : List D) : M D := fun h => if xs.length ≤ 16777216 then .ret (.ok (.tup xs) h) else .ret .bad
def mkLst (xs : List D) : M D := fun h => if xs.length ≤ 16777216 then .ret (.ok (.ref h.n) (h.new (.lst xs))) else .ret .bad
/-- a new object -/
def rset (ρ : Nat → Addr) (n : Nat) (p : Addr) : Nat → Addr := fun a => if a = n then p else ρ a
theorem rset_lt {ρ : Nat → Addr} {n : Nat} {p : Addr} {a : Nat} (h : a < n) : rset ρ n p a = ρ a := by unfold rset; rw [if_neg (Nat.ne_of_lt h)]
theorem rset_at {ρ : Nat → Addr} {n : Nat} {p : Addr} : rset ρ n p n = p := by unfold rset; rw [if_pos rfl]
theorem Le.new {K : PySem.W.Frag} {ρ : Nat → Addr} {n : Nat} {H : Hp} {p : Addr} {o : HO} (hp : H p = none) : Le K ρ n H (rset ρ n p) (n + 1) (upd H p o) :=
  ⟨Nat.le_succ _, fun a ha => rset_lt ha, (Le.upd_fresh (ρ := ρ) (n := n) hp).tp, fun q u hq f => ⟨by rw [upd_ne (ne_of_none hq hp)]; exact hq, fun a ha z => by
    by_cases e : a = n
    · rw [e, rset_at] at z; rw [← z, hp] at hq; cases hq
    · have ha2 : a < n := by omega
      rw [rset_lt ha2] at z
      exact f a ha2 z⟩, (Le.upd_fresh (K := K) (ρ := ρ) (n := n) hp).lk⟩
/-- what may be changed in place -/
def Chg : HO → Prop
  | .lst _ => True
  | .dK _ => True
  | .ins _ _ _ => True
  | .ext _ => True
  | _ => False
theorem Le.chg {K : PySem.W.Frag} {ρ : Nat → Addr} {n : Nat} {H : Hp} {a : Nat} {u o : HO} (ha : a < n) (hu : H (ρ a) = some u) (hc : Chg u) : Le K ρ n H ρ n (upd H (ρ a) o) :=
  ⟨Nat.le_refl _, fun _ _ => rfl, fun q vs h => by
    rcases h with (h | ⟨ob, h⟩) | h
    · exact .inl (.inl (by rw [upd_ne (fun z => by rw [z, hu] at h; cases h; exact hc)]; exact h))
    · exact .inl (.inr ⟨ob, by rw [upd_ne (fun z => by rw [z, hu] at h; cases h; exact hc)]; exact h⟩)
    · exact .inr h, fun q w hq f => ⟨by rw [upd_ne (fun z => f a ha z.symm)]; exact hq, f⟩, fun q o w hq => by rw [upd_ne (fun z => by rw [z, hu] at hq; cases hq; exact hc)]; exact hq⟩
theorem HR.chg {G : Gs} {K : PySem.W.Frag} {ρ : Nat → Addr} {h : VH} {H : Hp} (r : HR G K ρ h H) {a : Nat} {o : O} {u w : HO} (ha : a < h.n) (hu : H (ρ a) = some u) (hc : Chg u) (ho : ORel G K ρ h.n (upd H (ρ a) w) (ρ a) o) : HR G K ρ (h.set a o) (upd H (ρ a) w) := by
  refine ⟨r.inj, fun b hb => ?_⟩
  have hb : b < h.n := hb
  by_cases e : b = a
  · exact ⟨o, by rw [VH.get_set ha, if_pos e], by rw [e]; exact ho⟩
  · obtain ⟨ob, e2, q⟩ := r.obj b hb
    refine ⟨ob, by rw [VH.get_set ha, if_neg e]; exact e2, ?_⟩
    exact q.mono (Le.chg ha hu hc) (upd_ne (fun z => e (r.inj b a hb ha z)))
theorem HR.at {G : Gs} {K : PySem.W.Frag} {ρ : Nat → Addr} {h : VH} {H : Hp} (r : HR G K ρ h H) {a : Nat} {o : O} (e : h.get a = some o) : ORel G K ρ h.n H (ρ a) o := by
  obtain ⟨o2, e2, q⟩ := r.obj a (VH.get_lt e)
  rw [e] at e2
  cases e2
  exact q
theorem HR.new {G : Gs} {K : PySem.W.Frag} {ρ : Nat → Addr} {h : VH} {H : Hp} (r : HR G K ρ h H) {p : Addr} {o : O} {u : HO} (hp : H p = none) (hu : ORel G K (rset ρ h.n p) (h.n + 1) (upd H p u) p o) : HR G K (rset ρ h.n p) (h.new o) (upd H p u) := by
  have ne : ∀ a, a < h.n → ρ a ≠ p := fun a ha z => by
    obtain ⟨ob, _, q⟩ := r.obj a ha
    obtain ⟨w, e⟩ := q.some
    rw [z, hp] at e; cases e
  refine ⟨fun a b ha hb e => ?_, fun a ha => ?_⟩
  · have ha' : a < h.n + 1 := ha
    have hb' : b < h.n + 1 := hb
    by_cases ea : a = h.n
    · by_cases eb : b = h.n
      · rw [ea, eb]
      · have hb2 : b < h.n := by omega
        rw [ea, rset_at, rset_lt hb2] at e
        exact absurd e.symm (ne b hb2)
    · have ha2 : a < h.n := by omega
      by_cases eb : b = h.n
      · rw [eb, rset_at, rset_lt ha2] at e
        exact absurd e (ne a ha2)
      · have hb2 : b < h.n := by omega
        rw [rset_lt ha2, rset_lt hb2] at e
        exact r.inj a b ha2 hb2 e
  · have ha' : a < h.n + 1 := ha
    by_cases ea : a = h.n
    · exact ⟨o, by rw [VH.get_new, if_pos ea], by rw [ea, rset_at]; exact hu⟩
    · have ha2 : a < h.n := by omega
      obtain ⟨ob, e, q⟩ := r.obj a ha2
      refine ⟨ob, by rw [VH.get_new, if_neg ea]; exact e, ?_⟩
      rw [rset_lt ha2]
      exact q.mono (Le.new hp) (upd_ne (ne a ha2))
theorem se_tup {es : List Expr} {x1} {pos : Pos} {ms : Env → M (List D)} (hes : SA G K C es ms) : SE G K C (.Tuple es x1 pos) (fun env => M.bind (ms env) mkTup) := by
  obtain ⟨u, pu, hu⟩ := hes
  refine ⟨_, fun X hX eK => pe_tup (pu X hX eK), fun ρ env h σ H Q hr er hq => ?_⟩
  refine hu ρ env h σ H _ hr er (P.all_mono (fun r hr1 => ?_) (all_M hq (fun z => z)))
  cases r with
  | bad => exact hr1
  | ok ds h1 =>
    intro ρ1 H1 vs l1 hr2 rds
    have hr1 : (mkTup ds h1).all (PostE G K ρ h.n H Q) := hr1
    unfold mkTup at hr1
    by_cases hz : ds.length ≤ 16777216
    · rw [if_pos hz] at hr1
      refine ⟨by rw [← relDs_len rds]; exact hz, fun p hp => ?_⟩
      refine hr1 ρ1 _ (.ref p) (l1.trans (Le.upd_fresh hp)) (hr2.fresh hp) ?_
      unfold RelD
      exact ⟨p, vs, rfl, .inl (.inl upd_same), rds.mono (Le.upd_fresh hp)⟩
    · rw [if_neg hz] at hr1
      exact hr1.elim
theorem se_lst {es : List Expr} {pos : Pos} {ms : Env → M (List D)} (hes : SA G K C es ms) : SE G K C (.List es pos) (fun env => M.bind (ms env) mkLst) := by
  obtain ⟨u, pu, hu⟩ := hes
  refine ⟨_, fun X hX eK => pe_lst (pu X hX eK), fun ρ env h σ H Q hr er hq => ?_⟩
  refine hu ρ env h σ H _ hr er (P.all_mono (fun r hr1 => ?_) (all_M hq (fun z => z)))
  cases r with
  | bad => exact hr1
  | ok ds h1 =>
    intro ρ1 H1 vs l1 hr2 rds
    have hr1 : (mkLst ds h1).all (PostE G K ρ h.n H Q) := hr1
    unfold mkLst at hr1
    by_cases hz : ds.length ≤ 16777216
    · rw [if_pos hz] at hr1
      refine ⟨by rw [← relDs_len rds]; exact hz, fun p hp => ?_⟩
      refine hr1 (rset ρ1 h1.n p) _ (.ref p) (l1.trans (Le.new hp)) (hr2.new hp ⟨vs, upd_same, rds.mono (Le.new hp)⟩) ?_
      unfold RelD
      exact ⟨Nat.lt_succ_self _, by rw [rset_at]⟩
    · rw [if_neg hz] at hr1
      exact hr1.elim
end
end
end PV
set_option Elab.async false
set_option linter.all false
set_option maxRecDepth 100000
set_option maxHeartbeats 1000000
set_option autoImplicit false
namespace PV
noncomputable section
open PySem L2
section
variable {G : Gs} {K : PySem.W.Frag} {C : Cx → Prop} {X : Cx}
theorem useE {t : TE} {m : Env → M D} (ht : ∀ ρ env h σ H Q, HR G K ρ h H → ER K ρ h.n H env σ → (m env h).all (PostE G K ρ h.n H Q) → t σ H Q)
    {ρ : Nat → Addr} {env : Env} {h : VH} {σ : St} {H : Hp} (hr : HR G K ρ h H) (er : ER K ρ h.n H env σ) {β : Type} {f : D → M β} {p : R β → Prop} (hb : (M.bind (m env) f h).all p) (hp : p .bad → False) {Q : VK}
    (k : ∀ ρ1 h1 H1 d v, Le K ρ h.n H ρ1 h1.n H1 → HR G K ρ1 h1 H1 → RelD K ρ1 h1.n H1 d v → (f d h1).all p → Q v H1) : t σ H Q := by
  refine ht ρ env h σ H Q hr er (P.all_mono (fun r hr1 => ?_) (all_M hb hp))
  cases r with
  | bad => exact hr1.elim
  | ok d h1 => exact fun ρ1 H1 v l hr2 rd => k ρ1 h1 H1 d v l hr2 rd hr1
theorem useA {t : TA} {m : Env → M (List D)} (ht : ∀ ρ env h σ H Q, HR G K ρ h H → ER K ρ h.n H env σ → (m env h).all (PostA G K ρ h.n H Q) → t σ H Q)
    {ρ : Nat → Addr} {env : Env} {h : VH} {σ : St} {H : Hp} (hr : HR G K ρ h H) (er : ER K ρ h.n H env σ) {β : Type} {f : List D → M β} {p : R β → Prop} (hb : (M.bind (m env) f h).all p) (hp : p .bad → False) {Q : List V → Hp → Prop}
    (k : ∀ ρ1 h1 H1 d v, Le K ρ h.n H ρ1 h1.n H1 → HR G K ρ1 h1 H1 → RelDs K ρ1 h1.n H1 d v → (f d h1).all p → Q v H1) : t σ H Q := by
  refine ht ρ env h σ H Q hr er (P.all_mono (fun r hr1 => ?_) (all_M hb hp))
  cases r with
  | bad => exact hr1.elim
  | ok d h1 => exact fun ρ1 H1 v l hr2 rd => k ρ1 h1 H1 d v l hr2 rd hr1
theorem useT {t : TT} {m : Env → M Bool} (ht : ∀ ρ env h σ H Q, HR G K ρ h H → ER K ρ h.n H env σ → (m env h).all (PostT G K ρ h.n H Q) → t σ H Q)
    {ρ : Nat → Addr} {env : Env} {h : VH} {σ : St} {H : Hp} (hr : HR G K ρ h H) (er : ER K ρ h.n H env σ) {β : Type} {f : Bool → M β} {p : R β → Prop} (hb : (M.bind (m env) f h).all p) (hp : p .bad → False) {Q : Bool → Hp → Prop}
    (k : ∀ ρ1 h1 H1 b, Le K ρ h.n H ρ1 h1.n H1 → HR G K ρ1 h1 H1 → (f b h1).all p → Q b H1) : t σ H Q := by
  refine ht ρ env h σ H Q hr er (P.all_mono (fun r hr1 => ?_) (all_M hb hp))
  cases r with
  | bad => exact hr1.elim
  | ok d h1 => exact fun ρ1 H1 l hr2 => k ρ1 h1 H1 d l hr2 hr1

/-- an operator does what f tells -/
def SOp (G : Gs) (K : PySem.W.Frag) (r : R2) (f : D → D → M D) : Prop := ∀ ρ h H x y vx vy Q, HR G K ρ h H → RelD K ρ h.n H x vx → RelD K ρ h.n H y vy → (f x y h).all (PostE G K ρ h.n H Q) → r vx vy H Q
theorem or_op {f : Value → Value → Sem Value} {r1 r2 : R2} (a : OpR X f r1) (b : OpR X f r2) : OpR X f (fun x y H Q => r1 x y H Q ∨ r2 x y H Q) := fun pins s σ H x y v u Q I rx ry q => by
  rcases q with q | q
  · exact a pins s σ H x y v u Q I rx ry q
  · exact b pins s σ H x y v u Q I rx ry q
theorem post_ret {K : PySem.W.Frag} {ρ : Nat → Addr} {h : VH} {H : Hp} {Q : VK} {d : D} {v : V} (hr : HR G K ρ h H) (hq : (M.pure d h).all (PostE G K ρ h.n H Q)) (rd : RelD K ρ h.n H d v) : Q v H := hq ρ H v Le.refl hr rd
theorem se_bin2 {e a b : Expr} {r : R2} {ma mb : Env → M D} {f : D → D → M D} (hp : ∀ X, C X → X.K = K → ∀ ta tb, PE X a ta → PE X b tb → PE X e (tOp r ta tb)) (hs : SOp G K r f) (ha : SE G K C a ma) (hb : SE G K C b mb) :
    SE G K C e (fun env => M.bind (ma env) fun x => M.bind (mb env) fun y => f x y) := by
  obtain ⟨ta, pa, ha⟩ := ha
  obtain ⟨tb, pb, hb⟩ := hb
  refine ⟨_, fun X hX eK => hp X hX eK ta tb (pa X hX eK) (pb X hX eK), fun ρ env h σ H Q hr er hq => ?_⟩
  refine useE ha hr er hq (fun z => z) fun ρ1 h1 H1 x vx l1 hr1 rx hq1 => ?_
  refine useE hb hr1 (er.mono l1) hq1 (fun z => z) fun ρ2 h2 H2 y vy l2 hr2 ry hq2 => ?_
  exact hs ρ2 h2 H2 x y vx vy Q hr2 (rx.mono l2) ry (P.all_mono (fun r z => z.mono (l1.trans l2)) hq2)
theorem se_binop {a b : Expr} {op : Operator} {pos : Pos} {r : R2} {ma mb : Env → M D} {f : D → D → M D} (ho : ∀ X, C X → X.K = K → OpR X (binaryOp op) r) (hs : SOp G K r f) (ha : SE G K C a ma) (hb : SE G K C b mb) :
    SE G K C (.BinOp a op b pos) (fun env => M.bind (ma env) fun x => M.bind (mb env) fun y => f x y) := se_bin2 (fun X hX eK _ _ pa pb => pe_op (ho X hX eK) pa pb) hs ha hb
theorem se_cmp {a b : Expr} {op : CmpOp} {pos : Pos} {r : R2} {ma mb : Env → M D} {f : D → D → M D} (ho : ∀ X, C X → X.K = K → OpR X (compareOp op) r) (hm : behindInMarks op b = false) (hs : SOp G K r f) (ha : SE G K C a ma) (hb : SE G K C b mb) :
    SE G K C (.Compare a [op] [b] pos) (fun env => M.bind (ma env) fun x => M.bind (mb env) fun y => f x y) := se_bin2 (fun X hX eK _ _ pa pb => pe_cmpR (ho X hX eK) pa pb hm) hs ha hb

/-! ### arithmetic and joining -/
def newLst (xs : List D) : M D := fun h => .ret (.ok (.ref h.n) (h.new (.lst xs)))
def addD : D → D → M D
  | .int i, .int j => M.pure (.int (i + j))
  | .str s, .str t => fun h => if s.length + t.length ≤ 16777216 then .ret (.ok (.str (s ++ t)) h) else .ret .bad
  | .tup xs, .tup ys => fun h => if xs.length + ys.length ≤ 16777216 then .ret (.ok (.tup (xs ++ ys)) h) else .ret .bad
  | .ref a, .ref b => fun h => match h.get a, h.get b with
    | some (.lst xs), some (.lst ys) => if xs.length + ys.length ≤ 16777216 then .ret (.ok (.ref h.n) (h.new (.lst (xs ++ ys)))) else .ret .bad
    | _, _ => .ret .bad
  | _, _ => M.bad
def rAddD (K : PySem.W.Frag) : R2 := fun x y H Q => ((rI0 fun i j => .int (i + j)) x y H Q ∨ (∃ i j, x = .str i ∧ y = .str j ∧ i.length + j.length ≤ sizeLine ∧ Q (.str (i ++ j)) H)) ∨ (rCatA K x y H Q ∨ rCat x y H Q)
theorem op_addD : OpR X (binaryOp .Add) (rAddD X.K) := or_op (or_op op_add op_add_str) (or_op op_catA op_cat)
theorem post_lst {K : PySem.W.Frag} {ρ : Nat → Addr} {h : VH} {H : Hp} {Q : VK} {xs : List D} {vs : List V} (hr : HR G K ρ h H) (hq : (P.ret (R.ok (D.ref h.n) (h.new (.lst xs)))).all (PostE G K ρ h.n H Q)) (rd : RelDs K ρ h.n H xs vs) : ∀ p, H p = none → Q (.ref p) (upd H p (.lst vs)) := fun p hp => by
  refine hq (rset ρ h.n p) _ (.ref p) (Le.new hp) (hr.new hp ⟨vs, upd_same, rd.mono (Le.new hp)⟩) ?_
  rw [relD_ref]
  exact ⟨Nat.lt_succ_self _, by rw [rset_at]⟩
theorem post_tup {K : PySem.W.Frag} {ρ : Nat → Addr} {h : VH} {H : Hp} {Q : VK} {xs : List D} {vs : List V} (hr : HR G K ρ h H) (hq : (P.ret (R.ok (D.tup xs) h)).all (PostE G K ρ h.n H Q)) (rd : RelDs K ρ h.n H xs vs) : ∀ p, H p = none → Q (.ref p) (upd H p (.tup vs)) := fun p hp => by
  refine hq ρ _ (.ref p) (Le.upd_fresh hp) (hr.fresh hp) ?_
  rw [relD_tup]
  exact ⟨p, vs, rfl, .inl (.inl upd_same), rd.mono (Le.upd_fresh hp)⟩
theorem relDs_eq_nil {K : PySem.W.Frag} {ρ : Nat → Addr} {n : Nat} {H : Hp} {xs : List D} {vs : List V} (r : RelDs K ρ n H xs vs) : vs = [] ↔ xs = [] := by
  have := relDs_len r
  constructor
  · intro e; subst e; exact List.eq_nil_of_length_eq_zero this
  · intro e; subst e; exact List.eq_nil_of_length_eq_zero this.symm
theorem sop_add : SOp G K (rAddD K) addD := by
  intro ρ h H x y vx vy Q hr rx ry hq
  cases x with
  | int i =>
    cases y with
    | int j =>
      rw [relD_int] at rx ry
      exact .inl (.inl ⟨i, j, rx, ry, post_ret hr hq (relD_int.mpr rfl)⟩)
    | _ => exact hq.elim
  | str s =>
    cases y with
    | str t =>
      rw [relD_str] at rx ry
      simp only [addD] at hq
      by_cases hz : s.length + t.length ≤ 16777216
      · rw [if_pos hz] at hq
        refine .inl (.inr ⟨_, _, rx.1, ry.1, hz, ?_⟩)
        have e : (⟨s.toArray⟩ ++ ⟨t.toArray⟩ : Str) = ⟨(s ++ t).toArray⟩ := by
          show (⟨s.toArray ++ t.toArray⟩ : Str) = _
          simp
        rw [e]
        refine post_ret hr hq (relD_str.mpr ⟨rfl, fun c hc => ?_, by rw [List.length_append]; exact hz⟩)
        rcases List.mem_append.mp hc with q | q
        · exact rx.2.1 c q
        · exact ry.2.1 c q
      · rw [if_neg hz] at hq; exact hq.elim
    | _ => exact hq.elim
  | tup xs =>
    cases y with
    | tup ys =>
      simp only [addD] at hq
      by_cases hz : xs.length + ys.length ≤ 16777216
      · rw [if_pos hz] at hq
        have rx0 := rx
        have ry0 := ry
        rw [relD_tup] at rx ry
        obtain ⟨p, vs, rfl, hp, rp⟩ := rx
        obtain ⟨q, us, rfl, hq2, rq⟩ := ry
        refine .inr (.inl ⟨p, q, vs, us, rfl, rfl, hp, hq2, by rw [← relDs_len rp, ← relDs_len rq]; exact hz, fun e => ?_, fun _ e => ?_, fun _ _ => ?_⟩)
        · have e2 := (relDs_eq_nil rp).mp e
          subst e2
          exact post_ret hr hq ry0
        · have e2 := (relDs_eq_nil rq).mp e
          subst e2
          rw [List.append_nil] at hq
          exact post_ret hr hq rx0
        · exact post_tup hr hq (relDs_append rp rq)
      · rw [if_neg hz] at hq; exact hq.elim
    | _ => exact hq.elim
  | ref a =>
    cases y with
    | ref b =>
      simp only [addD] at hq
      cases ea : h.get a with
      | none => rw [ea] at hq; exact hq.elim
      | some oa =>
        cases eb : h.get b with
        | none => rw [ea, eb] at hq; cases oa <;> exact hq.elim
        | some ob =>
          rw [ea, eb] at hq
          cases oa with
          | lst xs =>
            cases ob with
            | lst ys =>
              simp only at hq
              by_cases hz : xs.length + ys.length ≤ 16777216
              · rw [if_pos hz] at hq
                rw [relD_ref] at rx ry
                obtain ⟨vs, h1, r1⟩ := hr.lst ea
                obtain ⟨us, h2, r2⟩ := hr.lst eb
                exact .inr (.inr ⟨_, _, vs, us, rx.2, ry.2, h1, h2, by rw [← relDs_len r1, ← relDs_len r2]; exact hz, post_lst hr hq (relDs_append r1 r2)⟩)
              · rw [if_neg hz] at hq; exact hq.elim
            | _ => exact hq.elim
          | _ => exact hq.elim
    | _ => exact hq.elim
  | _ => exact hq.elim

def subD : D → D → M D
  | .int i, .int j => M.pure (.int (i - j))
  | _, _ => M.bad
theorem sop_sub : SOp G K (rI0 fun i j => .int (i - j)) subD := by
  intro ρ h H x y vx vy Q hr rx ry hq
  cases x with
  | int i =>
    cases y with
    | int j =>
      rw [relD_int] at rx ry
      exact ⟨i, j, rx, ry, post_ret hr hq (relD_int.mpr rfl)⟩
    | _ => exact hq.elim
  | _ => exact hq.elim
def modD : D → D → M D
  | .int i, .int j => fun h => if 0 < j then .ret (.ok (.int (i % j)) h) else .ret .bad
  | _, _ => M.bad
theorem sop_mod : SOp G K (rI (fun _ j => 0 < j) fun i j => .int (i % j)) modD := by
  intro ρ h H x y vx vy Q hr rx ry hq
  cases x with
  | int i =>
    cases y with
    | int j =>
      rw [relD_int] at rx ry
      simp only [modD] at hq
      by_cases hz : 0 < j
      · rw [if_pos hz] at hq
        exact ⟨i, j, rx, ry, hz, post_ret hr hq (relD_int.mpr rfl)⟩
      · rw [if_neg hz] at hq; exact hq.elim
    | _ => exact hq.elim
  | _ => exact hq.elim
def fdivD : D → D → M D
  | .int i, .int j => fun h => if 0 < j ∧ j < 1073741824 then .ret (.ok (.int (i / j)) h) else .ret .bad
  | _, _ => M.bad
theorem sop_fdiv : SOp G K (rI CDiv fun i j => .int (i / j)) fdivD := by
  intro ρ h H x y vx vy Q hr rx ry hq
  cases x with
  | int i =>
    cases y with
    | int j =>
      rw [relD_int] at rx ry
      simp only [fdivD] at hq
      by_cases hz : 0 < j ∧ j < 1073741824
      · rw [if_pos hz] at hq
        exact ⟨i, j, rx, ry, hz, post_ret hr hq (relD_int.mpr rfl)⟩
      · rw [if_neg hz] at hq; exact hq.elim
    | _ => exact hq.elim
  | _ => exact hq.elim
def powD : D → D → M D
  | .int i, .int j => fun h => if 0 ≤ j ∧ j ≤ 1000 ∧ i.natAbs < 18446744073709551616 then .ret (.ok (.int (i ^ j.toNat)) h) else .ret .bad
  | _, _ => M.bad
theorem sop_pow : SOp G K (rI CPow fun i j => .int (i ^ j.toNat)) powD := by
  intro ρ h H x y vx vy Q hr rx ry hq
  cases x with
  | int i =>
    cases y with
    | int j =>
      rw [relD_int] at rx ry
      simp only [powD] at hq
      by_cases hz : 0 ≤ j ∧ j ≤ 1000 ∧ i.natAbs < 18446744073709551616
      · rw [if_pos hz] at hq
        exact ⟨i, j, rx, ry, ⟨hz.1, by omega, hz.2.2⟩, post_ret hr hq (relD_int.mpr rfl)⟩
      · rw [if_neg hz] at hq; exact hq.elim
    | _ => exact hq.elim
  | _ => exact hq.elim
/-- ints; a list so often -/
def mulD : D → D → M D
  | .int i, .int j => fun h => if (-18446744073709551616 < i ∧ i < 18446744073709551616) ∨ (-18446744073709551616 < j ∧ j < 18446744073709551616) then .ret (.ok (.int (i * j)) h) else .ret .bad
  | .ref a, .int k => fun h => match h.get a with
    | some (.lst xs) => if (k < 1000000) ∧ -1000000 < k ∧ xs.length * k.toNat ≤ 16777216 then .ret (.ok (.ref h.n) (h.new (.lst (List.replicate k.toNat xs).flatten))) else .ret .bad
    | _ => .ret .bad
  | _, _ => M.bad
end
end
end PV
set_option Elab.async false
set_option linter.all false
set_option maxRecDepth 100000
set_option maxHeartbeats 1000000
set_option autoImplicit false
namespace PV
noncomputable section
open PySem L2
section
variable {G : Gs} {K : PySem.W.Frag} {C : Cx → Prop} {X : Cx}
def rMulD : R2 := fun x y H Q => (rI CMul fun i j => .int (i * j)) x y H Q ∨ rRep x y H Q
theorem op_mulD : OpR X (binaryOp .Mult) rMulD := or_op op_mul op_rep
theorem sop_mul : SOp G K rMulD mulD := by
  intro ρ h H x y vx vy Q hr rx ry hq
  cases x with
  | int i =>
    cases y with
    | int j =>
      rw [relD_int] at rx ry
      simp only [mulD] at hq
      by_cases hz : (-18446744073709551616 < i ∧ i < 18446744073709551616) ∨ (-18446744073709551616 < j ∧ j < 18446744073709551616)
      · rw [if_pos hz] at hq
        exact .inl ⟨i, j, rx, ry, hz, post_ret hr hq (relD_int.mpr rfl)⟩
      · rw [if_neg hz] at hq; exact hq.elim
    | _ => exact hq.elim
  | ref a =>
    cases y with
    | int k =>
      simp only [mulD] at hq
      cases ea : h.get a with
      | none => rw [ea] at hq; exact hq.elim
      | some oa =>
        rw [ea] at hq
        cases oa with
        | lst xs =>
          simp only at hq
          by_cases hz : (k < 1000000) ∧ -1000000 < k ∧ xs.length * k.toNat ≤ 16777216
          · rw [if_pos hz] at hq
            rw [relD_ref] at rx
            rw [relD_int] at ry
            obtain ⟨vs, h1, r1⟩ := hr.lst ea
            exact .inr ⟨_, k, vs, rx.2, ry, h1, by omega, by omega, by rw [← relDs_len r1]; exact hz.2.2, post_lst hr hq (relDs_rep r1 _)⟩
          · rw [if_neg hz] at hq; exact hq.elim
        | _ => exact hq.elim
    | _ => exact hq.elim
  | _ => exact hq.elim

/-! ### order -/
/-- the order of texts by their codes -/
def ltS : List Nat → List Nat → Bool
  | [], [] => false
  | [], _ :: _ => true
  | _ :: _, [] => false
  | a :: s, b :: t => if a < b then true else if a = b then ltS s t else false
theorem ltS_iff : ∀ (s t : List Nat), ltS s t = decide (s < t)
  | [], [] => by simp [ltS]
  | [], b :: t => by simp [ltS]
  | a :: s, [] => by simp [ltS]
  | a :: s, b :: t => by
    unfold ltS
    rw [ltS_iff s t]
    by_cases h1 : a < b
    · rw [if_pos h1]
      symm
      apply decide_eq_true
      exact List.cons_lt_cons_iff.mpr (.inl h1)
    · rw [if_neg h1]
      by_cases h2 : a = b
      · rw [if_pos h2]
        subst h2
        congr 1
        apply propext
        rw [List.cons_lt_cons_iff]
        constructor
        · intro q; exact .inr ⟨rfl, q⟩
        · rintro (q | ⟨_, q⟩)
          · exact absurd q h1
          · exact q
      · rw [if_neg h2]
        symm
        apply decide_eq_false
        rw [List.cons_lt_cons_iff]
        rintro (q | ⟨q, _⟩)
        · exact h1 q
        · exact h2 q
/-- lt, le, gt, ge of ints and of texts -/
def ordD (f : Int → Int → Bool) (g : List Nat → List Nat → Bool) : D → D → M D
  | .int i, .int j => M.pure (.bl (f i j))
  | .str s, .str t => M.pure (.bl (g s t))
  | _, _ => M.bad
def rOrd (f : Int → Int → Bool) (g : Str → Str → Bool) : R2 := fun x y H Q => (rI0 fun i j => .bl (f i j)) x y H Q ∨ (∃ i j, x = .str i ∧ y = .str j ∧ Q (.bl (g i j)) H)
theorem sop_ord {f : Int → Int → Bool} {g : List Nat → List Nat → Bool} {g' : Str → Str → Bool} (hg : ∀ s t : List Nat, g' ⟨s.toArray⟩ ⟨t.toArray⟩ = g s t) : SOp G K (rOrd f g') (ordD f g) := by
  intro ρ h H x y vx vy Q hr rx ry hq
  cases x with
  | int i =>
    cases y with
    | int j =>
      rw [relD_int] at rx ry
      exact .inl ⟨i, j, rx, ry, post_ret hr hq (relD_bl.mpr rfl)⟩
    | _ => exact hq.elim
  | str s =>
    cases y with
    | str t =>
      rw [relD_str] at rx ry
      exact .inr ⟨_, _, rx.1, ry.1, post_ret hr hq (relD_bl.mpr (by rw [hg]))⟩
    | _ => exact hq.elim
  | _ => exact hq.elim
abbrev ltD := ordD (fun i j => decide (i < j)) ltS
abbrev leD := ordD (fun i j => decide (i ≤ j)) (fun s t => !ltS t s)
abbrev gtD := ordD (fun i j => decide (j < i)) (fun s t => ltS t s)
abbrev geD := ordD (fun i j => decide (j ≤ i)) (fun s t => !ltS s t)
def rLt : R2 := rOrd (fun i j => decide (i < j)) (fun i j => decide (i.cps.toList < j.cps.toList))
def rLe : R2 := rOrd (fun i j => decide (i ≤ j)) (fun i j => !decide (j.cps.toList < i.cps.toList))
def rGt : R2 := rOrd (fun i j => decide (j < i)) (fun i j => decide (j.cps.toList < i.cps.toList))
def rGe : R2 := rOrd (fun i j => decide (j ≤ i)) (fun i j => !decide (i.cps.toList < j.cps.toList))
theorem op_ltD : OpR X (compareOp .Lt) rLt := or_op op_lt op_lt_str
theorem op_leD : OpR X (compareOp .LtE) rLe := or_op op_le op_le_str
theorem op_gtD : OpR X (compareOp .Gt) rGt := or_op op_gt op_gt_str
theorem op_geD : OpR X (compareOp .GtE) rGe := or_op op_ge op_ge_str
theorem sop_lt : SOp G K rLt ltD := sop_ord fun s t => by rw [ltS_iff]
theorem sop_le : SOp G K rLe leD := sop_ord fun s t => by rw [ltS_iff]
theorem sop_gt : SOp G K rGt gtD := sop_ord fun s t => by rw [ltS_iff]
theorem sop_ge : SOp G K rGe geD := sop_ord fun s t => by rw [ltS_iff]

/-! ### == of data -/
def eqS : List Nat → List Nat → Bool
  | [], [] => true
  | a :: s, b :: t => Nat.beq a b && eqS s t
  | _, _ => false
theorem eqS_iff : ∀ (s t : List Nat), eqS s t = true ↔ s = t
  | [], [] => by simp [eqS]
  | [], b :: t => by simp [eqS]
  | a :: s, [] => by simp [eqS]
  | a :: s, b :: t => by
    unfold eqS
    rw [Bool.and_eq_true, eqS_iff s t, Nat.beq_eq, List.cons.injEq]
/-- is it data, at most f deep -/
def isDt : Nat → VH → D → Bool
  | 0, _, d => match d with
    | .tup _ => false
    | .ref _ => false
    | .kls _ => false
    | _ => true
  | f + 1, h, d => match d with
    | .tup xs => xs.all (isDt f h)
    | .ref a => match h.get a with
      | some (.lst xs) => xs.all (isDt f h)
      | _ => false
    | .kls _ => false
    | _ => true
def eqL (q : D → D → Bool) : List D → List D → Bool
  | [], [] => true
  | x :: xs, y :: ys => q x y && eqL q xs ys
  | _, _ => false
def eqF : Nat → VH → D → D → Bool
  | f, h, x, y => match x, y with
    | .non, .non => true
    | .bl a, .bl b => a == b
    | .bl a, .int j => (if a then 1 else 0) == j
    | .int i, .bl b => i == (if b then 1 else 0)
    | .int i, .int j => i == j
    | .str s, .str t => eqS s t
    | .tup xs, .tup ys => match f with
      | 0 => false
      | f + 1 => eqL (eqF f h) xs ys
    | .ref a, .ref b => match f with
      | 0 => false
      | f + 1 => match h.get a, h.get b with
        | some (.lst xs), some (.lst ys) => eqL (eqF f h) xs ys
        | _, _ => false
    | _, _ => false
def toP : Nat → VH → D → PyData
  | f, h, d => match d with
    | .non => .none
    | .bl b => .bool b
    | .int i => .int i
    | .str s => .str ⟨s.toArray⟩
    | .tup xs => match f with
      | 0 => .none
      | f + 1 => .tuple (xs.map (toP f h))
    | .ref a => match f with
      | 0 => .none
      | f + 1 => match h.get a with
        | some (.lst xs) => .list (xs.map (toP f h))
        | _ => .none
    | .kls _ => .none
example : eqF 3 ⟨0, .nil⟩ (.tup [.int 3, .str [1, 2]]) (.tup [.int 3, .str [1, 2]]) = true := by decide
theorem toP_ok {K : PySem.W.Frag} {ρ : Nat → Addr} {h : VH} {H : Hp} (hr : HR G K ρ h H) : ∀ (f : Nat) (d : D) (v : V), isDt f h d = true → RelD K ρ h.n H d v → Dp K H v (toP f h d) ∧ (toP f h d).canLay0 = true ∧ (toP f h d).depth ≤ f
  | f, .non, v, hd, r => by rw [relD_non] at r; subst r; cases f <;> exact ⟨.non, by simp [toP, PyData.canLay0], by simp [toP, PyData.depth]⟩
  | f, .bl b, v, hd, r => by rw [relD_bl] at r; subst r; cases f <;> exact ⟨.bl b, by simp [toP, PyData.canLay0], by simp [toP, PyData.depth]⟩
  | f, .int b, v, hd, r => by rw [relD_int] at r; subst r; cases f <;> exact ⟨.int b, by simp [toP, PyData.canLay0], by simp [toP, PyData.depth]⟩
  | f, .str s, v, hd, r => by
    rw [relD_str] at r
    obtain ⟨rfl, hs⟩ := r
    have hk : (PyData.str ⟨s.toArray⟩).canLay0 = true := by
      simp only [PyData.canLay0, PyData.strOk, List.all_toArray, List.all_eq_true, decide_eq_true_eq]
      exact hs.1
    cases f <;> exact ⟨.str _, hk, by simp [toP, PyData.depth]⟩
  | 0, .kls ns, v, hd, r => by simp [isDt] at hd
  | f + 1, .kls ns, v, hd, r => by simp [isDt] at hd
  | 0, .tup xs, v, hd, r => by simp [isDt] at hd
  | 0, .ref a, v, hd, r => by simp [isDt] at hd
  | f + 1, .tup xs, v, hd, r => by
    rw [relD_tup] at r
    obtain ⟨p, vs, rfl, hp, rs⟩ := r
    have hd : xs.all (isDt f h) = true := hd
    have all : ∀ (ys : List D) (us : List V), ys.all (isDt f h) = true → RelDs K ρ h.n H ys us → DpAll K H us (ys.map (toP f h)) ∧ PyData.canLayAll0 (ys.map (toP f h)) = true ∧ PyData.depthAll (ys.map (toP f h)) ≤ f := by
      intro ys
      induction ys with
      | nil => intro us _ r; rw [relDs_nil] at r; subst r; exact ⟨.nil, by simp [PyData.canLayAll0], by simp [PyData.depthAll]⟩
      | cons y ys ih =>
        intro us ha r
        rw [relDs_cons] at r
        obtain ⟨u, us', rfl, r1, r2⟩ := r
        rw [List.all_cons, Bool.and_eq_true] at ha
        obtain ⟨q1, q2, q3⟩ := toP_ok hr f y u ha.1 r1
        obtain ⟨p1, p2, p3⟩ := ih us' ha.2 r2
        refine ⟨.cons q1 p1, ?_, ?_⟩
        · simp only [List.map_cons, PyData.canLayAll0, q2, p2, Bool.and_self]
        · simp only [List.map_cons, PyData.depthAll]; omega
    obtain ⟨q1, q2, q3⟩ := all xs vs hd rs
    refine ⟨.tup hp q1, ?_, ?_⟩
    · simp only [toP, PyData.canLay0, q2]
    · simp only [toP, PyData.depth]; omega
  | f + 1, .ref a, v, hd, r => by
    rw [relD_ref] at r
    obtain ⟨ha, rfl⟩ := r
    have all : ∀ (ys : List D) (us : List V), ys.all (isDt f h) = true → RelDs K ρ h.n H ys us → DpAll K H us (ys.map (toP f h)) ∧ PyData.canLayAll0 (ys.map (toP f h)) = true ∧ PyData.depthAll (ys.map (toP f h)) ≤ f := by
      intro ys
      induction ys with
      | nil => intro us _ r; rw [relDs_nil] at r; subst r; exact ⟨.nil, by simp [PyData.canLayAll0], by simp [PyData.depthAll]⟩
      | cons y ys ih =>
        intro us ha r
        rw [relDs_cons] at r
        obtain ⟨u, us', rfl, r1, r2⟩ := r
        rw [List.all_cons, Bool.and_eq_true] at ha
        obtain ⟨q1, q2, q3⟩ := toP_ok hr f y u ha.1 r1
        obtain ⟨p1, p2, p3⟩ := ih us' ha.2 r2
        refine ⟨.cons q1 p1, ?_, ?_⟩
        · simp only [List.map_cons, PyData.canLayAll0, q2, p2, Bool.and_self]
        · simp only [List.map_cons, PyData.depthAll]; omega
    simp only [isDt] at hd
    cases ea : h.get a with
    | none => rw [ea] at hd; simp at hd
    | some o =>
      rw [ea] at hd
      cases o with
      | lst xs =>
        obtain ⟨vs, h1, r1⟩ := hr.lst ea
        obtain ⟨q1, q2, q3⟩ := all xs vs hd r1
        refine ⟨?_, ?_, ?_⟩
        · simp only [toP, ea]; exact .lst (.inl (.inl h1)) q1
        · simp only [toP, ea, PyData.canLay0, q2]
        · simp only [toP, ea, PyData.depth]; omega
      | _ => simp at hd
theorem eqF_eqv {h : VH} : ∀ (f : Nat) (x y : D), isDt f h x = true → isDt f h y = true → eqF f h x y = PyData.eqv (toP f h x) (toP f h y) := by
  intro f
  induction f with
  | zero =>
    intro x y hx hy
    cases x <;> cases y <;> simp [isDt] at hx hy <;> simp [eqF, toP, PyData.eqv]
    rename_i s t
    rw [Bool.eq_iff_iff, eqS_iff]
    simp
  | succ f ih =>
    have all : ∀ xs ys : List D, xs.all (isDt f h) = true → ys.all (isDt f h) = true → eqL (eqF f h) xs ys = PyData.eqvAll (xs.map (toP f h)) (ys.map (toP f h)) := by
      intro xs
      induction xs with
      | nil => intro ys _ _; cases ys <;> simp [eqL, PyData.eqvAll]
      | cons x xs ih2 =>
        intro ys hx hy
        cases ys with
        | nil => simp [eqL, PyData.eqvAll]
        | cons y ys =>
          rw [List.all_cons, Bool.and_eq_true] at hx hy
          simp only [eqL, List.map_cons, PyData.eqvAll, ih x y hx.1 hy.1, ih2 ys hx.2 hy.2]
    intro x y hx hy
    cases x with
    | str s =>
      cases y with
      | str t =>
        simp only [eqF, toP, PyData.eqv]
        rw [Bool.eq_iff_iff, eqS_iff]
        simp
      | ref b =>
        simp only [isDt] at hy
        cases eb : h.get b with
        | none => rw [eb] at hy; simp at hy
        | some o => cases o <;> simp [eqF, toP, eb, PyData.eqv]
      | _ => simp [eqF, toP, PyData.eqv]
    | tup xs =>
      cases y with
      | tup ys =>
        simp only [eqF, toP, PyData.eqv]
        exact all xs ys hx hy
      | ref b =>
        simp only [isDt] at hy
        cases eb : h.get b with
        | none => rw [eb] at hy; simp at hy
        | some o => rw [eb] at hy; cases o <;> simp at hy <;> simp [eqF, toP, eb, PyData.eqv]
      | _ => simp [eqF, toP, PyData.eqv]
    | ref a =>
      simp only [isDt] at hx
      cases ea : h.get a with
      | none => rw [ea] at hx; simp at hx
      | some o =>
        rw [ea] at hx
        cases o with
        | lst xs =>
          cases y with
          | ref b =>
            simp only [isDt] at hy
            cases eb : h.get b with
            | none => rw [eb] at hy; simp at hy
            | some o2 =>
              rw [eb] at hy
              cases o2 with
              | lst ys =>
                simp only [eqF, toP, ea, eb, PyData.eqv]
                exact all xs ys hx hy
              | _ => simp at hy
          | _ => simp [eqF, toP, ea, PyData.eqv]
        | _ => simp at hx
    | _ =>
      cases y with
      | ref b =>
        simp only [isDt] at hy
        cases eb : h.get b with
        | none => rw [eb] at hy; simp at hy
        | some o => rw [eb] at hy; cases o <;> simp at hy <;> simp [eqF, toP, eb, PyData.eqv]
      | kls ns => simp [isDt] at hy
      | _ => first | (simp [isDt] at hx; done) | simp [eqF, toP, PyData.eqv]
def eqM (neg : Bool) (x y : D) : M D := fun h => if isDt 64 h x && isDt 64 h y then .ret (.ok (.bl (if neg then !eqF 64 h x y else eqF 64 h x y)) h) else .ret .bad
theorem sop_eq : SOp G K (rEqD K) (eqM false) := by
  intro ρ h H x y vx vy Q hr rx ry hq
  unfold eqM at hq
  by_cases hz : (isDt 64 h x && isDt 64 h y) = true
  · rw [if_pos hz] at hq
    rw [Bool.and_eq_true] at hz
    obtain ⟨a1, a2, a3⟩ := toP_ok hr 64 x vx hz.1 rx
    obtain ⟨b1, b2, b3⟩ := toP_ok hr 64 y vy hz.2 ry
    refine ⟨_, _, a1, b1, ?_, ?_, post_ret hr hq (relD_bl.mpr ?_)⟩
    · unfold SeqAt.shaped; rw [a2, decide_eq_true a3]; rfl
    · unfold SeqAt.shaped; rw [b2, decide_eq_true b3]; rfl
    · rw [eqF_eqv 64 x y hz.1 hz.2]; rfl
  · rw [if_neg hz] at hq; exact hq.elim
theorem sop_ne : SOp G K (rNeD K) (eqM true) := by
  intro ρ h H x y vx vy Q hr rx ry hq
  unfold eqM at hq
  by_cases hz : (isDt 64 h x && isDt 64 h y) = true
  · rw [if_pos hz] at hq
    rw [Bool.and_eq_true] at hz
    obtain ⟨a1, a2, a3⟩ := toP_ok hr 64 x vx hz.1 rx
    obtain ⟨b1, b2, b3⟩ := toP_ok hr 64 y vy hz.2 ry
    refine ⟨_, _, a1, b1, ?_, ?_, post_ret hr hq (relD_bl.mpr ?_)⟩
    · unfold SeqAt.shaped; rw [a2, decide_eq_true a3]; rfl
    · unfold SeqAt.shaped; rw [b2, decide_eq_true b3]; rfl
    · rw [eqF_eqv 64 x y hz.1 hz.2]; rfl
  · rw [if_neg hz] at hq; exact hq.elim
end
end
end PV
set_option Elab.async false
set_option linter.all false
set_option maxRecDepth 100000
set_option maxHeartbeats 1000000
set_option autoImplicit false
namespace PV
noncomputable section
open PySem L2
/-! ### dicts with ints and texts as keys -/
def isKey : D → Bool
  | .int _ => true
  | .str _ => true
  | _ => false
def eqK : D → D → Bool
  | .int i, .int j => i == j
  | .str s, .str t => eqS s t
  | _, _ => false
def lookD : List (D × D) → D → Option D
  | [], _ => none
  | q :: r, x => if eqK q.1 x then some q.2 else lookD r x
def putD : List (D × D) → D → D → List (D × D)
  | [], k, v => [(k, v)]
  | q :: r, k, v => if eqK q.1 k then (q.1, v) :: r else q :: putD r k v
def dropD : List (D × D) → D → List (D × D)
  | [], _ => []
  | q :: r, k => if eqK q.1 k then r else q :: dropD r k
section
variable {K : PySem.W.Frag} {ρ : Nat → Addr} {n : Nat} {H : Hp}
theorem key_of {x : D} {v : V} (hk : isKey x = true) (r : RelD K ρ n H x v) : ∃ k, KRel x k ∧ v = kV k := by
  cases x with
  | int i => rw [relD_int] at r; exact ⟨.inl i, rfl, r⟩
  | str s => rw [relD_str] at r; exact ⟨.inr ⟨s.toArray⟩, ⟨rfl, r.2⟩, r.1⟩
  | _ => cases hk
theorem relD_key {x : D} {k : Key} (r : KRel x k) : RelD K ρ n H x (kV k) := by
  cases x with
  | int i => cases r; exact relD_int.mpr rfl
  | str s => obtain ⟨rfl, o⟩ := r; exact relD_str.mpr ⟨rfl, o⟩
  | _ => exact r.elim
theorem eqK_iff {x y : D} {k j : Key} (hx : KRel x k) (hy : KRel y j) : eqK x y = true ↔ k = j := by
  cases x with
  | int i =>
    cases hx
    cases y with
    | int i2 => cases hy; simp [eqK]
    | str t => obtain ⟨rfl, _⟩ := hy; simp [eqK]
    | _ => exact hy.elim
  | str s =>
    obtain ⟨rfl, _⟩ := hx
    cases y with
    | int i2 => cases hy; simp [eqK]
    | str t => obtain ⟨rfl, _⟩ := hy; simp [eqK, eqS_iff]
    | _ => exact hy.elim
  | _ => exact hx.elim
theorem look_ok {x : D} {k : Key} (hx : KRel x k) : ∀ {kvs : List (D × D)} {es : List (Key × V)}, DRel K ρ n H kvs es → match lookD kvs x with | some d => ∃ v, valV es k = some v ∧ RelD K ρ n H d v | none => valV es k = none
  | [], es, h => by cases h; exact valV_nil
  | q :: r, es, h => by
    obtain ⟨k', v, es', rfl, a, b, c⟩ := h
    unfold lookD
    by_cases e : eqK q.1 x = true
    · rw [if_pos e]
      exact ⟨v, valV_pos ((eqK_iff a hx).mp e), b⟩
    · rw [if_neg e]
      have ne : ¬ k' = k := fun z => e ((eqK_iff a hx).mpr z)
      have := look_ok hx c
      revert this
      cases lookD r x with
      | some d => rintro ⟨u, z, y⟩; exact ⟨u, by rw [valV_neg (p := (k', v)) ne]; exact z, y⟩
      | none => intro z; show valV _ _ = none; rw [valV_neg (p := (k', v)) ne]; exact z
theorem putK_nil {k : Key} {v : V} : putK [] k v = [(k, v)] := by simp [putK]
theorem putK_pos {es : List (Key × V)} {k k' : Key} {v u : V} (e : k' = k) (nd : (((k', u) :: es).map (·.1)).Nodup) : putK ((k', u) :: es) k v = (k', v) :: es := by
  subst e
  unfold putK
  rw [if_pos (by simp)]
  simp only [List.map_cons, List.nodup_cons] at nd
  simp only [List.map_cons, if_true]
  congr 1
  conv => rhs; rw [← List.map_id es]
  apply List.map_congr_left
  intro q hq
  have : ¬ q.1 = k' := fun z => nd.1 (by rw [← z]; exact List.mem_map_of_mem hq)
  simp [this]
theorem putK_neg {es : List (Key × V)} {k k' : Key} {v u : V} (e : ¬ k' = k) : putK ((k', u) :: es) k v = (k', u) :: putK es k v := by
  unfold putK
  by_cases z : (es.any fun kv => decide (kv.1 = k)) = true
  · rw [if_pos z, if_pos (by simp only [List.any_cons, z, Bool.or_true])]
    simp [e]
  · rw [if_neg z, if_neg (by simp only [List.any_cons, decide_eq_false e, Bool.false_or]; exact z)]
    rfl
theorem put_ok {x d : D} {k : Key} {v : V} (hx : KRel x k) (hd : RelD K ρ n H d v) : ∀ {kvs : List (D × D)} {es : List (Key × V)}, DRel K ρ n H kvs es → (es.map (·.1)).Nodup → DRel K ρ n H (putD kvs x d) (putK es k v) ∧ ((putK es k v).map (·.1)).Nodup ∧ ∀ j, j ∈ (putK es k v).map (·.1) → j ∈ es.map (·.1) ∨ j = k
  | [], es, h, nd => by
    cases h
    rw [putK_nil]
    exact ⟨⟨k, v, [], rfl, hx, hd, rfl⟩, by simp, fun j hj => .inr (by simpa using hj)⟩
  | q :: r, es, h, nd => by
    obtain ⟨k', u, es', rfl, a, b, c⟩ := h
    unfold putD
    by_cases e : eqK q.1 x = true
    · rw [if_pos e, putK_pos ((eqK_iff a hx).mp e) nd]
      exact ⟨⟨k', v, es', rfl, a, hd, c⟩, nd, fun j hj => .inl hj⟩
    · rw [if_neg e]
      have ne : ¬ k' = k := fun z => e ((eqK_iff a hx).mpr z)
      rw [putK_neg ne]
      have nd' := nd
      simp only [List.map_cons, List.nodup_cons] at nd'
      obtain ⟨p1, p2, p3⟩ := put_ok hx hd c nd'.2
      refine ⟨⟨k', u, _, rfl, a, b, p1⟩, ?_, ?_⟩
      · simp only [List.map_cons, List.nodup_cons]
        refine ⟨fun z => ?_, p2⟩
        rcases p3 k' z with z | z
        · exact nd'.1 z
        · exact ne z
      · intro j hj
        simp only [List.map_cons, List.mem_cons] at hj ⊢
        rcases hj with z | z
        · exact .inl (.inl z)
        · rcases p3 j z with z | z
          · exact .inl (.inr z)
          · exact .inr z
theorem drop_ok {x : D} {k : Key} (hx : KRel x k) : ∀ {kvs : List (D × D)} {es : List (Key × V)}, DRel K ρ n H kvs es → (es.map (·.1)).Nodup → DRel K ρ n H (dropD kvs x) (dropK es k) ∧ ((dropK es k).map (·.1)).Nodup
  | [], es, h, nd => by
    cases h
    exact ⟨rfl, by simp [dropK]⟩
  | q :: r, es, h, nd => by
    obtain ⟨k', u, es', rfl, a, b, c⟩ := h
    have nd' := nd
    simp only [List.map_cons, List.nodup_cons] at nd'
    obtain ⟨p1, p2⟩ := drop_ok hx c nd'.2
    unfold dropD
    by_cases e : eqK q.1 x = true
    · rw [if_pos e]
      have ek := (eqK_iff a hx).mp e
      subst ek
      have e2 : dropK ((k', u) :: es') k' = es' := by
        unfold dropK
        rw [List.filter_cons_of_neg (by simp)]
        apply List.filter_eq_self.mpr
        intro z hz
        have : ¬ z.1 = k' := fun w => nd'.1 (by rw [← w]; exact List.mem_map_of_mem hz)
        simp [this]
      rw [e2]
      exact ⟨c, nd'.2⟩
    · rw [if_neg e]
      have ne : ¬ k' = k := fun z => e ((eqK_iff a hx).mpr z)
      have e2 : dropK ((k', u) :: es') k = (k', u) :: dropK es' k := by
        unfold dropK
        rw [List.filter_cons_of_pos (by simp [ne])]
      rw [e2]
      refine ⟨⟨k', u, _, rfl, a, b, p1⟩, ?_⟩
      simp only [List.map_cons, List.nodup_cons]
      refine ⟨fun z => nd'.1 ?_, p2⟩
      obtain ⟨w, hw, e3⟩ := List.mem_map.mp z
      rw [← e3]
      exact List.mem_map_of_mem (List.mem_filter.mp hw).1
theorem drel_len : ∀ {kvs : List (D × D)} {es : List (Key × V)}, DRel K ρ n H kvs es → kvs.length = es.length
  | [], es, h => by cases h; rfl
  | q :: r, es, h => by
    obtain ⟨k', u, es', rfl, a, b, c⟩ := h
    simp [drel_len c]
end
end
end PV
set_option Elab.async false
set_option linter.all false
set_option maxRecDepth 100000
set_option maxHeartbeats 1000000
set_option autoImplicit false
namespace PV
noncomputable section
open PySem L2
section
variable {X : Cx} {pins : List (Addr × Obj)} {σ : L2.St} {H : Hp} {s : Shared}
mutual
theorem nk_is (I : Inv X pins σ H s) : ∀ {k : NestedKey} {v : V}, NKv X.K H k v → ∀ {u : Value}, RelV v u → NestedIs s.heap k u
  | _, _, .non, u, r => by cases (show u = Value.none from r); exact .none
  | _, _, .int i, u, r => by obtain ⟨t, rfl⟩ := (show ∃ t, u = Value.int i t from r); exact .int i t
  | _, _, .str x, u, r => by obtain ⟨t, rfl⟩ := (show ∃ t, u = Value.str x t from r); exact .text x t
  | _, _, .tup hp hs, u, r => by
    cases (show u = Value.ref _ from r)
    obtain ⟨its, rv, ⟨o, e, c, n, d⟩, _⟩ := I.tuple hp
    exact .tup e c d (by simpa using nks_is I hs rv)
theorem nks_is (I : Inv X pins σ H s) : ∀ {ks : List NestedKey} {vs : List V}, NKs X.K H ks vs → ∀ {us : List Value}, Vals vs us → NestedAll s.heap ks us
  | _, _, .nil, us, r => by cases r; exact .nil
  | _, _, .cons a b, us, r => by cases r with | cons r1 r2 => exact .cons (nk_is I a r1) (nks_is I b r2)
end
end
/-- at a stands a dict with these entries -/
def XD (P : Program) (w : World) (K : PySem.W.Frag) (H : Hp) (a : Addr) (xs : XE) : Prop := (Rd H a (xdO P w a xs) ∨ (xs = [] ∧ Rd H a (.dK []))) ∧ ∀ x, x ∈ xs → NKv K H x.1 (.ref x.2.1) ∧ x.1.depth ≤ 8
def lookX : XE → NestedKey → Option V
  | [], _ => none
  | x :: r, k => if x.1 = k then some x.2.2 else lookX r k
def putX : XE → NestedKey → Addr → V → XE
  | [], k, a, v => [(k, a, v)]
  | x :: r, k, a, v => if x.1 = k then (x.1, x.2.1, v) :: r else x :: putX r k a v
def dropX : XE → NestedKey → XE
  | [], _ => []
  | x :: r, k => if x.1 = k then r else x :: dropX r k
theorem xp_keys : ∀ {xs : XE} {ys : List (NestedKey × Addr × Value)}, XP xs ys → ys.map (·.1) = xs.map (·.1)
  | _, _, .nil => rfl
  | _, _, .cons h t => by rw [List.map_cons, List.map_cons, xp_keys t, h.1]
theorem xp_len : ∀ {xs : XE} {ys : List (NestedKey × Addr × Value)}, XP xs ys → ys.length = xs.length
  | _, _, .nil => rfl
  | _, _, .cons h t => by rw [List.length_cons, List.length_cons, xp_len t]
theorem xp_look {k : NestedKey} : ∀ {xs : XE} {ys : List (NestedKey × Addr × Value)}, XP xs ys → RelO (lookX xs k) ((atKey ys k).map (·.2))
  | _, _, .nil => True.intro
  | _, _, .cons (a := x) (b := y) h t => by
    unfold lookX atKey
    obtain ⟨h1, h2, h3⟩ := h
    by_cases e : x.1 = k
    · rw [if_pos e, List.find?_cons_of_pos (by rw [← h1]; exact decide_eq_true e)]
      exact h3
    · rw [if_neg e, List.find?_cons_of_neg (by rw [← h1]; simp [e])]
      exact xp_look t
theorem xp_putAt {k : NestedKey} {b : Addr} {v : V} {u : Value} (r : RelV v u) : ∀ {xs : XE} {ys : List (NestedKey × Addr × Value)}, XP xs ys → (xs.map (·.1)).Nodup → (∃ p, atKey ys k = some p) → XP (putX xs k b v) (ys.map (putAt k u))
  | _, _, .nil, _, ⟨p, e⟩ => by cases e
  | x :: xs, y :: ys, .cons h t, nd, e => by
    obtain ⟨h1, h2, h3⟩ := h
    rw [List.map_cons, List.nodup_cons] at nd
    unfold putX
    rw [List.map_cons]
    by_cases ek : x.1 = k
    · rw [if_pos ek]
      have hn : k ∉ ys.map (·.1) := by rw [xp_keys t, ← ek]; exact nd.1
      rw [map_putAt_of_not_mem _ _ _ hn]
      refine .cons ?_ t
      unfold putAt
      rw [if_pos (h1 ▸ ek)]
      exact ⟨h1, h2, r⟩
    · rw [if_neg ek]
      have ek2 : ¬ y.1 = k := fun z => ek (h1.trans z)
      have e2 : putAt k u y = y := by unfold putAt; rw [if_neg ek2]
      rw [e2]
      refine .cons ⟨h1, h2, h3⟩ (xp_putAt r t nd.2 ?_)
      obtain ⟨p, e⟩ := e
      unfold atKey at e ⊢
      rw [List.find?_cons_of_neg (by simp [ek2])] at e
      exact ⟨p, e⟩
theorem xp_new {k : NestedKey} {b : Addr} {v : V} {u : Value} (r : RelV v u) : ∀ {xs : XE} {ys : List (NestedKey × Addr × Value)}, XP xs ys → atKey ys k = none → XP (putX xs k b v) (ys ++ [(k, b, u)])
  | _, _, .nil, _ => .cons ⟨rfl, rfl, r⟩ .nil
  | x :: xs, y :: ys, .cons h t, e => by
    unfold putX
    have ek2 : ¬ y.1 = k := fun z => by
      unfold atKey at e
      rw [List.find?_cons_of_pos (by exact decide_eq_true z)] at e
      cases e
    rw [if_neg (fun z => ek2 (h.1.symm.trans z))]
    refine .cons h (xp_new r t ?_)
    unfold atKey at e ⊢
    rw [List.find?_cons_of_neg (by simp [ek2])] at e
    exact e
theorem xp_put {k : NestedKey} {b : Addr} {v : V} {u : Value} (r : RelV v u) {xs : XE} {ys : List (NestedKey × Addr × Value)} (p : XP xs ys) (nd : (xs.map (·.1)).Nodup) : XP (putX xs k b v) (storedH ys k b u) := by
  cases e : atKey ys k with
  | none => rw [storedH_new e]; exact xp_new r p e
  | some q => rw [storedH_old e]; exact xp_putAt r p nd ⟨q, e⟩
theorem putX_mem {k : NestedKey} {b : Addr} {v : V} : ∀ {xs : XE} {x : NestedKey × Addr × V}, x ∈ putX xs k b v → (∃ y, y ∈ xs ∧ y.1 = x.1 ∧ y.2.1 = x.2.1) ∨ (x.1 = k ∧ x.2.1 = b)
  | [], x, h => by
    unfold putX at h
    cases h with
    | head => exact .inr ⟨rfl, rfl⟩
    | tail _ h => cases h
  | y :: r, x, h => by
    unfold putX at h
    by_cases e : y.1 = k
    · rw [if_pos e] at h
      cases h with
      | head => exact .inl ⟨y, List.Mem.head _, rfl, rfl⟩
      | tail _ h => exact .inl ⟨x, List.Mem.tail _ h, rfl, rfl⟩
    · rw [if_neg e] at h
      cases h with
      | head => exact .inl ⟨y, List.Mem.head _, rfl, rfl⟩
      | tail _ h =>
        rcases putX_mem h with ⟨z, hz, q⟩ | q
        · exact .inl ⟨z, List.Mem.tail _ hz, q⟩
        · exact .inr q
section
variable {X : Cx} {pins : List (Addr × Obj)} {σ : L2.St} {H : Hp} {s : Shared} {a b : Addr} {xs : XE} {k : NestedKey} {A : Around} {E : Value → Shared → Prop}
theorem xd_at (I : Inv X pins σ H s) (g : XD X.prog X.w X.K H a xs) : (a == sysModules) = false ∧ ∃ ys, XP xs ys ∧ s.heap.DictOfH (nestedKind X.prog X.w) a ys := by
  obtain ⟨g, hk⟩ := g
  have key : ∀ ys, XP xs ys → ∀ y, y ∈ ys → (nestedKind X.prog X.w).is s.heap y.1 y.2.1 := by
    intro ys hp
    clear g
    induction hp with
    | nil => intro y hy; cases hy
    | @cons p q ps qs h t ih =>
      intro y hy
      cases hy with
      | head =>
        obtain ⟨h1, h2, _⟩ := h
        obtain ⟨n1, n2⟩ := hk p (List.Mem.head _)
        rw [← h1, ← h2]
        exact ⟨nk_is I n1 rfl, n2⟩
      | tail _ hy => exact ih (fun x hx => hk x (List.Mem.tail _ hx)) y hy
  rcases g with e | ⟨rfl, e⟩
  · obtain ⟨⟨z, ys, hp, o, es, ep, h1, h2, h3, h4, h5⟩, _⟩ := e.ok I.hok
    exact ⟨z, ys, hp, o, es, ep, h1, h2, h3, h4, key ys hp, h5⟩
  · obtain ⟨_, hd, vs, rel, o, es, ep, h1, h2, h3, h4, h5, h6⟩ := dk_rd I.hok e
    cases rel
    have e0 : es.toList = [] := by cases hh : es.toList with
      | nil => rfl
      | cons x r => rw [hh] at h5; cases h5
    exact ⟨hd, [], .nil, o, es, ep, h1, h2, h3, e0, fun y hy => (by cases hy), List.nodup_nil⟩
theorem xroom {A : Around} (hu : A.units + 65 < cLine) : (nestedKind X.prog X.w).room A.in1 := by
  show A.in1.units + 8 < cLine
  show A.units + 1 + 8 < cLine
  omega
theorem x_getItem {Q : Value → Shared → Prop} {v : V} (hu : A.units + 65 < cLine) (I : Inv X pins σ H s) (g : XD X.prog X.w X.K H a xs) (hb : NKv X.K H k (.ref b)) (hk : k.depth ≤ 8) (l : lookX xs k = some v) (h : ∀ w' s', Inv X pins σ H s' → RelV v w' → Q w' s') :
    wpAny (model X.prog X.w) A (getItem (.ref a) (.ref b)) Q E s := by
  obtain ⟨hd, ys, hp, dd⟩ := xd_at I g
  obtain ⟨w', hw, rw'⟩ := RelO.some_of (v := v) (o := (atKey ys k).map (·.2)) (by rw [← l]; exact xp_look hp)
  obtain ⟨p, hp1, hp2⟩ := Option.map_eq_some_iff.mp hw
  refine wpAny_getItem_heap (xroom hu) ⟨nk_is I hb rfl, hk⟩ dd hp1 ?_
  rw [hp2]
  exact h w' _ (I.tok _) rw'
theorem x_in {Q : Value → Shared → Prop} (hu : A.units + 65 < cLine) (I : Inv X pins σ H s) (g : XD X.prog X.w X.K H a xs) (hb : NKv X.K H k (.ref b)) (hk : k.depth ≤ 8) (h : ∀ s', Inv X pins σ H s' → Q (.bool (lookX xs k).isSome) s') :
    wpAny (model X.prog X.w) A (compareOp .In (.ref b) (.ref a)) Q E s := by
  obtain ⟨hd, ys, hp, dd⟩ := xd_at I g
  refine wpAny_in_heap (xroom hu) ⟨nk_is I hb rfl, hk⟩ hd dd ?_
  have q := (xp_look (k := k) hp).isSome_eq
  rw [Option.isSome_map] at q
  rw [← q]
  exact h _ (I.tok _)
theorem x_notIn {Q : Value → Shared → Prop} (hu : A.units + 65 < cLine) (I : Inv X pins σ H s) (g : XD X.prog X.w X.K H a xs) (hb : NKv X.K H k (.ref b)) (hk : k.depth ≤ 8) (h : ∀ s', Inv X pins σ H s' → Q (.bool (!(lookX xs k).isSome)) s') :
    wpAny (model X.prog X.w) A (compareOp .NotIn (.ref b) (.ref a)) Q E s := by
  obtain ⟨hd, ys, hp, dd⟩ := xd_at I g
  refine PyProof.Rows.wpAny_notIn_heap (xroom hu) ⟨nk_is I hb rfl, hk⟩ hd dd ?_
  have q := (xp_look (k := k) hp).isSome_eq
  rw [Option.isSome_map] at q
  rw [← q]
  exact h _ (I.tok _)
theorem xdO_ok {P : Program} {w : World} {H : Hp} {h : Heap} {ys : List (NestedKey × Addr × Value)} (hd : (a == sysModules) = false) (hp : XP xs ys) (dd : h.DictOfH (nestedKind P w) a ys) : ObjOk P w H h a (xdO P w a xs) := by
  obtain ⟨o, es, ep, h1, h2, h3, h4, _, h5⟩ := dd
  refine ⟨⟨hd, ys, hp, o, es, ep, h1, h2, h3, h4, h5⟩, ⟨o, h1⟩, ?_⟩
  rintro g1 g2 ⟨q1, zs, q2, o2, es2, ep2, q3, q4⟩ st
  exact ⟨q1, zs, q2, o2, es2, ep2, st _ q3, q4⟩
theorem x_setItem {Q : Unit → Shared → Prop} {v : V} {r : Value} (hu : A.units + 65 < cLine) (I : Inv X pins σ H s) (g : XD X.prog X.w X.K H a xs) (hb : NKv X.K H k (.ref b)) (hk : k.depth ≤ 8) (hl : xs.length ≤ sizeLine) (hmu : Mut (H a)) (rv : RelV v r)
    (h : ∀ s', Inv X pins σ (upd H a (xdO X.prog X.w a (putX xs k b v))) s' → Q () s') : wpAny (model X.prog X.w) A (setItem (.ref a) (.ref b) r) Q E s := by
  obtain ⟨hd, ys, hp, dd⟩ := xd_at I g
  have nd : (xs.map (·.1)).Nodup := by obtain ⟨_, _, _, _, _, _, _, _, n⟩ := dd; rw [← xp_keys hp]; exact n
  refine wpAny_setItem_heap (hsz := by rw [xp_len hp]; exact hl) (xroom hu) ⟨nk_is I hb rfl, hk⟩ dd fun h' dd' hs => h _ ?_
  have he : ∃ q, h'.get? a = some q := let ⟨q, _, _, hq, _⟩ := dd'; ⟨q, hq⟩
  exact d_write I hmu hs he (xdO_ok hd (xp_put rv hp nd) dd')
end
/-! ### as data -/
theorem nkDs_map : ∀ {xs : List D}, nkDs xs = xs.map nkD
  | [] => by simp [nkDs]
  | x :: r => by simp [nkDs, nkDs_map (xs := r)]
/-- are two keys equal -/
def eqN : Nat → D → D → Bool
  | f, x, y => match x, y with
    | .non, .non => true
    | .int i, .int j => i == j
    | .str s, .str t => eqS s t
    | .tup xs, .tup ys => match f with
      | 0 => false
      | f + 1 => eqL (eqN f) xs ys
    | _, _ => false
theorem eqN_iff : ∀ (f : Nat) (x y : D), isNK f x = true → isNK f y = true → (eqN f x y = true ↔ nkD x = nkD y) := by
  intro f
  induction f with
  | zero =>
    intro x y hx hy
    cases x <;> cases y <;> simp [isNK] at hx hy <;> simp [eqN, nkD, eqS_iff]
  | succ f ih =>
    have all : ∀ xs ys : List D, xs.all (isNK f) = true → ys.all (isNK f) = true → (eqL (eqN f) xs ys = true ↔ nkDs xs = nkDs ys) := by
      intro xs
      induction xs with
      | nil => intro ys _ _; cases ys <;> simp [eqL, nkDs]
      | cons x xs ih2 =>
        intro ys hx hy
        cases ys with
        | nil => simp [eqL, nkDs]
        | cons y ys =>
          rw [List.all_cons, Bool.and_eq_true] at hx hy
          simp only [eqL, nkDs, Bool.and_eq_true, ih x y hx.1 hy.1, ih2 ys hx.2 hy.2, List.cons.injEq]
    intro x y hx hy
    cases x with
    | tup xs =>
      cases y with
      | tup ys =>
        have := all xs ys hx hy
        simp only [eqN, nkD, NestedKey.tup.injEq]
        exact this
      | _ => simp [isNK] at hy <;> simp [eqN, nkD]
    | _ => cases y <;> simp [isNK] at hx hy <;> simp [eqN, nkD, eqS_iff]
section
variable {K : PySem.W.Frag} {ρ : Nat → Addr} {n : Nat} {H : Hp}
theorem nkv_of : ∀ (f : Nat) (d : D) (v : V), isNK f d = true → RelD K ρ n H d v → NKv K H (nkD d) v ∧ (nkD d).depth ≤ f := by
  intro f
  induction f with
  | zero =>
    intro d v hd r
    cases d with
    | non => rw [relD_non] at r; subst r; exact ⟨by rw [nkD]; exact .non, by simp [nkD, NestedKey.depth]⟩
    | int i => rw [relD_int] at r; subst r; exact ⟨by rw [nkD]; exact .int i, by simp [nkD, NestedKey.depth]⟩
    | str s => rw [relD_str] at r; obtain ⟨rfl, _⟩ := r; exact ⟨by rw [nkD]; exact .str _, by simp [nkD, NestedKey.depth]⟩
    | _ => simp [isNK] at hd
  | succ f ih =>
    have all : ∀ (xs : List D) (vs : List V), xs.all (isNK f) = true → RelDs K ρ n H xs vs → NKs K H (nkDs xs) vs ∧ NestedKey.depthAll (nkDs xs) ≤ f := by
      intro xs
      induction xs with
      | nil => intro vs _ r; rw [relDs_nil] at r; subst r; exact ⟨by rw [nkDs]; exact .nil, by simp [nkDs, NestedKey.depthAll]⟩
      | cons x xs ih2 =>
        intro vs hx r
        rw [relDs_cons] at r
        obtain ⟨v, us, rfl, r1, r2⟩ := r
        rw [List.all_cons, Bool.and_eq_true] at hx
        obtain ⟨a1, a2⟩ := ih x v hx.1 r1
        obtain ⟨b1, b2⟩ := ih2 us hx.2 r2
        exact ⟨by rw [nkDs]; exact .cons a1 b1, by simp only [nkDs, NestedKey.depthAll]; omega⟩
    intro d v hd r
    cases d with
    | non => rw [relD_non] at r; subst r; exact ⟨by rw [nkD]; exact .non, by simp [nkD, NestedKey.depth]⟩
    | int i => rw [relD_int] at r; subst r; exact ⟨by rw [nkD]; exact .int i, by simp [nkD, NestedKey.depth]⟩
    | str s => rw [relD_str] at r; obtain ⟨rfl, _⟩ := r; exact ⟨by rw [nkD]; exact .str _, by simp [nkD, NestedKey.depth]⟩
    | tup xs =>
      rw [relD_tup] at r
      obtain ⟨p, vs, rfl, hp, rs⟩ := r
      obtain ⟨a, b⟩ := all xs vs hd rs
      exact ⟨by rw [nkD]; exact .tup hp a, by simp only [nkD, NestedKey.depth]; omega⟩
    | _ => simp [isNK] at hd
theorem tk_of {x : D} {v : V} (h : isTK x = true) (r : RelD K ρ n H x v) : ∃ b, v = .ref b ∧ NKv K H (nkD x) (.ref b) ∧ (nkD x).depth ≤ 8 := by
  cases x with
  | tup xs =>
    obtain ⟨p, vs, rfl, hp, rs⟩ := relD_tup.mp r
    obtain ⟨a, b⟩ := nkv_of 8 (.tup xs) _ (show isNK 8 (.tup xs) = true from h) r
    exact ⟨p, rfl, a, b⟩
  | _ => cases h
theorem tk_nk {x : D} (h : isTK x = true) : isNK 8 x = true := by
  cases x with
  | tup xs => exact h
  | _ => cases h
def lookXd : List (D × D) → D → Option D
  | [], _ => none
  | q :: r, x => if eqN 8 q.1 x then some q.2 else lookXd r x
def putXd : List (D × D) → D → D → List (D × D)
  | [], k, v => [(k, v)]
  | q :: r, k, v => if eqN 8 q.1 k then (q.1, v) :: r else q :: putXd r k v
theorem xrel_keys : ∀ {kvs : List (D × D)} {xs : XE}, XRel K ρ n H kvs xs → ∀ x, x ∈ xs → NKv K H x.1 (.ref x.2.1) ∧ x.1.depth ≤ 8
  | [], xs, h, x, hx => by cases h; cases hx
  | q :: r, xs, h, x, hx => by
    obtain ⟨b, v, xs', rfl, t, rk, rv, c⟩ := h
    cases hx with
    | head =>
      obtain ⟨b2, e, a1, a2⟩ := tk_of t rk
      cases e
      exact ⟨a1, a2⟩
    | tail _ hx => exact xrel_keys c x hx
theorem lookX_ok {x : D} (hx : isTK x = true) : ∀ {kvs : List (D × D)} {xs : XE}, XRel K ρ n H kvs xs → match lookXd kvs x with | some d => ∃ v, lookX xs (nkD x) = some v ∧ RelD K ρ n H d v | none => lookX xs (nkD x) = none
  | [], xs, h => by cases h; rfl
  | q :: r, xs, h => by
    obtain ⟨b, v, xs', rfl, t, rk, rv, c⟩ := h
    unfold lookXd lookX
    have ei := eqN_iff 8 q.1 x (tk_nk t) (tk_nk hx)
    by_cases e : eqN 8 q.1 x = true
    · rw [if_pos e, if_pos (ei.mp e)]
      exact ⟨v, rfl, rv⟩
    · rw [if_neg e, if_neg (fun z => e (ei.mpr z))]
      exact lookX_ok hx c
theorem putX_ok {x d : D} {b : Addr} {v : V} (hx : isTK x = true) (rx : RelD K ρ n H x (.ref b)) (rd : RelD K ρ n H d v) : ∀ {kvs : List (D × D)} {xs : XE}, XRel K ρ n H kvs xs → (xs.map (·.1)).Nodup →
    XRel K ρ n H (putXd kvs x d) (putX xs (nkD x) b v) ∧ ((putX xs (nkD x) b v).map (·.1)).Nodup ∧ ∀ j, j ∈ (putX xs (nkD x) b v).map (·.1) → j ∈ xs.map (·.1) ∨ j = nkD x
  | [], xs, h, nd => by
    cases h
    exact ⟨⟨b, v, [], rfl, hx, rx, rd, rfl⟩, by simp [putX], fun j hj => .inr (by simpa [putX] using hj)⟩
  | q :: r, xs, h, nd => by
    obtain ⟨b', u, xs', rfl, t, rk, rv, c⟩ := h
    unfold putXd putX
    have ei := eqN_iff 8 q.1 x (tk_nk t) (tk_nk hx)
    by_cases e : eqN 8 q.1 x = true
    · rw [if_pos e, if_pos (ei.mp e)]
      exact ⟨⟨b', v, xs', rfl, t, rk, rd, c⟩, nd, fun j hj => .inl hj⟩
    · have ne : ¬ nkD q.1 = nkD x := fun z => e (ei.mpr z)
      rw [if_neg e, if_neg ne]
      have nd' := nd
      simp only [List.map_cons, List.nodup_cons] at nd'
      obtain ⟨p1, p2, p3⟩ := putX_ok hx rx rd c nd'.2
      refine ⟨⟨b', u, _, rfl, t, rk, rv, p1⟩, ?_, ?_⟩
      · simp only [List.map_cons, List.nodup_cons]
        refine ⟨fun z => ?_, p2⟩
        rcases p3 _ z with z | z
        · exact nd'.1 z
        · exact ne z
      · intro j hj
        simp only [List.map_cons, List.mem_cons] at hj ⊢
        rcases hj with z | z
        · exact .inl (.inl z)
        · rcases p3 j z with z | z
          · exact .inl (.inr z)
          · exact .inr z
theorem xrel_len : ∀ {kvs : List (D × D)} {xs : XE}, XRel K ρ n H kvs xs → kvs.length = xs.length
  | [], xs, h => by cases h; rfl
  | q :: r, xs, h => by
    obtain ⟨b', u, xs', rfl, t, rk, rv, c⟩ := h
    simp [xrel_len c]
end
end
end PV
set_option Elab.async false
set_option linter.all false
set_option maxRecDepth 100000
set_option maxHeartbeats 1000000
set_option autoImplicit false
namespace PV
noncomputable section
open PySem PySem.Spec PyProof.Rows L2
section
variable {G : Gs} {K : PySem.W.Frag} {C : Cx → Prop} {X : Cx}
/-! ### in, not in -/
def flatD : D → Bool
  | .kls _ => false
  | .tup _ => false
  | .ref _ => false
  | _ => true
def bln (neg b : Bool) : D := .bl (if neg then !b else b)
def inM (neg : Bool) (x y : D) : M D := fun h => match y with
  | .str t => match x with
    | .str [c] => .ret (.ok (bln neg (t.any (Nat.beq c))) h)
    | _ => .ret .bad
  | .tup ys => if flatD x && ys.all flatD then .ret (.ok (bln neg (ys.any fun z => eqF 0 h z x)) h) else .ret .bad
  | .ref a => match h.get a with
    | some (.lst ys) => if isDt 63 h x && ys.all (isDt 63 h) then .ret (.ok (bln neg (ys.any fun z => eqF 63 h z x)) h) else .ret .bad
    | some (.dic kvs) => if isKey x then .ret (.ok (bln neg (lookD kvs x).isSome) h) else if kvs.isEmpty && isTK x then .ret (.ok (bln neg false) h) else .ret .bad
    | some (.lck kvs) => if isKey x then .ret (.ok (bln neg (lookD kvs x).isSome) h) else if kvs.isEmpty && isTK x then .ret (.ok (bln neg false) h) else .ret .bad
    | some (.dix kvs) => if isTK x then .ret (.ok (bln neg (lookXd kvs x).isSome) h) else .ret .bad
    | some (.lcx kvs) => if isTK x then .ret (.ok (bln neg (lookXd kvs x).isSome) h) else .ret .bad
    | _ => .ret .bad
  | _ => .ret .bad
theorem dgetR {H : Hp} {a : Addr} {kvs : List (Key × V)} {k : Key} (e : Rd H a (.dK kvs)) : DGet H a (kV k) (valV kvs k) := .inl ⟨kvs, k, e, rfl, rfl⟩
theorem op_din (hu : X.A.units + 1 < cLine) : OpR X (compareOp .In) (fun y x H Q => ∃ a o, x = .ref a ∧ DGet H a y o ∧ Q (.bl o.isSome) H) := fun pins s σ H y x u v Q I ry rx q => by
  obtain ⟨a, o, rfl, g, q⟩ := q
  obtain rfl : v = Value.ref a := rx
  exact d_in hu I g ry fun s2 I2 => ⟨.bl o.isSome, H, I2, rfl, q⟩
theorem op_dnotin (hu : X.A.units + 1 < cLine) : OpR X (compareOp .NotIn) (fun y x H Q => ∃ a o, x = .ref a ∧ DGet H a y o ∧ Q (.bl (!o.isSome)) H) := fun pins s σ H y x u v Q I ry rx q => by
  obtain ⟨a, o, rfl, g, q⟩ := q
  obtain rfl : v = Value.ref a := rx
  exact d_notIn hu I g ry fun s2 I2 => ⟨.bl (!o.isSome), H, I2, rfl, q⟩
def rInA (K : PySem.W.Frag) (neg : Bool) : R2 := fun x y H Q =>
  (rIn K neg x y H Q ∨ (∃ d ds, Dp K H x d ∧ Dp K H y (.list ds) ∧ SeqAt.shaped d = true ∧ SeqAt.shaped (.list ds) = true ∧ Q (.bl (if neg then !ds.any (fun z => PyData.eqv z d) else ds.any fun z => PyData.eqv z d)) H)) ∨
  ((∃ a o, y = .ref a ∧ DGet H a x o ∧ Q (.bl (if neg then !o.isSome else o.isSome)) H) ∨ (∃ (c : Nat) (z : Str), x = .str ⟨#[c]⟩ ∧ y = .str z ∧ Q (.bl (if neg then !decide (c ∈ z.cps.toList) else decide (c ∈ z.cps.toList))) H))
theorem op_inA (hu : X.A.units + 65 < cLine) : OpR X (compareOp .In) (rInA X.K false) := or_op (or_op op_in_seq (op_inD hu)) (or_op (op_din (by omega)) op_in_sign)
theorem op_notinA (hu : X.A.units + 65 < cLine) : OpR X (compareOp .NotIn) (rInA X.K true) := or_op (or_op op_notIn_seq (op_notInD hu)) (or_op (op_dnotin (by omega)) op_notIn_sign)
/-- a tuple in a dict -/
def rInX (P : Program) (w : World) (K : PySem.W.Frag) (neg : Bool) : R2 := fun x y H Q => ∃ a b k xs, y = .ref a ∧ x = .ref b ∧ XD P w K H a xs ∧ NKv K H k (.ref b) ∧ k.depth ≤ 8 ∧ Q (.bl (if neg then !(lookX xs k).isSome else (lookX xs k).isSome)) H
theorem op_inX (hu : X.A.units + 65 < cLine) : OpR X (compareOp .In) (rInX X.prog X.w X.K false) := fun pins s σ H y x u v Q I ry rx q => by
  obtain ⟨a, b, k, xs, rfl, rfl, g, hb, hk, q⟩ := q
  obtain rfl : v = Value.ref a := rx
  obtain rfl : u = Value.ref b := ry
  exact x_in hu I g hb hk fun s2 I2 => ⟨.bl (lookX xs k).isSome, H, I2, rfl, q⟩
theorem op_notInX (hu : X.A.units + 65 < cLine) : OpR X (compareOp .NotIn) (rInX X.prog X.w X.K true) := fun pins s σ H y x u v Q I ry rx q => by
  obtain ⟨a, b, k, xs, rfl, rfl, g, hb, hk, q⟩ := q
  obtain rfl : v = Value.ref a := rx
  obtain rfl : u = Value.ref b := ry
  exact x_notIn hu I g hb hk fun s2 I2 => ⟨.bl (!(lookX xs k).isSome), H, I2, rfl, q⟩
def rInB (P : Program) (w : World) (K : PySem.W.Frag) (neg : Bool) : R2 := fun x y H Q => rInA K neg x y H Q ∨ rInX P w K neg x y H Q
theorem op_inB (hu : X.A.units + 65 < cLine) : OpR X (compareOp .In) (rInB X.prog X.w X.K false) := or_op (op_inA hu) (op_inX hu)
theorem op_notInB (hu : X.A.units + 65 < cLine) : OpR X (compareOp .NotIn) (rInB X.prog X.w X.K true) := or_op (op_notinA hu) (op_notInX hu)
theorem flat_ok {K : PySem.W.Frag} {ρ : Nat → Addr} {n : Nat} {H : Hp} {x : D} {v : V} (f : flatD x = true) (r : RelD K ρ n H x v) : flatV v = true := by
  cases x with
  | non => rw [relD_non] at r; subst r; rfl
  | bl b => rw [relD_bl] at r; subst r; rfl
  | int b => rw [relD_int] at r; subst r; rfl
  | str b => rw [relD_str] at r; obtain ⟨rfl, _⟩ := r; rfl
  | _ => cases f
theorem flat_eq {K : PySem.W.Frag} {ρ : Nat → Addr} {n : Nat} {H : Hp} {h : VH} {x y : D} {v u : V} (f : flatD x = true) (g : flatD y = true) (r : RelD K ρ n H x v) (q : RelD K ρ n H y u) : eqV v u = eqF 0 h x y := by
  cases x with
  | non =>
    rw [relD_non] at r; subst r
    cases y with
    | non => rw [relD_non] at q; subst q; rfl
    | bl b => rw [relD_bl] at q; subst q; rfl
    | int b => rw [relD_int] at q; subst q; rfl
    | str b => rw [relD_str] at q; obtain ⟨rfl, _⟩ := q; rfl
    | _ => cases g
  | bl b =>
    rw [relD_bl] at r; subst r
    cases y with
    | non => rw [relD_non] at q; subst q; rfl
    | bl b => rw [relD_bl] at q; subst q; rfl
    | int b => rw [relD_int] at q; subst q; rfl
    | str b => rw [relD_str] at q; obtain ⟨rfl, _⟩ := q; rfl
    | _ => cases g
  | int b =>
    rw [relD_int] at r; subst r
    cases y with
    | non => rw [relD_non] at q; subst q; rfl
    | bl b => rw [relD_bl] at q; subst q; rfl
    | int b => rw [relD_int] at q; subst q; rfl
    | str b => rw [relD_str] at q; obtain ⟨rfl, _⟩ := q; rfl
    | _ => cases g
  | str b =>
    rw [relD_str] at r; obtain ⟨rfl, _⟩ := r
    cases y with
    | non => rw [relD_non] at q; subst q; rfl
    | bl b => rw [relD_bl] at q; subst q; rfl
    | int b => rw [relD_int] at q; subst q; rfl
    | str c =>
      rw [relD_str] at q; obtain ⟨rfl, _⟩ := q
      rw [Bool.eq_iff_iff]
      simp only [eqV, eqF, eqS_iff]
      simp
    | _ => cases g
  | _ => cases f
theorem flats_ok {K : PySem.W.Frag} {ρ : Nat → Addr} {n : Nat} {H : Hp} {h : VH} {x : D} {v : V} (f : flatD x = true) (r : RelD K ρ n H x v) : ∀ {ys : List D} {us : List V}, ys.all flatD = true → RelDs K ρ n H ys us → us.all flatV = true ∧ inV v us = ys.any fun z => eqF 0 h z x
  | [], us, _, q => by rw [relDs_nil] at q; subst q; exact ⟨rfl, rfl⟩
  | y :: ys, us, a, q => by
    rw [relDs_cons] at q
    obtain ⟨u, us', rfl, q1, q2⟩ := q
    rw [List.all_cons, Bool.and_eq_true] at a
    obtain ⟨p1, p2⟩ := flats_ok (h := h) f r a.2 q2
    refine ⟨by rw [List.all_cons, flat_ok a.1 q1, p1]; rfl, ?_⟩
    unfold inV at p2 ⊢
    rw [List.any_cons, List.any_cons, p2, flat_eq (h := h) a.1 f q1 r]
theorem dts_ok {K : PySem.W.Frag} {ρ : Nat → Addr} {h : VH} {H : Hp} (hr : HR G K ρ h H) (f : Nat) : ∀ (ys : List D) (us : List V), ys.all (isDt f h) = true → RelDs K ρ h.n H ys us → DpAll K H us (ys.map (toP f h)) ∧ PyData.canLayAll0 (ys.map (toP f h)) = true ∧ PyData.depthAll (ys.map (toP f h)) ≤ f
  | [], us, _, r => by rw [relDs_nil] at r; subst r; exact ⟨.nil, by simp [PyData.canLayAll0], by simp [PyData.depthAll]⟩
  | y :: ys, us, ha, r => by
    rw [relDs_cons] at r
    obtain ⟨u, us', rfl, r1, r2⟩ := r
    rw [List.all_cons, Bool.and_eq_true] at ha
    obtain ⟨q1, q2, q3⟩ := toP_ok hr f y u ha.1 r1
    obtain ⟨p1, p2, p3⟩ := dts_ok hr f ys us' ha.2 r2
    refine ⟨.cons q1 p1, ?_, ?_⟩
    · simp only [List.map_cons, PyData.canLayAll0, q2, p2, Bool.and_self]
    · simp only [List.map_cons, PyData.depthAll]; omega
theorem any_eqv {h : VH} {f : Nat} {x : D} (hx : isDt f h x = true) : ∀ {ys : List D}, ys.all (isDt f h) = true → ((ys.map (toP f h)).any fun z => PyData.eqv z (toP f h x)) = ys.any fun z => eqF f h z x
  | [], _ => rfl
  | y :: ys, ha => by
    rw [List.all_cons, Bool.and_eq_true] at ha
    rw [List.map_cons, List.any_cons, List.any_cons, any_eqv hx ha.2, eqF_eqv f y x ha.1 hx]
theorem sop_in (neg : Bool) : SOp G K (rInB G.P G.w K neg) (inM neg) := by
  intro ρ h H x y vx vy Q hr rx ry hq
  unfold inM at hq
  cases y with
  | str t =>
    cases x with
    | str s =>
      match s, hq, rx with
      | [c], hq, rx =>
        rw [relD_str] at rx ry
        refine .inl (.inr (.inr ⟨c, _, rx.1, ry.1, post_ret hr hq (relD_bl.mpr ?_)⟩))
        have e : decide (c ∈ t) = t.any (Nat.beq c) := by
          rw [Bool.eq_iff_iff, decide_eq_true_iff, List.any_eq_true]
          constructor
          · intro z; exact ⟨c, z, by simp⟩
          · rintro ⟨z, hz, e⟩; rw [Nat.beq_eq] at e; rw [e]; exact hz
        simp only [e]
      | [], hq, rx => exact hq.elim
      | _ :: _ :: _, hq, rx => exact hq.elim
    | _ => exact hq.elim
  | tup ys =>
    simp only at hq
    by_cases hz : (flatD x && ys.all flatD) = true
    · rw [if_pos hz] at hq
      rw [Bool.and_eq_true] at hz
      rw [relD_tup] at ry
      obtain ⟨p, us, rfl, hp, rs⟩ := ry
      obtain ⟨f1, f2⟩ := flats_ok (h := h) hz.1 rx hz.2 rs
      refine .inl (.inl (.inl ⟨p, us, rfl, .inr hp, flat_ok hz.1 rx, f1, post_ret hr hq (relD_bl.mpr ?_)⟩))
      rw [f2]
    · rw [if_neg hz] at hq; exact hq.elim
  | ref a =>
    simp only at hq
    cases ea : h.get a with
    | none => rw [ea] at hq; exact hq.elim
    | some o =>
      rw [ea] at hq
      rw [relD_ref] at ry
      obtain ⟨_, rfl⟩ := ry
      cases o with
      | lst ys =>
        simp only at hq
        by_cases hz : (isDt 63 h x && ys.all (isDt 63 h)) = true
        · rw [if_pos hz] at hq
          rw [Bool.and_eq_true] at hz
          obtain ⟨us, h1, r1⟩ := hr.lst ea
          obtain ⟨q1, q2, q3⟩ := toP_ok hr 63 x vx hz.1 rx
          obtain ⟨p1, p2, p3⟩ := dts_ok hr 63 ys us hz.2 r1
          refine .inl (.inl (.inr ⟨_, _, q1, .lst (.inl (.inl h1)) p1, ?_, ?_, post_ret hr hq (relD_bl.mpr ?_)⟩))
          · unfold SeqAt.shaped; rw [q2, decide_eq_true (by omega)]; rfl
          · unfold SeqAt.shaped; simp only [PyData.canLay0, p2, PyData.depth, Bool.true_and]; exact decide_eq_true (by omega)
          · rw [any_eqv hz.1 hz.2]
        · rw [if_neg hz] at hq; exact hq.elim
      | dic kvs =>
        simp only at hq
        by_cases hz : isKey x = true
        · rw [if_pos hz] at hq
          obtain ⟨k, hk, rfl⟩ := key_of hz rx
          obtain ⟨es, h1, r1, nd⟩ := hr.dk (.inl ea)
          refine .inl (.inr (.inl ⟨_, _, rfl, dgetR (k := k) h1, post_ret hr hq (relD_bl.mpr ?_)⟩))
          have := look_ok hk r1
          revert this
          cases lookD kvs x with
          | some d => rintro ⟨v, e, _⟩; rw [e]; rfl
          | none => intro e; have e : valV es k = none := e; rw [e]; rfl
        · rw [if_neg hz] at hq
          by_cases hy : (kvs.isEmpty && isTK x) = true
          · rw [if_pos hy] at hq
            rw [Bool.and_eq_true] at hy
            obtain ⟨b, rfl, n1, n2⟩ := tk_of hy.2 rx
            obtain ⟨es, h1, r1, nd⟩ := hr.dk (.inl ea)
            cases kvs with
            | cons => cases hy.1
            | nil =>
              cases (show es = [] from r1)
              exact .inr ⟨_, b, _, [], rfl, rfl, ⟨.inr ⟨rfl, h1⟩, fun x hx => by cases hx⟩, n1, n2, post_ret hr hq (relD_bl.mpr rfl)⟩
          · rw [if_neg hy] at hq; exact hq.elim
      | lck kvs =>
        simp only at hq
        by_cases hz : isKey x = true
        · rw [if_pos hz] at hq
          obtain ⟨k, hk, rfl⟩ := key_of hz rx
          obtain ⟨es, h1, r1, nd⟩ := hr.dk (.inr ea)
          refine .inl (.inr (.inl ⟨_, _, rfl, dgetR (k := k) h1, post_ret hr hq (relD_bl.mpr ?_)⟩))
          have := look_ok hk r1
          revert this
          cases lookD kvs x with
          | some d => rintro ⟨v, e, _⟩; rw [e]; rfl
          | none => intro e; have e : valV es k = none := e; rw [e]; rfl
        · rw [if_neg hz] at hq
          by_cases hy : (kvs.isEmpty && isTK x) = true
          · rw [if_pos hy] at hq
            rw [Bool.and_eq_true] at hy
            obtain ⟨b, rfl, n1, n2⟩ := tk_of hy.2 rx
            obtain ⟨es, h1, r1, nd⟩ := hr.dk (.inr ea)
            cases kvs with
            | cons => cases hy.1
            | nil =>
              cases (show es = [] from r1)
              exact .inr ⟨_, b, _, [], rfl, rfl, ⟨.inr ⟨rfl, h1⟩, fun x hx => by cases hx⟩, n1, n2, post_ret hr hq (relD_bl.mpr rfl)⟩
          · rw [if_neg hy] at hq; exact hq.elim
      | dix kvs =>
        simp only at hq
        by_cases hz : isTK x = true
        · rw [if_pos hz] at hq
          obtain ⟨b, rfl, n1, n2⟩ := tk_of hz rx
          obtain ⟨xs, h1, r1, nd⟩ := hr.dx (.inl ea)
          refine .inr ⟨_, b, _, xs, rfl, rfl, ⟨.inl h1, xrel_keys r1⟩, n1, n2, post_ret hr hq (relD_bl.mpr ?_)⟩
          have := lookX_ok hz r1
          revert this
          cases lookXd kvs x with
          | some d => rintro ⟨v, e, _⟩; rw [e]; rfl
          | none => intro e; have e : lookX xs (nkD x) = none := e; rw [e]; rfl
        · rw [if_neg hz] at hq; exact hq.elim
      | lcx kvs =>
        simp only at hq
        by_cases hz : isTK x = true
        · rw [if_pos hz] at hq
          obtain ⟨b, rfl, n1, n2⟩ := tk_of hz rx
          obtain ⟨xs, h1, r1, nd⟩ := hr.dx (.inr ea)
          refine .inr ⟨_, b, _, xs, rfl, rfl, ⟨.inl h1, xrel_keys r1⟩, n1, n2, post_ret hr hq (relD_bl.mpr ?_)⟩
          have := lookX_ok hz r1
          revert this
          cases lookXd kvs x with
          | some d => rintro ⟨v, e, _⟩; rw [e]; rfl
          | none => intro e; have e : lookX xs (nkD x) = none := e; rw [e]; rfl
        · rw [if_neg hz] at hq; exact hq.elim
      | _ => exact hq.elim
  | _ => exact hq.elim

/-! ### is None -/
def isNon : D → Bool
  | .non => true
  | _ => false
def isM (neg : Bool) (x y : D) : M D := fun h => match y with
  | .non => .ret (.ok (bln neg (isNon x)) h)
  | _ => .ret .bad
theorem isNon_ok {K : PySem.W.Frag} {ρ : Nat → Addr} {n : Nat} {H : Hp} {x : D} {v : V} (r : RelD K ρ n H x v) : decide (v = .non) = isNon x := by
  cases x with
  | non => rw [relD_non] at r; subst r; rfl
  | bl b => rw [relD_bl] at r; subst r; rfl
  | int b => rw [relD_int] at r; subst r; rfl
  | str b => rw [relD_str] at r; obtain ⟨rfl, _⟩ := r; rfl
  | tup xs => rw [relD_tup] at r; obtain ⟨p, vs, rfl, _⟩ := r; rfl
  | ref a => rw [relD_ref] at r; obtain ⟨_, rfl⟩ := r; rfl
  | kls ns => rw [relD_kls] at r; obtain ⟨p, rfl, _⟩ := r; rfl
theorem sop_is : SOp G K (fun x y H Q => y = .non ∧ Q (.bl (decide (x = .non))) H) (isM false) := by
  intro ρ h H x y vx vy Q hr rx ry hq
  cases y with
  | non => rw [relD_non] at ry; exact ⟨ry, post_ret hr hq (relD_bl.mpr (by rw [isNon_ok rx]; rfl))⟩
  | _ => exact hq.elim
theorem sop_isnot : SOp G K (fun x y H Q => y = .non ∧ Q (.bl (!decide (x = .non))) H) (isM true) := by
  intro ρ h H x y vx vy Q hr rx ry hq
  cases y with
  | non => rw [relD_non] at ry; exact ⟨ry, post_ret hr hq (relD_bl.mpr (by rw [isNon_ok rx]; rfl))⟩
  | _ => exact hq.elim

/-! ### places -/
def ixD {α : Type} (xs : List α) (i : Int) : Option α := match i with
  | .ofNat k => xs[k]?
  | .negSucc k => if k + 1 ≤ xs.length then xs[xs.length - (k + 1)]? else none
theorem ixD_eq {α : Type} (xs : List α) (i : Int) : ixD xs i = atI xs i := by
  unfold atI ixN
  cases i with
  | ofNat k =>
    show xs[k]? = (if 0 ≤ (k : Int) then (if (k : Int) < xs.length then some (k : Int).toNat else none) else _).bind _
    rw [if_pos (Int.natCast_nonneg k)]
    by_cases h : k < xs.length
    · rw [if_pos (by omega)]; rfl
    · rw [if_neg (by omega)]
      exact List.getElem?_eq_none (by omega)
  | negSucc k =>
    show (if k + 1 ≤ xs.length then xs[xs.length - (k + 1)]? else none) = _
    rw [Int.negSucc_eq, if_neg (show ¬ (0 : Int) ≤ -((k : Int) + 1) by omega)]
    by_cases h : k + 1 ≤ xs.length
    · rw [if_pos h, if_pos (by omega)]
      show _ = xs[(-((k : Int) + 1) + xs.length).toNat]?
      congr 1
      omega
    · rw [if_neg h, if_neg (by omega)]
      rfl
def ixM (x y : D) : M D := fun h => match x with
  | .str s => match y with
    | .int i => match ixD s i with
      | some c => .ret (.ok (.str [c]) h)
      | none => .ret .bad
    | _ => .ret .bad
  | .tup xs => match y with
    | .int i => match ixD xs i with
      | some d => .ret (.ok d h)
      | none => .ret .bad
    | _ => .ret .bad
  | .ref a => match h.get a with
    | some (.lst xs) => match y with
      | .int i => match ixD xs i with
        | some d => .ret (.ok d h)
        | none => .ret .bad
      | _ => .ret .bad
    | some (.dic kvs) => if isKey y then match lookD kvs y with
        | some d => .ret (.ok d h)
        | none => .ret .bad
      else .ret .bad
    | some (.dix kvs) => if isTK y then match lookXd kvs y with
        | some d => .ret (.ok d h)
        | none => .ret .bad
      else .ret .bad
    | some (.lck kvs) => if isKey y then match lookD kvs y with
        | some d => .ret (.ok d h)
        | none => .ret .bad
      else .ret .bad
    | some (.lcx kvs) => if isTK y then match lookXd kvs y with
        | some d => .ret (.ok d h)
        | none => .ret .bad
      else .ret .bad
    | _ => .ret .bad
  | _ => .ret .bad
theorem ix_dic (hu : X.A.units + 1 < cLine) : IxR X (fun x y H Q => ∃ a v, x = .ref a ∧ DGet H a y (some v) ∧ Q v H) := by
  intro ve se pins s σ H x y v u Q I rx ry q hsub
  obtain ⟨a, w, rfl, g, q⟩ := q
  obtain rfl : v = Value.ref a := rx
  have ty := dict_typeIs I g
  unfold subscriptTail
  refine wpAny_bind ?_
  rw [getitemInPython_of_ne ty.not_modules]
  have sp := PySem.F.slot_dict_getitem.lookup
  refine wpAny_bind (wpAny_specialOf ty sp ?_)
  have last : wpAny (model X.prog X.w) X.A (subscripted se false (.ref a) u) (fun r s3 => wpAny (model X.prog X.w) X.A (letTemporaryGo ve (.ref a) r >>= fun _ => pure r) (EP X pins σ Q) X.xe s3) X.xe s := by
    rw [hsub]
    have got := d_getItem (A := X.A) (E := X.xe) (Q := EP X pins σ Q) hu I g ry fun w' s3 I3 rw' => ⟨w, H, I3, rw', q⟩
    exact wpAny_operating (thn got fun r s3 h3 => wpAny_bind (wpAny_letTemporaryGo (wpAny_pure h3)))
  first
    | exact wpAny_pure (wpAny_bind last)
    | exact wpAny_bind (wpAny_pure (wpAny_bind last))
    | exact wpAny_bind last
def rIxX (P : Program) (w : World) (K : PySem.W.Frag) : R2 := fun x y H Q => ∃ a b k xs v, x = .ref a ∧ y = .ref b ∧ XD P w K H a xs ∧ NKv K H k (.ref b) ∧ k.depth ≤ 8 ∧ lookX xs k = some v ∧ Q v H
theorem ix_dix (hu : X.A.units + 65 < cLine) : IxR X (rIxX X.prog X.w X.K) := by
  intro ve se pins s σ H x y v u Q I rx ry q hsub
  obtain ⟨a, b, k, xs, w, rfl, rfl, g, hb, hk, l, q⟩ := q
  obtain rfl : v = Value.ref a := rx
  obtain rfl : u = Value.ref b := ry
  obtain ⟨_, ys, _, dd⟩ := xd_at I g
  have ty := dd.typeIs
  unfold subscriptTail
  refine wpAny_bind ?_
  rw [getitemInPython_of_ne ty.not_modules]
  have sp := PySem.F.slot_dict_getitem.lookup
  refine wpAny_bind (wpAny_specialOf ty sp ?_)
  have last : wpAny (model X.prog X.w) X.A (subscripted se false (.ref a) (.ref b)) (fun r s3 => wpAny (model X.prog X.w) X.A (letTemporaryGo ve (.ref a) r >>= fun _ => pure r) (EP X pins σ Q) X.xe s3) X.xe s := by
    rw [hsub]
    have got := x_getItem (A := X.A) (E := X.xe) (Q := EP X pins σ Q) hu I g hb hk l fun w' s3 I3 rw' => ⟨w, H, I3, rw', q⟩
    exact wpAny_operating (thn got fun r s3 h3 => wpAny_bind (wpAny_letTemporaryGo (wpAny_pure h3)))
  first
    | exact wpAny_pure (wpAny_bind last)
    | exact wpAny_bind (wpAny_pure (wpAny_bind last))
    | exact wpAny_bind last
def rIxA (P : Program) (w : World) (K : PySem.W.Frag) : R2 := fun x y H Q => (rIx K x y H Q ∨ (∃ a v, x = .ref a ∧ DGet H a y (some v) ∧ Q v H)) ∨ rIxX P w K x y H Q
theorem ix_all (hu : X.A.units + 65 < cLine) : IxR X (rIxA X.prog X.w X.K) := (ix_seq.or (ix_dic (by omega))).or (ix_dix hu)
theorem ixD_rel {K : PySem.W.Frag} {ρ : Nat → Addr} {n : Nat} {H : Hp} {xs : List D} {vs : List V} {i : Int} {d : D} (r : RelDs K ρ n H xs vs) (e : ixD xs i = some d) : ∃ v, atI vs i = some v ∧ RelD K ρ n H d v := by
  rw [← ixD_eq]
  have hl := relDs_len r
  cases i with
  | ofNat k => exact relDs_get r e
  | negSucc k =>
    simp only [ixD] at e ⊢
    by_cases hz : k + 1 ≤ xs.length
    · rw [if_pos hz] at e
      rw [if_pos (by rw [← hl]; exact hz), ← hl]
      exact relDs_get r e
    · rw [if_neg hz] at e; cases e
theorem ixD_mem {α : Type} {xs : List α} {i : Int} {d : α} (e : ixD xs i = some d) : d ∈ xs := by
  cases i with
  | ofNat k => exact List.mem_of_getElem? e
  | negSucc k =>
    simp only [ixD] at e
    by_cases hz : k + 1 ≤ xs.length
    · rw [if_pos hz] at e; exact List.mem_of_getElem? e
    · rw [if_neg hz] at e; cases e
theorem sop_ix : SOp G K (rIxA G.P G.w K) ixM := by
  intro ρ h H x y vx vy Q hr rx ry hq
  unfold ixM at hq
  cases x with
  | str s =>
    cases y with
    | int i =>
      simp only at hq
      cases e : ixD s i with
      | none => rw [e] at hq; exact hq.elim
      | some c =>
        rw [e] at hq
        rw [relD_str] at rx
        rw [relD_int] at ry
        refine .inl (.inl (.inr (.inr ⟨_, i, c, rx.1, ry, ?_, ?_, post_ret hr hq (relD_str.mpr ⟨rfl, fun z hz => ?_, by simp⟩)⟩)))
        · have := rx.2.2
          show s.toArray.size ≤ 16777216
          simpa using this
        · rw [← ixD_eq]; exact e
        · simp at hz; subst hz; exact rx.2.1 _ (ixD_mem e)
    | _ => exact hq.elim
  | tup xs =>
    cases y with
    | int i =>
      simp only at hq
      cases e : ixD xs i with
      | none => rw [e] at hq; exact hq.elim
      | some d =>
        rw [e] at hq
        rw [relD_tup] at rx
        obtain ⟨p, vs, rfl, hp, rs⟩ := rx
        rw [relD_int] at ry
        obtain ⟨v, e2, rd⟩ := ixD_rel rs e
        exact .inl (.inl (.inr (.inl ⟨p, vs, i, v, rfl, ry, hp, e2, post_ret hr hq rd⟩)))
    | _ => exact hq.elim
  | ref a =>
    simp only at hq
    rw [relD_ref] at rx
    obtain ⟨_, rfl⟩ := rx
    cases ea : h.get a with
    | none => rw [ea] at hq; exact hq.elim
    | some o =>
      rw [ea] at hq
      cases o with
      | lst xs =>
        cases y with
        | int i =>
          simp only at hq
          cases e : ixD xs i with
          | none => rw [e] at hq; exact hq.elim
          | some d =>
            rw [e] at hq
            obtain ⟨vs, h1, r1⟩ := hr.lst ea
            rw [relD_int] at ry
            obtain ⟨v, e2, rd⟩ := ixD_rel r1 e
            exact .inl (.inl (.inl ⟨_, vs, i, v, rfl, ry, .inl (.inl h1), e2, post_ret hr hq rd⟩))
        | _ => exact hq.elim
      | dic kvs =>
        simp only at hq
        by_cases hz : isKey y = true
        · rw [if_pos hz] at hq
          obtain ⟨k, hk, rfl⟩ := key_of hz ry
          obtain ⟨es, h1, r1, nd⟩ := hr.dk (.inl ea)
          have := look_ok hk r1
          revert this hq
          cases lookD kvs y with
          | some d =>
            rintro hq ⟨v, e, rd⟩
            refine .inl (.inr ⟨_, v, rfl, ?_, post_ret hr hq rd⟩)
            rw [← e]
            exact dgetR h1
          | none => intro hq; exact hq.elim
        · rw [if_neg hz] at hq; exact hq.elim
      | lck kvs =>
        simp only at hq
        by_cases hz : isKey y = true
        · rw [if_pos hz] at hq
          obtain ⟨k, hk, rfl⟩ := key_of hz ry
          obtain ⟨es, h1, r1, nd⟩ := hr.dk (.inr ea)
          have := look_ok hk r1
          revert this hq
          cases lookD kvs y with
          | some d =>
            rintro hq ⟨v, e, rd⟩
            refine .inl (.inr ⟨_, v, rfl, ?_, post_ret hr hq rd⟩)
            rw [← e]
            exact dgetR h1
          | none => intro hq; exact hq.elim
        · rw [if_neg hz] at hq; exact hq.elim
      | dix kvs =>
        simp only at hq
        by_cases hz : isTK y = true
        · rw [if_pos hz] at hq
          obtain ⟨b, rfl, n1, n2⟩ := tk_of hz ry
          obtain ⟨xs, h1, r1, nd⟩ := hr.dx (.inl ea)
          have := lookX_ok hz r1
          revert this hq
          cases lookXd kvs y with
          | some d =>
            rintro hq ⟨v, e, rd⟩
            exact .inr ⟨_, b, _, xs, v, rfl, rfl, ⟨.inl h1, xrel_keys r1⟩, n1, n2, e, post_ret hr hq rd⟩
          | none => intro hq; exact hq.elim
        · rw [if_neg hz] at hq; exact hq.elim
      | lcx kvs =>
        simp only at hq
        by_cases hz : isTK y = true
        · rw [if_pos hz] at hq
          obtain ⟨b, rfl, n1, n2⟩ := tk_of hz ry
          obtain ⟨xs, h1, r1, nd⟩ := hr.dx (.inr ea)
          have := lookX_ok hz r1
          revert this hq
          cases lookXd kvs y with
          | some d =>
            rintro hq ⟨v, e, rd⟩
            exact .inr ⟨_, b, _, xs, v, rfl, rfl, ⟨.inl h1, xrel_keys r1⟩, n1, n2, e, post_ret hr hq rd⟩
          | none => intro hq; exact hq.elim
        · rw [if_neg hz] at hq; exact hq.elim
      | _ => exact hq.elim
  | _ => exact hq.elim
theorem se_ix {a b : Expr} {pos : Pos} {ma mb : Env → M D} (hu : ∀ X, C X → X.A.units + 65 < cLine) (hpw : ∀ X, C X → X.prog = G.P ∧ X.w = G.w) (hs : PlainIx b) (ha : SE G K C a ma) (hb : SE G K C b mb) : SE G K C (.Subscript a b pos) (fun env => M.bind (ma env) fun x => M.bind (mb env) fun y => ixM x y) :=
  se_bin2 (fun X hX eK _ _ pa pb => by subst eK; rw [← (hpw X hX).1, ← (hpw X hX).2]; exact pe_ix (ix_all (hu X hX)) pa pb hs) sop_ix ha hb
end
end
end PV
set_option Elab.async false
set_option linter.all false
set_option maxRecDepth 100000
set_option maxHeartbeats 1000000
set_option autoImplicit false
namespace PV
noncomputable section
open PySem PySem.Spec PyProof.Rows L2
section
variable {G : Gs} {K : PySem.W.Frag} {C : Cx → Prop} {X : Cx}
/-! ### truth and tests -/
def truD (h : VH) : D → Option Bool
  | .non => some false
  | .bl b => some b
  | .int i => some (i != 0)
  | .str s => some (!s.isEmpty)
  | .tup xs => some (!xs.isEmpty)
  | .ref a => match h.get a with
    | some (.lst xs) => some (!xs.isEmpty)
    | some (.dic kvs) => some (!kvs.isEmpty)
    | _ => none
  | .kls _ => none
def truM (d : D) : M Bool := fun h => match truD h d with
  | some b => .ret (.ok b h)
  | none => .ret .bad
theorem relDs_emp {K : PySem.W.Frag} {ρ : Nat → Addr} {n : Nat} {H : Hp} {xs : List D} {vs : List V} (r : RelDs K ρ n H xs vs) : vs.isEmpty = xs.isEmpty := by
  have := relDs_len r
  cases xs <;> cases vs <;> simp_all
theorem tru_rel {K : PySem.W.Frag} {ρ : Nat → Addr} {h : VH} {H : Hp} (hr : HR G K ρ h H) {d : D} {v : V} {b : Bool} (r : RelD K ρ h.n H d v) (e : truD h d = some b) : TruV K v H b := by
  cases d with
  | kls ns => cases e
  | non => rw [relD_non] at r; subst r; cases e; rfl
  | bl b => rw [relD_bl] at r; subst r; cases e; rfl
  | int b => rw [relD_int] at r; subst r; cases e; rfl
  | str s =>
    rw [relD_str] at r
    obtain ⟨rfl, o⟩ := r
    cases e
    refine ⟨?_, ?_⟩
    · have := o.2
      show s.toArray.size ≤ 16777216
      simpa using this
    · show (!s.isEmpty) = ((s.toArray.size : Int) != 0)
      cases s with
      | nil => rfl
      | cons a t =>
        simp only [List.isEmpty_cons, Bool.not_false]
        symm
        rw [bne_iff_ne]
        simp
        omega
  | tup xs =>
    rw [relD_tup] at r
    obtain ⟨p, vs, rfl, hp, rs⟩ := r
    cases e
    exact .inr (.inl ⟨vs, hp, by rw [relDs_emp rs]⟩)
  | ref a =>
    rw [relD_ref] at r
    obtain ⟨_, rfl⟩ := r
    simp only [truD] at e
    cases ea : h.get a with
    | none => rw [ea] at e; cases e
    | some o =>
      rw [ea] at e
      cases o with
      | lst xs =>
        cases e
        obtain ⟨vs, h1, r1⟩ := hr.lst ea
        exact .inl ⟨vs, .inl (.inl h1), by rw [relDs_emp r1]⟩
      | dic kvs =>
        cases e
        obtain ⟨es, h1, r1, _⟩ := hr.dic ea
        refine .inr (.inr ⟨es, h1, ?_⟩)
        have := drel_len r1
        cases kvs <;> cases es <;> simp_all
      | _ => cases e
def plainT : Expr → Bool
  | .UnaryOp .Not _ _ => false
  | .BoolOp _ _ _ => false
  | .IfExp _ _ _ _ => false
  | .Compare _ _ _ _ => false
  | _ => true
theorem isTrue_of {e : Expr} {env : PySem.Env} (h : plainT e = true) : ∀ whole, isTrue e env whole = (do let v ← whole; standAt e.pos; holding [v] (truthy v)) := by
  intro whole
  cases e with
  | UnaryOp op a p => cases op <;> first | rfl | cases h
  | BoolOp op v p => cases h
  | IfExp a b c p => cases h
  | Compare a b c p => cases h
  | _ => rfl
theorem st_val {a : Expr} {m : Env → M D} (hp : plainT a = true) (ha : SE G K C a m) : STt G K C a (fun env => M.bind (m env) truM) := by
  obtain ⟨t, pt, ht⟩ := ha
  refine ⟨fun σ H Q => t σ H fun x H' => ∃ k, TruV K x H' k ∧ Q k H', fun X hX eK => by subst eK; exact pt_truth (pt X hX rfl) (isTrue_of hp), fun ρ env h σ H Q hr er hq => ?_⟩
  refine useE ht hr er hq (fun z => z) fun ρ1 h1 H1 d v l1 hr1 rd hq1 => ?_
  unfold truM at hq1
  cases e : truD h1 d with
  | none => rw [e] at hq1; exact hq1.elim
  | some b =>
    rw [e] at hq1
    exact ⟨b, tru_rel hr1 rd e, hq1 ρ1 H1 l1 hr1⟩
def asB (d : D) : M Bool := fun h => match d with
  | .bl b => .ret (.ok b h)
  | _ => .ret .bad
theorem st_cmp {a b : Expr} {op : CmpOp} {pos : Pos} {r : R2} {ma mb : Env → M D} {f : D → D → M D} (ho : ∀ X, C X → X.K = K → OpR X (compareOp op) r) (hm : behindInMarks op b = false) (hs : SOp G K r f) (ha : SE G K C a ma) (hb : SE G K C b mb) :
    STt G K C (.Compare a [op] [b] pos) (fun env => M.bind (ma env) fun x => M.bind (mb env) fun y => M.bind (f x y) asB) := by
  obtain ⟨ta, pa, ha⟩ := ha
  obtain ⟨tb, pb, hb⟩ := hb
  refine ⟨_, fun X hX eK => pt_cmpR (ho X hX eK) (pa X hX eK) (pb X hX eK) hm, fun ρ env h σ H Q hr er hq => ?_⟩
  refine useE ha hr er hq (fun z => z) fun ρ1 h1 H1 x vx l1 hr1 rx hq1 => ?_
  refine useE hb hr1 (er.mono l1) hq1 (fun z => z) fun ρ2 h2 H2 y vy l2 hr2 ry hq2 => ?_
  refine hs ρ2 h2 H2 x y vx vy _ hr2 (rx.mono l2) ry (P.all_mono (fun r z => ?_) (all_M hq2 (fun z => z)))
  cases r with
  | bad => exact z.elim
  | ok d h3 =>
    intro ρ3 H3 v l3 hr3 rd
    cases d with
    | bl k => rw [relD_bl] at rd; exact ⟨k, rd, z ρ3 H3 (l1.trans (l2.trans l3)) hr3⟩
    | _ => exact z.elim
/-- a test whatever its whole is -/
def SWt (G : Gs) (K : PySem.W.Frag) (C : Cx → Prop) (e : Expr) (m : Env → M Bool) : Prop :=
  ∃ t, (∀ X, C X → X.K = K → PW X e t) ∧ ∀ ρ env h σ H Q, HR G K ρ h H → ER K ρ h.n H env σ → (m env h).all (PostT G K ρ h.n H Q) → t σ H Q
theorem SWt.st {e : Expr} {m : Env → M Bool} (h : SWt G K C e m) : STt G K C e m := let ⟨t, p, q⟩ := h; ⟨t, fun X hX eK => (p X hX eK).pt, q⟩
theorem sw_one {op : BoolOp} {a : Expr} {pos : Pos} {m : Env → M Bool} (h : STt G K C a m) : SWt G K C (.BoolOp op [a] pos) m := by
  obtain ⟨t, p, q⟩ := h
  cases op with
  | And => exact ⟨t, fun X hX eK => pw_and1 (p X hX eK), q⟩
  | Or => exact ⟨t, fun X hX eK => pw_or1 (p X hX eK), q⟩
theorem sw_and {a b : Expr} {rest : List Expr} {pos : Pos} {ma mb : Env → M Bool} (ha : STt G K C a ma) (hb : SWt G K C (.BoolOp .And (b :: rest) pos) mb) :
    SWt G K C (.BoolOp .And (a :: b :: rest) pos) (fun env => M.bind (ma env) fun c => if c then mb env else M.pure false) := by
  obtain ⟨ta, pa, ha⟩ := ha
  obtain ⟨tb, pb, hb⟩ := hb
  refine ⟨_, fun X hX eK => pw_and (pa X hX eK) (pb X hX eK), fun ρ env h σ H Q hr er hq => ?_⟩
  refine useT ha hr er hq (fun z => z) fun ρ1 h1 H1 c l1 hr1 hq1 => ?_
  cases c with
  | true =>
    rw [if_pos rfl] at hq1 ⊢
    exact hb ρ1 env h1 σ H1 Q hr1 (er.mono l1) (P.all_mono (fun r z => by cases r with | bad => exact z | ok b h2 => exact fun ρ2 H2 l2 => z ρ2 H2 (l1.trans l2)) hq1)
  | false =>
    rw [if_neg Bool.false_ne_true] at hq1 ⊢
    exact hq1 ρ1 H1 l1 hr1
theorem sw_or {a b : Expr} {rest : List Expr} {pos : Pos} {ma mb : Env → M Bool} (ha : STt G K C a ma) (hb : SWt G K C (.BoolOp .Or (b :: rest) pos) mb) :
    SWt G K C (.BoolOp .Or (a :: b :: rest) pos) (fun env => M.bind (ma env) fun c => if c then M.pure true else mb env) := by
  obtain ⟨ta, pa, ha⟩ := ha
  obtain ⟨tb, pb, hb⟩ := hb
  refine ⟨_, fun X hX eK => pw_or (pa X hX eK) (pb X hX eK), fun ρ env h σ H Q hr er hq => ?_⟩
  refine useT ha hr er hq (fun z => z) fun ρ1 h1 H1 c l1 hr1 hq1 => ?_
  cases c with
  | true =>
    rw [if_pos rfl] at hq1 ⊢
    exact hq1 ρ1 H1 l1 hr1
  | false =>
    rw [if_neg Bool.false_ne_true] at hq1 ⊢
    exact hb ρ1 env h1 σ H1 Q hr1 (er.mono l1) (P.all_mono (fun r z => by cases r with | bad => exact z | ok b h2 => exact fun ρ2 H2 l2 => z ρ2 H2 (l1.trans l2)) hq1)
theorem st_not {a : Expr} {pos : Pos} {m : Env → M Bool} (ha : STt G K C a m) : STt G K C (.UnaryOp .Not a pos) (fun env => M.bind (m env) fun b => M.pure (!b)) := by
  obtain ⟨ta, pa, ha⟩ := ha
  refine ⟨_, fun X hX eK => pt_not (pa X hX eK), fun ρ env h σ H Q hr er hq => ?_⟩
  exact useT ha hr er hq (fun z => z) fun ρ1 h1 H1 c l1 hr1 hq1 => hq1 ρ1 H1 l1 hr1

/-! ### and, or, not as values -/
theorem se_one {op : BoolOp} {a : Expr} {pos : Pos} {m : Env → M D} (h : SE G K C a m) : SE G K C (.BoolOp op [a] pos) m := let ⟨t, p, q⟩ := h; ⟨t, fun X hX eK => pe_one (p X hX eK), q⟩
theorem se_and {a b : Expr} {rest : List Expr} {pos : Pos} {ma mb : Env → M D} (ha : SE G K C a ma) (hb : SE G K C (.BoolOp .And (b :: rest) pos) mb) :
    SE G K C (.BoolOp .And (a :: b :: rest) pos) (fun env => M.bind (ma env) fun x => M.bind (truM x) fun c => if c then mb env else M.pure x) := by
  obtain ⟨ta, pa, ha⟩ := ha
  obtain ⟨tb, pb, hb⟩ := hb
  refine ⟨tAndT K ta tb, fun X hX eK => by subst eK; exact pe_andT (pa X hX rfl) (pb X hX rfl), fun ρ env h σ H Q hr er hq => ?_⟩
  refine useE ha hr er hq (fun z => z) fun ρ1 h1 H1 x vx l1 hr1 rx hq1 => ?_
  have hq1 := all_M hq1 (fun z => z)
  unfold truM at hq1
  cases e : truD h1 x with
  | none => rw [e] at hq1; exact hq1.elim
  | some b =>
    rw [e] at hq1
    refine ⟨b, tru_rel hr1 rx e, ?_⟩
    have hq1 : ((if b then mb env else M.pure x) h1).all (PostE G K ρ h.n H Q) := hq1
    cases b with
    | true => rw [if_pos rfl] at hq1 ⊢; exact hb ρ1 env h1 σ H1 Q hr1 (er.mono l1) (P.all_mono (fun r z => z.mono l1) hq1)
    | false => rw [if_neg Bool.false_ne_true] at hq1 ⊢; exact hq1 ρ1 H1 vx l1 hr1 rx
theorem se_or {a b : Expr} {rest : List Expr} {pos : Pos} {ma mb : Env → M D} (ha : SE G K C a ma) (hb : SE G K C (.BoolOp .Or (b :: rest) pos) mb) :
    SE G K C (.BoolOp .Or (a :: b :: rest) pos) (fun env => M.bind (ma env) fun x => M.bind (truM x) fun c => if c then M.pure x else mb env) := by
  obtain ⟨ta, pa, ha⟩ := ha
  obtain ⟨tb, pb, hb⟩ := hb
  refine ⟨tOrT K ta tb, fun X hX eK => by subst eK; exact pe_orT (pa X hX rfl) (pb X hX rfl), fun ρ env h σ H Q hr er hq => ?_⟩
  refine useE ha hr er hq (fun z => z) fun ρ1 h1 H1 x vx l1 hr1 rx hq1 => ?_
  have hq1 := all_M hq1 (fun z => z)
  unfold truM at hq1
  cases e : truD h1 x with
  | none => rw [e] at hq1; exact hq1.elim
  | some b =>
    rw [e] at hq1
    refine ⟨b, tru_rel hr1 rx e, ?_⟩
    have hq1 : ((if b then M.pure x else mb env) h1).all (PostE G K ρ h.n H Q) := hq1
    cases b with
    | true => rw [if_pos rfl] at hq1 ⊢; exact hq1 ρ1 H1 vx l1 hr1 rx
    | false => rw [if_neg Bool.false_ne_true] at hq1 ⊢; exact hb ρ1 env h1 σ H1 Q hr1 (er.mono l1) (P.all_mono (fun r z => z.mono l1) hq1)
theorem se_not {a : Expr} {pos : Pos} {m : Env → M D} (ha : SE G K C a m) : SE G K C (.UnaryOp .Not a pos) (fun env => M.bind (m env) fun x => M.bind (truM x) fun b => M.pure (.bl (!b))) := by
  obtain ⟨ta, pa, ha⟩ := ha
  refine ⟨tNotT K ta, fun X hX eK => by subst eK; exact pe_notT (pa X hX rfl), fun ρ env h σ H Q hr er hq => ?_⟩
  refine useE ha hr er hq (fun z => z) fun ρ1 h1 H1 x vx l1 hr1 rx hq1 => ?_
  have hq1 := all_M hq1 (fun z => z)
  unfold truM at hq1
  cases e : truD h1 x with
  | none => rw [e] at hq1; exact hq1.elim
  | some b =>
    rw [e] at hq1
    exact ⟨b, tru_rel hr1 rx e, hq1 ρ1 H1 _ l1 hr1 (relD_bl.mpr rfl)⟩
theorem se_ifx {c a b : Expr} {pos : Pos} {mc : Env → M Bool} {ma mb : Env → M D} (hc : STt G K C c mc) (ha : SE G K C a ma) (hb : SE G K C b mb) :
    SE G K C (.IfExp c a b pos) (fun env => M.bind (mc env) fun c => if c then ma env else mb env) := by
  obtain ⟨tc, pc, hc⟩ := hc
  obtain ⟨ta, pa, ha⟩ := ha
  obtain ⟨tb, pb, hb⟩ := hb
  refine ⟨_, fun X hX eK => pe_ifExp (pc X hX eK) (pa X hX eK) (pb X hX eK), fun ρ env h σ H Q hr er hq => ?_⟩
  refine useT hc hr er hq (fun z => z) fun ρ1 h1 H1 c l1 hr1 hq1 => ?_
  cases c with
  | true => rw [if_pos rfl] at hq1 ⊢; exact ha ρ1 env h1 σ H1 Q hr1 (er.mono l1) (P.all_mono (fun r z => z.mono l1) hq1)
  | false => rw [if_neg Bool.false_ne_true] at hq1 ⊢; exact hb ρ1 env h1 σ H1 Q hr1 (er.mono l1) (P.all_mono (fun r z => z.mono l1) hq1)

/-! ### a < b < c -/
theorem chain_use {r r' : R2} {f f' : D → D → M D} {ta tb tc : TE} {ma mb mc : Env → M D} (hs : SOp G K r f) (hs' : SOp G K r' f')
    (ha : ∀ ρ env h σ H Q, HR G K ρ h H → ER K ρ h.n H env σ → (ma env h).all (PostE G K ρ h.n H Q) → ta σ H Q)
    (hb : ∀ ρ env h σ H Q, HR G K ρ h H → ER K ρ h.n H env σ → (mb env h).all (PostE G K ρ h.n H Q) → tb σ H Q)
    (hc : ∀ ρ env h σ H Q, HR G K ρ h H → ER K ρ h.n H env σ → (mc env h).all (PostE G K ρ h.n H Q) → tc σ H Q)
    {ρ : Nat → Addr} {env : Env} {h : VH} {σ : L2.St} {H : Hp} {Q : VK} (hr : HR G K ρ h H) (er : ER K ρ h.n H env σ)
    (hq : (M.bind (ma env) (fun x => M.bind (mb env) fun y => M.bind (f x y) fun z => M.bind (asB z) fun k => if k then M.bind (mc env) fun w => f' y w else M.pure (.bl false)) h).all (PostE G K ρ h.n H Q)) : tChain r r' ta tb tc σ H Q := by
  refine useE ha hr er hq (fun z => z) fun ρ1 h1 H1 x vx l1 hr1 rx hq1 => ?_
  refine useE hb hr1 (er.mono l1) hq1 (fun z => z) fun ρ2 h2 H2 y vy l2 hr2 ry hq2 => ?_
  refine hs ρ2 h2 H2 x y vx vy _ hr2 (rx.mono l2) ry (P.all_mono (fun r z => ?_) (all_M hq2 (fun z => z)))
  cases r with
  | bad => exact z.elim
  | ok d h3 =>
    intro ρ3 H3 v l3 hr3 rd
    cases d with
    | bl k =>
      rw [relD_bl] at rd
      refine ⟨k, rd, ?_⟩
      have z : ((if k then M.bind (mc env) (fun w => f' y w) else M.pure (.bl false)) h3).all (PostE G K ρ h.n H Q) := z
      have l13 := l1.trans (l2.trans l3)
      cases k with
      | true =>
        rw [if_pos rfl] at z ⊢
        refine useE hc hr3 (er.mono l13) z (fun z => z) fun ρ4 h4 H4 w vw l4 hr4 rw4 hq4 => ?_
        exact hs' ρ4 h4 H4 y w vy vw Q hr4 ((ry.mono l3).mono l4) rw4 (P.all_mono (fun r z => z.mono (l13.trans l4)) hq4)
      | false =>
        rw [if_neg Bool.false_ne_true] at z ⊢
        exact z ρ3 H3 _ l13 hr3 (relD_bl.mpr rfl)
    | _ => exact z.elim
theorem se_chain {a b c : Expr} {op op' : CmpOp} {pos : Pos} {r r' : R2} {f f' : D → D → M D} {ma mb mc : Env → M D} (ho : ∀ X, C X → X.K = K → OpR X (compareOp op) r) (ho' : ∀ X, C X → X.K = K → OpR X (compareOp op') r') (hm : lastMarks [op, op'] [b, c] = false) (hs : SOp G K r f) (hs' : SOp G K r' f')
    (ha : SE G K C a ma) (hb : SE G K C b mb) (hc : SE G K C c mc) : SE G K C (.Compare a [op, op'] [b, c] pos) (fun env => M.bind (ma env) fun x => M.bind (mb env) fun y => M.bind (f x y) fun z => M.bind (asB z) fun k => if k then M.bind (mc env) fun w => f' y w else M.pure (.bl false)) := by
  obtain ⟨ta, pa, ha⟩ := ha
  obtain ⟨tb, pb, hb⟩ := hb
  obtain ⟨tc, pc, hc⟩ := hc
  exact ⟨_, fun X hX eK => pe_chain (ho X hX eK) (ho' X hX eK) (pa X hX eK) (pb X hX eK) (pc X hX eK) hm, fun ρ env h σ H Q hr er hq => chain_use hs hs' ha hb hc hr er hq⟩
theorem st_chain {a b c : Expr} {op op' : CmpOp} {pos : Pos} {r r' : R2} {f f' : D → D → M D} {ma mb mc : Env → M D} (ho : ∀ X, C X → X.K = K → OpR X (compareOp op) r) (ho' : ∀ X, C X → X.K = K → OpR X (compareOp op') r') (hm : lastMarks [op, op'] [b, c] = false) (hs : SOp G K r f) (hs' : SOp G K r' f')
    (ha : SE G K C a ma) (hb : SE G K C b mb) (hc : SE G K C c mc) : STt G K C (.Compare a [op, op'] [b, c] pos) (fun env => M.bind (M.bind (ma env) fun x => M.bind (mb env) fun y => M.bind (f x y) fun z => M.bind (asB z) fun k => if k then M.bind (mc env) fun w => f' y w else M.pure (.bl false)) asB) := by
  obtain ⟨ta, pa, ha⟩ := ha
  obtain ⟨tb, pb, hb⟩ := hb
  obtain ⟨tc, pc, hc⟩ := hc
  refine ⟨_, fun X hX eK => pt_chain (ho X hX eK) (ho' X hX eK) (pa X hX eK) (pb X hX eK) (pc X hX eK) hm, fun ρ env h σ H Q hr er hq => ?_⟩
  refine chain_use hs hs' ha hb hc hr er (P.all_mono (fun r z => ?_) (all_M hq (fun z => z)))
  cases r with
  | bad => exact z.elim
  | ok d h3 =>
    intro ρ3 H3 v l3 hr3 rd
    cases d with
    | bl k => rw [relD_bl] at rd; exact ⟨k, rd, z ρ3 H3 l3 hr3⟩
    | _ => exact z.elim

/-! ### slices -/
def SPo (G : Gs) (K : PySem.W.Frag) (C : Cx → Prop) (e : Option Expr) (m : Env → M (Option Int)) : Prop :=
  ∃ t, (∀ X, C X → X.K = K → PO X e t) ∧ ∀ ρ env h σ H (Q : Option Int → Hp → Prop), HR G K ρ h H → ER K ρ h.n H env σ → (m env h).all (fun r => match r with | .ok i h' => ∀ ρ' H', Le K ρ h.n H ρ' h'.n H' → HR G K ρ' h' H' → Q i H' | .bad => False) → t σ H Q
theorem sp_none : SPo G K C none (fun _ => M.pure none) := ⟨_, fun X hX eK => po_none, fun ρ env h σ H Q hr er hq => hq ρ H Le.refl hr⟩
def asI (d : D) : M (Option Int) := fun h => match d with
  | .int i => .ret (.ok (some i) h)
  | _ => .ret .bad
theorem sp_some {e : Expr} {m : Env → M D} (he : SE G K C e m) : SPo G K C (some e) (fun env => M.bind (m env) asI) := by
  obtain ⟨t, p, q⟩ := he
  refine ⟨_, fun X hX eK => po_some (p X hX eK), fun ρ env h σ H Q hr er hq => ?_⟩
  refine useE q hr er hq (fun z => z) fun ρ1 h1 H1 x vx l1 hr1 rx hq1 => ?_
  cases x with
  | int i => rw [relD_int] at rx; exact ⟨i, rx, hq1 ρ1 H1 l1 hr1⟩
  | _ => exact hq1.elim
def cutD {α : Type} (xs : List α) (lo hi : Option Int) : List α := (xs.drop (HT.sIx xs.length 0 lo)).take (HT.sIx xs.length xs.length hi - HT.sIx xs.length 0 lo)
def slM (x : D) (lo hi : Option Int) : M D := fun h => match x with
  | .str s => .ret (.ok (.str (cutD s lo hi)) h)
  | .tup xs => .ret (.ok (.tup (cutD xs lo hi)) h)
  | .ref a => match h.get a with
    | some (.lst xs) => .ret (.ok (.ref h.n) (h.new (.lst (cutD xs lo hi))))
    | _ => .ret .bad
  | _ => .ret .bad
def rSlAll (K : PySem.W.Frag) : V → Option Int → Option Int → Hp → VK → Prop := fun x lo hi H Q => (rSlA K x lo hi H Q ∨ rSlL K x lo hi H Q) ∨ rSlS x lo hi H Q
theorem sl_allD : SlR X (rSlAll X.K) := SlR.or (SlR.or sl_tupA sl_list) sl_str
theorem cut_rel {K : PySem.W.Frag} {ρ : Nat → Addr} {n : Nat} {H : Hp} {xs : List D} {vs : List V} (r : RelDs K ρ n H xs vs) (lo hi : Option Int) : RelDs K ρ n H (cutD xs lo hi) (cutV vs lo hi) := by
  unfold cutD cutV
  rw [← relDs_len r]
  exact relDs_take _ (relDs_drop _ r)
theorem sl_ok {ρ : Nat → Addr} {h : VH} {H : Hp} {x : D} {vx : V} {lo hi : Option Int} {Q : VK} (hr : HR G K ρ h H) (rx : RelD K ρ h.n H x vx) (hq : (slM x lo hi h).all (PostE G K ρ h.n H Q)) : rSlAll K vx lo hi H Q := by
  unfold slM at hq
  cases x with
  | str s =>
    rw [relD_str] at rx
    obtain ⟨rfl, o⟩ := rx
    refine .inr ⟨_, rfl, ?_, ?_⟩
    · have := o.2
      show s.toArray.size ≤ 16777216
      simpa using this
    · refine post_ret (d := .str (cutD s lo hi)) hr hq (relD_str.mpr ⟨?_, fun c hc => o.1 c (List.mem_of_mem_drop (List.mem_of_mem_take hc)), ?_⟩)
      · have e : (⟨s.toArray⟩ : Str).length = s.length := by show s.toArray.size = s.length; simp
        unfold cutS cutD
        rw [e]
      · have := o.2
        unfold cutD
        rw [List.length_take, List.length_drop]
        omega
  | tup xs =>
    have rx0 := rx
    rw [relD_tup] at rx
    obtain ⟨p, vs, rfl, hp, rs⟩ := rx
    refine .inl (.inl ⟨p, vs, rfl, hp, fun e => ?_, fun _ => post_tup hr hq (cut_rel rs lo hi)⟩)
    have e2 : cutD xs lo hi = xs := by
      rw [← relDs_len rs] at e
      unfold cutD
      rw [e.1, e.2]
      simp
    simp only [e2] at hq
    exact post_ret hr hq rx0
  | ref a =>
    simp only at hq
    rw [relD_ref] at rx
    obtain ⟨_, rfl⟩ := rx
    cases ea : h.get a with
    | none => rw [ea] at hq; exact hq.elim
    | some ob =>
      rw [ea] at hq
      cases ob with
      | lst xs =>
        obtain ⟨vs, h1, r1⟩ := hr.lst ea
        exact .inl (.inr ⟨_, vs, rfl, .inl (.inl h1), post_lst hr hq (cut_rel r1 lo hi)⟩)
      | _ => exact hq.elim
  | _ => exact hq.elim
theorem se_slice {e : Expr} {lo hi : Option Expr} {p2 pos : Pos} {m : Env → M D} {ml mh : Env → M (Option Int)} (he : SE G K C e m) (hl : SPo G K C lo ml) (hh : SPo G K C hi mh) :
    SE G K C (.Subscript e (.Slice lo hi none p2) pos) (fun env => M.bind (m env) fun x => M.bind (ml env) fun l => M.bind (mh env) fun u => slM x l u) := by
  obtain ⟨t, pt, ht⟩ := he
  obtain ⟨tl, pl, hl⟩ := hl
  obtain ⟨th, ph, hh⟩ := hh
  refine ⟨tSl (rSlAll K) t tl th, fun X hX eK => by subst eK; exact pe_slice sl_allD (pt X hX rfl) (pl X hX rfl) (ph X hX rfl), fun ρ env h σ H Q hr er hq => ?_⟩
  refine useE ht hr er hq (fun z => z) fun ρ1 h1 H1 x vx l1 hr1 rx hq1 => ?_
  refine hl ρ1 env h1 σ H1 _ hr1 (er.mono l1) (P.all_mono (fun r z => ?_) (all_M hq1 (fun z => z)))
  cases r with
  | bad => exact z.elim
  | ok lo h2 =>
    intro ρ2 H2 l2 hr2
    refine hh ρ2 env h2 σ H2 _ hr2 (er.mono (l1.trans l2)) (P.all_mono (fun r z2 => ?_) (all_M z (fun z => z)))
    cases r with
    | bad => exact z2.elim
    | ok hi h3 =>
      intro ρ3 H3 l3 hr3
      exact sl_ok hr3 ((rx.mono l2).mono l3) (P.all_mono (fun r z => z.mono (l1.trans (l2.trans l3))) z2)
def negM (x : D) : M D := fun h => match x with
  | .int i => .ret (.ok (.int (-i)) h)
  | _ => .ret .bad
theorem se_neg {a : Expr} {pos : Pos} {m : Env → M D} (ha : SE G K C a m) : SE G K C (.UnaryOp .USub a pos) (fun env => M.bind (m env) negM) := by
  obtain ⟨t, pt, ht⟩ := ha
  refine ⟨_, fun X hX eK => pe_un un_neg (pt X hX eK), fun ρ env h σ H Q hr er hq => ?_⟩
  refine useE ht hr er hq (fun z => z) fun ρ1 h1 H1 x vx l1 hr1 rx hq1 => ?_
  cases x with
  | int i => rw [relD_int] at rx; exact ⟨i, rx, hq1 ρ1 H1 _ l1 hr1 (relD_int.mpr rfl)⟩
  | _ => exact hq1.elim
def revM (x : D) : M D := fun h => match x with
  | .ref a => match h.get a with
    | some (.lst xs) => .ret (.ok (.ref h.n) (h.new (.lst xs.reverse)))
    | _ => .ret .bad
  | _ => .ret .bad
theorem se_rev {e : Expr} {k : Nat} {p1 p2 p3 pos : Pos} {m : Env → M D} (he : SE G K C e m) : SE G K C (.Subscript e (.Slice none none (some (.UnaryOp .USub (.Constant (.int 1) k p1) p2)) p3) pos) (fun env => M.bind (m env) revM) := by
  obtain ⟨t, pt, ht⟩ := he
  refine ⟨tRevL K t, fun X hX eK => by subst eK; exact pe_revL (pt X hX rfl), fun ρ env h σ H Q hr er hq => ?_⟩
  refine useE ht hr er hq (fun z => z) fun ρ1 h1 H1 x vx l1 hr1 rx hq1 => ?_
  unfold revM at hq1
  cases x with
  | ref a =>
    simp only at hq1
    rw [relD_ref] at rx
    obtain ⟨_, rfl⟩ := rx
    cases ea : h1.get a with
    | none => rw [ea] at hq1; exact hq1.elim
    | some ob =>
      rw [ea] at hq1
      cases ob with
      | lst xs =>
        obtain ⟨vs, h2, r2⟩ := hr1.lst ea
        exact ⟨_, vs, rfl, .inl (.inl h2), post_lst hr1 (P.all_mono (fun r z => z.mono l1) hq1) (relDs_rev r2)⟩
      | _ => exact hq1.elim
  | _ => exact hq1.elim
end
end
end PV
set_option Elab.async false
set_option linter.all false
set_option maxRecDepth 100000
set_option maxHeartbeats 1000000
set_option autoImplicit false
namespace PV
noncomputable section
open PySem PySem.Spec PyProof.Rows L2
/-! ### statements -/
/-- how a statement ends -/
inductive F where
  | nx (env : Env)
  | rt (d : D)
  | bk (env : Env)
  | ct (env : Env)
def PostS (G : Gs) (K : PySem.W.Frag) (ρ : Nat → Addr) (n : Nat) (H : Hp) (Z : Ends) : R F → Prop
  | .ok (.nx env) h' => ∀ ρ' H' σ', Le K ρ n H ρ' h'.n H' → HR G K ρ' h' H' → ER K ρ' h'.n H' env σ' → Z.nx σ' H'
  | .ok (.bk env) h' => ∀ ρ' H' σ', Le K ρ n H ρ' h'.n H' → HR G K ρ' h' H' → ER K ρ' h'.n H' env σ' → Z.bk σ' H'
  | .ok (.ct env) h' => ∀ ρ' H' σ', Le K ρ n H ρ' h'.n H' → HR G K ρ' h' H' → ER K ρ' h'.n H' env σ' → Z.ct σ' H'
  | .ok (.rt d) h' => ∀ ρ' H' v, Le K ρ n H ρ' h'.n H' → HR G K ρ' h' H' → RelD K ρ' h'.n H' d v → Z.rt v H'
  | .bad => False
theorem PostS.mono {G : Gs} {K : PySem.W.Frag} {ρ ρ' : Nat → Addr} {n n' : Nat} {H H' : Hp} (l : Le K ρ n H ρ' n' H') {Z : Ends} {r : R F} (p : PostS G K ρ n H Z r) : PostS G K ρ' n' H' Z r := by
  cases r with
  | bad => exact p
  | ok f h' => cases f <;> exact fun ρ2 H2 v l2 => p ρ2 H2 v (l.trans l2)
def SS (G : Gs) (K : PySem.W.Frag) (C : Cx → Prop) (st : Stmt) (m : Env → M F) : Prop :=
  ∃ t, (∀ X, C X → X.K = K → PS X st t) ∧ ∀ ρ env h σ H Z, HR G K ρ h H → ER K ρ h.n H env σ → (m env h).all (PostS G K ρ h.n H Z) → t Z σ H
def SSs (G : Gs) (K : PySem.W.Frag) (C : Cx → Prop) (sts : List Stmt) (m : Env → M F) : Prop :=
  ∃ t, (∀ X, C X → X.K = K → PSs X sts t) ∧ ∀ ρ env h σ H Z, HR G K ρ h H → ER K ρ h.n H env σ → (m env h).all (PostS G K ρ h.n H Z) → t Z σ H
/-- an assignment's target -/
def SBut (vs : List Nat) (σ σ' : L2.St) : Prop := σ'.length = σ.length ∧ ∀ i, i ∉ vs → σ'[i]? = σ[i]?
def PostG (G : Gs) (K : PySem.W.Frag) (ρ : Nat → Addr) (n : Nat) (H : Hp) (vs : List Nat) (σ : L2.St) (Q : L2.St → Hp → Prop) : R Env → Prop
  | .ok env h' => ∀ ρ' H' σ', Le K ρ n H ρ' h'.n H' → HR G K ρ' h' H' → ER K ρ' h'.n H' env σ' → SBut vs σ σ' → Q σ' H'
  | .bad => False
theorem SBut.refl {vs : List Nat} {σ : L2.St} : SBut vs σ σ := ⟨rfl, fun _ _ => rfl⟩
theorem SBut.trans {vs us : List Nat} {σ σ1 σ2 : L2.St} (a : SBut vs σ σ1) (b : SBut us σ1 σ2) : SBut (vs ++ us) σ σ2 :=
  ⟨b.1.trans a.1, fun i hi => (b.2 i fun z => hi (List.mem_append_right _ z)).trans (a.2 i fun z => hi (List.mem_append_left _ z))⟩
def SG (G : Gs) (K : PySem.W.Frag) (C : Cx → Prop) (tg : Expr) (ws : List Nat) (g : Env → D → M Env) : Prop :=
  ∃ t, (∀ X, C X → X.K = K → PG X tg t) ∧ ∀ ρ env h σ H d v Q, HR G K ρ h H → ER K ρ h.n H env σ → RelD K ρ h.n H d v → (g env d h).all (PostG G K ρ h.n H ws σ Q) → t v σ H Q
def SGs (G : Gs) (K : PySem.W.Frag) (C : Cx → Prop) (tgs : List Expr) (ws : List Nat) (g : Env → List D → M Env) : Prop :=
  ∃ t, (∀ X, C X → X.K = K → PGs X tgs t) ∧ ∀ ρ env h σ H ds vs Q, HR G K ρ h H → ER K ρ h.n H env σ → RelDs K ρ h.n H ds vs → (g env ds h).all (PostG G K ρ h.n H ws σ Q) → t vs σ H Q
section
variable {G : Gs} {K : PySem.W.Frag} {C : Cx → Prop} {X : Cx}
theorem PostG.mono {K : PySem.W.Frag} {ρ ρ' : Nat → Addr} {n n' : Nat} {H H' : Hp} (l : Le K ρ n H ρ' n' H') {ws : List Nat} {σ : L2.St} {Q : L2.St → Hp → Prop} {r : R Env} (p : PostG G K ρ n H ws σ Q r) : PostG G K ρ' n' H' ws σ Q r := by
  cases r with
  | bad => exact p
  | ok f h' => exact fun ρ2 H2 v l2 => p ρ2 H2 v (l.trans l2)
theorem er_set {K : PySem.W.Frag} {ρ : Nat → Addr} {n : Nat} {H : Hp} {env : Env} {σ : L2.St} {d : D} {v : V} (i : Nat) (e : ER K ρ n H env σ) (r : RelD K ρ n H d v) : ER K ρ n H (env.set i (some d)) (σ.set i (some v)) := by
  refine ⟨by rw [List.length_set, List.length_set]; exact e.1, fun j c hj => ?_⟩
  by_cases hij : i = j
  · subst hij
    have hlt : i < env.length := by
      have := (List.getElem?_eq_some_iff.mp hj).1
      rw [List.length_set] at this
      exact this
    rw [List.getElem?_set_self hlt] at hj
    cases hj
    exact ⟨v, List.getElem?_set_self (by rw [← e.1]; exact hlt), r⟩
  · rw [List.getElem?_set_ne hij] at hj
    obtain ⟨u, a, b⟩ := e.2 j c hj
    exact ⟨u, by rw [List.getElem?_set_ne hij]; exact a, b⟩
theorem sg_name {i : Nat} {x : Str} {pos : Pos} (hN : ∀ X, C X → X.N.Nodup) (hi : ∀ X, C X → X.N[i]? = some x) (hx : ∀ X, C X → Loc X.env.scope x) (hf : ∀ X, C X → X.fn x = true ∨ X.env.scope.names.lookup x = some .local) :
    SG G K C (.Name x pos) [i] (fun env d => M.pure (env.set i (some d))) :=
  ⟨_, fun X hX eK => pg_name (hN X hX) (hi X hX) (hx X hX) (hf X hX), fun ρ env h σ H d v Q hr er rd hq => hq ρ H _ Le.refl hr (er_set i er rd) ⟨by rw [List.length_set], fun j hj => List.getElem?_set_ne (fun z => hj (by simp [z]))⟩⟩
theorem sgs_nil : SGs G K C [] [] (fun env ds => match ds with | [] => M.pure env | _ => M.bad) := by
  refine ⟨_, fun X hX eK => pgs_nil, fun ρ env h σ H ds vs Q hr er rd hq => ?_⟩
  cases ds with
  | nil => rw [relDs_nil] at rd; exact ⟨rd, hq ρ H σ Le.refl hr er SBut.refl⟩
  | cons => exact hq.elim
def isStar : Expr → Bool
  | .Starred _ _ => true
  | _ => false
theorem assignEach_no {e : Expr} {es : List Expr} {env : PySem.Env} (h : isStar e = false) : assignEach (e :: es) env = (false, assign e env) :: assignEach es env := by
  cases e <;> first | rfl | cases h
theorem starEach_no {e : Expr} {es : List Expr} {env : PySem.Env} (h : isStar e = false) : starEach (e :: es) env = (false, eval e env) :: starEach es env := by
  cases e <;> first | rfl | cases h
theorem sgs_cons {e : Expr} {es : List Expr} {ws us : List Nat} {g : Env → D → M Env} {gs : Env → List D → M Env} (hs : isStar e = false) (h1 : SG G K C e ws g) (h2 : SGs G K C es us gs) :
    SGs G K C (e :: es) (ws ++ us) (fun env ds => match ds with | [] => M.bad | d :: r => M.bind (g env d) fun env' => gs env' r) := by
  obtain ⟨t, p, q⟩ := h1
  obtain ⟨u, pu, qu⟩ := h2
  refine ⟨_, fun X hX eK => pgs_cons (p X hX eK) (pu X hX eK) (by rw [assignEach_no hs]; rfl), fun ρ env h σ H ds vs Q hr er rd hq => ?_⟩
  cases ds with
  | nil => exact hq.elim
  | cons d r =>
    rw [relDs_cons] at rd
    obtain ⟨v, vr, rfl, rd1, rd2⟩ := rd
    refine ⟨v, vr, rfl, q ρ env h σ H d v _ hr er rd1 (P.all_mono (fun r2 z => ?_) (all_M hq (fun z => z)))⟩
    cases r2 with
    | bad => exact z.elim
    | ok env2 h2 =>
      intro ρ2 H2 σ2 l2 hr2 er2 sb2
      refine qu ρ2 env2 h2 σ2 H2 r vr Q hr2 er2 (rd2.mono l2) (P.all_mono (fun r z => ?_) z)
      cases r with
      | bad => exact z.elim
      | ok env3 h3 => exact fun ρ3 H3 σ3 l3 hr3 er3 sb3 => z ρ3 H3 σ3 (l2.trans l3) hr3 er3 (sb2.trans sb3)
def gTupD (n : Nat) (gs : Env → List D → M Env) (env : Env) (d : D) : M Env := fun h => match d with
  | .tup xs => if xs.length = n then gs env xs h else .ret .bad
  | _ => .ret .bad
theorem assignEach_all : ∀ {es : List Expr} {env : PySem.Env}, (es.all fun e => !isStar e) = true → (assignEach es env).length = es.length ∧ (assignEach es env).findIdx? (·.1) = none
  | [], env, _ => ⟨rfl, rfl⟩
  | e :: es, env, h => by
    rw [List.all_cons, Bool.and_eq_true, Bool.not_eq_true'] at h
    obtain ⟨a, b⟩ := assignEach_all (env := env) h.2
    rw [assignEach_no h.1]
    refine ⟨by simp [a], ?_⟩
    rw [List.findIdx?_cons]
    simp [b]
theorem sg_tup {es : List Expr} {ws : List Nat} {k : Nat} {pos : Pos} {gs : Env → List D → M Env} (hc : ∀ X, C X → X.calm = true) (hs : (es.all fun e => !isStar e) = true) (h : SGs G K C es ws gs) : SG G K C (.Tuple es k pos) ws (gTupD es.length gs) := by
  obtain ⟨t, p, q⟩ := h
  refine ⟨gTup K es.length t, fun X hX eK => by subst eK; exact pg_tup (hc X hX) (p X hX rfl) (assignEach_all (env := X.env) hs).1 (assignEach_all (env := X.env) hs).2, fun ρ env h σ H d v Q hr er rd hq => ?_⟩
  unfold gTupD at hq
  cases d with
  | tup xs =>
    rw [relD_tup] at rd
    obtain ⟨a, vs, rfl, hp, rs⟩ := rd
    simp only at hq
    by_cases hl : xs.length = es.length
    · rw [if_pos hl] at hq
      exact ⟨a, vs, rfl, hp, by rw [← relDs_len rs]; exact hl, q ρ env h σ H xs vs Q hr er rs hq⟩
    · rw [if_neg hl] at hq; exact hq.elim
  | _ => exact hq.elim
def isSl : Expr → Bool
  | .Slice _ _ _ _ => true
  | _ => false
def SSet (G : Gs) (K : PySem.W.Frag) (r : TSet) (f : D → D → D → M Unit) : Prop := ∀ ρ h H x y d vx vy v (Q : Hp → Prop), HR G K ρ h H → RelD K ρ h.n H x vx → RelD K ρ h.n H y vy → RelD K ρ h.n H d v →
  (f x y d h).all (fun r => match r with | .ok _ h' => ∀ ρ' H', Le K ρ h.n H ρ' h'.n H' → HR G K ρ' h' H' → Q H' | .bad => False) → r vx vy v H Q
theorem sg_sub {o i : Expr} {pos : Pos} {r : TSet} {f : D → D → D → M Unit} {mo mi : Env → M D} (hsl : isSl i = false) (hp : ∀ X, C X → X.K = K → PSet X r) (hs : SSet G K r f) (ho : SE G K C o mo) (hi : SE G K C i mi) :
    SG G K C (.Subscript o i pos) [] (fun env d => M.bind (mo env) fun x => M.bind (mi env) fun y => M.bind (f x y d) fun _ => M.pure env) := by
  obtain ⟨t, pt, q⟩ := ho
  obtain ⟨u, pu, qu⟩ := hi
  refine ⟨_, fun X hX eK => pg_sub (pt X hX eK) (pu X hX eK) (hp X hX eK) (fun v => by cases i <;> first | rfl | cases hsl), fun ρ env h σ H d v Q hr er rd hq => ?_⟩
  refine useE q hr er hq (fun z => z) fun ρ1 h1 H1 x vx l1 hr1 rx hq1 => ?_
  refine useE qu hr1 (er.mono l1) hq1 (fun z => z) fun ρ2 h2 H2 y vy l2 hr2 ry hq2 => ?_
  refine hs ρ2 h2 H2 x y d vx vy v _ hr2 (rx.mono l2) ry (rd.mono (l1.trans l2)) (P.all_mono (fun r z => ?_) (all_M hq2 (fun z => z)))
  cases r with
  | bad => exact z.elim
  | ok _ h3 => exact fun ρ3 H3 l3 hr3 => z ρ3 H3 σ ((l1.trans l2).trans l3) hr3 (er.mono ((l1.trans l2).trans l3)) SBut.refl
def setM (x y d : D) : M Unit := fun h => match x with
  | .ref a => match h.get a with
    | some (.lst xs) => match y with
      | .int i => if 0 ≤ i ∧ i.toNat < xs.length then .ret (.ok () (h.set a (.lst (xs.set i.toNat d)))) else .ret .bad
      | _ => .ret .bad
    | some (.dic kvs) => if isKey y ∧ kvs.length < 16777216 then .ret (.ok () (h.set a (.dic (putD kvs y d)))) else if kvs.isEmpty && isTK y then .ret (.ok () (h.set a (.dix [(y, d)]))) else .ret .bad
    | some (.dix kvs) => if isTK y ∧ kvs.length < 16777216 then .ret (.ok () (h.set a (.dix (putXd kvs y d)))) else .ret .bad
    | _ => .ret .bad
  | _ => .ret .bad
def rSetA (P : Program) (w : World) (K : PySem.W.Frag) : TSet := fun o i v H Q => rSetL o i v H Q ∨ (∃ a H', o = .ref a ∧ DPut H a i v H' ∧ Q H') ∨ ∃ a b k xs, o = .ref a ∧ i = .ref b ∧ XD P w K H a xs ∧ NKv K H k (.ref b) ∧ k.depth ≤ 8 ∧ xs.length ≤ sizeLine ∧ Mut (H a) ∧ Q (upd H a (xdO P w a (putX xs k b v)))
theorem set_all (hu : X.A.units + 65 < cLine) : PSet X (rSetA X.prog X.w X.K) := fun pins s σ H o i v ov iv u Q I ro ri rv q => by
  rcases q with q | ⟨a, H', rfl, g, q⟩ | ⟨a, b, k, xs, rfl, rfl, g, hb, hk, hl, hmu, q⟩
  · exact set_list pins s σ H o i v ov iv u Q I ro ri rv q
  · obtain rfl : ov = Value.ref a := ro
    exact d_setItem (by omega) I g ri rv fun s2 I2 => ⟨H', I2, q⟩
  · obtain rfl : ov = Value.ref a := ro
    obtain rfl : iv = Value.ref b := ri
    exact x_setItem hu I g hb hk hl hmu rv fun s2 I2 => ⟨_, I2, q⟩
theorem ss_set : SSet G K (rSetA G.P G.w K) setM := by
  intro ρ h H x y d vx vy v Q hr rx ry rd hq
  unfold setM at hq
  cases x with
  | ref a =>
    simp only at hq
    rw [relD_ref] at rx
    obtain ⟨ha, rfl⟩ := rx
    cases ea : h.get a with
    | none => rw [ea] at hq; exact hq.elim
    | some ob =>
      rw [ea] at hq
      cases ob with
      | lst xs =>
        cases y with
        | int i =>
          simp only at hq
          obtain ⟨us, h1, r1⟩ := hr.lst ea
          by_cases hz : 0 ≤ i ∧ i.toNat < xs.length
          · rw [if_pos hz] at hq
            rw [relD_int] at ry
            have l : Le K ρ h.n H ρ h.n (upd H (ρ a) (.lst (us.set i.toNat v))) := Le.chg ha h1 trivial
            refine .inl ⟨_, us, i, i.toNat, rfl, ry, h1, ?_, hq ρ _ l (hr.chg ha h1 trivial ⟨_, upd_same, (relDs_set rd _ r1).mono l⟩)⟩
            rw [← relDs_len r1]
            unfold ixN
            rw [if_pos hz.1, if_pos (by omega)]
          · rw [if_neg hz] at hq; exact hq.elim
        | _ => exact hq.elim
      | dic kvs =>
        simp only at hq
        by_cases hz : isKey y ∧ kvs.length < 16777216
        · rw [if_pos hz] at hq
          obtain ⟨k, hk, rfl⟩ := key_of hz.1 ry
          obtain ⟨es, h1, r1, nd⟩ := hr.dic ea
          obtain ⟨p1, p2, _⟩ := put_ok hk rd r1 nd
          have l : Le K ρ h.n H ρ h.n (upd H (ρ a) (.dK (putK es k v))) := Le.chg ha h1 trivial
          exact .inr (.inl ⟨_, _, rfl, DPut.k h1 (by rw [← drel_len r1]; exact hz.2), hq ρ _ l (hr.chg ha h1 trivial ⟨_, upd_same, p1.mono l, p2⟩)⟩)
        · rw [if_neg hz] at hq
          by_cases hy : (kvs.isEmpty && isTK y) = true
          · rw [if_pos hy] at hq
            rw [Bool.and_eq_true] at hy
            obtain ⟨b, rfl, n1, n2⟩ := tk_of hy.2 ry
            obtain ⟨es, h1, r1, nd⟩ := hr.dic ea
            cases kvs with
            | cons => cases hy.1
            | nil =>
              cases (show es = [] from r1)
              have l : Le K ρ h.n H ρ h.n (upd H (ρ a) (xdO G.P G.w (ρ a) (putX [] (nkD y) b v))) := Le.chg ha h1 trivial
              obtain ⟨p1, p2, _⟩ := putX_ok (kvs := []) (xs := []) hy.2 ry rd rfl List.nodup_nil
              exact .inr (.inr ⟨_, b, _, [], rfl, rfl, ⟨.inr ⟨rfl, .inl h1⟩, fun x hx => by cases hx⟩, n1, n2, Nat.zero_le _, by rw [h1]; exact True.intro, hq ρ _ l (hr.chg ha h1 trivial ⟨_, upd_same, p1.mono l, p2⟩)⟩)
          · rw [if_neg hy] at hq; exact hq.elim
      | dix kvs =>
        simp only at hq
        by_cases hz : isTK y ∧ kvs.length < 16777216
        · rw [if_pos hz] at hq
          obtain ⟨b, rfl, n1, n2⟩ := tk_of hz.1 ry
          obtain ⟨xs, h1, r1, nd⟩ := hr.at ea
          obtain ⟨p1, p2, _⟩ := putX_ok hz.1 ry rd r1 nd
          have l : Le K ρ h.n H ρ h.n (upd H (ρ a) (xdO G.P G.w (ρ a) (putX xs (nkD y) b v))) := Le.chg ha h1 trivial
          exact .inr (.inr ⟨_, b, _, xs, rfl, rfl, ⟨.inl (.inl h1), xrel_keys r1⟩, n1, n2, by rw [← xrel_len r1]; exact Nat.le_of_lt hz.2, by rw [h1]; exact True.intro, hq ρ _ l (hr.chg ha h1 trivial ⟨_, upd_same, p1.mono l, p2⟩)⟩)
        · rw [if_neg hz] at hq; exact hq.elim
      | _ => exact hq.elim
  | _ => exact hq.elim
theorem sss_nil : SSs G K C [] (fun env => M.pure (.nx env)) := ⟨_, fun X hX eK => pss_nil, fun ρ env h σ H Z hr er hq => hq ρ H σ Le.refl hr er⟩
/-- one statement behind another -/
def seqF (m : Env → M F) (f : F) : M F := match f with
  | .nx env => m env
  | f => M.pure f
theorem sss_cons {st : Stmt} {sts : List Stmt} {m ms : Env → M F} (h1 : SS G K C st m) (h2 : SSs G K C sts ms) : SSs G K C (st :: sts) (fun env => M.bind (m env) (seqF ms)) := by
  obtain ⟨t, p, q⟩ := h1
  obtain ⟨u, pu, qu⟩ := h2
  refine ⟨_, fun X hX eK => pss_cons (p X hX eK) (pu X hX eK), fun ρ env h σ H Z hr er hq => ?_⟩
  refine q ρ env h σ H _ hr er (P.all_mono (fun r z => ?_) (all_M hq (fun z => z)))
  cases r with
  | bad => exact z.elim
  | ok f h1 =>
    cases f with
    | nx env1 => exact fun ρ1 H1 σ1 l1 hr1 er1 => qu ρ1 env1 h1 σ1 H1 Z hr1 er1 (P.all_mono (fun r z => z.mono l1) z)
    | rt d => exact z
    | bk e => exact z
    | ct e => exact z
def isComp : Expr → Bool
  | .ListComp _ _ _ _ => true
  | .SetComp _ _ _ _ => true
  | .DictComp _ _ _ _ _ => true
  | _ => false
theorem swaps_no {e : Expr} {tg : Option Expr} {l : Nat} {env : PySem.Env} (h : isComp e = false) : swapsWith e tg l env = pure false := by
  cases e <;> first | rfl | cases h
theorem ss_expr {e : Expr} {pos : Pos} {m : Env → M D} (hc : isComp e = false) (he : SE G K C e m) : SS G K C (.Expr e pos) (fun env => M.bind (m env) fun _ => M.pure (.nx env)) := by
  obtain ⟨t, p, q⟩ := he
  refine ⟨_, fun X hX eK => ps_expr (p X hX eK) (swaps_no hc), fun ρ env h σ H Z hr er hq => ?_⟩
  exact useE q hr er hq (fun z => z) fun ρ1 h1 H1 d v l1 hr1 rd hq1 => hq1 ρ1 H1 σ l1 hr1 (er.mono l1)
theorem ss_ret {e : Expr} {pos : Pos} {m : Env → M D} (he : SE G K C e m) : SS G K C (.Return (some e) pos) (fun env => M.bind (m env) fun d => M.pure (.rt d)) := by
  obtain ⟨t, p, q⟩ := he
  refine ⟨_, fun X hX eK => ps_ret (p X hX eK), fun ρ env h σ H Z hr er hq => ?_⟩
  exact useE q hr er hq (fun z => z) fun ρ1 h1 H1 d v l1 hr1 rd hq1 => hq1 ρ1 H1 v l1 hr1 rd
theorem ss_retN {pos : Pos} : SS G K C (.Return none pos) (fun env => M.pure (.rt .non)) := ⟨_, fun X hX eK => ps_retN, fun ρ env h σ H Z hr er hq => hq ρ H _ Le.refl hr (relD_non.mpr rfl)⟩
theorem ss_pass {pos : Pos} : SS G K C (.Pass pos) (fun env => M.pure (.nx env)) := ⟨_, fun X hX eK => ps_pass, fun ρ env h σ H Z hr er hq => hq ρ H σ Le.refl hr er⟩
theorem ss_never {st : Stmt} : SS G K C st (fun env => M.bad) := ⟨_, fun X hX eK => ps_never, fun ρ env h σ H Z hr er hq => hq.elim⟩
theorem se_never {e : Expr} : SE G K C e (fun env => M.bad) := ⟨fun _ _ _ => False, fun X hX eK => ⟨fun _ _ _ _ _ _ h => h.elim⟩, fun ρ env h σ H Z hr er hq => hq.elim⟩
theorem ss_if {c : Expr} {a b : List Stmt} {pos : Pos} {mc : Env → M Bool} {ma mb : Env → M F} (hc : STt G K C c mc) (ha : SSs G K C a ma) (hb : SSs G K C b mb) : SS G K C (.If c a b pos) (fun env => M.bind (mc env) fun k => if k then ma env else mb env) := by
  obtain ⟨tc, pc, hc⟩ := hc
  obtain ⟨ta, pa, ha⟩ := ha
  obtain ⟨tb, pb, hb⟩ := hb
  refine ⟨_, fun X hX eK => ps_if (pc X hX eK) (pa X hX eK) (pb X hX eK), fun ρ env h σ H Z hr er hq => ?_⟩
  refine useT hc hr er hq (fun z => z) fun ρ1 h1 H1 c l1 hr1 hq1 => ?_
  cases c with
  | true => rw [if_pos rfl] at hq1 ⊢; exact ha ρ1 env h1 σ H1 Z hr1 (er.mono l1) (P.all_mono (fun r z => z.mono l1) hq1)
  | false => rw [if_neg Bool.false_ne_true] at hq1 ⊢; exact hb ρ1 env h1 σ H1 Z hr1 (er.mono l1) (P.all_mono (fun r z => z.mono l1) hq1)
theorem ss_asg {tg e : Expr} {ws : List Nat} {pos : Pos} {m : Env → M D} {g : Env → D → M Env} (hs : ∀ X, C X → swapsWithSole [tg] e pos.line X.env = pure false) (hw : ∀ X, C X → swappedStores [tg] e X.env = pure none) (hst : isStar tg = false) (he : SE G K C e m) (hg : SG G K C tg ws g) :
    SS G K C (.Assign [tg] e pos) (fun env => M.bind (m env) fun d => M.bind (g env d) fun env' => M.pure (.nx env')) := by
  obtain ⟨t, p, q⟩ := he
  obtain ⟨u, pu, qu⟩ := hg
  refine ⟨_, fun X hX eK => ps_asg (p X hX eK) (pu X hX eK) (hs X hX) (hw X hX) (by rw [assignEach_no hst]; rfl), fun ρ env h σ H Z hr er hq => ?_⟩
  refine useE q hr er hq (fun z => z) fun ρ1 h1 H1 d v l1 hr1 rd hq1 => ?_
  refine qu ρ1 env h1 σ H1 d v _ hr1 (er.mono l1) rd (P.all_mono (fun r2 z => ?_) (all_M hq1 (fun z => z)))
  cases r2 with
  | bad => exact z.elim
  | ok env2 h2 => exact fun ρ2 H2 σ2 l2 hr2 er2 _ => z ρ2 H2 σ2 (l1.trans l2) hr2 er2
theorem ss_par {i j : Nat} {x y : Str} {a b : Expr} {px py pt : Pos} {kt k2 : Nat} {pt2 pos : Pos} {ms : Env → M (List D)} (hc : ∀ X, C X → X.calm = true) (hN : ∀ X, C X → X.N.Nodup) (hi : ∀ X, C X → X.N[i]? = some x) (hj : ∀ X, C X → X.N[j]? = some y) (hij : i ≠ j)
    (hx : ∀ X, C X → X.env.scope.names.lookup x = some .local) (hy : ∀ X, C X → X.env.scope.names.lookup y = some .local) (ha : SA G K C [a, b] ms)
    (hw : ∀ X, C X → swappedStores [.Tuple [.Name x px, .Name y py] kt pt] (.Tuple [a, b] k2 pt2) X.env = pure (some [x, y])) :
    SS G K C (.Assign [.Tuple [.Name x px, .Name y py] kt pt] (.Tuple [a, b] k2 pt2) pos) (fun env => M.bind (ms env) fun ds => match ds with | [d, e] => M.pure (.nx ((env.set i (some d)).set j (some e))) | _ => M.bad) := by
  obtain ⟨t, p, q⟩ := ha
  refine ⟨_, fun X hX eK => ps_par (hc X hX) (hN X hX) (hi X hX) (hj X hX) hij (hx X hX) (hy X hX) (p X hX eK) (hw X hX) rfl, fun ρ env h σ H Z hr er hq => ?_⟩
  refine useA q hr er hq (fun z => z) fun ρ1 h1 H1 ds vs l1 hr1 rd hq1 => ?_
  match ds, rd, hq1 with
  | [d, e], rd, hq1 =>
    rw [relDs_two] at rd
    obtain ⟨v, u, rfl, r1, r2⟩ := rd
    exact ⟨v, u, rfl, hq1 ρ1 H1 _ l1 hr1 (er_set j (er_set i (er.mono l1) r1) r2)⟩
  | [], rd, hq1 => exact hq1.elim
  | [_], rd, hq1 => exact hq1.elim
  | _ :: _ :: _ :: _, rd, hq1 => exact hq1.elim

/-! ### loops -/
/-- what a loop walks: at each turn nothing more, or an item -/
structure Stp where
  go : Nat → VH → Option (Option D)
  lk : Option Nat
/-- what the walks need of a later state -/
structure Lw (K : PySem.W.Frag) (ρ : Nat → Addr) (n : Nat) (H : Hp) (ρ' : Nat → Addr) (n' : Nat) (H' : Hp) : Prop where
  z : Le0 K ρ n H ρ' n' H'
  lk : ∀ p o u, H p = some (.frz o u) → H' p = some (.frz o u)
theorem Le.w {K : PySem.W.Frag} {ρ ρ' : Nat → Addr} {n n' : Nat} {H H' : Hp} (l : Le K ρ n H ρ' n' H') : Lw K ρ n H ρ' n' H' := ⟨l.z, l.lk⟩
theorem Le0.refl {K : PySem.W.Frag} {ρ : Nat → Addr} {n : Nat} {H : Hp} : Le0 K ρ n H ρ n H := ⟨Nat.le_refl _, fun _ _ => rfl, fun _ _ h => h, fun _ _ _ h f => ⟨h, f⟩⟩
theorem Le0.trans {K : PySem.W.Frag} {ρ ρ1 ρ2 : Nat → Addr} {n n1 n2 : Nat} {H H1 H2 : Hp} (a : Le0 K ρ n H ρ1 n1 H1) (b : Le0 K ρ1 n1 H1 ρ2 n2 H2) : Le0 K ρ n H ρ2 n2 H2 :=
  ⟨Nat.le_trans a.le b.le, fun x hx => (b.ad x (Nat.lt_of_lt_of_le hx a.le)).trans (a.ad x hx), fun p vs h => b.tp p vs (a.tp p vs h), fun p o u h f => let ⟨x, y⟩ := a.fz p o u h f; b.fz p o u x y⟩
theorem Lw.trans {K : PySem.W.Frag} {ρ ρ1 ρ2 : Nat → Addr} {n n1 n2 : Nat} {H H1 H2 : Hp} (a : Lw K ρ n H ρ1 n1 H1) (b : Lw K ρ1 n1 H1 ρ2 n2 H2) : Lw K ρ n H ρ2 n2 H2 := ⟨a.z.trans b.z, fun p o u h => b.lk p o u (a.lk p o u h)⟩
def ItOk (G : Gs) (K : PySem.W.Frag) (ρ₀ : Nat → Addr) (n₀ : Nat) (H₀ : Hp) (J : It) (st : Stp) : Prop :=
  ∀ ρ h H i, Lw K ρ₀ n₀ H₀ ρ h.n H → HR G K ρ h H → match st.go i h with
    | none => True
    | some none => J.stop i H
    | some (some d) => J.go i H ∧ ∀ x H', J.yld i H x H' → ∃ ρ', Le K ρ h.n H ρ' h.n H' ∧ HR G K ρ' h H' ∧ RelD K ρ' h.n H' d x
/-- what is locked now was not locked before -/
def LkOk (ρ' : Nat → Addr) (n' : Nat) (H : Hp) (st : Stp) : Prop := ∀ a, st.lk = some a → a < n' ∧ ∀ o u, H (ρ' a) ≠ some (.frz o u)
def PostI (G : Gs) (K : PySem.W.Frag) (ρ : Nat → Addr) (n : Nat) (H : Hp) (R : It → Hp → Prop) : PV.R Stp → Prop
  | .ok st h' => ∀ ρ' H' J, Le K ρ n H ρ' h'.n H' → HR G K ρ' h' H' → ItOk G K ρ' h'.n H' J st → LkOk ρ' h'.n H st → R J H'
  | .bad => False
def SI (G : Gs) (K : PySem.W.Frag) (C : Cx → Prop) (tg it : Expr) (m : Env → M Stp) : Prop :=
  ∃ t, (∀ X, C X → X.K = K → PI X tg it t) ∧ ∀ ρ env h σ H (R : It → Hp → Prop), HR G K ρ h H → ER K ρ h.n H env σ → (m env h).all (PostI G K ρ h.n H R) → t σ H R
/-! locks -/
def unlk (l : Option Nat) : M Unit := fun h => match l with
  | none => .ret (.ok () h)
  | some a => match h.get a with
    | some (.lck kvs) => .ret (.ok () (h.set a (.dic kvs)))
    | some (.lcx kvs) => .ret (.ok () (h.set a (.dix kvs)))
    | _ => .ret .bad
/-- an ending, perhaps behind an unlocking -/
def EndU (H : Hp) (R : Hp → Prop) (H' : Hp) : Prop := R H' ∨ ∃ d od u, H' d = some (.frz od u) ∧ (∀ o v, H d ≠ some (.frz o v)) ∧ R (upd H' d u)
def tUnl (t : TS) : TS := fun D σ H => t ⟨fun σ' => EndU H (D.nx σ'), fun v => EndU H (D.rt v), fun σ' => EndU H (D.bk σ'), fun σ' => EndU H (D.ct σ')⟩ σ H
def tUnlE (t : TE) : TE := fun σ H Q => t σ H fun v => EndU H (Q v)
theorem end_inv {pins : List (Addr × Obj)} {σ σ' : L2.St} {H H' : Hp} {s s' : Shared} {R : Hp → Prop} (I : Inv X pins σ H s) (I' : Inv X pins σ' H' s') (q : EndU H R H') : ∃ H2, Inv X pins σ' H2 s' ∧ R H2 := by
  rcases q with q | ⟨d, od, u, e, hn, q⟩
  · exact ⟨H', I', q⟩
  · exact ⟨_, I'.unlock e (fun o v z => hn o v (I.base.frzs d o v z)), q⟩
theorem ps_unl {st : Stmt} {t : TS} (h : PS X st t) : PS X st (tUnl t) := by
  refine ⟨fun pins s σ H D I hw => thn (h.run pins s σ H _ I hw) fun f s1 q => ?_⟩
  cases f with
  | next => obtain ⟨σ', H', I2, q⟩ := q; obtain ⟨H2, I3, q⟩ := end_inv I I2 q; exact ⟨σ', H2, I3, q⟩
  | brk => obtain ⟨σ', H', I2, q⟩ := q; obtain ⟨H2, I3, q⟩ := end_inv I I2 q; exact ⟨σ', H2, I3, q⟩
  | cont => obtain ⟨σ', H', I2, q⟩ := q; obtain ⟨H2, I3, q⟩ := end_inv I I2 q; exact ⟨σ', H2, I3, q⟩
  | ret v => obtain ⟨x, σ', H', I2, r, q⟩ := q; obtain ⟨H2, I3, q⟩ := end_inv I I2 q; exact ⟨x, σ', H2, I3, r, q⟩
theorem pe_unl {e : Expr} {t : TE} (h : PE X e t) : PE X e (tUnlE t) := by
  refine ⟨fun pins s σ H Q I hw => thn (h.run pins s σ H _ I hw) fun v s1 ⟨x, H1, I1, r, q⟩ => ?_⟩
  obtain ⟨H2, I3, q⟩ := end_inv I I1 q
  exact ⟨x, H2, I3, r, q⟩
/-- the expression's object is locked behind it, if it is wished -/
def tLk (t : TE) : TE := fun σ H Q => t σ H fun x H1 => Q x H1 ∨ ∃ d u, x = .ref d ∧ H1 d = some u ∧ Mut (some u) ∧ ∀ od, Q x (upd H1 d (.frz od u))
theorem pe_lk {e : Expr} {t : TE} (h : PE X e t) : PE X e (tLk t) := by
  refine ⟨fun pins s σ H Q I hw => thn (h.run pins s σ H _ I hw) fun v s1 ⟨x, H1, I1, r, q⟩ => ?_⟩
  rcases q with q | ⟨d, u, rfl, hd, mu, q⟩
  · exact ⟨x, H1, I1, r, q⟩
  · obtain ⟨od, I2⟩ := I1.lock hd mu
    exact ⟨_, _, I2, r, q od⟩
theorem Le.unl {ρ ρ' : Nat → Addr} {n n' a : Nat} {H H' : Hp} {od : Obj} {u : HO} (l : Le K ρ n H ρ' n' H') (ha : a < n') (e : H' (ρ' a) = some (.frz od u)) (hu : Chg u) (hn : ∀ o v, H (ρ' a) ≠ some (.frz o v)) : Le K ρ n H ρ' n' (upd H' (ρ' a) u) :=
  ⟨l.le, l.ad, fun q vs h => by
    rcases l.tp q vs h with (z | ⟨ob, z⟩) | z
    · exact .inl (.inl (by rw [upd_ne (fun w => by rw [w, e] at z; cases z)]; exact z))
    · exact .inl (.inr ⟨ob, by rw [upd_ne (fun w => by rw [w, e] at z; cases z; exact hu)]; exact z⟩)
    · exact .inr z, fun q w hw f => by
      obtain ⟨x, y⟩ := l.fr q w hw f
      exact ⟨by rw [upd_ne (fun z => y a ha z.symm)]; exact x, y⟩, fun q o w hq => by
      rw [upd_ne (fun z => hn o w (by rw [← z]; exact hq))]
      exact l.lk q o w hq⟩
theorem Le0.unl {ρ : Nat → Addr} {n a : Nat} {H : Hp} {od : Obj} {u w : HO} (ha : a < n) (e : H (ρ a) = some (.frz od u)) (hu : Chg u) : Le0 K ρ n H ρ n (upd H (ρ a) w) :=
  ⟨Nat.le_refl _, fun _ _ => rfl, fun q vs h => by
    rcases h with (z | ⟨ob, z⟩) | z
    · exact .inl (.inl (by rw [upd_ne (fun w => by rw [w, e] at z; cases z)]; exact z))
    · exact .inl (.inr ⟨ob, by rw [upd_ne (fun w => by rw [w, e] at z; cases z; exact hu)]; exact z⟩)
    · exact .inr z, fun q o v hq f => ⟨by rw [upd_ne (fun z => f a ha z.symm)]; exact hq, f⟩⟩
theorem HR.unl {ρ : Nat → Addr} {h : VH} {H : Hp} (r : HR G K ρ h H) {a : Nat} {o : O} {od : Obj} {u w : HO} (ha : a < h.n) (e : H (ρ a) = some (.frz od u)) (hu : Chg u) (ho : ORel G K ρ h.n (upd H (ρ a) w) (ρ a) o) : HR G K ρ (h.set a o) (upd H (ρ a) w) := by
  refine ⟨r.inj, fun b hb => ?_⟩
  have hb : b < h.n := hb
  by_cases eb : b = a
  · exact ⟨o, by rw [VH.get_set ha, if_pos eb], by rw [eb]; exact ho⟩
  · obtain ⟨ob, e2, q⟩ := r.obj b hb
    refine ⟨ob, by rw [VH.get_set ha, if_neg eb]; exact e2, ?_⟩
    exact q.mono0 (Le0.unl ha e hu) (upd_ne (fun z => eb (r.inj b a hb ha z)))
/-- behind a loop: the unlocking -/
theorem unlk_ok {α : Type} {ρ₀ : Nat → Addr} {n₀ : Nat} {H₀ : Hp} {st : Stp} {ρ : Nat → Addr} {h : VH} {H : Hp} {f : M α} {p : PV.R α → Prop} (hl : LkOk ρ h.n H₀ st) (l : Le K ρ₀ n₀ H₀ ρ h.n H) (hr : HR G K ρ h H) (hq : (M.bind (unlk st.lk) (fun _ => f) h).all p) (hp : p .bad → False) {R : Hp → Prop}
    (k : ∀ h' H', h'.n = h.n → Le K ρ₀ n₀ H₀ ρ h'.n H' → Le0 K ρ h.n H ρ h'.n H' → HR G K ρ h' H' → (∀ q o, H q = some o → (∀ b, b < h.n → ρ b ≠ q) → H' q = some o) → (f h').all p → R H') : EndU H₀ R H := by
  obtain ⟨go, lk⟩ := st
  cases lk with
  | none => exact .inl (k h H rfl l ⟨Nat.le_refl _, fun _ _ => rfl, fun _ _ h => h, fun _ _ _ h f => ⟨h, f⟩⟩ hr (fun _ _ z _ => z) hq)
  | some a =>
    obtain ⟨ha, hn⟩ := hl a rfl
    have hq := all_M hq hp
    unfold unlk at hq
    simp only at hq
    cases ea : h.get a with
    | none => rw [ea] at hq; exact hq.elim
    | some o =>
      rw [ea] at hq
      cases o with
      | lck kvs =>
        obtain ⟨od, es, e, r1, nd⟩ := hr.at ea
        exact .inr ⟨_, od, _, e, hn, k (h.set a (.dic kvs)) _ rfl (l.unl ha e trivial hn) (Le0.unl ha e trivial) (hr.unl (o := .dic kvs) (w := .dK es) ha e trivial ⟨es, upd_same, r1.mono0 (Le0.unl ha e trivial), nd⟩) (fun q o z f => by rw [upd_ne (fun z => f a ha z.symm)]; exact z) hq⟩
      | lcx kvs =>
        obtain ⟨od, es, e, r1, nd⟩ := hr.at ea
        exact .inr ⟨_, od, _, e, hn, k (h.set a (.dix kvs)) _ rfl (l.unl ha e trivial hn) (Le0.unl ha e trivial) (hr.unl (o := .dix kvs) (w := xdO G.P G.w (ρ a) es) ha e trivial ⟨es, upd_same, r1.mono0 (Le0.unl ha e trivial), nd⟩) (fun q o z f => by rw [upd_ne (fun z => f a ha z.symm)]; exact z) hq⟩
      | _ => exact hq.elim
def turnF (go : Env → M F) (f : F) : M F := match f with
  | .nx e => go e
  | .ct e => go e
  | .bk e => M.pure (.nx e)
  | .rt d => M.pure (.rt d)
def loopF (st : Stp) (g : Env → D → M Env) (body : Env → M F) : Nat → Nat → Env → M F
  | 0, _, _ => M.bad
  | f + 1, i, env => fun h => match st.go i h with
    | none => .ret .bad
    | some none => .ret (.ok (.nx env) h)
    | some (some d) => M.bind (g env d) (fun e2 => M.bind (body e2) (turnF (loopF st g body f (i + 1)))) h
/-- turns that a loop may have at most -/
def turns : Nat := 1000000
/-- a loop, and the unlocking -/
def forM (st : Stp) (g : Env → D → M Env) (body : Env → M F) (env : Env) : M F := M.bind (loopF st g body turns 0 env) fun f => M.bind (unlk st.lk) fun _ => M.pure f
theorem ER.mono0 {ρ ρ' : Nat → Addr} {n n' : Nat} {H H' : Hp} {env : List (Option D)} {σ : L2.St} (l : Le0 K ρ n H ρ' n' H') (e : ER K ρ n H env σ) : ER K ρ' n' H' env σ :=
  ⟨e.1, fun i d h => let ⟨v, a, b⟩ := e.2 i d h; ⟨v, a, b.mono0 l⟩⟩
theorem LkOk.mono {ρ ρ' : Nat → Addr} {n n' : Nat} {H H0 H' : Hp} {st : Stp} (k : LkOk ρ n H st) (l : Le K ρ n H0 ρ' n' H') : LkOk ρ' n' H st := fun a e => by
  obtain ⟨h1, h2⟩ := k a e
  exact ⟨Nat.lt_of_lt_of_le h1 l.le, by rw [l.ad a h1]; exact h2⟩
/-- what is wanted of the loop ahead of the unlocking -/
def PU {α : Type} (st : Stp) (p : PV.R α → Prop) : PV.R α → Prop
  | .ok f h => (M.bind (unlk st.lk) (fun _ => M.pure f) h).all p
  | .bad => False
theorem ss_for {tg it : Expr} {ws : List Nat} {body : List Stmt} {pos : Pos} {mi : Env → M Stp} {g : Env → D → M Env} {mb : Env → M F} (hp : ∀ X, C X → PassesOwn (model X.prog X.w) X.A X.env X.xe) (hc : ∀ X, C X → X.calm = true) (hi : SI G K C tg it mi) (hg : SG G K C tg ws g) (hb : SSs G K C body mb)
    (hs : ∀ X, C X → ∀ x, foldedSetIterable it X.env x = pure x) : SS G K C (.For tg it body [] pos) (fun env => M.bind (mi env) fun st => forM st g mb env) := by
  obtain ⟨ti, pi, qi⟩ := hi
  obtain ⟨tg', pg, qg⟩ := hg
  obtain ⟨tb, pb, qb⟩ := hb
  refine ⟨_, fun X hX eK => ps_unl (ps_for (hp X hX) (hc X hX) (pi X hX eK) (pg X hX eK) (pb X hX eK) (hs X hX)), fun ρ env h σ H Z hr er hq => ?_⟩
  refine qi ρ env h σ H _ hr er (P.all_mono (fun r z => ?_) (all_M hq (fun z => z)))
  cases r with
  | bad => exact z.elim
  | ok st h1 =>
    intro ρ1 H1 J l1 hr1 ok lk1
    have z : (loopF st g mb turns 0 env h1).all (PU st (PostS G K ρ h.n H Z)) := P.all_mono (fun r z => by cases r with | bad => exact z | ok f h' => exact z) (all_M (p := PostS G K ρ h.n H Z) z (fun z => z))
    refine ⟨fun i m σ' H' => ∃ ρ' env' h', Le K ρ1 h1.n H1 ρ' h'.n H' ∧ HR G K ρ' h' H' ∧ ER K ρ' h'.n H' env' σ' ∧ (loopF st g mb m i env' h').all (PU st (PostS G K ρ h.n H Z)), ⟨turns, ρ1, env, h1, Le.refl, hr1, er.mono l1, z⟩, ?_⟩
    rintro i m σ2 H2 ⟨ρ2, env2, h2, l2, hr2, er2, q2⟩
    cases m with
    | zero => exact q2.elim
    | succ m =>
      have q2 : ((match st.go i h2 with
        | none => (.ret .bad : P (R F))
        | some none => .ret (.ok (.nx env2) h2)
        | some (some d) => M.bind (g env2 d) (fun e2 => M.bind (mb e2) (turnF (loopF st g mb m (i + 1)))) h2)).all (PU st (PostS G K ρ h.n H Z)) := q2
      have o := ok ρ2 h2 H2 i l2.w hr2
      revert q2 o
      cases st.go i h2 with
      | none => intro q2; exact q2.elim
      | some w =>
        cases w with
        | none =>
          intro q2 o
          exact .inl ⟨o, unlk_ok (lk1.mono l2) (l1.trans l2) hr2 q2 (fun z => z) fun h' H' hn l0 lz hr' uf q => q ρ2 H' σ2 l0 hr' (er2.mono0 lz)⟩
        | some d =>
          rintro q2 ⟨o1, o2⟩
          refine .inr ⟨o1, fun σ' H' => ∃ ρ' env' h', Le K ρ1 h1.n H1 ρ' h'.n H' ∧ HR G K ρ' h' H' ∧ ER K ρ' h'.n H' env' σ' ∧ (loopF st g mb m (i + 1) env' h').all (PU st (PostS G K ρ h.n H Z)), fun σ' H' w => ⟨m, Nat.lt_succ_self m, w⟩, fun x H3 hy => ?_⟩
          obtain ⟨ρ3, l3, hr3, rd3⟩ := o2 x H3 hy
          refine qg ρ3 env2 h2 σ2 H3 d x _ hr3 (er2.mono l3) rd3 (P.all_mono (fun r z => ?_) (all_M (p := PU st (PostS G K ρ h.n H Z)) q2 (fun z => z)))
          cases r with
          | bad => exact z.elim
          | ok e2 h4 =>
            intro ρ4 H4 σ4 l4 hr4 er4 _
            refine qb ρ4 e2 h4 σ4 H4 _ hr4 er4 (P.all_mono (fun r z2 => ?_) (all_M (p := PU st (PostS G K ρ h.n H Z)) z (fun z => z)))
            have l14 := (l2.trans l3).trans l4
            cases r with
            | bad => exact z2.elim
            | ok f h5 =>
              cases f with
              | nx e5 => exact fun ρ5 H5 σ5 l5 hr5 er5 => ⟨ρ5, e5, h5, l14.trans l5, hr5, er5, z2⟩
              | ct e5 => exact fun ρ5 H5 σ5 l5 hr5 er5 => ⟨ρ5, e5, h5, l14.trans l5, hr5, er5, z2⟩
              | bk e5 => exact fun ρ5 H5 σ5 l5 hr5 er5 => unlk_ok (lk1.mono (l14.trans l5)) (l1.trans (l14.trans l5)) hr5 z2 (fun z => z) fun h' H' hn l0 lz hr' uf q => q ρ5 H' σ5 l0 hr' (er5.mono0 lz)
              | rt d5 => exact fun ρ5 H5 v5 l5 hr5 rd5 => unlk_ok (lk1.mono (l14.trans l5)) (l1.trans (l14.trans l5)) hr5 z2 (fun z => z) fun h' H' hn l0 lz hr' uf q => q ρ5 H' v5 l0 hr' (rd5.mono0 lz)
def whileF (c : Env → M Bool) (body : Env → M F) : Nat → Env → M F
  | 0, _ => M.bad
  | f + 1, env => M.bind (c env) fun k => if k then M.bind (body env) (turnF (whileF c body f)) else M.pure (.nx env)
theorem ss_while {c : Expr} {body : List Stmt} {pos : Pos} {mc : Env → M Bool} {mb : Env → M F} (hp : ∀ X, C X → PassesOwn (model X.prog X.w) X.A X.env X.xe) (hc : STt G K C c mc) (hb : SSs G K C body mb) : SS G K C (.While c body [] pos) (whileF mc mb turns) := by
  obtain ⟨tc, pc, qc⟩ := hc
  obtain ⟨tb, pb, qb⟩ := hb
  refine ⟨_, fun X hX eK => ps_while (hp X hX) (pc X hX eK) (pb X hX eK), fun ρ env h σ H Z hr er hq => ?_⟩
  refine ⟨fun m σ' H' => ∃ ρ' env' h', Le K ρ h.n H ρ' h'.n H' ∧ HR G K ρ' h' H' ∧ ER K ρ' h'.n H' env' σ' ∧ (whileF mc mb m env' h').all (PostS G K ρ h.n H Z), ⟨turns, ρ, env, h, Le.refl, hr, er, hq⟩, ?_⟩
  rintro m σ2 H2 ⟨ρ2, env2, h2, l2, hr2, er2, q2⟩
  cases m with
  | zero => exact q2.elim
  | succ m =>
    refine useT qc hr2 er2 q2 (fun z => z) fun ρ3 h3 H3 k l3 hr3 q3 => ?_
    have l23 := l2.trans l3
    cases k with
    | false => rw [if_neg Bool.false_ne_true] at q3 ⊢; exact q3 ρ3 H3 σ2 l23 hr3 (er2.mono l3)
    | true =>
      rw [if_pos rfl] at q3 ⊢
      refine ⟨fun σ' H' => ∃ ρ' env' h', Le K ρ h.n H ρ' h'.n H' ∧ HR G K ρ' h' H' ∧ ER K ρ' h'.n H' env' σ' ∧ (whileF mc mb m env' h').all (PostS G K ρ h.n H Z), fun σ' H' w => ⟨m, Nat.lt_succ_self m, w⟩, ?_⟩
      refine qb ρ3 env2 h3 σ2 H3 _ hr3 (er2.mono l3) (P.all_mono (fun r z2 => ?_) (all_M q3 (fun z => z)))
      cases r with
      | bad => exact z2.elim
      | ok f h5 =>
        cases f with
        | nx e5 => exact fun ρ5 H5 σ5 l5 hr5 er5 => ⟨ρ5, e5, h5, l23.trans l5, hr5, er5, z2⟩
        | ct e5 => exact fun ρ5 H5 σ5 l5 hr5 er5 => ⟨ρ5, e5, h5, l23.trans l5, hr5, er5, z2⟩
        | bk e5 => exact fun ρ5 H5 σ5 l5 hr5 er5 => z2 ρ5 H5 σ5 (l23.trans l5) hr5 er5
        | rt d5 => exact fun ρ5 H5 v5 l5 hr5 rd5 => z2 ρ5 H5 v5 (l23.trans l5) hr5 rd5
end
end
end PV
set_option Elab.async false
set_option linter.all false
set_option maxRecDepth 100000
set_option maxHeartbeats 1000000
set_option autoImplicit false
namespace PV
noncomputable section
open PySem PySem.Spec PyProof.Rows L2
/-! ### comprehensions -/
section
variable {G : Gs} {K : PySem.W.Frag} {C C' : Cx → Prop} {X : Cx}
def STs (G : Gs) (K : PySem.W.Frag) (C : Cx → Prop) (ifs : List Expr) (m : Env → M Bool) : Prop :=
  ∃ t, (∀ X, C X → X.K = K → PTs X ifs t) ∧ ∀ ρ env h σ H Q, HR G K ρ h H → ER K ρ h.n H env σ → (m env h).all (PostT G K ρ h.n H Q) → t σ H Q
theorem sts_nil : STs G K C [] (fun _ => M.pure true) := ⟨_, fun X hX eK => pts_nil, fun ρ env h σ H Q hr er hq => hq ρ H Le.refl hr⟩
theorem sts_one {c : Expr} {m : Env → M Bool} (h : STt G K C c m) : STs G K C [c] m := let ⟨t, p, q⟩ := h; ⟨t, fun X hX eK => pts_one (p X hX eK), q⟩
def wipeE (env : Env) : List Nat → Env
  | [] => env
  | v :: vs => (wipeE env vs).set v none
theorem er_wipe {ρ : Nat → Addr} {n : Nat} {H : Hp} {env : Env} {σ : L2.St} (e : ER K ρ n H env σ) : ∀ vs : List Nat, ER K ρ n H (wipeE env vs) (wipe σ vs)
  | [] => e
  | v :: vs => by
    have ih := er_wipe e vs
    unfold wipeE wipe
    refine ⟨by rw [List.length_set, List.length_set]; exact ih.1, fun j c hj => ?_⟩
    by_cases hij : v = j
    · subst hij
      have hlt := (List.getElem?_eq_some_iff.mp hj).1
      rw [List.length_set] at hlt
      rw [List.getElem?_set_self hlt] at hj
      cases hj
    · rw [List.getElem?_set_ne hij] at hj
      obtain ⟨u, a, b⟩ := ih.2 j c hj
      exact ⟨u, by rw [List.getElem?_set_ne hij]; exact a, b⟩
theorem wipe_get {σ : L2.St} {i : Nat} : ∀ {vs : List Nat}, (wipe σ vs)[i]? = if i ∈ vs then (if i < σ.length then some none else none) else σ[i]?
  | [] => by simp [wipe]
  | v :: vs => by
    unfold wipe
    by_cases e : v = i
    · subst e
      rw [if_pos (by simp)]
      by_cases hl : v < σ.length
      · rw [if_pos hl, List.getElem?_set_self (by rw [wipe_length]; exact hl)]
      · rw [if_neg hl, List.getElem?_eq_none (by rw [List.length_set, wipe_length]; omega)]
    · rw [List.getElem?_set_ne e, wipe_get]
      have : i ∈ v :: vs ↔ i ∈ vs := by simp [Ne.symm e]
      simp only [this]
theorem wipe_same {σ σ' : L2.St} {vs ws : List Nat} (hs : ∀ i, i ∈ ws → i ∈ vs) (s : SBut ws (wipe σ vs) σ') : wipe σ' vs = wipe σ vs := by
  apply List.ext_getElem?
  intro i
  have hl : σ'.length = σ.length := by rw [s.1, wipe_length]
  rw [wipe_get, wipe_get, hl]
  by_cases hi : i ∈ vs
  · rw [if_pos hi, if_pos hi]
  · rw [if_neg hi, if_neg hi, s.2 i (fun z => hi (hs i z)), wipe_get, if_neg hi]
def lcF (st : Stp) (g : Env → D → M Env) (tt : Env → M Bool) (te : Env → M D) (env : Env) : Nat → Nat → List D → M (List D)
  | 0, _, _ => M.bad
  | f + 1, i, acc => fun h => match st.go i h with
    | none => .ret .bad
    | some none => .ret (.ok acc h)
    | some (some d) => M.bind (g env d) (fun e2 => M.bind (tt e2) fun b => if b then M.bind (te e2) (fun y => lcF st g tt te env f (i + 1) (y :: acc)) else lcF st g tt te env f (i + 1) acc) h
def lcM (mi : Env → M Stp) (g : Env → D → M Env) (tt : Env → M Bool) (te : Env → M D) (vs : List Nat) (env : Env) : M D :=
  M.bind (mi env) fun st => M.bind (lcF st g tt te (wipeE env vs) turns 0 []) fun acc => M.bind (unlk st.lk) fun _ => newLst acc.reverse
theorem relDs_rev1 {ρ : Nat → Addr} {n : Nat} {H : Hp} {acc : List D} {vs : List V} {d : D} {v : V} (a : RelDs K ρ n H acc.reverse vs) (b : RelD K ρ n H d v) : RelDs K ρ n H (d :: acc).reverse (vs ++ [v]) := by
  rw [List.reverse_cons]
  exact relDs_append a (relDs_one.mpr ⟨v, rfl, b⟩)
/-- a foreign list is changed -/
theorem Le.for {ρ ρ1 : Nat → Addr} {n n1 : Nat} {H H1 : Hp} {p : Addr} {o : HO} (l : Le K ρ n H ρ1 n1 H1) (hp : H p = none) : Le K ρ n H ρ1 n1 (upd H1 p o) :=
  ⟨l.le, l.ad, fun q vs h => by
    have h0 := h
    rcases h0 with h0 | h0
    case inr => exact .inr h0
    have hne : q ≠ p := by
      rcases h0 with h0 | ⟨_, h0⟩
      · exact ne_of_none h0 hp
      · exact ne_of_none h0 hp
    rcases l.tp q vs h with (z | ⟨ob, z⟩) | z
    · exact .inl (.inl (by rw [upd_ne hne]; exact z))
    · exact .inl (.inr ⟨ob, by rw [upd_ne hne]; exact z⟩)
    · exact .inr z, fun q w hw f => by
    have hne : q ≠ p := ne_of_none hw hp
    obtain ⟨a, b⟩ := l.fr q w hw f
    exact ⟨by rw [upd_ne hne]; exact a, b⟩, fun q o u hq => by rw [upd_ne (ne_of_none hq hp)]; exact l.lk q o u hq⟩
theorem Le0.for {ρ : Nat → Addr} {n : Nat} {H : Hp} {p : Addr} {o : HO} {us : List V} (hp : H p = some (.lst us)) : Le0 K ρ n H ρ n (upd H p o) :=
  ⟨Nat.le_refl _, fun _ _ => rfl, fun x vs z => by
    rcases z with (z | ⟨ob, z⟩) | z
    · exact .inl (.inl (by rw [upd_ne (fun w => by rw [w, hp] at z; cases z)]; exact z))
    · exact .inl (.inr ⟨ob, by rw [upd_ne (fun w => by rw [w, hp] at z; cases z)]; exact z⟩)
    · exact .inr z, fun x ob u z f => ⟨by rw [upd_ne (fun w => by rw [w, hp] at z; cases z)]; exact z, f⟩⟩
theorem HR.for {ρ : Nat → Addr} {h : VH} {H : Hp} {p : Addr} {o : HO} {us : List V} (r : HR G K ρ h H) (hp : H p = some (.lst us)) (hf : ∀ a, a < h.n → ρ a ≠ p) : HR G K ρ h (upd H p o) := by
  refine ⟨r.inj, fun a ha => ?_⟩
  obtain ⟨ob, e, q⟩ := r.obj a ha
  exact ⟨ob, e, q.mono0 (Le0.for hp) (upd_ne (hf a ha))⟩
/-- the new list becomes an object of ours -/
theorem HR.own {ρ : Nat → Addr} {h : VH} {H : Hp} {p : Addr} {xs : List D} {us : List V} (r : HR G K ρ h H) (hp : H p = some (.lst us)) (hf : ∀ a, a < h.n → ρ a ≠ p) (hx : RelDs K ρ h.n H xs us) : HR G K (rset ρ h.n p) (h.new (.lst xs)) H := by
  have l : Le0 K ρ h.n H (rset ρ h.n p) (h.n + 1) H := ⟨Nat.le_succ _, fun a ha => rset_lt ha, fun _ _ z => z, fun q o u z f => ⟨z, fun c hc w => by
    by_cases e : c = h.n
    · rw [e, rset_at] at w; rw [← w, hp] at z; cases z
    · have hc2 : c < h.n := by omega
      rw [rset_lt hc2] at w
      exact f c hc2 w⟩⟩
  refine ⟨fun a b ha hb e => ?_, fun a ha => ?_⟩
  · have ha' : a < h.n + 1 := ha
    have hb' : b < h.n + 1 := hb
    by_cases ea : a = h.n
    · by_cases eb : b = h.n
      · rw [ea, eb]
      · have hb2 : b < h.n := by omega
        rw [ea, rset_at, rset_lt hb2] at e
        exact absurd e.symm (hf b hb2)
    · have ha2 : a < h.n := by omega
      by_cases eb : b = h.n
      · rw [eb, rset_at, rset_lt ha2] at e
        exact absurd e (hf a ha2)
      · have hb2 : b < h.n := by omega
        rw [rset_lt ha2, rset_lt hb2] at e
        exact r.inj a b ha2 hb2 e
  · have ha' : a < h.n + 1 := ha
    by_cases ea : a = h.n
    · exact ⟨.lst xs, by rw [VH.get_new, if_pos ea], by rw [ea, rset_at]; exact ⟨us, hp, hx.mono0 l⟩⟩
    · have ha2 : a < h.n := by omega
      obtain ⟨ob, e, q⟩ := r.obj a ha2
      refine ⟨ob, by rw [VH.get_new, if_neg ea]; exact e, ?_⟩
      rw [rset_lt ha2]
      exact q.mono0 l rfl
theorem Le.own {ρ ρ1 : Nat → Addr} {n n1 : Nat} {H H1 : Hp} {p : Addr} (l : Le K ρ n H ρ1 n1 H1) (hp : H p = none) : Le K ρ n H (rset ρ1 n1 p) (n1 + 1) H1 :=
  ⟨Nat.le_succ_of_le l.le, fun a ha => (rset_lt (Nat.lt_of_lt_of_le ha l.le)).trans (l.ad a ha), l.tp, fun q w hw f => by
    obtain ⟨a, b⟩ := l.fr q w hw f
    refine ⟨a, fun c hc z => ?_⟩
    by_cases e : c = n1
    · rw [e, rset_at] at z; rw [← z, hp] at hw; cases hw
    · have hc2 : c < n1 := by omega
      rw [rset_lt hc2] at z
      exact b c hc2 z, l.lk⟩
theorem fr0 {ρ ρ1 : Nat → Addr} {n : Nat} {h1 : VH} {H H1 : Hp} {p : Addr} (hr : HR G K ρ1 h1 H1) (l : Le K ρ n H ρ1 h1.n H1) (hp : H1 p = none) : H p = none := by
  cases e : H p with
  | none => rfl
  | some o =>
    exfalso
    by_cases f : ∀ a, a < n → ρ a ≠ p
    · rw [(l.fr p o e f).1] at hp; cases hp
    · refine f fun a ha z => ?_
      obtain ⟨ob, _, q⟩ := hr.obj a (Nat.lt_of_lt_of_le ha l.le)
      obtain ⟨w, e2⟩ := q.some
      rw [l.ad a ha, z, hp] at e2
      cases e2
theorem fresh_no {ρ : Nat → Addr} {h : VH} {H : Hp} (r : HR G K ρ h H) {p : Addr} (hp : H p = none) : ∀ a, a < h.n → ρ a ≠ p := fun a ha z => by
  obtain ⟨ob, _, q⟩ := r.obj a ha
  obtain ⟨w, e⟩ := q.some
  rw [z, hp] at e
  cases e
/-- what is wanted of a comprehension's items -/
def PL (G : Gs) (K : PySem.W.Frag) (st : Stp) (ρ : Nat → Addr) (n : Nat) (H : Hp) (Q : VK) : R (List D) → Prop
  | .ok acc h' => (M.bind (unlk st.lk) (fun _ => newLst acc.reverse) h').all (PostE G K ρ n H Q)
  | .bad => False
theorem lc_use {ws vs : List Nat} {ti : TI} {tg' : TG} {tt' : TT} {te' : TE} {mi : Env → M Stp} {g : Env → D → M Env} {tt : Env → M Bool} {te : Env → M D} (hws : ∀ i, i ∈ ws → i ∈ vs)
    (qi : ∀ ρ env h σ H (R : It → Hp → Prop), HR G K ρ h H → ER K ρ h.n H env σ → (mi env h).all (PostI G K ρ h.n H R) → ti σ H R)
    (qg : ∀ ρ env h σ H d v Q, HR G K ρ h H → ER K ρ h.n H env σ → RelD K ρ h.n H d v → (g env d h).all (PostG G K ρ h.n H ws σ Q) → tg' v σ H Q)
    (qt : ∀ ρ env h σ H Q, HR G K ρ h H → ER K ρ h.n H env σ → (tt env h).all (PostT G K ρ h.n H Q) → tt' σ H Q)
    (qe : ∀ ρ env h σ H Q, HR G K ρ h H → ER K ρ h.n H env σ → (te env h).all (PostE G K ρ h.n H Q) → te' σ H Q)
    (ρ : Nat → Addr) (env : Env) (h : VH) (σ : L2.St) (H : Hp) (Q : VK) (hr : HR G K ρ h H) (er : ER K ρ h.n H env σ) (hq : (lcM mi g tt te vs env h).all (PostE G K ρ h.n H Q)) : tUnlE (tLc ti tg' tt' te' vs) σ H Q := by
  refine qi ρ env h σ H _ hr er (P.all_mono (fun r z => ?_) (all_M hq (fun z => z)))
  cases r with
  | bad => exact z.elim
  | ok st h1 =>
    intro ρ1 H1 J l1 hr1 ok1 lk1 p hp
    have z : (M.bind (lcF st g tt te (wipeE env vs) turns 0 []) (fun acc => M.bind (unlk st.lk) fun _ => newLst acc.reverse) h1).all (PostE G K ρ h.n H Q) := z
    have f1 := fresh_no hr1 hp
    have z := all_M z (fun z => z)
    have ew := er_wipe (er.mono l1) vs
    refine ⟨fun i m H' => i + m = turns ∧ ∃ ρ' h' acc us, Le K ρ1 h1.n H1 ρ' h'.n H' ∧ HR G K ρ' h' H' ∧ H' p = some (.lst us) ∧ (∀ a, a < h'.n → ρ' a ≠ p) ∧ RelDs K ρ' h'.n H' acc.reverse us ∧ acc.length ≤ i ∧ (lcF st g tt te (wipeE env vs) m i acc h').all (PL G K st ρ h.n H Q), ⟨turns, Nat.zero_add _, ρ1, h1, [], [], Le.upd_fresh hp, hr1.fresh hp, upd_same, f1, relDs_nil.mpr rfl, Nat.le_refl _, P.all_mono (fun r z => by cases r with | bad => exact z.elim | ok a h' => exact z) z⟩, ?_⟩
    rintro i m H2 ⟨him, ρ2, h2, acc, us, l2, hr2, hp2, f2, ra, hl, q2⟩
    cases m with
    | zero => exact q2.elim
    | succ m =>
      have q2 : ((match st.go i h2 with
        | none => (.ret .bad : P (R (List D)))
        | some none => .ret (.ok acc h2)
        | some (some d) => M.bind (g (wipeE env vs) d) (fun e2 => M.bind (tt e2) fun b => if b then M.bind (te e2) (fun y => lcF st g tt te (wipeE env vs) m (i + 1) (y :: acc)) else lcF st g tt te (wipeE env vs) m (i + 1) acc) h2)).all (PL G K st ρ h.n H Q) := q2
      have o := ok1 ρ2 h2 H2 i l2.w hr2
      revert q2 o
      cases st.go i h2 with
      | none => intro q2; exact q2.elim
      | some w =>
        cases w with
        | none =>
          intro q2 o
          refine .inl ⟨o, unlk_ok (lk1.mono l2) (l1.trans l2) hr2 q2 (fun z => z) fun h' H' hn l0 lz hr' uf q => ?_⟩
          have hp3 : H' p = some (.lst us) := uf p _ hp2 f2
          refine q (rset ρ2 h'.n p) H' (.ref p) (l0.own (fr0 hr1 l1 hp)) (hr'.own hp3 (by rw [hn]; exact f2) (ra.mono0 lz)) ?_
          rw [relD_ref]
          exact ⟨Nat.lt_succ_self _, by rw [rset_at]⟩
        | some d =>
          rintro q2 ⟨o1, o2⟩
          refine .inr ⟨o1, fun H' => (i + 1) + m = turns ∧ ∃ ρ' h' acc us, Le K ρ1 h1.n H1 ρ' h'.n H' ∧ HR G K ρ' h' H' ∧ H' p = some (.lst us) ∧ (∀ a, a < h'.n → ρ' a ≠ p) ∧ RelDs K ρ' h'.n H' acc.reverse us ∧ acc.length ≤ i + 1 ∧ (lcF st g tt te (wipeE env vs) m (i + 1) acc h').all (PL G K st ρ h.n H Q), fun H' w => ⟨m, Nat.lt_succ_self m, w⟩, fun x H3 hy => ?_⟩
          have him2 : (i + 1) + m = turns := by omega
          obtain ⟨ρ3, l3, hr3, rd3⟩ := o2 x H3 hy
          have l13 := l2.trans l3
          refine qg ρ3 _ h2 _ H3 d x _ hr3 (ew.mono l13) rd3 (P.all_mono (fun r z => ?_) (all_M (p := PL G K st ρ h.n H Q) q2 (fun z => z)))
          cases r with
          | bad => exact z.elim
          | ok e2 h4 =>
            intro ρ4 H4 σ4 l4 hr4 er4 sb4
            refine ⟨wipe_same hws sb4, ?_⟩
            refine qt ρ4 e2 h4 σ4 H4 _ hr4 er4 (P.all_mono (fun r z2 => ?_) (all_M (p := PL G K st ρ h.n H Q) z (fun z => z)))
            cases r with
            | bad => exact z2.elim
            | ok b h5 =>
              intro ρ5 H5 l5 hr5
              have l35 := (l3.trans l4).trans l5
              obtain ⟨hp5, f5⟩ := l35.fr p _ hp2 f2
              have l15 := l2.trans l35
              cases b with
              | false =>
                rw [if_neg Bool.false_ne_true]
                refine ⟨him2, ρ5, h5, acc, us, l15, hr5, hp5, f5, ra.mono l35, by omega, z2⟩
              | true =>
                rw [if_pos rfl]
                refine qe ρ5 e2 h5 σ4 H5 _ hr5 (er4.mono l5) (P.all_mono (fun r z3 => ?_) (all_M (p := PL G K st ρ h.n H Q) z2 (fun z => z)))
                cases r with
                | bad => exact z3.elim
                | ok y h6 =>
                  intro ρ6 H6 v6 l6 hr6 rd6
                  obtain ⟨hp6, f6⟩ := l6.fr p _ hp5 f5
                  have hz : us.length < 16777216 := by
                    have e1 := relDs_len ra
                    rw [List.length_reverse] at e1
                    have e2 : turns = 1000000 := rfl
                    omega
                  refine ⟨us, hp6, hz, him2, ρ6, h6, y :: acc, us ++ [v6], (l15.trans l6).for hp, hr6.for hp6 f6, upd_same, f6, ?_, ?_, z3⟩
                  · exact (relDs_rev1 ((ra.mono l35).mono l6) rd6).mono0 (Le0.for hp6)
                  · rw [List.length_cons]; omega
theorem se_lc {elt tg it : Expr} {ifs : List Expr} {scope : Scope} {own : List (Str × Nat)} {ws : List Nat} {pos : Pos} {mi : Env → M Stp} {g : Env → D → M Env} {tt : Env → M Bool} {te : Env → M D} (hc : ∀ X, C X → X.calm = true) (hN : ∀ X, C X → X.N.Nodup)
    (ok : ∀ X, C X → BlkOk X.N X.env.scope scope own) (hin : ∀ X, C X → ∀ s H A cl fp, C' (X.blk s H scope (compEnvC scope cl A X.env) fp)) (hws : ∀ i, i ∈ ws → i ∈ own.map (fun q : Str × Nat => q.2)) (hs : ∀ X, C X → ∀ x, foldedSetIterable it X.env x = pure x)
    (hi : SI G K C tg it mi) (hg : SG G K C' tg ws g) (ht : STs G K C' ifs tt) (he : SE G K C' elt te) : SE G K C (.ListComp elt [⟨tg, it, ifs, 0⟩] scope pos) (lcM mi g tt te (own.map (fun q : Str × Nat => q.2))) := by
  obtain ⟨ti, pi, qi⟩ := hi
  obtain ⟨tg', pg, qg⟩ := hg
  obtain ⟨tt', pt, qt⟩ := ht
  obtain ⟨te', pe, qe⟩ := he
  exact ⟨_, fun X hX eK => pe_unl <| pe_lc (hc X hX) (hN X hX) (pi X hX eK) (ok X hX) (fun s H A cl fp => pg _ (hin X hX s H A cl fp) eK) (fun s H A cl fp => pt _ (hin X hX s H A cl fp) eK) (fun s H A cl fp => pe _ (hin X hX s H A cl fp) eK) (hs X hX), lc_use hws qi qg qt qe⟩
/-- y = [..] -/
theorem ss_setLc {i : Nat} {y : Str} {py : Pos} {elt tg it : Expr} {ifs : List Expr} {scope : Scope} {own : List (Str × Nat)} {ws : List Nat} {pos spos : Pos} {mi : Env → M Stp} {g : Env → D → M Env} {tt : Env → M Bool} {te : Env → M D} (hc : ∀ X, C X → X.calm = true) (hN : ∀ X, C X → X.N.Nodup)
    (hy : ∀ X, C X → X.N[i]? = some y) (hyl : ∀ X, C X → L2.Loc X.env.scope y) (hf : ∀ X, C X → X.fn y = true ∨ X.env.scope.names.lookup y = some .local)
    (hsw : ∀ X, C X → (X.env.scope.names.lookup y = some .local ∧ swapsWith (.ListComp elt [⟨tg, it, ifs, 0⟩] scope pos) (some (.Name y py)) spos.line X.env = pure true) ∨ swapsWith (.ListComp elt [⟨tg, it, ifs, 0⟩] scope pos) (some (.Name y py)) spos.line X.env = pure false)
    (ok : ∀ X, C X → BlkOk X.N X.env.scope scope own) (hin : ∀ X, C X → ∀ s H A cl fp, C' (X.blk s H scope (compEnvC scope cl A X.env) fp)) (hws : ∀ i, i ∈ ws → i ∈ own.map (fun q : Str × Nat => q.2)) (hs : ∀ X, C X → ∀ x, foldedSetIterable it X.env x = pure x)
    (hi : SI G K C tg it mi) (hg : SG G K C' tg ws g) (ht : STs G K C' ifs tt) (he : SE G K C' elt te) : SS G K C (.Assign [.Name y py] (.ListComp elt [⟨tg, it, ifs, 0⟩] scope pos) spos) (fun env => M.bind (lcM mi g tt te (own.map (fun q : Str × Nat => q.2)) env) fun d => M.pure (.nx (env.set i (some d)))) := by
  obtain ⟨ti, pi, qi⟩ := hi
  obtain ⟨tg', pg, qg⟩ := hg
  obtain ⟨tt', pt, qt⟩ := ht
  obtain ⟨te', pe, qe⟩ := he
  refine ⟨tAsg (tUnlE (tLc ti tg' tt' te' (own.map (fun q : Str × Nat => q.2)))) (gName i), fun X hX eK => ?_, fun ρ env h σ H Z hr er hq => ?_⟩
  · rcases hsw X hX with ⟨hl, z⟩ | z
    · refine ⟨fun pins s σ H D I h => (ps_unl (ps_setLc (hc X hX) (hN X hX) (hy X hX) hl z (pi X hX eK) (ok X hX) (fun s H A cl fp => pg _ (hin X hX s H A cl fp) eK) (fun s H A cl fp => pt _ (hin X hX s H A cl fp) eK) (fun s H A cl fp => pe _ (hin X hX s H A cl fp) eK) (hs X hX))).run pins s σ H D I h⟩
    · exact ps_asg (pe_unl <| pe_lc (hc X hX) (hN X hX) (pi X hX eK) (ok X hX) (fun s H A cl fp => pg _ (hin X hX s H A cl fp) eK) (fun s H A cl fp => pt _ (hin X hX s H A cl fp) eK) (fun s H A cl fp => pe _ (hin X hX s H A cl fp) eK) (hs X hX)) (pg_name (hN X hX) (hy X hX) (hyl X hX) (hf X hX)) z rfl rfl
  · exact useE (lc_use hws qi qg qt qe) hr er hq (fun z => z) fun ρ1 h1 H1 d v l1 hr1 rd hq1 => hq1 ρ1 H1 _ l1 hr1 (er_set i (er.mono l1) rd)
end
end
end PV
set_option Elab.async false
set_option linter.all false
set_option maxRecDepth 100000
set_option maxHeartbeats 1000000
set_option autoImplicit false
/-! ### walks over anything, by the library's one form of walk -/
namespace PV
noncomputable section
open PySem PySem.Spec PyProof.Rows L2
section
variable {X : Cx} {pins : List (Addr × Obj)} {σ : L2.St} {H : Hp} {s : Shared} {E : Value → Shared → Prop} {own fp wr : List Addr} {tg : Expr} {it : Addr} {n i : Nat} {Y : Nat → Heap → Value → Heap → Prop} {St : Nat → Heap → Prop}
/-- a turn that makes nothing -/
theorem item_plain {yl : V → Prop} {tn : Heap → Prop} (I : Inv X pins σ H s) (hf : ∀ b ∈ own, FpOk X pins H b) (W : GoesN X.prog X.w X.A tg it fp wr n Y St) (hw : ∀ b ∈ wr, b ∈ own) (hi : i < n) (st : St i s.heap)
    (hY : ∀ v h', Y i s.heap v h' → St (i + 1) h' → ∃ x, RelV x v ∧ yl x ∧ tn h') :
    wpAny (model X.prog X.w) X.A (pyNext (.ref it)) (fun r s1 => ∃ u, r = some u ∧
      wpAny (model X.prog X.w) X.A (letOwnedTupleGo tg (.ref it) u) (fun _ s2 => ∃ x H', Inv X pins σ H' s2 ∧ RelV x u ∧ (H' = H ∧ yl x) ∧ tn s2.heap ∧ ∀ b ∈ own, H' b = none) E s1) E s := by
  refine W.goes i s _ E hi st fun v h' tk hy st' hk _ => ?_
  obtain ⟨x, r, y, t⟩ := hY v h' hy st'
  exact ⟨x, H, I.turnedL (ch := own) (fun b o hb e => hk b o (fun z => hb (hw b z)) e) hf, r, ⟨rfl, y⟩, t, fun b hb => (hf b hb).1⟩
/-- a turn that makes a tuple -/
theorem item_tup {yl : List V → Prop} {tn : Heap → Prop} (I : Inv X pins σ H s) (hf : ∀ b ∈ own, FpOk X pins H b) (ho : ∀ b ∈ own, b < s.heap.objs.size) (W : GoesN X.prog X.w X.A tg it fp wr n Y St) (hw : ∀ b ∈ wr, b ∈ own) (hi : i < n) (st : St i s.heap)
    (hY : ∀ v h', Y i s.heap v h' → St (i + 1) h' → ∃ T vals xs, v = .ref T ∧ s.heap.objs.size ≤ T ∧ h'.IsTuple T (List.toArray vals) ∧ xs.length ≤ sizeLine ∧ Vals xs vals ∧ yl xs ∧ tn h') :
    wpAny (model X.prog X.w) X.A (pyNext (.ref it)) (fun r s1 => ∃ u, r = some u ∧
      wpAny (model X.prog X.w) X.A (letOwnedTupleGo tg (.ref it) u) (fun _ s2 => ∃ x H', Inv X pins σ H' s2 ∧ RelV x u ∧ (∃ T xs, x = .ref T ∧ H T = none ∧ H' = upd H T (.tup xs) ∧ yl xs) ∧ tn s2.heap ∧ ∀ b ∈ own, H' b = none) E s1) E s := by
  refine W.goes i s _ E hi st fun v h' tk hy st' hk _ => ?_
  obtain ⟨T, vals, xs, rfl, hT, ht, hz, rv, y, t⟩ := hY v h' hy st'
  have new : ObjOk X.prog X.w (upd H T (.tup xs)) h' T (.tup xs) := ⟨hz, vals, rv, ht⟩
  refine ⟨.ref T, _, I.turnedNew (t' := tk) (ch := own) (fun b o hb e => hk b o (fun z => hb (hw b z)) e) hf hT new, rfl, ⟨T, xs, rfl, I.hok.fresh hT, rfl, y⟩, t, fun b hb => ?_⟩
  rw [upd_ne (Nat.ne_of_lt (Nat.lt_of_lt_of_le (ho b hb) hT))]
  exact (hf b hb).1
theorem done_any (I : Inv X pins σ H s) (hf : ∀ b ∈ own, FpOk X pins H b) (W : GoesN X.prog X.w X.A tg it fp wr n Y St) (hw : ∀ b ∈ wr, b ∈ own) (st : St n s.heap) :
    wpAny (model X.prog X.w) X.A (pyNext (.ref it)) (fun r s1 => r = none ∧ Inv X pins σ H s1) E s :=
  W.stops s _ E st fun h' tk hk _ => I.turnedL (ch := own) (fun b o hb e => hk b o (fun z => hb (hw b z)) e) hf
end
/-! ### sources -/
inductive Src where
  | lst (a : Addr)
  | tup (a : Addr)
  | str (x : Str)
def Src.At (K : PySem.W.Frag) (H : Hp) : Src → List V → Prop
  | .lst a, vs => SqL K H a vs
  | .tup a, vs => SqT K H a vs
  | .str x, vs => vs = x.cps.toList.map fun c => V.str ⟨#[c]⟩
def Src.v : Src → V
  | .lst a => .ref a
  | .tup a => .ref a
  | .str x => .str x
def Src.it (I : Addr) (i : Nat) (h : Heap) : Src → Prop
  | .lst a => h.IsListIter I a i
  | .tup a => h.IsTupleIter I a i
  | .str x => ∃ t, h.IsStrIter I (strIterType x) x t i
def Src.cells : Src → List Addr
  | .lst a => [a]
  | .tup a => [a]
  | .str _ => []
section
variable {X : Cx} {pins : List (Addr × Obj)} {σ : L2.St} {H : Hp} {s : Shared}
theorem Src.inj {src : Src} (I : Inv X pins σ H s) {xs ys : List V} (h1 : src.At X.K H xs) (h2 : src.At X.K H ys) : xs = ys := by
  cases src with
  | lst a => exact I.list_inj h1 h2
  | tup a => exact I.tuple_inj h1 h2
  | str x => exact Eq.trans h1 (Eq.symm h2)
theorem Src.obj {src : Src} {I : Addr} {i : Nat} {h : Heap} (st : src.it I i h) : ∃ o, h.get? I = some o ∧ ∀ v, o.data ≠ .cell v := by
  cases src with
  | lst a => obtain ⟨o, e, _, d⟩ := st; exact ⟨o, e, fun v z => by rw [d] at z; cases z⟩
  | tup a => obtain ⟨o, e, _, d⟩ := st; exact ⟨o, e, fun v z => by rw [d] at z; cases z⟩
  | str x => obtain ⟨t, o, e, _, d⟩ := st; exact ⟨o, e, fun v z => by rw [d] at z; cases z⟩
theorem Src.keep {src : Src} {I : Addr} {i : Nat} {h h' : Heap} (st : src.it I i h) (k : ∀ o, h.get? I = some o → h'.get? I = some o) : src.it I i h' := by
  cases src with
  | lst a => obtain ⟨o, e, r⟩ := st; exact ⟨o, k o e, r⟩
  | tup a => obtain ⟨o, e, r⟩ := st; exact ⟨o, k o e, r⟩
  | str x => obtain ⟨t, o, e, r⟩ := st; exact ⟨t, o, k o e, r⟩
/-- what an iterator over the source draws -/
theorem Src.draws {src : Src} (Iv : Inv X pins σ H s) {vs : List V} (h1 : src.At X.K H vs) {I : Addr} {i : Nat} (st : src.it I i s.heap) (hn : I ∉ src.cells) :
    ∃ (P : Nat → Value → Prop) (St : Nat → Heap → Prop), (∀ A : Around, A.handled = none → Draws X.prog X.w A I (I :: src.cells) vs.length P St) ∧ St i s.heap ∧ (∀ j h, St j h → src.it I j h) ∧ (∀ j v, P j v → ∃ x, vs[j]? = some x ∧ RelV x v) ∧ ∀ j h, St j h → ∀ b ∈ I :: src.cells, ∃ o, h.get? b = some o := by
  cases src with
  | lst a =>
    obtain ⟨its, rv, p, _⟩ := Iv.list h1
    have D : ∀ A : Around, A.handled = none → _ := fun A hh => Draws.list (prog := X.prog) (w := X.w) (A := A) hh I a (fun z => hn (by rw [z]; exact List.Mem.head _)) its.toArray
    rw [show its.toArray.size = vs.length by simp [← rv.length]] at D
    refine ⟨_, _, D, ⟨st, p.isList⟩, fun j h z => z.1, fun j v z => ?_, fun j h z b hb => ?_⟩
    case refine_2 =>
      obtain ⟨⟨o, e, _⟩, ⟨o2, e2, _⟩⟩ := z
      cases hb with
      | head => exact ⟨o, e⟩
      | tail _ hb => cases hb with
        | head => exact ⟨o2, e2⟩
        | tail _ hb => cases hb
    have z : its[j]? = some v := by simpa using z
    cases e : vs[j]? with
    | none => rw [rv.none_of e] at z; cases z
    | some x =>
      obtain ⟨u, hu, ru⟩ := rv.get e
      rw [hu] at z
      cases z
      exact ⟨x, rfl, ru⟩
  | tup a =>
    obtain ⟨its, rv, p, _⟩ := Iv.tuple h1
    have D : ∀ A : Around, A.handled = none → _ := fun A hh => Draws.tuple (prog := X.prog) (w := X.w) (A := A) hh I a (fun z => hn (by rw [z]; exact List.Mem.head _)) its.toArray
    rw [show its.toArray.size = vs.length by simp [← rv.length]] at D
    refine ⟨_, _, D, ⟨st, p⟩, fun j h z => z.1, fun j v z => ?_, fun j h z b hb => ?_⟩
    case refine_2 =>
      obtain ⟨⟨o, e, _⟩, ⟨o2, e2, _⟩⟩ := z
      cases hb with
      | head => exact ⟨o, e⟩
      | tail _ hb => cases hb with
        | head => exact ⟨o2, e2⟩
        | tail _ hb => cases hb
    have z : its[j]? = some v := by simpa using z
    cases e : vs[j]? with
    | none => rw [rv.none_of e] at z; cases z
    | some x =>
      obtain ⟨u, hu, ru⟩ := rv.get e
      rw [hu] at z
      cases z
      exact ⟨x, rfl, ru⟩
  | str x =>
    obtain ⟨t, st⟩ := st
    have h1 : vs = x.cps.toList.map fun c => V.str ⟨#[c]⟩ := h1
    have D : ∀ A : Around, A.handled = none → _ := fun A hh => Draws.text (prog := X.prog) (w := X.w) (A := A) hh I x t
    rw [show x.cps.size = vs.length by rw [h1]; simp] at D
    refine ⟨_, _, D, st, fun j h z => ⟨t, z⟩, fun j v z => ?_, fun j h z b hb => ?_⟩
    case refine_2 =>
      obtain ⟨o, e, _⟩ := z
      cases hb with
      | head => exact ⟨o, e⟩
      | tail _ hb => cases hb
    obtain ⟨c, u, e, rfl⟩ := z
    refine ⟨.str ⟨#[c]⟩, ?_, ⟨u, rfl⟩⟩
    rw [h1, List.getElem?_map, Array.getElem?_toList, e]
    rfl
def Src.ob (t : Tok) : Src → Obj
  | .lst a => { cls := .type "list_iterator", data := .fields #[.ref a, .int 0 0] }
  | .tup a => { cls := .type "tuple_iterator", data := .fields #[.ref a, .int 0 0] }
  | .str x => { cls := .type (strIterType x), data := .fields #[.str x t, .int 0 0] }
theorem Src.begins {src : Src} (Iv : Inv X pins σ H s) {vs : List V} (h1 : src.At X.K H vs) {u : Value} (r : RelV src.v u) :
    ∃ (t : Tok) (Hb : Heap → Prop), Begins u (src.ob t) Hb ∧ Hb s.heap ∧ (∀ h I, h.get? I = some (src.ob t) → src.it I 0 h) ∧ ∀ b ∈ src.cells, b < s.heap.objs.size := by
  cases src with
  | lst a =>
    obtain rfl : u = Value.ref a := r
    obtain ⟨its, rv, p, _⟩ := Iv.list h1
    exact ⟨0, _, begins_list a its.toArray, p.isList, fun h I e => ⟨_, e, rfl, rfl⟩, fun b hb => by cases hb with | head => exact p.lt | tail _ hb => cases hb⟩
  | tup a =>
    obtain rfl : u = Value.ref a := r
    obtain ⟨its, rv, p, _⟩ := Iv.tuple h1
    exact ⟨0, _, begins_tuple a its.toArray, p, fun h I e => ⟨_, e, rfl, rfl⟩, fun b hb => by cases hb with | head => exact p.lt | tail _ hb => cases hb⟩
  | str x =>
    obtain ⟨t, rfl⟩ : ∃ t, u = Value.str x t := r
    exact ⟨t, _, begins_text x t, trivial, fun h I e => ⟨t, _, e, rfl, rfl⟩, fun b hb => by cases hb⟩
end
end
end PV
set_option Elab.async false
set_option linter.all false
set_option maxRecDepth 100000
set_option maxHeartbeats 1000000
set_option autoImplicit false
namespace PV
noncomputable section
open PySem PySem.Spec PyProof.Rows L2
abbrev enO (a : Addr) : Obj := { cls := .type "enumerate", data := .fields #[.none, .bool false, .ref a, rawInt 0, .none, .none] }
theorem meets_enum1 {v : Value} {o : Obj} {H : Heap → Prop} (B : Begins v o H) :
    Meets (Builtin.«enumerate.__new__» ⟨[.type "enumerate", v], []⟩) (fun _ R s => H s.heap ∧
      R (.ok (.ret (.ref (s.heap.push o).objs.size))) { s with heap := (s.heap.push o).push (enO s.heap.objs.size) }) :=
  .of_wp fun prog w A R s h => by
    obtain ⟨hp, g, d, tk, os⟩ := s; obtain ⟨h1, h⟩ := h
    have hs := sub_enumerate
    have q1 : ∀ {B' : Around} {E : Value → Shared → Prop} {Q : Value → Shared → Prop}, Q (.ref hp.objs.size) ⟨hp.push o, g, d, tk, os⟩ → wpAny (model prog w) B' (pyIter v) Q E ⟨hp, g, d, tk, os⟩ := fun q => B.iter prog w _ _ ⟨hp, g, d, tk, os⟩ _ h1 q
    wp_walk using q1
    refine wpAny_stack_any fun st => wpAny_pure ?_
    split
    · rename_i c _ _ _ _ _
      cases (c == Value.type "enumerate") <;> (wp_walk using q1; exact ⟨_, rfl, h⟩)
    · wp_walk using q1
      exact ⟨_, rfl, h⟩
theorem enum_begins1 {prog : Program} {w : World} {A : Around} {E : Value → Shared → Prop} {s : Shared} {v : Value} {o : Obj} {H : Heap → Prop} {Q : Value → Shared → Prop} (B : Begins v o H) (h1 : H s.heap)
    (h : ∀ h', IsEnum h' (s.heap.objs.size + 1) s.heap.objs.size 0 .none → h'.get? s.heap.objs.size = some o → (∀ b o, s.heap.get? b = some o → h'.get? b = some o) → Q (.ref (s.heap.objs.size + 1)) { s with heap := h' }) :
    wpAny (model prog w) A (call (.type "enumerate") [v]) Q E s := by
  refine callType_new F.called_enumerate (by decide) (F.typeCall_enumerate_1 _) (F.newCall_enumerate_1 _) (fun obj => F.args_object_init_2 obj _) F.entry_enumerate_new (meets_enum1 B) ⟨h1, ?_⟩
  have hz : (s.heap.push o).objs.size = s.heap.objs.size + 1 := Heap.size_push ..
  show _ ∧ _
  rw [hz]
  have he : IsEnum ((s.heap.push o).push (enO s.heap.objs.size)) (s.heap.objs.size + 1) s.heap.objs.size 0 .none := by
    have := Heap.get?_push_size (s.heap.push o) (o := enO s.heap.objs.size) rfl
    rw [hz] at this
    exact this
  exact ⟨⟨_, he, rfl⟩, h _ he (Heap.get?_push_of_some _ (Heap.get?_push_size _ B.free)) fun b o x => Heap.get?_push_of_some _ (Heap.get?_push_of_some _ x)⟩
/-! enumerate -/
def Jen (K : PySem.W.Frag) (src : Src) : It :=
  ⟨fun i H => ∃ vs x, src.At K H vs ∧ vs[i]? = some x, fun i H v H' => ∃ T xs, v = .ref T ∧ H T = none ∧ H' = upd H T (.tup xs) ∧ ∃ x, xs = [.int (i : Nat), x] ∧ ∀ vs, src.At K H vs → vs[i]? = some x, fun i H => ∃ vs, src.At K H vs ∧ i = vs.length⟩
theorem turn_en {P : Program} {w : World} {K : PySem.W.Frag} {elts : List Expr} {kk : Nat} {tpos : Pos} (src : Src) (e it : Addr) :
    Turn P w K (.Tuple elts kk tpos) (Jen K src) [e, it] e (fun i h => (∃ old, IsEnum h e it (i : Nat) old) ∧ src.it it i h ∧ e ≠ it ∧ e ∉ src.cells ∧ it ∉ src.cells) where
  mem := by simp
  obj := fun i h ⟨⟨old, he⟩, st, _⟩ b hb => by
    have hb : b = e ∨ b = it := by simpa using hb
    rcases hb with rfl | rfl
    · exact ⟨_, he, fun v q => nomatch q⟩
    · exact Src.obj st
  keep := fun i h h' ⟨⟨old, he⟩, st, r⟩ k => ⟨⟨old, k e (by simp) _ he⟩, Src.keep st (k it (by simp)), r⟩
  item := by
    intro X hP hw hK hc i pins s σ H E I hf st hg
    subst hP hw hK
    obtain ⟨⟨old, he⟩, st, hne, h1, h2⟩ := st
    obtain ⟨vs, x, hq, hx⟩ := hg
    obtain ⟨P, St, D, s1, s2, s3, _⟩ := Src.draws I hq st h2
    have D := D X.A.in1 (I.ok.hd hc)
    have W := GoesN.enumFrom (elts := elts) (x1 := kk) (pos := tpos) 0 D e hne (by simp only [List.mem_cons, not_or]; exact ⟨hne, h1⟩) (List.Mem.head _)
    have lt : i < vs.length := (List.getElem?_eq_some_iff.mp hx).1
    have hel : e < s.heap.objs.size := Heap.lt_size he
    have hil : it < s.heap.objs.size := by obtain ⟨o, q, _⟩ := Src.obj st; exact Heap.lt_size q
    refine item_tup (tn := fun h => (∃ old, IsEnum h e it ((i + 1 : Nat) : Int) old) ∧ src.it it (i + 1) h ∧ e ≠ it ∧ e ∉ src.cells ∧ it ∉ src.cells) I hf (fun b hb => ?_) W (fun b hb => hb) lt ⟨⟨old, by rw [Int.zero_add]; exact he⟩, s1⟩ fun v h' hY st' => ?_
    · have hb : b = e ∨ b = it := by simpa using hb
      rcases hb with rfl | rfl
      · exact hel
      · exact hil
    · obtain ⟨T, t, u, rfl, hT, hp, hi⟩ := hY
      obtain ⟨y, hy, ry⟩ := s3 i u hp
      rw [Int.zero_add] at hi
      obtain ⟨⟨old', he'⟩, st'⟩ := st'
      refine ⟨T, [.int i t, u], [.int (i : Nat), y], rfl, hT, hi, by show 2 ≤ sizeLine; decide, .cons ⟨_, rfl⟩ (.cons ry .nil), ⟨y, rfl, fun ws hw => by rw [Src.inj I hw hq]; exact hy⟩, ⟨old', ?_⟩, s2 _ _ st', hne, h1, h2⟩
      rw [Int.zero_add] at he'
      exact he'
  done := by
    intro X hP hw hK hc i pins s σ H E I hf st hg
    subst hP hw hK
    obtain ⟨⟨old, he⟩, st, hne, h1, h2⟩ := st
    obtain ⟨vs, hq, rfl⟩ := hg
    obtain ⟨P, St, D, s1, s2, s3, _⟩ := Src.draws I hq st h2
    have D := D X.A.in1 (I.ok.hd hc)
    have W := GoesN.enumFrom (elts := elts) (x1 := kk) (pos := tpos) 0 D e hne (by simp only [List.mem_cons, not_or]; exact ⟨hne, h1⟩) (List.Mem.head _)
    exact done_any I hf W (fun b hb => hb) ⟨⟨old, by rw [Int.zero_add]; exact he⟩, s1⟩
  self := fun A i s Q E ⟨⟨_, he⟩, _⟩ h => wpAny_pyIter_enum he h
def iEn (K : PySem.W.Frag) (te : TE) : TI := fun σ H R => te σ H fun v H1 => ∃ src ws, [v] = [Src.v src] ∧ src.At K H1 ws ∧ R (Jen K src) H1
theorem pi_en {X : Cx} {e : Expr} {te : TE} {p pos tpos : Pos} {elts : List Expr} {kk : Nat} (hg : Gl X "enumerate") (hm : X.mg "enumerate" = none) (ha : PE X e te) (hs : isStar e = false) :
    PI X (.Tuple elts kk tpos) (.Call (.Name "enumerate" p) [e] [] pos) (iEn X.K te) := by
  refine ⟨fun pins s σ H R I h => ?_⟩
  have pa : PA X [e] (tCons te tNil) := pa_cons ha pa_nil (starEach_no hs)
  refine Call_ (ld_blt I hg hm boot_enumerate (PyProof.Rows.callWith_type1 (thn (pa.run pos pins s σ H (fun vs H1 => ∃ src ws, vs = [Src.v src] ∧ src.At X.K H1 ws ∧ R (Jen X.K src) H1) I h) fun us s1 ⟨vs, H1, I1, r1, q1⟩ => ?_) (starEach_no hs) rfl))
  · obtain ⟨src, ws, rfl, hq, q⟩ := q1
    cases r1 with
    | cons r rr =>
      cases rr
      obtain ⟨t, Hb, B, hb, hit, hlt⟩ := Src.begins I1 hq r
      refine enum_begins1 B hb fun h' he ho hk => wpAny_pyIter_enum he ?_
      have I2 : Inv X pins σ H1 { s1 with heap := h' } := I1.kept (t' := s1.toks) hk
      have ne1 : s1.heap.objs.size + 1 ∉ src.cells := fun z => by have : (s1.heap.objs.size + 1 : Nat) < s1.heap.objs.size := hlt _ z; omega
      have ne2 : s1.heap.objs.size ∉ src.cells := fun z => by have : (s1.heap.objs.size : Nat) < s1.heap.objs.size := hlt _ z; omega
      refine ⟨s1.heap.objs.size + 1, [s1.heap.objs.size + 1, s1.heap.objs.size], _, _, H1, rfl, I2, turn_en src (s1.heap.objs.size + 1) s1.heap.objs.size, ⟨⟨.none, he⟩, hit _ _ ho, Nat.succ_ne_self _, ne1, ne2⟩, fun b hb => ?_, q⟩
      have hle : s1.heap.objs.size ≤ b := by
        have hb : b = s1.heap.objs.size + 1 ∨ b = s1.heap.objs.size := by simpa using hb
        rcases hb with z | z
        · rw [z]; exact Nat.le_add_right _ _
        · rw [z]; exact Nat.le_refl _
      exact I1.fpOk hle (I1.hok.fresh hle)
/-! zip -/
def Jzi (K : PySem.W.Frag) (a b : Src) : It :=
  ⟨fun i H => ∃ vs ws x y, a.At K H vs ∧ b.At K H ws ∧ vs[i]? = some x ∧ ws[i]? = some y, fun i H v H' => ∃ T xs, v = .ref T ∧ H T = none ∧ H' = upd H T (.tup xs) ∧ ∃ x y, xs = [x, y] ∧ (∀ vs, a.At K H vs → vs[i]? = some x) ∧ ∀ ws, b.At K H ws → ws[i]? = some y,
    fun i H => ∃ vs ws, a.At K H vs ∧ b.At K H ws ∧ i = min vs.length ws.length⟩
theorem turn_zi {P : Program} {w : World} {K : PySem.W.Frag} {elts : List Expr} {kk : Nat} {tpos : Pos} (a b : Src) (N : Addr) (ha : ∀ c ∈ a.cells, c < N) (hb : ∀ c ∈ b.cells, c < N) :
    Turn P w K (.Tuple elts kk tpos) (Jzi K a b) [N + 4, N + 2, N + 3, N, N + 1] (N + 4) (fun i h => IsZip h (N + 4) (N + 2) (N + 3) .none ∧ IsTupOf2 h (N + 2) (.ref N) (.ref (N + 1)) ∧ (∃ a1 a2, IsTupOf2 h (N + 3) a1 a2) ∧ a.it N i h ∧ b.it (N + 1) i h) where
  mem := by simp
  obj := fun i h ⟨hz, hTI, ⟨x, y, hTO⟩, h1, h2⟩ c hc => by
    have hc : c = N + 4 ∨ c = N + 2 ∨ c = N + 3 ∨ c = N ∨ c = N + 1 := by simpa using hc
    rcases hc with rfl | rfl | rfl | rfl | rfl
    · exact ⟨_, hz, fun v q => nomatch q⟩
    · exact ⟨_, hTI, fun v q => nomatch q⟩
    · exact ⟨_, hTO, fun v q => nomatch q⟩
    · exact Src.obj h1
    · exact Src.obj h2
  keep := fun i h h' ⟨hz, hTI, ⟨x, y, hTO⟩, h1, h2⟩ k => ⟨k _ (by simp) _ hz, k _ (by simp) _ hTI, ⟨x, y, k _ (by simp) _ hTO⟩, Src.keep h1 (k N (by simp)), Src.keep h2 (k (N + 1) (by simp))⟩
  item := by
    intro X hP hw hK hc i pins s σ H E I hf st hg
    subst hP hw hK
    obtain ⟨hz, hTI, ⟨x0, y0, hTO⟩, h1, h2⟩ := st
    obtain ⟨vs, ws, x, y, hqx, hqy, hx, hy⟩ := hg
    have nN : N ∉ a.cells := fun z => Nat.lt_irrefl _ (ha _ z)
    have nN1 : N + 1 ∉ b.cells := fun z => Nat.lt_irrefl _ (Nat.lt_of_succ_lt (hb _ z))
    obtain ⟨P1, St1, D1, s1, s2, s3, _⟩ := Src.draws I hqx h1 nN
    have D1 := D1 X.A.in1 (I.ok.hd hc)
    obtain ⟨P2, St2, D2, t1, t2, t3, _⟩ := Src.draws I hqy h2 nN1
    have D2 := D2 X.A.in1 (I.ok.hd hc)
    have W := GoesN.zip2 (elts := elts) (x1 := kk) (pos := tpos) (zip_sep2 ha hb) D1 D2
    have lt1 := (List.getElem?_eq_some_iff.mp hx).1
    have lt2 := (List.getElem?_eq_some_iff.mp hy).1
    refine item_tup (tn := fun h => IsZip h (N + 4) (N + 2) (N + 3) .none ∧ IsTupOf2 h (N + 2) (.ref N) (.ref (N + 1)) ∧ (∃ a1 a2, IsTupOf2 h (N + 3) a1 a2) ∧ a.it N (i + 1) h ∧ b.it (N + 1) (i + 1) h) I hf (fun c hc => ?_) W (fun c hc => ?_) (Nat.lt_min.mpr ⟨lt1, lt2⟩) ⟨hz, hTI, ⟨x0, y0, hTO⟩, s1, t1⟩ fun v h' hY st' => ?_
    · have hc : c = N + 4 ∨ c = N + 2 ∨ c = N + 3 ∨ c = N ∨ c = N + 1 := by simpa using hc
      rcases hc with rfl | rfl | rfl | rfl | rfl
      · exact Heap.lt_size hz
      · exact Heap.lt_size hTI
      · exact Heap.lt_size hTO
      · obtain ⟨_, q, _⟩ := Src.obj h1; exact Heap.lt_size q
      · obtain ⟨_, q, _⟩ := Src.obj h2; exact Heap.lt_size q
    · have hc : c = N + 4 ∨ c = N + 3 ∨ c = N ∨ c = N + 1 := by simpa using hc
      rcases hc with rfl | rfl | rfl | rfl <;> simp
    · obtain ⟨T, u1, u2, rfl, hT, hp1, hp2, hi⟩ := hY
      obtain ⟨y1, e1, r1⟩ := s3 i u1 hp1
      obtain ⟨y2, e2, r2⟩ := t3 i u2 hp2
      obtain ⟨q1, q2, q3, q4, q5⟩ := st'
      exact ⟨T, [u1, u2], [y1, y2], rfl, hT, hi, by show 2 ≤ sizeLine; decide, .cons r1 (.cons r2 .nil), ⟨y1, y2, rfl, fun l hl => by rw [Src.inj I hl hqx]; exact e1, fun l hl => by rw [Src.inj I hl hqy]; exact e2⟩, q1, q2, q3, s2 _ _ q4, t2 _ _ q5⟩
  done := by
    intro X hP hw hK hc i pins s σ H E I hf st hg
    subst hP hw hK
    obtain ⟨hz, hTI, ⟨x0, y0, hTO⟩, h1, h2⟩ := st
    obtain ⟨vs, ws, hqx, hqy, rfl⟩ := hg
    have nN : N ∉ a.cells := fun z => Nat.lt_irrefl _ (ha _ z)
    have nN1 : N + 1 ∉ b.cells := fun z => Nat.lt_irrefl _ (Nat.lt_of_succ_lt (hb _ z))
    obtain ⟨P1, St1, D1, s1, s2, s3, _⟩ := Src.draws I hqx h1 nN
    have D1 := D1 X.A.in1 (I.ok.hd hc)
    obtain ⟨P2, St2, D2, t1, t2, t3, _⟩ := Src.draws I hqy h2 nN1
    have D2 := D2 X.A.in1 (I.ok.hd hc)
    have W := GoesN.zip2 (elts := elts) (x1 := kk) (pos := tpos) (zip_sep2 ha hb) D1 D2
    refine done_any I hf W (fun c hc => ?_) ⟨hz, hTI, ⟨x0, y0, hTO⟩, s1, t1⟩
    have hc : c = N + 4 ∨ c = N + 3 ∨ c = N ∨ c = N + 1 := by simpa using hc
    rcases hc with rfl | rfl | rfl | rfl <;> simp
  self := fun A i s Q E st h => wpAny_pyIter_zip st.1 h
def iZi (K : PySem.W.Frag) (ta tb : TE) : TI := fun σ H R => ta σ H fun v H1 => tb σ H1 fun u H2 => ∃ a b vs ws, [v, u] = [Src.v a, Src.v b] ∧ a.At K H2 vs ∧ b.At K H2 ws ∧ R (Jzi K a b) H2
theorem pi_zi {X : Cx} {e e2 : Expr} {ta tb : TE} {p pos tpos : Pos} {elts : List Expr} {kk : Nat} (hg : Gl X "zip") (hm : X.mg "zip" = none) (ha : PE X e ta) (hb : PE X e2 tb) (hs : isStar e = false) (hs2 : isStar e2 = false) :
    PI X (.Tuple elts kk tpos) (.Call (.Name "zip" p) [e, e2] [] pos) (iZi X.K ta tb) := by
  refine ⟨fun pins s σ H R I h => ?_⟩
  have pa : PA X [e, e2] (tCons ta (tCons tb tNil)) := pa_cons ha (pa_cons hb pa_nil (starEach_no hs2)) (starEach_no hs)
  refine Call_ (ld_blt I hg hm PyProof.Rows.boot_zip (PyProof.Rows.callWith_type1 (thn (pa.run pos pins s σ H (fun vs H1 => ∃ a b xs ys, vs = [Src.v a, Src.v b] ∧ a.At X.K H1 xs ∧ b.At X.K H1 ys ∧ R (Jzi X.K a b) H1) I h) fun us s1 ⟨vs, H1, I1, r1, q1⟩ => ?_) (starEach_no hs) (by rw [starEach_no hs2]; rfl)))
  obtain ⟨a, b, xs, ys, rfl, hqx, hqy, q⟩ := q1
  cases r1 with
  | cons r rr =>
    cases rr with
    | cons r' rr =>
      cases rr
      obtain ⟨t, Hb, B, hb, hit, hlt⟩ := Src.begins I1 hqx r
      obtain ⟨t2, Hb2, B2, hb2, hit2, hlt2⟩ := Src.begins I1 hqy r'
      refine zip_begins2 B B2 hb hb2 fun h' hz hTI hTO h1 h2 hsz hk => wpAny_pyIter_zip hz ?_
      have I2 : Inv X pins σ H1 { s1 with heap := h' } := I1.kept (t' := s1.toks) hk
      refine ⟨s1.heap.objs.size + 4, _, _, _, H1, rfl, I2, turn_zi a b s1.heap.objs.size hlt hlt2, ⟨hz, hTI, ⟨_, _, hTO⟩, hit _ _ h1, hit2 _ _ h2⟩, fun c hc => ?_, q⟩
      have hle : s1.heap.objs.size ≤ c := by
        have hc : c = s1.heap.objs.size + 4 ∨ c = s1.heap.objs.size + 2 ∨ c = s1.heap.objs.size + 3 ∨ c = s1.heap.objs.size ∨ c = s1.heap.objs.size + 1 := by simpa using hc
        rcases hc with z | z | z | z | z <;> rw [z] <;> first | exact Nat.le_refl _ | exact Nat.le_add_right _ _
      exact I1.fpOk hle (I1.hok.fresh hle)
end
end PV
set_option Elab.async false
set_option linter.all false
set_option maxRecDepth 100000
set_option maxHeartbeats 1000000
set_option autoImplicit false
namespace PV
noncomputable section
open PySem PySem.Spec PyProof.Rows L2
/-! ### dicts walked -/
/-- the object is a dict with these pairs -/
structure DP (od : Obj) (es : Array DictEntry) (ep : Nat) (ps : List (V × V)) : Prop where
  ex : od.ExactDict
  dat : od.data = .dict es ep
  len : es.size = ps.length
  ent : ∀ i (hi : i < es.size), ∃ p, ps[i]? = some p ∧ RelV p.1 es[i].key ∧ RelV p.2 es[i].val
/-- what a locked thing holds -/
def PsOf (P : Program) (w : World) (d : Addr) (u : HO) (ps : List (V × V)) : Prop := (∃ kvs : List (Key × V), u = .dK kvs ∧ ps = kvs.map fun q => (kV q.1, q.2)) ∨ (∃ xs : XE, u = xdO P w d xs ∧ ps = xs.map fun x => (.ref x.2.1, x.2.2))
section
variable {X : Cx} {pins : List (Addr × Obj)} {σ : L2.St} {H : Hp} {s : Shared} {d : Addr} {od : Obj} {u : HO} {ps : List (V × V)}
theorem xp_get : ∀ {xs : XE} {ys : List (NestedKey × Addr × Value)}, XP xs ys → ∀ {i : Nat} {y : NestedKey × Addr × Value}, ys[i]? = some y → ∃ x, xs[i]? = some x ∧ x.2.1 = y.2.1 ∧ RelV x.2.2 y.2.2
  | _, _, .nil, i, y, e => by simp at e
  | _, _, .cons h t, 0, y, e => by simp at e; subst e; exact ⟨_, rfl, h.2.1, h.2.2⟩
  | _, _, .cons h t, i + 1, y, e => by
    obtain ⟨x, a, b⟩ := xp_get t (i := i) (y := y) (by simpa using e)
    exact ⟨x, by simpa using a, b⟩
theorem dp_of (I : Inv X pins σ H s) (h : H d = some (.frz od u)) (hp : PsOf X.prog X.w d u ps) : (d == sysModules) = false ∧ s.heap.get? d = some od ∧ ∃ es ep, DP od es ep ps := by
  obtain ⟨hg, ok⟩ := I.hok d _ h
  rcases hp with ⟨kvs, rfl, rfl⟩ | ⟨xs, rfl, rfl⟩
  · obtain ⟨_, hs, vs, kv, dd⟩ := ok
    obtain ⟨es, ep, ⟨o, ho, hx, hd⟩, hsz, hat⟩ := dd.raw
    rw [hg] at ho
    cases ho
    have hl : kvs.length = vs.length := Paired.length kv
    refine ⟨hs, hg, es, ep, hx, hd, by rw [hsz, List.length_map, hl], fun i hi => ?_⟩
    have hi2 : i < kvs.length := by rw [hl, ← hsz]; exact hi
    obtain ⟨v, e1, e2⟩ := kv_get kv (show kvs[i]? = some (kvs[i].1, kvs[i].2) from List.getElem?_eq_getElem hi2)
    obtain ⟨k1, k2⟩ := hat i hi _ _ e1
    refine ⟨(kV kvs[i].1, kvs[i].2), by rw [List.getElem?_map, List.getElem?_eq_getElem hi2]; rfl, relV_key k1, ?_⟩
    show RelV kvs[i].2 es[i].val
    rw [k2]
    exact e2
  · obtain ⟨⟨hs, ys, hp, o, es, ep, h1, h2, h3, h4, h5⟩, _⟩ := ok
    rw [hg] at h1
    cases h1
    have hl := xp_len hp
    have hsz : es.size = ys.length := by
      have := congrArg List.length h4
      simpa using this
    refine ⟨hs, hg, es, ep, h2, h3, by rw [hsz, List.length_map, hl], fun i hi => ?_⟩
    have hi2 : i < ys.length := by rw [← hsz]; exact hi
    obtain ⟨x, e1, e2, e3⟩ := xp_get hp (List.getElem?_eq_getElem hi2)
    have e4 : es[i] = entryOfKey (nestedKind X.prog X.w) ys[i] := by
      have z : es.toList[i]? = some (entryOfKey (nestedKind X.prog X.w) ys[i]) := by rw [h4, List.getElem?_map, List.getElem?_eq_getElem hi2]; rfl
      rw [Array.getElem?_toList, Array.getElem?_eq_getElem hi] at z
      exact Option.some.inj z
    refine ⟨(.ref x.2.1, x.2.2), by rw [List.getElem?_map, e1]; rfl, ?_, ?_⟩
    · show es[i].key = Value.ref x.2.1
      rw [e4, e2]
      rfl
    · show RelV x.2.2 es[i].val
      rw [e4]
      exact e3
end
def GoD (d : Addr) (od : Obj) (H : Hp) : Prop := ∃ u, H d = some (.frz od u)
def Jk (d : Addr) (od : Obj) (ps : List (V × V)) : It := ⟨fun i H => GoD d od H ∧ i < ps.length, fun i H x H' => H' = H ∧ ∃ p, ps[i]? = some p ∧ x = p.1, fun i H => GoD d od H ∧ i = ps.length⟩
def Jv (d : Addr) (od : Obj) (ps : List (V × V)) : It := ⟨fun i H => GoD d od H ∧ i < ps.length, fun i H x H' => H' = H ∧ ∃ p, ps[i]? = some p ∧ x = p.2, fun i H => GoD d od H ∧ i = ps.length⟩
def Ji (d : Addr) (od : Obj) (ps : List (V × V)) : It := ⟨fun i H => GoD d od H ∧ i < ps.length, fun i H x H' => ∃ T xs, x = .ref T ∧ H T = none ∧ H' = upd H T (.tup xs) ∧ ∃ p, ps[i]? = some p ∧ xs = [p.1, p.2], fun i H => GoD d od H ∧ i = ps.length⟩
section
variable {P : Program} {w : World} {K : PySem.W.Frag} {tg : Expr} {d it : Addr} {od : Obj} {ps : List (V × V)} {es : Array DictEntry} {ep : Nat}
theorem god_at {X : Cx} {pins : List (Addr × Obj)} {σ : L2.St} {H : Hp} {s : Shared} (I : Inv X pins σ H s) (g : GoD d od H) (q : DP od es ep ps) : s.heap.DictRaw d es ep := by
  obtain ⟨u, h⟩ := g
  exact ⟨od, (I.hok d _ h).1, q.ex, q.dat⟩
theorem turn_k (q : DP od es ep ps) (hne : d ≠ it) : Turn P w K tg (Jk d od ps) [it] it (fun i h => h.IsKeyIter it d i es.size ep) where
  mem := by simp
  obj := fun i h st b hb => by
    obtain rfl : b = it := by simpa using hb
    obtain ⟨oi, e, c, dd⟩ := st
    exact ⟨oi, e, fun v z => by rw [dd] at z; cases z⟩
  keep := fun i h h' ⟨oi, e, r⟩ k => ⟨oi, k it (by simp) oi e, r⟩
  item := by
    intro X hP hw hK hc i pins s σ H E I hf st hg
    subst hP hw hK
    have W := (Goes.rawKeys (prog := X.prog) (w := X.w) (A := X.A) (target := tg) (I.ok.hd hc) it d hne es ep).toN
    refine item_plain (yl := fun x => ∃ p, ps[i]? = some p ∧ x = p.1) (tn := fun h => h.IsKeyIter it d (i + 1) es.size ep) I hf W (fun b hb => hb) (by rw [q.len]; exact hg.2) ⟨st, god_at I hg.1 q⟩ fun v h' hY st' => ?_
    obtain ⟨hi, rfl⟩ := hY
    obtain ⟨p, e1, e2, e3⟩ := q.ent i hi
    exact ⟨p.1, e2, ⟨p, e1, rfl⟩, st'.1⟩
  done := by
    intro X hP hw hK hc i pins s σ H E I hf st hg
    subst hP hw hK
    obtain ⟨g, rfl⟩ := hg
    have W := (Goes.rawKeys (prog := X.prog) (w := X.w) (A := X.A) (target := tg) (I.ok.hd hc) it d hne es ep).toN
    exact done_any I hf W (fun b hb => hb) (by rw [q.len]; exact ⟨by rw [← q.len] at st ⊢; exact st, god_at I g q⟩)
  self := fun A i s Q E st h => wpAny_pyIter_keyiter st h
theorem turn_v (q : DP od es ep ps) (hne : d ≠ it) : Turn P w K tg (Jv d od ps) [it] it (fun i h => h.IsValIter it d i es.size ep) where
  mem := by simp
  obj := fun i h st b hb => by
    obtain rfl : b = it := by simpa using hb
    obtain ⟨oi, e, c, dd⟩ := st
    exact ⟨oi, e, fun v z => by rw [dd] at z; cases z⟩
  keep := fun i h h' ⟨oi, e, r⟩ k => ⟨oi, k it (by simp) oi e, r⟩
  item := by
    intro X hP hw hK hc i pins s σ H E I hf st hg
    subst hP hw hK
    have W := (Goes.rawValues (prog := X.prog) (w := X.w) (A := X.A) (target := tg) (I.ok.hd hc) it d hne es ep).toN
    refine item_plain (yl := fun x => ∃ p, ps[i]? = some p ∧ x = p.2) (tn := fun h => h.IsValIter it d (i + 1) es.size ep) I hf W (fun b hb => hb) (by rw [q.len]; exact hg.2) ⟨st, god_at I hg.1 q⟩ fun v h' hY st' => ?_
    obtain ⟨hi, rfl⟩ := hY
    obtain ⟨p, e1, e2, e3⟩ := q.ent i hi
    exact ⟨p.2, e3, ⟨p, e1, rfl⟩, st'.1⟩
  done := by
    intro X hP hw hK hc i pins s σ H E I hf st hg
    subst hP hw hK
    obtain ⟨g, rfl⟩ := hg
    have W := (Goes.rawValues (prog := X.prog) (w := X.w) (A := X.A) (target := tg) (I.ok.hd hc) it d hne es ep).toN
    exact done_any I hf W (fun b hb => hb) (by rw [q.len]; exact ⟨by rw [← q.len] at st ⊢; exact st, god_at I g q⟩)
  self := fun A i s Q E st h => wpAny_pyIter_valiter st h
theorem turn_i {elts : List Expr} {kk : Nat} {tpos : Pos} (q : DP od es ep ps) (hne : d ≠ it) : Turn P w K (.Tuple elts kk tpos) (Ji d od ps) [it] it (fun i h => ∃ ok ov, IsItemIter h it d i es.size ep ok ov) where
  mem := by simp
  obj := fun i h st b hb => by
    obtain rfl : b = it := by simpa using hb
    obtain ⟨ok, ov, e⟩ := st
    exact ⟨_, e, fun v z => nomatch z⟩
  keep := fun i h h' ⟨ok, ov, e⟩ k => ⟨ok, ov, k it (by simp) _ e⟩
  item := by
    intro X hP hw hK hc i pins s σ H E I hf st hg
    subst hP hw hK
    have W := GoesN.rawItems (prog := X.prog) (w := X.w) (A := X.A) (elts := elts) (x1 := kk) (pos := tpos) (I.ok.hd hc) it d hne es ep
    have hlt : it < s.heap.objs.size := by obtain ⟨_, _, e⟩ := st; exact Heap.lt_size e
    refine item_tup (yl := fun xs => ∃ p, ps[i]? = some p ∧ xs = [p.1, p.2]) (tn := fun h => ∃ ok ov, IsItemIter h it d (i + 1) es.size ep ok ov) I hf (fun b hb => by obtain rfl : b = it := (by simpa using hb); exact hlt) W (fun b hb => hb) (by rw [q.len]; exact hg.2) ⟨st, god_at I hg.1 q⟩ fun v h' hY st' => ?_
    obtain ⟨T, hi, rfl, hT, ht⟩ := hY
    obtain ⟨p, e1, e2, e3⟩ := q.ent i hi
    exact ⟨T, [es[i].key, es[i].val], [p.1, p.2], rfl, hT, ht, by show 2 ≤ sizeLine; decide, .cons e2 (.cons e3 .nil), ⟨p, e1, rfl⟩, st'.1⟩
  done := by
    intro X hP hw hK hc i pins s σ H E I hf st hg
    subst hP hw hK
    obtain ⟨g, rfl⟩ := hg
    have W := GoesN.rawItems (prog := X.prog) (w := X.w) (A := X.A) (elts := elts) (x1 := kk) (pos := tpos) (I.ok.hd hc) it d hne es ep
    exact done_any I hf W (fun b hb => hb) (by rw [q.len]; exact ⟨by rw [← q.len] at st ⊢; exact st, god_at I g q⟩)
  self := fun A i s Q E st h => let ⟨_, _, e⟩ := st; PySem.W.kcp_self e h
end
section
variable {X : Cx} {tg e : Expr} {td : TE} {apos cpos : Pos}
/-- behind a dict's expression: it is locked -/
def LkD (P : Program) (w : World) (R : Addr → Obj → List (V × V) → Hp → Prop) (x : V) (H1 : Hp) : Prop := ∃ d od u ps, x = .ref d ∧ H1 d = some (.frz od u) ∧ PsOf P w d u ps ∧ R d od ps H1
def iDV (P : Program) (w : World) (td : TE) : TI := fun σ H R => tLk td σ H (LkD P w fun d od ps H1 => R (Jv d od ps) H1)
def iDI (P : Program) (w : World) (td : TE) : TI := fun σ H R => tLk td σ H (LkD P w fun d od ps H1 => R (Ji d od ps) H1)
theorem keys_pie {pins : List (Addr × Obj)} {σ : L2.St} {H1 : Hp} {s1 : Shared} {R : It → Hp → Prop} {d : Addr} {od : Obj} {u : HO} {ps : List (V × V)} (I1 : Inv X pins σ H1 s1) (hd : H1 d = some (.frz od u)) (hp : PsOf X.prog X.w d u ps) (q : R (Jk d od ps) H1) :
    wpAny (model X.prog X.w) X.A (pyIter (.ref d)) (PIE X pins σ tg R) X.xe s1 := by
  obtain ⟨hs, hg, es, ep, dp⟩ := dp_of I1 hd hp
  have hne : d ≠ s1.heap.objs.size := Nat.ne_of_lt (Heap.lt_size hg)
  exact wpAny_pyIter_dict_raw hs ⟨od, hg, dp.ex, dp.dat⟩ (pi_one (tk := s1.toks) I1 _ (turn_k dp hne) ⟨_, Heap.get?_push_size _ rfl, rfl, rfl⟩ q)
theorem pi_dv (he : PE X e td) (hbase : attributeBase e "values" X.env (eval e X.env) = eval e X.env) (hline : (apos.endLine == cpos.line) = true) : PI X tg (.Call (.Attribute e "values" apos) [] [] cpos) (iDV X.prog X.w td) := by
  refine ⟨fun pins s σ H R I h => ?_⟩
  refine wpAny_Call_method (T := "dict") (id := "dict.values") hbase rfl hline F.plainAttrs_dict F.slot_dict_values F.type_dict_values (thn ((pe_lk he).run pins s σ H _ I h) fun v s1 ⟨x, H1, I1, rx, d, od, u, ps, ex, hd, hp, q⟩ => ?_)
  subst ex
  obtain rfl : v = Value.ref d := rx
  obtain ⟨hs, hg, es, ep, dp⟩ := dp_of I1 hd hp
  have raw : s1.heap.DictRaw d es ep := ⟨od, hg, dp.ex, dp.dat⟩
  refine ⟨raw.typeIs, fun a z => by cases z; exact ⟨od, hg, dp.ex.2.1⟩, ?_⟩
  have I2 : Inv X pins σ H1 { s1 with heap := s1.heap.push { cls := .type "dict_values", data := .fields #[.ref d] } } := I1.kept (t' := s1.toks) fun b ob q => Heap.get?_push_of_some _ q
  have hg2 := Heap.get?_push_of_some (h := s1.heap) { cls := .type "dict_values", data := .fields #[.ref d] } hg
  have hne : d ≠ (s1.heap.push { cls := .type "dict_values", data := .fields #[.ref d] }).objs.size := Nat.ne_of_lt (Heap.lt_size hg2)
  have fin : wpAny (model X.prog X.w) X.A (pyIter (.ref s1.heap.objs.size)) (PIE X pins σ tg R) X.xe { s1 with heap := s1.heap.push { cls := .type "dict_values", data := .fields #[.ref d] } } :=
    wpAny_pyIter_values_raw (d := d) ⟨_, Heap.get?_push_size _ rfl, rfl, rfl⟩ ⟨od, hg2, dp.ex, dp.dat⟩ (pi_one (tk := s1.toks) I2 _ (turn_v dp hne) ⟨_, Heap.get?_push_size _ rfl, rfl, rfl⟩ q)
  show wpAny _ _ (callWith cpos (.builtin "dict.values") [.ref d] [] []) _ X.xe s1
  exact method_meetsIn F.slot_dict_values F.entry_dict_values rfl (PySem.evalArgs_none ⟨rfl, raw.typeIs, F.args_dict_values_1 _, _, meets_dict_values_raw d hs, ⟨es, ep, raw⟩, fin⟩)
theorem pi_di {elts : List Expr} {kk : Nat} {tpos : Pos} (he : PE X e td) (hbase : attributeBase e "items" X.env (eval e X.env) = eval e X.env) (hline : (apos.endLine == cpos.line) = true) : PI X (.Tuple elts kk tpos) (.Call (.Attribute e "items" apos) [] [] cpos) (iDI X.prog X.w td) := by
  refine ⟨fun pins s σ H R I h => ?_⟩
  refine wpAny_Call_method (T := "dict") (id := "dict.items") hbase rfl hline F.plainAttrs_dict F.slot_dict_items F.type_dict_items (thn ((pe_lk he).run pins s σ H _ I h) fun v s1 ⟨x, H1, I1, rx, d, od, u, ps, ex, hd, hp, q⟩ => ?_)
  subst ex
  obtain rfl : v = Value.ref d := rx
  obtain ⟨hs, hg, es, ep, dp⟩ := dp_of I1 hd hp
  have raw : s1.heap.DictRaw d es ep := ⟨od, hg, dp.ex, dp.dat⟩
  refine ⟨raw.typeIs, fun a z => by cases z; exact ⟨od, hg, dp.ex.2.1⟩, ?_⟩
  have I2 : Inv X pins σ H1 { s1 with heap := s1.heap.push { cls := .type "dict_items", data := .fields #[.ref d] } } := I1.kept (t' := s1.toks) fun b ob q => Heap.get?_push_of_some _ q
  have hg2 := Heap.get?_push_of_some (h := s1.heap) { cls := .type "dict_items", data := .fields #[.ref d] } hg
  have hne : d ≠ (s1.heap.push { cls := .type "dict_items", data := .fields #[.ref d] }).objs.size := Nat.ne_of_lt (Heap.lt_size hg2)
  have fin : wpAny (model X.prog X.w) X.A (pyIter (.ref s1.heap.objs.size)) (PIE X pins σ (.Tuple elts kk tpos) R) X.xe { s1 with heap := s1.heap.push { cls := .type "dict_items", data := .fields #[.ref d] } } :=
    wpAny_pyIter_items_raw (d := d) ⟨_, Heap.get?_push_size _ rfl, rfl, rfl⟩ ⟨od, hg2, dp.ex, dp.dat⟩ (pi_one (tk := s1.toks) I2 _ (turn_i dp hne) ⟨.none, .none, Heap.get?_push_size _ rfl⟩ q)
  show wpAny _ _ (callWith cpos (.builtin "dict.items") [.ref d] [] []) _ X.xe s1
  exact method_meetsIn F.slot_dict_items F.entry_dict_items rfl (PySem.evalArgs_none ⟨rfl, raw.typeIs, F.args_dict_items_1 _, _, meets_dict_items_raw d hs, ⟨es, ep, raw⟩, fin⟩)
end
end
end PV
set_option Elab.async false
set_option linter.all false
set_option maxRecDepth 100000
set_option maxHeartbeats 1000000
set_option autoImplicit false
namespace PV
noncomputable section
open PySem PySem.Spec PyProof.Rows L2
section
variable {G : Gs} {K : PySem.W.Frag} {C C' : Cx → Prop} {X : Cx}
theorem lk_none {ρ : Nat → Addr} {n : Nat} {H : Hp} {go : Nat → VH → Option (Option D)} : LkOk ρ n H ⟨go, none⟩ := fun a e => by cases e
/-! ### what is walked: lists, tuples, texts, dicts -/
def SeqQ (P : Program) (w : World) (K : PySem.W.Frag) (R : It → Hp → Prop) (x : V) (H1 : Hp) : Prop :=
  ((∃ a, x = .ref a ∧ (∃ xs, SqL K H1 a xs) ∧ R (Itl K a) H1) ∨ (∃ a, x = .ref a ∧ (∃ xs, SqT K H1 a xs) ∧ R (Itt K a) H1) ∨ ∃ z, x = .str z ∧ R (Its z) H1) ∨ LkD P w (fun d od ps H1 => R (Jk d od ps) H1) x H1
def iSeq (P : Program) (w : World) (K : PySem.W.Frag) (te : TE) : TI := fun σ H R => tLk te σ H (SeqQ P w K R)
theorem pi_seq {tg e : Expr} {te : TE} (he : PE X e te) : PI X tg e (iSeq X.prog X.w X.K te) := by
  refine ⟨fun pins s σ H R I h => thn ((pe_lk he).run pins s σ H _ I h) fun v s1 ⟨x, H1, I1, r1, q1⟩ => ?_⟩
  rcases q1 with (⟨a, rfl, ⟨xs, hx⟩, q⟩ | ⟨a, rfl, ⟨xs, hx⟩, q⟩ | ⟨z, rfl, q⟩) | ⟨d, od, u, ps, rfl, hd, hp, q⟩
  · cases r1
    obtain ⟨its, rv, pl, hz⟩ := I1.list hx
    exact wpAny_pyIter_list pl.isList (pi_one (tk := s1.toks) I1 _ (turn_list a _) ⟨_, Heap.get?_push_size _ rfl, rfl, rfl⟩ q)
  · cases r1
    obtain ⟨its, rv, pl, hz⟩ := I1.tuple hx
    exact wpAny_pyIter_tuple (show s1.heap.IsTuple a its.toArray from pl) (pi_one (tk := s1.toks) I1 _ (turn_tuple a _) ⟨_, Heap.get?_push_size _ rfl, rfl, rfl⟩ q)
  · obtain ⟨t, rfl⟩ := r1
    cases ha : z.cps.all (· < 128) with
    | false => exact wpAny_pyIter_wide ha (pi_one (tk := s1.toks) I1 _ (turn_str _ z t _ (.inr rfl)) ⟨_, Heap.get?_push_size _ rfl, rfl, rfl⟩ q)
    | true => exact wpAny_pyIter_ascii ha (pi_one (tk := s1.toks) I1 _ (turn_str _ z t _ (.inl rfl)) ⟨_, Heap.get?_push_size _ rfl, rfl, rfl⟩ q)
  · obtain rfl : v = Value.ref d := r1
    exact keys_pie I1 hd hp q
/-- the steps over a list of items that stay -/
def stpL (xs : List D) : Stp := ⟨fun i _ => some xs[i]?, none⟩
/-- the steps over the list at a, as it stands at each turn -/
def stpA (a : Nat) : Stp := ⟨fun i h => match h.get a with
  | some (.lst xs) => some xs[i]?
  | _ => none, none⟩
/-- .. and the end is met at its place -/
def goN (xs : List D) (i : Nat) : Option (Option D) := match xs[i]? with
  | some d => some (some d)
  | none => if xs.length = i then some none else none
/-- the pairs of a dict, as data -/
def DPs (K : PySem.W.Frag) (ρ : Nat → Addr) (n : Nat) (H : Hp) (kvs : List (D × D)) (ps : List (V × V)) : Prop := RelDs K ρ n H (kvs.map (·.1)) (ps.map (·.1)) ∧ RelDs K ρ n H (kvs.map (·.2)) (ps.map (·.2))
theorem dps_k {ρ : Nat → Addr} {n : Nat} {H : Hp} : ∀ {kvs : List (D × D)} {es : List (Key × V)}, DRel K ρ n H kvs es → DPs K ρ n H kvs (es.map fun q => (kV q.1, q.2))
  | [], es, h => by cases h; exact ⟨relDs_nil.mpr rfl, relDs_nil.mpr rfl⟩
  | q :: r, es, h => by
    obtain ⟨k, v, es', rfl, a, b, c⟩ := h
    obtain ⟨h1, h2⟩ := dps_k c
    refine ⟨relDs_cons.mpr ⟨_, _, rfl, ?_, h1⟩, relDs_cons.mpr ⟨_, _, rfl, b, h2⟩⟩
    obtain ⟨d, e⟩ := q
    cases d with
    | int i => cases a; exact relD_int.mpr rfl
    | str s => obtain ⟨rfl, o⟩ := a; exact relD_str.mpr ⟨rfl, o⟩
    | _ => exact a.elim
theorem dps_x {ρ : Nat → Addr} {n : Nat} {H : Hp} : ∀ {kvs : List (D × D)} {xs : XE}, XRel K ρ n H kvs xs → DPs K ρ n H kvs (xs.map fun x => (.ref x.2.1, x.2.2))
  | [], es, h => by cases h; exact ⟨relDs_nil.mpr rfl, relDs_nil.mpr rfl⟩
  | q :: r, es, h => by
    obtain ⟨b, v, xs', rfl, t, rk, rv, c⟩ := h
    obtain ⟨h1, h2⟩ := dps_x c
    exact ⟨relDs_cons.mpr ⟨_, _, rfl, rk, h1⟩, relDs_cons.mpr ⟨_, _, rfl, rv, h2⟩⟩
theorem DPs.mono0 {ρ ρ' : Nat → Addr} {n n' : Nat} {H H' : Hp} (l : Le0 K ρ n H ρ' n' H') {kvs : List (D × D)} {ps : List (V × V)} (h : DPs K ρ n H kvs ps) : DPs K ρ' n' H' kvs ps := ⟨h.1.mono0 l, h.2.mono0 l⟩
theorem DPs.mono {ρ ρ' : Nat → Addr} {n n' : Nat} {H H' : Hp} (l : Le K ρ n H ρ' n' H') {kvs : List (D × D)} {ps : List (V × V)} (h : DPs K ρ n H kvs ps) : DPs K ρ' n' H' kvs ps := ⟨h.1.mono l, h.2.mono l⟩
theorem DPs.len {ρ : Nat → Addr} {n : Nat} {H : Hp} {kvs : List (D × D)} {ps : List (V × V)} (h : DPs K ρ n H kvs ps) : kvs.length = ps.length := by
  have := relDs_len h.1
  simpa using this
theorem DPs.get {ρ : Nat → Addr} {n : Nat} {H : Hp} {kvs : List (D × D)} {ps : List (V × V)} (h : DPs K ρ n H kvs ps) {i : Nat} {q : D × D} (e : kvs[i]? = some q) : ∃ p, ps[i]? = some p ∧ RelD K ρ n H q.1 p.1 ∧ RelD K ρ n H q.2 p.2 := by
  have lt : i < ps.length := by rw [← h.len]; exact (List.getElem?_eq_some_iff.mp e).1
  obtain ⟨v1, e1, r1⟩ := relDs_get h.1 (i := i) (x := q.1) (by rw [List.getElem?_map, e]; rfl)
  obtain ⟨v2, e2, r2⟩ := relDs_get h.2 (i := i) (x := q.2) (by rw [List.getElem?_map, e]; rfl)
  rw [List.getElem?_map, List.getElem?_eq_getElem lt] at e1 e2
  cases e1
  cases e2
  exact ⟨_, List.getElem?_eq_getElem lt, r1, r2⟩
/-- a dict, locked where it was not -/
def lockD (x : D) : M (List (D × D) × Option Nat) := fun h => match x with
  | .ref a => match h.get a with
    | some (.dic kvs) => .ret (.ok (kvs, some a) (h.set a (.lck kvs)))
    | some (.lck kvs) => .ret (.ok (kvs, none) h)
    | some (.dix kvs) => .ret (.ok (kvs, some a) (h.set a (.lcx kvs)))
    | some (.lcx kvs) => .ret (.ok (kvs, none) h)
    | _ => .ret .bad
  | _ => .ret .bad
/-- the locking, read -/
theorem lock_use {R : Addr → Obj → List (V × V) → Hp → Prop} {P0 : PV.R (List (D × D) × Option Nat) → Prop} {ρ ρ1 : Nat → Addr} {n : Nat} {h1 : VH} {H H1 : Hp} {x : D} {v : V} (l1 : Le K ρ n H ρ1 h1.n H1) (hr1 : HR G K ρ1 h1 H1) (rx : RelD K ρ1 h1.n H1 x v) (hq : (lockD x h1).all P0) (hb : P0 .bad → False)
    (k : ∀ kvs lk h2 H2 d od ps, P0 (.ok (kvs, lk) h2) → Le K ρ n H ρ1 h2.n H2 → HR G K ρ1 h2 H2 → DPs K ρ1 h2.n H2 kvs ps → GoD d od H2 → LkOk ρ1 h2.n H ⟨fun _ _ => none, lk⟩ → R d od ps H2) :
    LkD G.P G.w R v H1 ∨ ∃ d u, v = .ref d ∧ H1 d = some u ∧ Mut (some u) ∧ ∀ od, LkD G.P G.w R v (upd H1 d (.frz od u)) := by
  unfold lockD at hq
  cases x with
  | ref a =>
    simp only at hq
    rw [relD_ref] at rx
    obtain ⟨ha, rfl⟩ := rx
    cases ea : h1.get a with
    | none => rw [ea] at hq; exact (hb hq).elim
    | some ob =>
      rw [ea] at hq
      cases ob with
      | dic kvs =>
        obtain ⟨es, e, r, nd⟩ := hr1.at ea
        refine .inr ⟨_, _, rfl, e, trivial, fun od => ⟨_, od, _, _, rfl, upd_same, .inl ⟨es, rfl, rfl⟩, ?_⟩⟩
        have lc : Le K ρ1 h1.n H1 ρ1 h1.n (upd H1 (ρ1 a) (.frz od (.dK es))) := Le.chg ha e trivial
        refine k kvs (some a) (h1.set a (.lck kvs)) _ _ od _ hq (l1.trans lc) (hr1.chg ha e trivial ⟨od, es, upd_same, r.mono lc, nd⟩) ((dps_k r).mono lc) ⟨_, upd_same⟩ fun b hb2 => ?_
        cases hb2
        exact ⟨ha, fun o u z => by rw [l1.lk _ _ _ z] at e; cases e⟩
      | lck kvs =>
        obtain ⟨od, es, e, r, nd⟩ := hr1.at ea
        exact .inl ⟨_, od, _, _, rfl, e, .inl ⟨es, rfl, rfl⟩, k kvs none h1 H1 _ od _ hq l1 hr1 (dps_k r) ⟨_, e⟩ lk_none⟩
      | dix kvs =>
        obtain ⟨es, e, r, nd⟩ := hr1.at ea
        refine .inr ⟨_, _, rfl, e, trivial, fun od => ⟨_, od, _, _, rfl, upd_same, .inr ⟨es, rfl, rfl⟩, ?_⟩⟩
        have lc : Le K ρ1 h1.n H1 ρ1 h1.n (upd H1 (ρ1 a) (.frz od (xdO G.P G.w (ρ1 a) es))) := Le.chg ha e trivial
        refine k kvs (some a) (h1.set a (.lcx kvs)) _ _ od _ hq (l1.trans lc) (hr1.chg ha e trivial ⟨od, es, upd_same, r.mono lc, nd⟩) ((dps_x r).mono lc) ⟨_, upd_same⟩ fun b hb2 => ?_
        cases hb2
        exact ⟨ha, fun o u z => by rw [l1.lk _ _ _ z] at e; cases e⟩
      | lcx kvs =>
        obtain ⟨od, es, e, r, nd⟩ := hr1.at ea
        exact .inl ⟨_, od, _, _, rfl, e, .inr ⟨es, rfl, rfl⟩, k kvs none h1 H1 _ od _ hq l1 hr1 (dps_x r) ⟨_, e⟩ lk_none⟩
      | _ => exact (hb hq).elim
  | _ => exact (hb hq).elim
theorem god_le {ρ ρ' : Nat → Addr} {n n' : Nat} {H H' : Hp} {d : Addr} {od : Obj} (g : GoD d od H) (l : Lw K ρ n H ρ' n' H') : GoD d od H' := let ⟨u, e⟩ := g; ⟨u, l.lk _ _ _ e⟩
def stpK (kvs : List (D × D)) (lk : Option Nat) : Stp := ⟨fun i _ => goN (kvs.map (·.1)) i, lk⟩
def stpV (kvs : List (D × D)) (lk : Option Nat) : Stp := ⟨fun i _ => goN (kvs.map (·.2)) i, lk⟩
def stpI (kvs : List (D × D)) (lk : Option Nat) : Stp := ⟨fun i _ => goN (kvs.map fun q => .tup [q.1, q.2]) i, lk⟩
theorem itk_ok {ρ : Nat → Addr} {n : Nat} {H : Hp} {d : Addr} {od : Obj} {kvs : List (D × D)} {ps : List (V × V)} {lk : Option Nat} (r : DPs K ρ n H kvs ps) (g : GoD d od H) : ItOk G K ρ n H (Jk d od ps) (stpK kvs lk) := fun ρ2 h2 H2 i l2 hr2 => by
  have r2 := r.mono0 l2.z
  have g2 := god_le g l2
  unfold stpK goN
  simp only [List.getElem?_map, List.length_map]
  cases e : kvs[i]? with
  | none =>
    by_cases hz : kvs.length = i
    · simp only [Option.map_none, if_pos hz]
      exact ⟨g2, by rw [← hz, r2.len]⟩
    · simp only [Option.map_none, if_neg hz]
  | some q =>
    simp only [Option.map_some]
    obtain ⟨p, e1, e2, e3⟩ := r2.get e
    refine ⟨⟨g2, (List.getElem?_eq_some_iff.mp e1).1⟩, ?_⟩
    rintro x H3 ⟨rfl, p2, e4, rfl⟩
    rw [e1] at e4
    cases e4
    exact ⟨ρ2, Le.refl, hr2, e2⟩
theorem itv_ok {ρ : Nat → Addr} {n : Nat} {H : Hp} {d : Addr} {od : Obj} {kvs : List (D × D)} {ps : List (V × V)} {lk : Option Nat} (r : DPs K ρ n H kvs ps) (g : GoD d od H) : ItOk G K ρ n H (Jv d od ps) (stpV kvs lk) := fun ρ2 h2 H2 i l2 hr2 => by
  have r2 := r.mono0 l2.z
  have g2 := god_le g l2
  unfold stpV goN
  simp only [List.getElem?_map, List.length_map]
  cases e : kvs[i]? with
  | none =>
    by_cases hz : kvs.length = i
    · simp only [Option.map_none, if_pos hz]
      exact ⟨g2, by rw [← hz, r2.len]⟩
    · simp only [Option.map_none, if_neg hz]
  | some q =>
    simp only [Option.map_some]
    obtain ⟨p, e1, e2, e3⟩ := r2.get e
    refine ⟨⟨g2, (List.getElem?_eq_some_iff.mp e1).1⟩, ?_⟩
    rintro x H3 ⟨rfl, p2, e4, rfl⟩
    rw [e1] at e4
    cases e4
    exact ⟨ρ2, Le.refl, hr2, e3⟩
theorem iti_ok {ρ : Nat → Addr} {n : Nat} {H : Hp} {d : Addr} {od : Obj} {kvs : List (D × D)} {ps : List (V × V)} {lk : Option Nat} (r : DPs K ρ n H kvs ps) (g : GoD d od H) : ItOk G K ρ n H (Ji d od ps) (stpI kvs lk) := fun ρ2 h2 H2 i l2 hr2 => by
  have r2 := r.mono0 l2.z
  have g2 := god_le g l2
  unfold stpI goN
  simp only [List.getElem?_map, List.length_map]
  cases e : kvs[i]? with
  | none =>
    by_cases hz : kvs.length = i
    · simp only [Option.map_none, if_pos hz]
      exact ⟨g2, by rw [← hz, r2.len]⟩
    · simp only [Option.map_none, if_neg hz]
  | some q =>
    simp only [Option.map_some]
    obtain ⟨p, e1, e2, e3⟩ := r2.get e
    refine ⟨⟨g2, (List.getElem?_eq_some_iff.mp e1).1⟩, ?_⟩
    rintro x H3 ⟨T, xs, rfl, hT, rfl, p2, e4, rfl⟩
    rw [e1] at e4
    cases e4
    have lf : Le K ρ2 h2.n H2 ρ2 h2.n (upd H2 T (.tup [p.1, p.2])) := Le.upd_fresh hT
    exact ⟨ρ2, lf, hr2.fresh hT, relD_tup.mpr ⟨T, [p.1, p.2], rfl, .inl (.inl upd_same), relDs_two.mpr ⟨_, _, rfl, e2.mono lf, e3.mono lf⟩⟩⟩
def valsI (d : D) : M Stp := M.bind (lockD d) fun q => M.pure (stpV q.1 q.2)
def itemsI (d : D) : M Stp := M.bind (lockD d) fun q => M.pure (stpI q.1 q.2)
theorem si_vals {tg e : Expr} {apos cpos : Pos} {m : Env → M D} (hpw : ∀ X, C X → X.prog = G.P ∧ X.w = G.w) (hb : ∀ X, C X → attributeBase e "values" X.env (eval e X.env) = eval e X.env) (hl : (apos.endLine == cpos.line) = true) (he : SE G K C e m) :
    SI G K C tg (.Call (.Attribute e "values" apos) [] [] cpos) (fun env => M.bind (m env) valsI) := by
  obtain ⟨t, p, q⟩ := he
  refine ⟨iDV G.P G.w t, fun X hX eK => by rw [← (hpw X hX).1, ← (hpw X hX).2]; exact pi_dv (p X hX eK) (hb X hX) hl, fun ρ env h σ H R hr er hq => ?_⟩
  refine useE q hr er hq (fun z => z) fun ρ1 h1 H1 d v l1 hr1 rd z => ?_
  refine lock_use l1 hr1 rd (all_M (p := PostI G K ρ h.n H R) z (fun z => z)) (fun z => z) fun kvs lk h2 H2 d od ps z l2 hr2 r g lo => ?_
  exact z ρ1 H2 _ l2 hr2 (itv_ok r g) lo
theorem si_items {e : Expr} {elts : List Expr} {kk : Nat} {tpos apos cpos : Pos} {m : Env → M D} (hpw : ∀ X, C X → X.prog = G.P ∧ X.w = G.w) (hb : ∀ X, C X → attributeBase e "items" X.env (eval e X.env) = eval e X.env) (hl : (apos.endLine == cpos.line) = true) (he : SE G K C e m) :
    SI G K C (.Tuple elts kk tpos) (.Call (.Attribute e "items" apos) [] [] cpos) (fun env => M.bind (m env) itemsI) := by
  obtain ⟨t, p, q⟩ := he
  refine ⟨iDI G.P G.w t, fun X hX eK => by rw [← (hpw X hX).1, ← (hpw X hX).2]; exact pi_di (p X hX eK) (hb X hX) hl, fun ρ env h σ H R hr er hq => ?_⟩
  refine useE q hr er hq (fun z => z) fun ρ1 h1 H1 d v l1 hr1 rd z => ?_
  refine lock_use l1 hr1 rd (all_M (p := PostI G K ρ h.n H R) z (fun z => z)) (fun z => z) fun kvs lk h2 H2 d od ps z l2 hr2 r g lo => ?_
  exact z ρ1 H2 _ l2 hr2 (iti_ok r g) lo
end
end
end PV
set_option Elab.async false
set_option linter.all false
set_option maxRecDepth 100000
set_option maxHeartbeats 1000000
set_option autoImplicit false
namespace PV
noncomputable section
open PySem PySem.Spec PyProof.Rows L2
section
variable {G : Gs} {K : PySem.W.Frag} {C C' : Cx → Prop} {X : Cx}
def seqI (d : D) : M Stp := fun h => match d with
  | .tup xs => .ret (.ok (stpL xs) h)
  | .str s => .ret (.ok (stpL (s.map fun c => .str [c])) h)
  | .kls ns => .ret (.ok (stpL (ns.map .int)) h)
  | .ref a => match h.get a with
    | some (.lst _) => .ret (.ok (stpA a) h)
    | _ => M.bind (lockD (.ref a)) (fun q => M.pure (stpK q.1 q.2)) h
  | _ => .ret .bad
theorem itt_ok {ρ : Nat → Addr} {n : Nat} {H : Hp} {xs : List D} {vs : List V} {pa : Addr} (hp : SqT K H pa vs) (rs : RelDs K ρ n H xs vs) : ItOk G K ρ n H (Itt K pa) (stpL xs) := fun ρ2 h2 H2 i l2 hr2 => by
  have hp2 := l2.z.tp pa vs hp
  have rs2 := rs.mono0 l2.z
  unfold stpL
  simp only
  cases e : xs[i]? with
  | none =>
    refine ⟨vs, hp2, ?_⟩
    rw [← relDs_len rs]
    exact List.getElem?_eq_none_iff.mp e
  | some d =>
    obtain ⟨u, e2, rd⟩ := relDs_get rs2 e
    refine ⟨⟨vs, u, hp2, e2⟩, ?_⟩
    rintro x H3 ⟨rfl, hx⟩
    refine ⟨ρ2, Le.refl, hr2, ?_⟩
    have e3 := hx vs hp2
    rw [e2] at e3
    cases e3
    exact rd
theorem its_ok {ρ : Nat → Addr} {n : Nat} {H : Hp} {s : List Nat} (o : OkS s) : ItOk G K ρ n H (Its ⟨s.toArray⟩) (stpL (s.map fun c => .str [c])) := fun ρ2 h2 H2 i l2 hr2 => by
  unfold stpL
  simp only [List.getElem?_map]
  cases e : s[i]? with
  | none =>
    show (⟨s.toArray⟩ : Str).cps.size ≤ i
    have := List.getElem?_eq_none_iff.mp e
    simpa using this
  | some c =>
    have e2 : (⟨s.toArray⟩ : Str).cps[i]? = some c := by simpa using e
    have hi : i < (⟨s.toArray⟩ : Str).cps.size := by
      have := (List.getElem?_eq_some_iff.mp e).1
      simpa using this
    refine ⟨hi, ?_⟩
    rintro x H3 ⟨rfl, c2, e3, rfl⟩
    rw [e2] at e3
    cases e3
    refine ⟨ρ2, Le.refl, hr2, relD_str.mpr ⟨rfl, fun b hb => ?_, by simp⟩⟩
    simp at hb
    subst hb
    exact o.1 _ (List.mem_of_getElem? e)
theorem itl_go {ρ : Nat → Addr} {h : VH} {H : Hp} {i : Nat} {p : Addr} {ys : List D} {us : List V} (hr : HR G K ρ h H) (sq : SqL K H p us) (r : RelDs K ρ h.n H ys us) : match some ys[i]? with
    | none => True
    | some none => (Itl K p).stop i H
    | some (some d) => (Itl K p).go i H ∧ ∀ x H', (Itl K p).yld i H x H' → ∃ ρ', Le K ρ h.n H ρ' h.n H' ∧ HR G K ρ' h H' ∧ RelD K ρ' h.n H' d x := by
  cases e : ys[i]? with
  | none =>
    refine ⟨us, sq, ?_⟩
    rw [← relDs_len r]
    exact List.getElem?_eq_none_iff.mp e
  | some d =>
    obtain ⟨u, e2, rd⟩ := relDs_get r e
    refine ⟨⟨us, u, sq, e2⟩, ?_⟩
    rintro x H3 ⟨rfl, hx⟩
    refine ⟨ρ, Le.refl, hr, ?_⟩
    have e3 := hx us sq
    rw [e2] at e3
    cases e3
    exact rd
theorem kls_sq {ρ : Nat → Addr} {n : Nat} {H : Hp} {ns : List Int} {v : V} (rd : RelD K ρ n H (.kls ns) v) : ∃ pa, v = .ref pa ∧ ∀ ρ2 n2 H2, Lw K ρ n H ρ2 n2 H2 → SqL K H2 pa (ns.map V.int) := by
  rw [relD_kls] at rd
  obtain ⟨pa, rfl, _, hk⟩ := rd
  refine ⟨pa, rfl, fun ρ2 n2 H2 l2 => ?_⟩
  rcases hk with ⟨o, q, f⟩ | q
  · exact .inl (.inr ⟨o, (l2.z.fz pa _ _ q f).1⟩)
  · exact .inr q
theorem rel_intsD {ρ : Nat → Addr} {n : Nat} {H : Hp} : ∀ {ns : List Int}, RelDs K ρ n H (ns.map .int) (ns.map V.int)
  | [] => relDs_nil.mpr rfl
  | i :: r => relDs_cons.mpr ⟨_, _, rfl, relD_int.mpr rfl, rel_intsD⟩
theorem itl_ok {ρ : Nat → Addr} {n : Nat} {H : Hp} {a : Nat} (ha : a < n) : ItOk G K ρ n H (Itl K (ρ a)) (stpA a) := fun ρ2 h2 H2 i l2 hr2 => by
  unfold stpA
  simp only
  cases eb : h2.get a with
  | none => trivial
  | some ob2 =>
    cases ob2 with
    | lst ys =>
      obtain ⟨us, h3, r3⟩ := hr2.lst eb
      rw [l2.z.ad a ha] at h3
      exact itl_go hr2 (.inl (.inl h3)) r3
    | _ => trivial
theorem si_seq {tg e : Expr} {m : Env → M D} (hpw : ∀ X, C X → X.prog = G.P ∧ X.w = G.w) (he : SE G K C e m) : SI G K C tg e (fun env => M.bind (m env) seqI) := by
  obtain ⟨t, p, q⟩ := he
  refine ⟨iSeq G.P G.w K t, fun X hX eK => by subst eK; rw [← (hpw X hX).1, ← (hpw X hX).2]; exact pi_seq (p X hX rfl), fun ρ env h σ H R hr er hq => ?_⟩
  refine useE q hr er hq (fun z => z) fun ρ1 h1 H1 d v l1 hr1 rd z => ?_
  unfold seqI at z
  cases d with
  | tup xs =>
    rw [relD_tup] at rd
    obtain ⟨pa, vs, rfl, hp, rs⟩ := rd
    exact .inl (.inl (.inr (.inl ⟨pa, rfl, ⟨vs, hp⟩, z ρ1 H1 _ l1 hr1 (itt_ok hp rs) lk_none⟩)))
  | str s =>
    rw [relD_str] at rd
    obtain ⟨rfl, o⟩ := rd
    exact .inl (.inl (.inr (.inr ⟨_, rfl, z ρ1 H1 _ l1 hr1 (its_ok o) lk_none⟩)))
  | kls ns =>
    obtain ⟨pa, rfl, sq⟩ := kls_sq rd
    exact .inl (.inl (.inl ⟨pa, rfl, ⟨_, sq _ _ _ Le.refl.w⟩, z ρ1 H1 _ l1 hr1 (fun ρ2 h2 H2 i l2 hr2 => itl_go hr2 (sq _ _ _ l2) rel_intsD) lk_none⟩))
  | ref a =>
    simp only at z
    have oth : (M.bind (lockD (.ref a)) (fun q => M.pure (stpK q.1 q.2)) h1).all (PostI G K ρ h.n H R) → SeqQ G.P G.w K R v H1 ∨ ∃ d u, v = .ref d ∧ H1 d = some u ∧ Mut (some u) ∧ ∀ od, SeqQ G.P G.w K R v (upd H1 d (.frz od u)) := fun z => by
      rcases lock_use (R := fun d od ps H1 => R (Jk d od ps) H1) l1 hr1 rd (all_M (p := PostI G K ρ h.n H R) z (fun z => z)) (fun z => z) fun kvs lk h2 H2 d od ps z l2 hr2 r g lo => z ρ1 H2 _ l2 hr2 (itk_ok r g) lo with z | ⟨d, u, e, e2, mu, z⟩
      · exact .inl (.inr z)
      · exact .inr ⟨d, u, e, e2, mu, fun od => .inr (z od)⟩
    cases ea : h1.get a with
    | none => rw [ea] at z; exact oth z
    | some ob =>
      rw [ea] at z
      cases ob with
      | lst xs =>
        rw [relD_ref] at rd
        obtain ⟨ha, rfl⟩ := rd
        obtain ⟨vs, h2, r2⟩ := hr1.lst ea
        exact .inl (.inl (.inl ⟨_, rfl, ⟨vs, .inl (.inl h2)⟩, z ρ1 H1 _ l1 hr1 (itl_ok ha) lk_none⟩))
      | _ => exact oth z
  | _ => exact z.elim
/-! ### enumerate, zip -/
def itemsD (h : VH) : D → Option (List D)
  | .tup xs => some xs
  | .str s => some (s.map fun c => .str [c])
  | .kls ns => some (ns.map .int)
  | .ref a => match h.get a with
    | some (.lst xs) => some xs
    | _ => none
  | _ => none
/-- the source of a datum -/
def SrcOk (G : Gs) (K : PySem.W.Frag) (ρ : Nat → Addr) (n : Nat) (H : Hp) (d : D) (src : Src) : Prop := ∀ ρ2 h2 H2 ys, Lw K ρ n H ρ2 h2.n H2 → HR G K ρ2 h2 H2 → itemsD h2 d = some ys → ∃ vs, src.At K H2 vs ∧ RelDs K ρ2 h2.n H2 ys vs
theorem signs_rel {ρ : Nat → Addr} {n : Nat} {H : Hp} {s : List Nat} (o : ∀ c ∈ s, c < 1114112) : RelDs K ρ n H (s.map fun c => .str [c]) (s.map fun c => V.str ⟨#[c]⟩) := by
  induction s with
  | nil => exact relDs_nil.mpr rfl
  | cons c r ih =>
    exact relDs_cons.mpr ⟨_, _, rfl, relD_str.mpr ⟨rfl, fun b hb => by simp at hb; subst hb; exact o _ (List.Mem.head _), by simp⟩, ih fun c hc => o c (List.Mem.tail _ hc)⟩
theorem src_of {ρ : Nat → Addr} {h : VH} {H : Hp} {d : D} {v : V} {xs : List D} (hr : HR G K ρ h H) (rd : RelD K ρ h.n H d v) (e : itemsD h d = some xs) : ∃ src, v = Src.v src ∧ SrcOk G K ρ h.n H d src := by
  cases d with
  | tup ys =>
    rw [relD_tup] at rd
    obtain ⟨pa, vs, rfl, hp, rs⟩ := rd
    refine ⟨.tup pa, rfl, fun ρ2 h2 H2 zs l2 hr2 e2 => ?_⟩
    cases e2
    exact ⟨vs, l2.z.tp pa vs hp, rs.mono0 l2.z⟩
  | str s =>
    rw [relD_str] at rd
    obtain ⟨rfl, o⟩ := rd
    refine ⟨.str ⟨s.toArray⟩, rfl, fun ρ2 h2 H2 zs l2 hr2 e2 => ?_⟩
    cases e2
    exact ⟨_, rfl, by simpa using signs_rel o.1⟩
  | kls ns =>
    obtain ⟨pa, rfl, sq⟩ := kls_sq rd
    refine ⟨.lst pa, rfl, fun ρ2 h2 H2 zs l2 hr2 e2 => ?_⟩
    cases e2
    exact ⟨_, sq _ _ _ l2, rel_intsD⟩
  | ref a =>
    rw [relD_ref] at rd
    obtain ⟨ha, rfl⟩ := rd
    refine ⟨.lst (ρ a), rfl, fun ρ2 h2 H2 zs l2 hr2 e2 => ?_⟩
    simp only [itemsD] at e2
    cases ea : h2.get a with
    | none => rw [ea] at e2; cases e2
    | some ob =>
      rw [ea] at e2
      cases ob with
      | lst ys =>
        cases e2
        obtain ⟨us, h3, r3⟩ := hr2.lst ea
        rw [l2.z.ad a ha] at h3
        exact ⟨us, .inl (.inl h3), r3⟩
      | _ => cases e2
  | _ => cases e
def stpE (d : D) : Stp := ⟨fun i h => match itemsD h d with
  | some xs => match xs[i]? with
    | some x => some (some (.tup [.int (i : Nat), x]))
    | none => if xs.length = i then some none else none
  | none => none, none⟩
def stpZ (d e : D) : Stp := ⟨fun i h => match itemsD h d, itemsD h e with
  | some xs, some ys => match xs[i]?, ys[i]? with
    | some x, some y => some (some (.tup [x, y]))
    | _, _ => if min xs.length ys.length = i then some none else none
  | _, _ => none, none⟩
def enumI (d : D) : M Stp := fun h => match itemsD h d with
  | some _ => .ret (.ok (stpE d) h)
  | none => .ret .bad
def zipI (d e : D) : M Stp := fun h => match itemsD h d, itemsD h e with
  | some _, some _ => .ret (.ok (stpZ d e) h)
  | _, _ => .ret .bad
theorem ite_ok {ρ : Nat → Addr} {n : Nat} {H : Hp} {d : D} {src : Src} (so : SrcOk G K ρ n H d src) : ItOk G K ρ n H (Jen K src) (stpE d) := fun ρ2 h2 H2 i l2 hr2 => by
  unfold stpE
  simp only
  cases e : itemsD h2 d with
  | none => trivial
  | some ys =>
    obtain ⟨vs, h1, rs⟩ := so ρ2 h2 H2 ys l2 hr2 e
    simp only
    cases e2 : ys[i]? with
    | none =>
      by_cases hz : ys.length = i
      · simp only [if_pos hz]
        exact ⟨vs, h1, by rw [← hz, relDs_len rs]⟩
      · simp only [if_neg hz]
    | some x =>
      obtain ⟨u, e3, rd⟩ := relDs_get rs e2
      refine ⟨⟨vs, u, h1, e3⟩, ?_⟩
      rintro y H3 ⟨T, xs, rfl, hT, rfl, u2, rfl, hu⟩
      have e4 := hu vs h1
      rw [e3] at e4
      cases e4
      have lf : Le K ρ2 h2.n H2 ρ2 h2.n (upd H2 T (.tup [.int (i : Nat), u])) := Le.upd_fresh hT
      exact ⟨ρ2, lf, hr2.fresh hT, relD_tup.mpr ⟨T, _, rfl, .inl (.inl upd_same), relDs_two.mpr ⟨_, _, rfl, relD_int.mpr rfl, rd.mono lf⟩⟩⟩
theorem itz_ok {ρ : Nat → Addr} {n : Nat} {H : Hp} {d e : D} {a b : Src} (so : SrcOk G K ρ n H d a) (so2 : SrcOk G K ρ n H e b) : ItOk G K ρ n H (Jzi K a b) (stpZ d e) := fun ρ2 h2 H2 i l2 hr2 => by
  unfold stpZ
  simp only
  cases e1 : itemsD h2 d with
  | none => trivial
  | some xs =>
    cases e2 : itemsD h2 e with
    | none => trivial
    | some ys =>
      obtain ⟨vs, h1, rs⟩ := so ρ2 h2 H2 xs l2 hr2 e1
      obtain ⟨ws, h3, rs2⟩ := so2 ρ2 h2 H2 ys l2 hr2 e2
      have stop : match (if min xs.length ys.length = i then some (none : Option D) else none) with
          | none => True
          | some none => (Jzi K a b).stop i H2
          | some (some d) => (Jzi K a b).go i H2 ∧ ∀ x H', (Jzi K a b).yld i H2 x H' → ∃ ρ', Le K ρ2 h2.n H2 ρ' h2.n H' ∧ HR G K ρ' h2 H' ∧ RelD K ρ' h2.n H' d x := by
        by_cases hz : min xs.length ys.length = i
        · simp only [if_pos hz]
          exact ⟨vs, ws, h1, h3, by rw [← hz, relDs_len rs, relDs_len rs2]⟩
        · simp only [if_neg hz]
      simp only
      cases e3 : xs[i]? with
      | none => exact stop
      | some x =>
        cases e4 : ys[i]? with
        | none => exact stop
        | some y =>
          obtain ⟨u, e5, rd⟩ := relDs_get rs e3
          obtain ⟨u2, e6, rd2⟩ := relDs_get rs2 e4
          refine ⟨⟨vs, ws, u, u2, h1, h3, e5, e6⟩, ?_⟩
          rintro y H3 ⟨T, xs, rfl, hT, rfl, w1, w2, rfl, hw1, hw2⟩
          have e7 := hw1 vs h1
          have e8 := hw2 ws h3
          rw [e5] at e7
          rw [e6] at e8
          cases e7
          cases e8
          have lf : Le K ρ2 h2.n H2 ρ2 h2.n (upd H2 T (.tup [u, u2])) := Le.upd_fresh hT
          exact ⟨ρ2, lf, hr2.fresh hT, relD_tup.mpr ⟨T, _, rfl, .inl (.inl upd_same), relDs_two.mpr ⟨_, _, rfl, rd.mono lf, rd2.mono lf⟩⟩⟩
theorem SrcOk.mono {ρ ρ' : Nat → Addr} {n n' : Nat} {H H' : Hp} {d : D} {src : Src} (so : SrcOk G K ρ n H d src) (l : Le K ρ n H ρ' n' H') : SrcOk G K ρ' n' H' d src := fun ρ2 h2 H2 ys l2 => so ρ2 h2 H2 ys (l.w.trans l2)
theorem si_enum {e : Expr} {elts : List Expr} {kk : Nat} {tpos p pos : Pos} {m : Env → M D} (hg : ∀ X, C X → Gl X "enumerate") (hm : ∀ X, C X → X.mg "enumerate" = none) (hs : isStar e = false) (he : SE G K C e m) :
    SI G K C (.Tuple elts kk tpos) (.Call (.Name "enumerate" p) [e] [] pos) (fun env => M.bind (m env) enumI) := by
  obtain ⟨t, pt, q⟩ := he
  refine ⟨iEn K t, fun X hX eK => by subst eK; exact pi_en (hg X hX) (hm X hX) (pt X hX rfl) hs, fun ρ env h σ H R hr er hq => ?_⟩
  refine useE q hr er hq (fun z => z) fun ρ1 h1 H1 d v l1 hr1 rd z => ?_
  unfold enumI at z
  cases e1 : itemsD h1 d with
  | none => rw [e1] at z; exact z.elim
  | some xs =>
    rw [e1] at z
    obtain ⟨src, rfl, so⟩ := src_of hr1 rd e1
    obtain ⟨vs, a1, _⟩ := so ρ1 h1 H1 xs Le.refl.w hr1 e1
    exact ⟨src, vs, rfl, a1, z ρ1 H1 _ l1 hr1 (ite_ok so) lk_none⟩
theorem si_zip {e e2 : Expr} {elts : List Expr} {kk : Nat} {tpos p pos : Pos} {ma mb : Env → M D} (hg : ∀ X, C X → Gl X "zip") (hm : ∀ X, C X → X.mg "zip" = none) (hs : isStar e = false) (hs2 : isStar e2 = false) (ha : SE G K C e ma) (hb : SE G K C e2 mb) :
    SI G K C (.Tuple elts kk tpos) (.Call (.Name "zip" p) [e, e2] [] pos) (fun env => M.bind (ma env) fun x => M.bind (mb env) fun y => zipI x y) := by
  obtain ⟨t, pt, q⟩ := ha
  obtain ⟨u, pu, qu⟩ := hb
  refine ⟨iZi K t u, fun X hX eK => by subst eK; exact pi_zi (hg X hX) (hm X hX) (pt X hX rfl) (pu X hX rfl) hs hs2, fun ρ env h σ H R hr er hq => ?_⟩
  refine useE q hr er hq (fun z => z) fun ρ1 h1 H1 d v l1 hr1 rd z => ?_
  refine useE qu hr1 (er.mono l1) z (fun z => z) fun ρ2 h2 H2 d2 v2 l2 hr2 rd2 z => ?_
  unfold zipI at z
  cases e1 : itemsD h2 d with
  | none => rw [e1] at z; exact z.elim
  | some xs =>
    cases e3 : itemsD h2 d2 with
    | none => rw [e1, e3] at z; exact z.elim
    | some ys =>
      rw [e1, e3] at z
      obtain ⟨s1, rfl, so1⟩ := src_of hr2 (rd.mono l2) e1
      obtain ⟨s2, rfl, so2⟩ := src_of hr2 rd2 e3
      obtain ⟨vs, a1, _⟩ := so1 ρ2 h2 H2 xs Le.refl.w hr2 e1
      obtain ⟨ws, a2, _⟩ := so2 ρ2 h2 H2 ys Le.refl.w hr2 e3
      exact ⟨s1, s2, vs, ws, rfl, a1, a2, z ρ2 H2 _ (l1.trans l2) hr2 (itz_ok so1 so2) lk_none⟩
end
end
end PV
set_option Elab.async false
set_option linter.all false
set_option maxRecDepth 100000
set_option maxHeartbeats 1000000
set_option autoImplicit false
namespace PV
noncomputable section
open PySem PySem.Spec PyProof.Rows L2
section
variable {G : Gs} {K : PySem.W.Frag} {C C' : Cx → Prop} {X : Cx}
def stpR (lo : Int) (n : Nat) : Stp := ⟨fun i _ => some (if i < n then some (.int (lo + i)) else none), none⟩
theorem itr_ok {ρ : Nat → Addr} {n : Nat} {H : Hp} {lo : Int} {k : Nat} : ItOk G K ρ n H (Itr lo k) (stpR lo k) := fun ρ2 h2 H2 i l2 hr2 => by
  unfold stpR
  simp only
  by_cases e : i < k
  · rw [if_pos e]
    refine ⟨e, ?_⟩
    rintro x H3 ⟨rfl, rfl⟩
    exact ⟨ρ2, Le.refl, hr2, relD_int.mpr rfl⟩
  · rw [if_neg e]
    exact Nat.le_of_not_lt e
@[irreducible] def rngI1 (d : D) : M Stp := fun h => match d with
  | .int j => if j < 1000000000 ∧ -1000000000 < j then .ret (.ok (stpR 0 j.toNat) h) else .ret .bad
  | _ => .ret .bad
@[irreducible] def rngI2 (d e : D) : M Stp := fun h => match d, e with
  | .int i, .int j => if (j < 1000000000 ∧ -1000000000 < j) ∧ i < 1000000000 ∧ -1000000000 < i then .ret (.ok (stpR i (j - i).toNat) h) else .ret .bad
  | _, _ => .ret .bad
theorem si_rng1 {tg a : Expr} {p pos : Pos} {m : Env → M D} (hg : ∀ X, C X → Gl X "range") (hm : ∀ X, C X → X.mg "range" = none) (hst : isStar a = false) (ha : SE G K C a m) : SI G K C tg (.Call (.Name "range" p) [a] [] pos) (fun env => M.bind (m env) rngI1) := by
  obtain ⟨t, pt, q⟩ := ha
  refine ⟨_, fun X hX eK => pi_range1 (hg X hX) (hm X hX) (pa_cons (pt X hX eK) pa_nil (starEach_no hst)) (by rw [starEach_no hst]; rfl), fun ρ env h σ H R hr er hq => ?_⟩
  refine useE q hr er hq (fun z => z) fun ρ1 h1 H1 d v l1 hr1 rd z => ?_
  unfold rngI1 at z
  cases d with
  | int j =>
    simp only at z
    by_cases hz : j < 1000000000 ∧ -1000000000 < j
    · rw [if_pos hz] at z
      rw [relD_int] at rd
      subst rd
      exact ⟨j, rfl, by omega, by omega, z ρ1 H1 _ l1 hr1 itr_ok lk_none⟩
    · rw [if_neg hz] at z; exact z.elim
  | _ => exact z.elim
theorem si_rng2 {tg a b : Expr} {p pos : Pos} {ma mb : Env → M D} (hg : ∀ X, C X → Gl X "range") (hm : ∀ X, C X → X.mg "range" = none) (hsa : isStar a = false) (hsb : isStar b = false) (ha : SE G K C a ma) (hb : SE G K C b mb) :
    SI G K C tg (.Call (.Name "range" p) [a, b] [] pos) (fun env => M.bind (ma env) fun x => M.bind (mb env) fun y => rngI2 x y) := by
  obtain ⟨t, pt, q⟩ := ha
  obtain ⟨u, pu, qu⟩ := hb
  refine ⟨_, fun X hX eK => pi_range2 (hg X hX) (hm X hX) (pa_cons (pt X hX eK) (pa_cons (pu X hX eK) pa_nil (starEach_no hsb)) (starEach_no hsa)) (by rw [starEach_no hsa, starEach_no hsb]; rfl) (by rw [starEach_no hsb]; rfl), fun ρ env h σ H R hr er hq => ?_⟩
  refine useE q hr er hq (fun z => z) fun ρ1 h1 H1 d v l1 hr1 rd z => ?_
  refine useE qu hr1 (er.mono l1) z (fun z => z) fun ρ2 h2 H2 e w l2 hr2 re z2 => ?_
  unfold rngI2 at z2
  cases d with
  | int i =>
    cases e with
    | int j =>
      simp only at z2
      by_cases hz : (j < 1000000000 ∧ -1000000000 < j) ∧ i < 1000000000 ∧ -1000000000 < i
      · rw [if_pos hz] at z2
        rw [relD_int] at rd re
        subst rd re
        exact ⟨i, j, rfl, ⟨by omega, by omega, by omega, by omega⟩, z2 ρ2 H2 _ (l1.trans l2) hr2 itr_ok lk_none⟩
      · rw [if_neg hz] at z2; exact z2.elim
    | _ => exact z2.elim
  | _ => exact z2.elim

/-! ### calls of what is built in -/
def SC1 (G : Gs) (K : PySem.W.Frag) (r : List V → Hp → VK → Prop) (f : D → M D) : Prop := ∀ ρ h H x vx Q, HR G K ρ h H → RelD K ρ h.n H x vx → (f x h).all (PostE G K ρ h.n H Q) → r [vx] H Q
def SC2 (G : Gs) (K : PySem.W.Frag) (r : List V → Hp → VK → Prop) (f : D → D → M D) : Prop := ∀ ρ h H x y vx vy Q, HR G K ρ h H → RelD K ρ h.n H x vx → RelD K ρ h.n H y vy → (f x y h).all (PostE G K ρ h.n H Q) → r [vx, vy] H Q
theorem se_use1 {e a : Expr} {r : List V → Hp → VK → Prop} {m : Env → M D} {f : D → M D} (hp : ∀ X, C X → X.K = K → ∀ t, PE X a t → PE X e (tCB r (tCons t tNil))) (hs : SC1 G K r f) (ha : SE G K C a m) : SE G K C e (fun env => M.bind (m env) f) := by
  obtain ⟨t, pt, q⟩ := ha
  refine ⟨_, fun X hX eK => hp X hX eK t (pt X hX eK), fun ρ env h σ H Q hr er hq => ?_⟩
  refine useE q hr er hq (fun z => z) fun ρ1 h1 H1 d v l1 hr1 rd z => ?_
  exact hs ρ1 h1 H1 d v Q hr1 rd (P.all_mono (fun r z => z.mono l1) z)
theorem se_use2 {e a b : Expr} {r : List V → Hp → VK → Prop} {ma mb : Env → M D} {f : D → D → M D} (hp : ∀ X, C X → X.K = K → ∀ t u, PE X a t → PE X b u → PE X e (tCB r (tCons t (tCons u tNil)))) (hs : SC2 G K r f) (ha : SE G K C a ma) (hb : SE G K C b mb) : SE G K C e (fun env => M.bind (ma env) fun x => M.bind (mb env) fun y => f x y) := by
  obtain ⟨t, pt, q⟩ := ha
  obtain ⟨u, pu, qu⟩ := hb
  refine ⟨_, fun X hX eK => hp X hX eK t u (pt X hX eK) (pu X hX eK), fun ρ env h σ H Q hr er hq => ?_⟩
  refine useE q hr er hq (fun z => z) fun ρ1 h1 H1 d v l1 hr1 rd z => ?_
  refine useE qu hr1 (er.mono l1) z (fun z => z) fun ρ2 h2 H2 e w l2 hr2 re z2 => ?_
  exact hs ρ2 h2 H2 d e v w Q hr2 (rd.mono l2) re (P.all_mono (fun r z => z.mono (l1.trans l2)) z2)
theorem se_blt1 {a : Expr} {x : Str} {id : String} {p pos : Pos} {r : List V → Hp → VK → Prop} {m : Env → M D} {f : D → M D} (hc : ∀ X, C X → X.K = K → CallR X (.builtin id) r) (hg : ∀ X, C X → Gl X x) (hm : ∀ X, C X → X.mg x = none) (hv : bootBuiltins x = some (.builtin id)) (hn : x ≠ "__name__") (hdb : (x == ("__debug__" : Str)) = false) (hst : isStar a = false)
    (hs : SC1 G K r f) (ha : SE G K C a m) : SE G K C (.Call (.Name x p) [a] [] pos) (fun env => M.bind (m env) f) :=
  se_use1 (fun X hX eK t pt => pe_callB (hc X hX eK) (hg X hX) (hm X hX) hv (pa_cons pt pa_nil (starEach_no hst)) hn hdb (starEach_no hst) rfl) hs ha
theorem se_bty1 {a : Expr} {x : Str} {T : String} {p pos : Pos} {r : List V → Hp → VK → Prop} {m : Env → M D} {f : D → M D} (hc : ∀ X, C X → X.K = K → CallR X (.type T) r) (hg : ∀ X, C X → Gl X x) (hm : ∀ X, C X → X.mg x = none) (hv : bootBuiltins x = some (.type T)) (hn : x ≠ "__name__") (hdb : (x == ("__debug__" : Str)) = false) (hst : isStar a = false)
    (hs : SC1 G K r f) (ha : SE G K C a m) : SE G K C (.Call (.Name x p) [a] [] pos) (fun env => M.bind (m env) f) :=
  se_use1 (fun X hX eK t pt => pe_callTy (hc X hX eK) (hg X hX) (hm X hX) hv (pa_cons pt pa_nil (starEach_no hst)) hn hdb (starEach_no hst) rfl) hs ha
/-! len -/
def lenM (x : D) : M D := fun h => match x with
  | .str s => .ret (.ok (.int s.length) h)
  | .tup xs => .ret (.ok (.int xs.length) h)
  | .ref a => match h.get a with
    | some (.lst xs) => .ret (.ok (.int xs.length) h)
    | some (.dic kvs) => .ret (.ok (.int kvs.length) h)
    | _ => .ret .bad
  | _ => .ret .bad
def rLenA (K : PySem.W.Frag) : List V → Hp → VK → Prop := fun xs H Q => ((∃ p ys, xs = [.ref p] ∧ (SqL K H p ys ∨ SqT K H p ys) ∧ Q (.int ys.length) H) ∨ (∃ z, xs = [.str z] ∧ z.length ≤ sizeLine ∧ Q (.int z.length) H)) ∨ (∃ (d : Addr) (kvs : List (Key × V)), xs = [.ref d] ∧ H d = some (.dK kvs) ∧ Q (.int kvs.length) H)
theorem call_lenA : CallR X (.builtin "len") (rLenA X.K) := CallR.or (CallR.or call_len_seq call_len_str) call_lenD
theorem sc_len : SC1 G K (rLenA K) lenM := by
  intro ρ h H x vx Q hr rx hq
  unfold lenM at hq
  cases x with
  | str s =>
    rw [relD_str] at rx
    obtain ⟨rfl, o⟩ := rx
    have e : (⟨s.toArray⟩ : Str).length = s.length := by show s.toArray.size = s.length; simp
    refine .inl (.inr ⟨_, rfl, by rw [e]; exact o.2, ?_⟩)
    rw [e]
    exact post_ret hr hq (relD_int.mpr rfl)
  | tup xs =>
    rw [relD_tup] at rx
    obtain ⟨p, vs, rfl, hp, rs⟩ := rx
    refine .inl (.inl ⟨p, vs, rfl, .inr hp, ?_⟩)
    rw [← relDs_len rs]
    exact post_ret hr hq (relD_int.mpr rfl)
  | ref a =>
    simp only at hq
    rw [relD_ref] at rx
    obtain ⟨_, rfl⟩ := rx
    cases ea : h.get a with
    | none => rw [ea] at hq; exact hq.elim
    | some ob =>
      rw [ea] at hq
      cases ob with
      | lst xs =>
        obtain ⟨vs, h1, r1⟩ := hr.lst ea
        refine .inl (.inl ⟨_, vs, rfl, .inl (.inl (.inl h1)), ?_⟩)
        rw [← relDs_len r1]
        exact post_ret hr hq (relD_int.mpr rfl)
      | dic kvs =>
        obtain ⟨es, h1, r1, _⟩ := hr.dic ea
        refine .inr ⟨_, es, rfl, h1, ?_⟩
        rw [← drel_len r1]
        exact post_ret hr hq (relD_int.mpr rfl)
      | _ => exact hq.elim
  | _ => exact hq.elim
/-! int -/
def intM (x : D) : M D := fun h => match x with
  | .int i => .ret (.ok (.int i) h)
  | .bl b => .ret (.ok (.int (if b then 1 else 0)) h)
  | _ => .ret .bad
theorem sc_int : SC1 G K (fun xs H Q => (∃ i, xs = [.int i] ∧ Q (.int i) H) ∨ ∃ k, xs = [.bl k] ∧ Q (.int (if k then 1 else 0)) H) intM := by
  intro ρ h H x vx Q hr rx hq
  cases x with
  | int i => rw [relD_int] at rx; subst rx; exact .inl ⟨i, rfl, post_ret hr hq (relD_int.mpr rfl)⟩
  | bl b => rw [relD_bl] at rx; subst rx; exact .inr ⟨b, rfl, post_ret hr hq (relD_int.mpr rfl)⟩
  | _ => exact hq.elim
/-! list, tuple -/
def listM (x : D) : M D := fun h => match x with
  | .tup xs => .ret (.ok (.ref h.n) (h.new (.lst xs)))
  | .ref a => match h.get a with
    | some (.lst xs) => .ret (.ok (.ref h.n) (h.new (.lst xs)))
    | some (.dic kvs) => .ret (.ok (.ref h.n) (h.new (.lst (kvs.map (·.1)))))
    | _ => .ret .bad
  | _ => .ret .bad
end
end
end PV
set_option Elab.async false
set_option linter.all false
set_option maxRecDepth 100000
set_option maxHeartbeats 1000000
set_option autoImplicit false
namespace PV
noncomputable section
open PySem PySem.Spec PyProof.Rows L2
section
variable {G : Gs} {K : PySem.W.Frag} {C C' : Cx → Prop} {X : Cx}
/-! list, tuple -/
def rListA (K : PySem.W.Frag) : List V → Hp → VK → Prop := fun xs H Q => (∃ p ys, xs = [.ref p] ∧ (SqL K H p ys ∨ SqT K H p ys) ∧ ∀ l, H l = none → Q (.ref l) (upd H l (.lst ys))) ∨ rListD xs H Q
theorem call_listA (hc : X.calm = true) : CallR X (.type "list") (rListA X.K) := CallR.or call_list_of (call_list_dK hc)
theorem drel_keys {ρ : Nat → Addr} {n : Nat} {H : Hp} : ∀ {kvs : List (D × D)} {es : List (Key × V)}, DRel K ρ n H kvs es → RelDs K ρ n H (kvs.map (·.1)) (es.map fun e => kV e.1)
  | [], es, h => by cases h; exact relDs_nil.mpr rfl
  | q :: r, es, h => by
    obtain ⟨k', u, es', rfl, a, b, c⟩ := h
    exact relDs_cons.mpr ⟨_, _, rfl, relD_key a, drel_keys c⟩
theorem drel_vals {ρ : Nat → Addr} {n : Nat} {H : Hp} : ∀ {kvs : List (D × D)} {es : List (Key × V)}, DRel K ρ n H kvs es → RelDs K ρ n H (kvs.map (·.2)) (es.map (·.2))
  | [], es, h => by cases h; exact relDs_nil.mpr rfl
  | q :: r, es, h => by
    obtain ⟨k', u, es', rfl, a, b, c⟩ := h
    exact relDs_cons.mpr ⟨_, _, rfl, b, drel_vals c⟩
theorem sc_list : SC1 G K (rListA K) listM := by
  intro ρ h H x vx Q hr rx hq
  unfold listM at hq
  cases x with
  | tup xs =>
    rw [relD_tup] at rx
    obtain ⟨p, vs, rfl, hp, rs⟩ := rx
    exact .inl ⟨p, vs, rfl, .inr hp, post_lst hr hq rs⟩
  | ref a =>
    simp only at hq
    rw [relD_ref] at rx
    obtain ⟨_, rfl⟩ := rx
    cases ea : h.get a with
    | none => rw [ea] at hq; exact hq.elim
    | some ob =>
      rw [ea] at hq
      cases ob with
      | lst xs =>
        obtain ⟨vs, h1, r1⟩ := hr.lst ea
        exact .inl ⟨_, vs, rfl, .inl (.inl (.inl h1)), post_lst hr hq r1⟩
      | dic kvs =>
        obtain ⟨es, h1, r1, _⟩ := hr.dic ea
        exact .inr ⟨_, es, rfl, h1, post_lst hr hq (drel_keys r1)⟩
      | _ => exact hq.elim
  | _ => exact hq.elim
def tupleM (x : D) : M D := fun h => match x with
  | .tup xs => .ret (.ok (.tup xs) h)
  | .ref a => match h.get a with
    | some (.lst xs) => .ret (.ok (.tup xs) h)
    | _ => .ret .bad
  | _ => .ret .bad
def rTupA (K : PySem.W.Frag) : List V → Hp → VK → Prop := fun xs H Q => ∃ p ys, xs = [.ref p] ∧ ((SqL K H p ys ∧ ∀ l, H l = none → Q (.ref l) (upd H l (.tup ys))) ∨ (SqT K H p ys ∧ Q (.ref p) H))
theorem sc_tuple : SC1 G K (rTupA K) tupleM := by
  intro ρ h H x vx Q hr rx hq
  unfold tupleM at hq
  cases x with
  | tup xs =>
    have rx0 := rx
    rw [relD_tup] at rx
    obtain ⟨p, vs, rfl, hp, rs⟩ := rx
    exact ⟨p, vs, rfl, .inr ⟨hp, post_ret hr hq rx0⟩⟩
  | ref a =>
    simp only at hq
    rw [relD_ref] at rx
    obtain ⟨_, rfl⟩ := rx
    cases ea : h.get a with
    | none => rw [ea] at hq; exact hq.elim
    | some ob =>
      rw [ea] at hq
      cases ob with
      | lst xs =>
        obtain ⟨vs, h1, r1⟩ := hr.lst ea
        exact ⟨_, vs, rfl, .inl ⟨.inl (.inl h1), post_tup hr hq r1⟩⟩
      | _ => exact hq.elim
  | _ => exact hq.elim
/-! all, any, sum -/
def blsD : List D → Option (List Bool)
  | [] => some []
  | .bl b :: r => (blsD r).map (b :: ·)
  | _ => none
def intsD : List D → Option (List Int)
  | [] => some []
  | .int b :: r => (intsD r).map (b :: ·)
  | _ => none
theorem bls_ok {ρ : Nat → Addr} {n : Nat} {H : Hp} : ∀ {xs : List D} {vs : List V} {bs : List Bool}, blsD xs = some bs → RelDs K ρ n H xs vs → vs = bs.map V.bl
  | [], vs, bs, e, r => by cases e; rw [relDs_nil] at r; exact r
  | .bl b :: xs, vs, bs, e, r => by
    simp only [blsD, Option.map_eq_some_iff] at e
    obtain ⟨bs', e1, rfl⟩ := e
    rw [relDs_cons] at r
    obtain ⟨v, vr, rfl, r1, r2⟩ := r
    rw [relD_bl] at r1
    rw [r1, bls_ok e1 r2]
    rfl
  | .non :: xs, vs, bs, e, r => by cases e
  | .int _ :: xs, vs, bs, e, r => by cases e
  | .str _ :: xs, vs, bs, e, r => by cases e
  | .tup _ :: xs, vs, bs, e, r => by cases e
  | .ref _ :: xs, vs, bs, e, r => by cases e
theorem ints_ok {ρ : Nat → Addr} {n : Nat} {H : Hp} : ∀ {xs : List D} {vs : List V} {bs : List Int}, intsD xs = some bs → RelDs K ρ n H xs vs → vs = bs.map V.int
  | [], vs, bs, e, r => by cases e; rw [relDs_nil] at r; exact r
  | .int b :: xs, vs, bs, e, r => by
    simp only [intsD, Option.map_eq_some_iff] at e
    obtain ⟨bs', e1, rfl⟩ := e
    rw [relDs_cons] at r
    obtain ⟨v, vr, rfl, r1, r2⟩ := r
    rw [relD_int] at r1
    rw [r1, ints_ok e1 r2]
    rfl
  | .non :: xs, vs, bs, e, r => by cases e
  | .bl _ :: xs, vs, bs, e, r => by cases e
  | .str _ :: xs, vs, bs, e, r => by cases e
  | .tup _ :: xs, vs, bs, e, r => by cases e
  | .ref _ :: xs, vs, bs, e, r => by cases e
def onBls (f : List Bool → D) (x : D) : M D := fun h => match x with
  | .ref a => match h.get a with
    | some (.lst xs) => match blsD xs with
      | some bs => .ret (.ok (f bs) h)
      | none => .ret .bad
    | _ => .ret .bad
  | _ => .ret .bad
def onInts (f : List Int → Option D) (x : D) : M D := fun h => match x with
  | .ref a => match h.get a with
    | some (.lst xs) => match intsD xs with
      | some bs => match f bs with
        | some d => .ret (.ok d h)
        | none => .ret .bad
      | none => .ret .bad
    | _ => .ret .bad
  | _ => .ret .bad
theorem onBls_ok {f : List Bool → D} {ρ : Nat → Addr} {h : VH} {H : Hp} {x : D} {vx : V} {Q : VK} (hr : HR G K ρ h H) (rx : RelD K ρ h.n H x vx) (hq : (onBls f x h).all (PostE G K ρ h.n H Q)) : ∃ (a : Addr) (bs : List Bool), [vx] = [V.ref a] ∧ SqL K H a (bs.map V.bl) ∧ (M.pure (f bs) h).all (PostE G K ρ h.n H Q) := by
  unfold onBls at hq
  cases x with
  | ref a =>
    simp only at hq
    rw [relD_ref] at rx
    obtain ⟨_, rfl⟩ := rx
    cases ea : h.get a with
    | none => rw [ea] at hq; exact hq.elim
    | some ob =>
      rw [ea] at hq
      cases ob with
      | lst xs =>
        simp only at hq
        obtain ⟨vs, h1, r1⟩ := hr.lst ea
        cases eb : blsD xs with
        | none => rw [eb] at hq; exact hq.elim
        | some bs =>
          rw [eb] at hq
          have e := bls_ok eb r1
          subst e
          exact ⟨_, bs, rfl, .inl (.inl h1), hq⟩
      | _ => exact hq.elim
  | _ => exact hq.elim
theorem onInts_ok {f : List Int → Option D} {ρ : Nat → Addr} {h : VH} {H : Hp} {x : D} {vx : V} {Q : VK} (hr : HR G K ρ h H) (rx : RelD K ρ h.n H x vx) (hq : (onInts f x h).all (PostE G K ρ h.n H Q)) : ∃ (a : Addr) (bs : List Int) (d : D), [vx] = [V.ref a] ∧ SqL K H a (bs.map V.int) ∧ f bs = some d ∧ (M.pure d h).all (PostE G K ρ h.n H Q) := by
  unfold onInts at hq
  cases x with
  | ref a =>
    simp only at hq
    rw [relD_ref] at rx
    obtain ⟨_, rfl⟩ := rx
    cases ea : h.get a with
    | none => rw [ea] at hq; exact hq.elim
    | some ob =>
      rw [ea] at hq
      cases ob with
      | lst xs =>
        simp only at hq
        obtain ⟨vs, h1, r1⟩ := hr.lst ea
        cases eb : intsD xs with
        | none => rw [eb] at hq; exact hq.elim
        | some bs =>
          rw [eb] at hq
          have e := ints_ok eb r1
          subst e
          simp only at hq
          cases ef : f bs with
          | none => rw [ef] at hq; exact hq.elim
          | some d => rw [ef] at hq; exact ⟨_, bs, d, rfl, .inl (.inl h1), ef, hq⟩
      | _ => exact hq.elim
  | _ => exact hq.elim
def allM : D → M D := onBls fun bs => .bl (bs.all id)
def anyM : D → M D := onBls fun bs => .bl (bs.any id)
def sumM : D → M D := onInts fun bs => some (.int bs.sum)
theorem sc_all : SC1 G K (rAll K) allM := by
  intro ρ h H x vx Q hr rx hq
  obtain ⟨a, bs, e, s, q⟩ := onBls_ok hr rx hq
  exact ⟨a, bs, e, s, post_ret hr q (relD_bl.mpr rfl)⟩
theorem sc_any : SC1 G K (rAny K) anyM := by
  intro ρ h H x vx Q hr rx hq
  obtain ⟨a, bs, e, s, q⟩ := onBls_ok hr rx hq
  exact ⟨a, bs, e, s, post_ret hr q (relD_bl.mpr rfl)⟩
theorem sc_sum : SC1 G K (rSum K) sumM := by
  intro ρ h H x vx Q hr rx hq
  obtain ⟨a, bs, d, e, s, ed, q⟩ := onInts_ok hr rx hq
  cases ed
  exact ⟨a, bs, e, s, post_ret hr q (relD_int.mpr rfl)⟩
/-! max, min of a list of ints -/
def maxI : List Int → Option Int
  | [] => none
  | i :: r => some (r.foldl (fun a b => if a < b then b else a) i)
def minI : List Int → Option Int
  | [] => none
  | i :: r => some (r.foldl (fun a b => if b < a then b else a) i)
theorem foldmax : ∀ (r : List Int) (i : Int), r.foldl (fun a b => if a < b then b else a) i ∈ i :: r ∧ (i ≤ r.foldl (fun a b => if a < b then b else a) i) ∧ ∀ y ∈ r, y ≤ r.foldl (fun a b => if a < b then b else a) i
  | [], i => ⟨by simp, Int.le_refl _, fun y hy => by simp at hy⟩
  | b :: r, i => by
    rw [List.foldl_cons]
    by_cases h : i < b
    · rw [if_pos h]
      obtain ⟨p1, p2, p3⟩ := foldmax r b
      refine ⟨List.mem_cons_of_mem _ p1, by omega, fun y hy => ?_⟩
      rcases List.mem_cons.mp hy with e | e
      · rw [e]; exact p2
      · exact p3 y e
    · rw [if_neg h]
      obtain ⟨p1, p2, p3⟩ := foldmax r i
      refine ⟨?_, p2, fun y hy => ?_⟩
      · rcases List.mem_cons.mp p1 with e | e
        · rw [e]; simp
        · exact List.mem_cons_of_mem _ (List.mem_cons_of_mem _ e)
      · rcases List.mem_cons.mp hy with e | e
        · rw [e]; omega
        · exact p3 y e
theorem foldmin : ∀ (r : List Int) (i : Int), r.foldl (fun a b => if b < a then b else a) i ∈ i :: r ∧ (r.foldl (fun a b => if b < a then b else a) i ≤ i) ∧ ∀ y ∈ r, r.foldl (fun a b => if b < a then b else a) i ≤ y
  | [], i => ⟨by simp, Int.le_refl _, fun y hy => by simp at hy⟩
  | b :: r, i => by
    rw [List.foldl_cons]
    by_cases h : b < i
    · rw [if_pos h]
      obtain ⟨p1, p2, p3⟩ := foldmin r b
      refine ⟨List.mem_cons_of_mem _ p1, by omega, fun y hy => ?_⟩
      rcases List.mem_cons.mp hy with e | e
      · rw [e]; exact p2
      · exact p3 y e
    · rw [if_neg h]
      obtain ⟨p1, p2, p3⟩ := foldmin r i
      refine ⟨?_, p2, fun y hy => ?_⟩
      · rcases List.mem_cons.mp p1 with e | e
        · rw [e]; simp
        · exact List.mem_cons_of_mem _ (List.mem_cons_of_mem _ e)
      · rcases List.mem_cons.mp hy with e | e
        · rw [e]; omega
        · exact p3 y e
def maxM : D → M D := onInts fun bs => (maxI bs).map .int
def minM : D → M D := onInts fun bs => (minI bs).map .int
theorem sc_max : SC1 G K (rMax K) maxM := by
  intro ρ h H x vx Q hr rx hq
  obtain ⟨a, bs, d, e, s, ed, q⟩ := onInts_ok hr rx hq
  cases bs with
  | nil => cases ed
  | cons i r =>
    cases ed
    refine ⟨a, i :: r, e, s, by simp, fun m hm hy => ?_⟩
    obtain ⟨p1, p2, p3⟩ := foldmax r i
    have h1 := hy _ p1
    have h2 : m ≤ r.foldl (fun a b => if a < b then b else a) i := by
      rcases List.mem_cons.mp hm with z | z
      · rw [z]; exact p2
      · exact p3 m z
    have e2 : m = r.foldl (fun a b => if a < b then b else a) i := by omega
    rw [e2]
    exact post_ret hr q (relD_int.mpr rfl)
theorem sc_min : SC1 G K (rMin K) minM := by
  intro ρ h H x vx Q hr rx hq
  obtain ⟨a, bs, d, e, s, ed, q⟩ := onInts_ok hr rx hq
  cases bs with
  | nil => cases ed
  | cons i r =>
    cases ed
    refine ⟨a, i :: r, e, s, by simp, fun m hm hy => ?_⟩
    obtain ⟨p1, p2, p3⟩ := foldmin r i
    have h1 := hy _ p1
    have h2 : r.foldl (fun a b => if b < a then b else a) i ≤ m := by
      rcases List.mem_cons.mp hm with z | z
      · rw [z]; exact p2
      · exact p3 m z
    have e2 : m = r.foldl (fun a b => if b < a then b else a) i := by omega
    rw [e2]
    exact post_ret hr q (relD_int.mpr rfl)

/-! isinstance with built-in types -/
def tyN : Nat → String
  | 0 => "str"
  | 1 => "list"
  | 2 => "tuple"
  | 3 => "int"
  | 4 => "bool"
  | _ => "dict"
/-- 6: NoneType -/
def tyC (h : VH) : D → Option Nat
  | .non => some 6
  | .bl _ => some 4
  | .int _ => some 3
  | .str _ => some 0
  | .tup _ => some 2
  | .ref a => match h.get a with
    | some (.lst _) => some 1
    | some (.dic _) => some 5
    | some (.lck _) => some 5
    | _ => none
  | .kls _ => none
def tyF : Nat → String
  | 6 => "NoneType"
  | k => tyN k
def subT (a b : Nat) : Bool := a == b || (a == 4 && b == 3)
theorem kitB_sub : ∀ a, a < 7 → ∀ b, b < 6 → kitB (tyF a) (tyN b) = some (subT a b) := by decide +kernel
theorem tyC_ok {ρ : Nat → Addr} {h : VH} {H : Hp} (hr : HR G K ρ h H) {d : D} {v : V} {k : Nat} (e : tyC h d = some k) (r : RelD K ρ h.n H d v) : TyX K H v (.type (tyF k)) ∧ k < 7 := by
  cases d with
  | kls ns => cases e
  | non => cases e; rw [relD_non] at r; subst r; exact ⟨.base .non, by decide⟩
  | bl b => cases e; rw [relD_bl] at r; subst r; exact ⟨.base (.bl b), by decide⟩
  | int b => cases e; rw [relD_int] at r; subst r; exact ⟨.base (.int b), by decide⟩
  | str b => cases e; rw [relD_str] at r; obtain ⟨rfl, _⟩ := r; exact ⟨.base (.str _), by decide⟩
  | tup xs =>
    cases e
    rw [relD_tup] at r
    obtain ⟨p, vs, rfl, hp, _⟩ := r
    refine ⟨?_, by decide⟩
    rcases hp with (hp | ⟨o, hp⟩) | ⟨o, its, n, hk, hc, _⟩
    · exact .base (.tup hp)
    · exact .fTuple hp
    · exact .kTuple hk hc
  | ref a =>
    simp only [tyC] at e
    rw [relD_ref] at r
    obtain ⟨_, rfl⟩ := r
    cases ea : h.get a with
    | none => rw [ea] at e; cases e
    | some ob =>
      rw [ea] at e
      cases ob with
      | lst xs => cases e; obtain ⟨vs, h1, r1⟩ := hr.lst ea; exact ⟨.base (.lst h1), by decide⟩
      | dic kvs => cases e; obtain ⟨es, h1, r1, _⟩ := hr.dic ea; exact ⟨.base (.dK h1), by decide⟩
      | lck kvs => cases e; obtain ⟨od, es, h1, r1, _⟩ := hr.at ea; exact ⟨.fDict h1, by decide⟩
      | _ => cases e
def isiM (ts : List Nat) (d : D) : M D := fun h => match tyC h d with
  | some k => .ret (.ok (.bl (ts.any (subT k))) h)
  | none => .ret .bad
theorem kitAny_sub {k : Nat} (hk : k < 7) : ∀ ts : List Nat, (∀ b ∈ ts, b < 6) → PySem.W.kitAny K (.type (tyF k)) (ts.map fun b => Value.type (tyN b)) = some (ts.any (subT k))
  | [], _ => kitAny_nil
  | b :: ts, h => by
    rw [List.map_cons, List.any_cons]
    refine kitAny_cons (b := subT k b) (kit_ty (kitB_sub k hk b (h b (by simp)))) (fun e => ?_) (fun e => ?_)
    · rw [e, Bool.false_or]; exact kitAny_sub hk ts fun c hc => h c (List.mem_cons_of_mem _ hc)
    · rw [e]; rfl
theorem boot_ty : ∀ b, b < 6 → bootBuiltins (Str.ofString (tyN b)) = some (.type (tyN b)) := by decide +kernel
theorem ty_names : ∀ b, b < 6 → (Str.ofString (tyN b)) ≠ "__name__" ∧ (Str.ofString (tyN b) == ("__debug__" : Str)) = false := by decide +kernel
theorem pe_ty {b : Nat} {p : Pos} (hb : b < 6) (hg : Gl X (Str.ofString (tyN b))) (hm : X.mg (Str.ofString (tyN b)) = none) : PE X (.Name (Str.ofString (tyN b)) p) (tC (.ty (tyN b))) := pe_bltn hg hm (boot_ty b hb) rfl (ty_names b hb).1 (ty_names b hb).2
theorem se_isi1 {a : Expr} {p p2 pos : Pos} {b : Nat} {m : Env → M D} (hb : b < 6) (hg : ∀ X, C X → Gl X "isinstance") (hm : ∀ X, C X → X.mg "isinstance" = none) (hg2 : ∀ X, C X → Gl X (Str.ofString (tyN b))) (hm2 : ∀ X, C X → X.mg (Str.ofString (tyN b)) = none) (hst : isStar a = false) (ha : SE G K C a m) :
    SE G K C (.Call (.Name "isinstance" p) [a, .Name (Str.ofString (tyN b)) p2] [] pos) (fun env => M.bind (m env) (isiM [b])) := by
  obtain ⟨t, pt, q⟩ := ha
  refine ⟨tCB (rIsi K) (tCons t (tCons (tC (.ty (tyN b))) tNil)), fun X hX eK => by
    subst eK
    exact pe_callB call_isi (hg X hX) (hm X hX) (by decide +kernel) (pa_cons (pt X hX rfl) (pa_cons (pe_ty hb (hg2 X hX) (hm2 X hX)) pa_nil rfl) (starEach_no hst)) (by decide) (by decide) (starEach_no hst) rfl, fun ρ env h σ H Q hr er hq => ?_⟩
  refine useE q hr er hq (fun z => z) fun ρ1 h1 H1 d v l1 hr1 rd z => ?_
  unfold isiM at z
  cases e : tyC h1 d with
  | none => rw [e] at z; exact z.elim
  | some k =>
    rw [e] at z
    obtain ⟨ty, hk⟩ := tyC_ok hr1 e rd
    refine ⟨v, _, _, _, _, rfl, .ty (tyN b), ty, kit_ty (kitB_sub k hk b hb), z ρ1 H1 _ l1 hr1 (relD_bl.mpr ?_)⟩
    simp
theorem se_isi2 {a : Expr} {p p2 p3 p4 pos : Pos} {kk : Nat} {b c : Nat} {m : Env → M D} (hb : b < 6) (hc : c < 6) (hg : ∀ X, C X → Gl X "isinstance") (hm : ∀ X, C X → X.mg "isinstance" = none) (hg2 : ∀ X, C X → Gl X (Str.ofString (tyN b))) (hm2 : ∀ X, C X → X.mg (Str.ofString (tyN b)) = none) (hg3 : ∀ X, C X → Gl X (Str.ofString (tyN c))) (hm3 : ∀ X, C X → X.mg (Str.ofString (tyN c)) = none) (hst : isStar a = false) (ha : SE G K C a m) :
    SE G K C (.Call (.Name "isinstance" p) [a, .Tuple [.Name (Str.ofString (tyN b)) p2, .Name (Str.ofString (tyN c)) p3] kk p4] [] pos) (fun env => M.bind (m env) (isiM [b, c])) := by
  obtain ⟨t, pt, q⟩ := ha
  refine ⟨tCB (rIsiT K) (tCons t (tCons (tTup (tCons (tC (.ty (tyN b))) (tCons (tC (.ty (tyN c))) tNil))) tNil)), fun X hX eK => by
    subst eK
    exact pe_callB call_isiT (hg X hX) (hm X hX) (by decide +kernel) (pa_cons (pt X hX rfl) (pa_cons (pe_tup (pa_cons (pe_ty hb (hg2 X hX) (hm2 X hX)) (pa_cons (pe_ty hc (hg3 X hX) (hm3 X hX)) pa_nil rfl) rfl)) pa_nil rfl) (starEach_no hst)) (by decide) (by decide) (starEach_no hst) rfl, fun ρ env h σ H Q hr er hq => ?_⟩
  refine useE q hr er hq (fun z => z) fun ρ1 h1 H1 d v l1 hr1 rd z => ?_
  unfold isiM at z
  cases e : tyC h1 d with
  | none => rw [e] at z; exact z.elim
  | some k =>
    rw [e] at z
    refine ⟨by show 2 ≤ 16777216; decide, fun pa hp => ?_⟩
    have hr2 := hr1.fresh (o := .tup [.ty (tyN b), .ty (tyN c)]) hp
    have l2 : Le K ρ1 h1.n H1 ρ1 h1.n (upd H1 pa (.tup [.ty (tyN b), .ty (tyN c)])) := Le.upd_fresh hp
    obtain ⟨ty, hk⟩ := tyC_ok hr2 e (rd.mono l2)
    refine ⟨v, pa, _, _, [.type (tyN b), .type (tyN c)], _, rfl, upd_same, .cons (.ty _) (.cons (.ty _) .nil), ty, ?_, z ρ1 _ _ (l1.trans l2) hr2 (relD_bl.mpr rfl)⟩
    exact kitAny_sub hk [b, c] (fun x hx => by simp at hx; rcases hx with rfl | rfl <;> assumption)
end
end
end PV
set_option Elab.async false
set_option linter.all false
set_option maxRecDepth 100000
set_option maxHeartbeats 1000000
set_option autoImplicit false
namespace PV
noncomputable section
open PySem PySem.Spec PyProof.Rows L2
section
variable {G : Gs} {K : PySem.W.Frag} {C C' : Cx → Prop} {X : Cx}
/-! ### methods of built-in types -/
def okBase : Expr → Bool
  | .Call (.Name _ _) [] [] _ => false
  | _ => true
theorem base_no {o : Expr} {n : Str} {env : PySem.Env} {w : Sem Value} (h : okBase o = true) : attributeBase o n env w = w := by
  cases o with
  | Call f es ks pos =>
    cases f with
    | Name x p =>
      cases es with
      | nil =>
        cases ks with
        | nil => cases h
        | cons => rfl
      | cons => rfl
    | _ => rfl
  | _ => rfl
def noStars (es : List Expr) : Bool := es.all fun e => !isStar e
theorem stars_no : ∀ {es : List Expr} {env : PySem.Env} {pos : Pos}, noStars es = true → (backTo pos (starEach es env)).all (fun x => !x.1) = true ∧ (backTo pos (starEach es env)).any (·.1) = false
  | [], env, pos, _ => ⟨rfl, rfl⟩
  | e :: es, env, pos, h => by
    unfold noStars at h
    rw [List.all_cons, Bool.and_eq_true, Bool.not_eq_true'] at h
    obtain ⟨a, b⟩ := stars_no (env := env) (pos := pos) (es := es) h.2
    rw [starEach_no h.1]
    exact ⟨by
      show (true && (backTo pos (starEach es env)).all (fun x => !x.1)) = true
      rw [a]; rfl, by
      show (false || (backTo pos (starEach es env)).any (·.1)) = false
      rw [b]; rfl⟩
theorem few_no {es : List Expr} {env : PySem.Env} {pos : Pos} (h : noStars es = true) (hl : es.length < 30) : ((backTo pos (starEach es env)).all (fun x => !x.1) && (backToKw pos (keywordEach [] env)).all (fun x => x.1.isSome)
      && decide (es.length + ([] : List Keyword).length + (if ([] : List Keyword).isEmpty then 0 else 1) < 30)) = true := by
  rw [(stars_no h).1]
  simp [backToKw, keywordEach, hl]
theorem noStars_head {e : Expr} {es : List Expr} (h : noStars (e :: es) = true) : isStar e = false ∧ noStars es = true := by
  unfold noStars at h ⊢
  rw [List.all_cons, Bool.and_eq_true, Bool.not_eq_true'] at h
  exact h
/-- a method of a built-in type -/
structure Alt (X : Cx) (name : Str) (T id : String) (r : V → List V → Hp → VK → Prop) : Prop where
  pa : PlainAttrs T
  slot : Slot T name id
  ty : typeOf (.builtin id) = pure (.type "method_descriptor")
  mt : MtR X id r
/-- the value is of that built-in type -/
def tyW (P : Program) (w : World) (K : PySem.W.Frag) (T : String) (x : V) (H : Hp) : Prop := match x with
  | .str _ => T = "str"
  | .ref p => (T = "list" ∧ ∃ xs, SqL K H p xs) ∨ (T = "dict" ∧ ((∃ kvs, Rd H p (.dK kvs)) ∨ ∃ xs, Rd H p (xdO P w p xs)))
  | _ => False
theorem tyW_is {pins : List (Addr × Obj)} {σ : L2.St} {H : Hp} {s : Shared} {T : String} {x : V} {v : Value} (I : Inv X pins σ H s) (r : RelV x v) (ty : tyW X.prog X.w X.K T x H) :
    s.TypeIs v T ∧ ∀ a, v = .ref a → ∃ ob, s.heap.get? a = some ob ∧ ob.dict = none := by
  cases x with
  | str z => exact tyV_is I r (show tyV X.K T (.str z) H from ty)
  | ref p =>
    rcases ty with ⟨rfl, xs, h⟩ | ⟨rfl, ⟨kvs, h⟩ | ⟨xs, h⟩⟩
    · exact tyV_is I r (.inl ⟨rfl, xs, h⟩)
    · obtain rfl : v = Value.ref p := r
      obtain ⟨a, b, _⟩ := isD_at I (.inl ⟨kvs, h⟩)
      exact ⟨a, b⟩
    · obtain rfl : v = Value.ref p := r
      obtain ⟨⟨_, _, _, o, es, ep, h1, h2, _⟩, _⟩ := h.ok I.hok
      exact ⟨⟨o, h1, h2.1⟩, fun a z => by cases z; exact ⟨o, h1, h2.2.1⟩⟩
  | _ => exact ty.elim
def tMt (P : Program) (w : World) (K : PySem.W.Frag) (T1 T2 : String) (r1 r2 : V → List V → Hp → VK → Prop) (to : TE) (t : TA) : TE := fun σ H Q => to σ H fun x H1 => (tyW P w K T1 x H1 ∧ t σ H1 fun xs H2 => r1 x xs H2 Q) ∨ (tyW P w K T2 x H1 ∧ t σ H1 fun xs H2 => r2 x xs H2 Q)
theorem pe_mt2 {name : Str} {T1 T2 id1 id2 : String} {r1 r2 : V → List V → Hp → VK → Prop} {o e : Expr} {es : List Expr} {apos cpos : Pos} {to : TE} {t : TA} (a1 : Alt X name T1 id1 r1) (a2 : Alt X name T2 id2 r2) (ho : PE X o to) (ha : PA X (e :: es) t)
    (hb : okBase o = true) (hs : noStars (e :: es) = true) (hl : (e :: es).length < 30) (hline : (apos.endLine == cpos.line) = true) : PE X (.Call (.Attribute o name apos) (e :: es) [] cpos) (tMt X.prog X.w X.K T1 T2 r1 r2 to t) := by
  refine ⟨fun pins s σ H Q I h => ?_⟩
  obtain ⟨h1, h2⟩ := noStars_head hs
  refine wpAny_Call_method_late (base_no hb) (few_no hs hl) hline rfl (thn (ho.run pins s σ H _ I h) fun v s1 ⟨x, H1, I1, rx, q1⟩ => ?_)
  rcases q1 with ⟨ty, q⟩ | ⟨ty, q⟩
  · obtain ⟨k1, k2⟩ := tyW_is I1 rx ty
    have hA := ha.run cpos pins s1 σ H1 _ I1 q
    have hpl := (stars_no (env := X.env) (pos := cpos) hs).2
    refine ⟨T1, id1, a1.pa, a1.slot, a1.ty, k1, k2, ?_⟩
    rw [starEach_no h1] at hA hpl ⊢
    exact Calls.callWith_builtin hpl (Calls.evalArgs_plain (thn hA fun us s2 ⟨vs, H2, I2, r2, q2⟩ => a1.mt pins s2 σ H2 x vs v us Q I2 rx r2 q2))
  · obtain ⟨k1, k2⟩ := tyW_is I1 rx ty
    have hA := ha.run cpos pins s1 σ H1 _ I1 q
    have hpl := (stars_no (env := X.env) (pos := cpos) hs).2
    refine ⟨T2, id2, a2.pa, a2.slot, a2.ty, k1, k2, ?_⟩
    rw [starEach_no h1] at hA hpl ⊢
    exact Calls.callWith_builtin hpl (Calls.evalArgs_plain (thn hA fun us s2 ⟨vs, H2, I2, r2, q2⟩ => a2.mt pins s2 σ H2 x vs v us Q I2 rx r2 q2))
theorem pe_mt0 {name : Str} {T1 T2 id1 id2 : String} {r1 r2 : V → List V → Hp → VK → Prop} {o : Expr} {apos cpos : Pos} {to : TE} (a1 : Alt X name T1 id1 r1) (a2 : Alt X name T2 id2 r2) (ho : PE X o to)
    (hb : okBase o = true) (hline : (apos.endLine == cpos.line) = true) : PE X (.Call (.Attribute o name apos) [] [] cpos) (tMt X.prog X.w X.K T1 T2 r1 r2 to tNil) := by
  refine ⟨fun pins s σ H Q I h => ?_⟩
  refine wpAny_Call_method0_late (base_no hb) hline (thn (ho.run pins s σ H _ I h) fun v s1 ⟨x, H1, I1, rx, q1⟩ => ?_)
  rcases q1 with ⟨ty, q⟩ | ⟨ty, q⟩
  · obtain ⟨k1, k2⟩ := tyW_is I1 rx ty
    exact ⟨T1, id1, a1.pa, a1.slot, a1.ty, k1, k2, Calls.callWith_builtin rfl (PySem.evalArgs_none (a1.mt pins s1 σ H1 x [] v [] Q I1 rx .nil q))⟩
  · obtain ⟨k1, k2⟩ := tyW_is I1 rx ty
    exact ⟨T2, id2, a2.pa, a2.slot, a2.ty, k1, k2, Calls.callWith_builtin rfl (PySem.evalArgs_none (a2.mt pins s1 σ H1 x [] v [] Q I1 rx .nil q))⟩
def tyM : Nat → String
  | 0 => "str"
  | 1 => "list"
  | _ => "dict"
def mtC (h : VH) : D → Option Nat
  | .str _ => some 0
  | .ref a => match h.get a with
    | some (.lst _) => some 1
    | some (.dic _) => some 5
    | some (.lck _) => some 5
    | some (.dix _) => some 5
    | some (.lcx _) => some 5
    | _ => none
  | _ => none
theorem tyV_ok {ρ : Nat → Addr} {h : VH} {H : Hp} (hr : HR G K ρ h H) {d : D} {v : V} {k : Nat} (e : mtC h d = some k) (r : RelD K ρ h.n H d v) : tyW G.P G.w K (tyM k) v H := by
  cases d with
  | str b => cases e; rw [relD_str] at r; obtain ⟨rfl, _⟩ := r; rfl
  | ref a =>
    simp only [mtC] at e
    rw [relD_ref] at r
    obtain ⟨_, rfl⟩ := r
    cases ea : h.get a with
    | none => rw [ea] at e; cases e
    | some ob =>
      rw [ea] at e
      cases ob with
      | lst xs => cases e; obtain ⟨vs, h1, r1⟩ := hr.lst ea; exact .inl ⟨rfl, vs, .inl (.inl h1)⟩
      | dic kvs => cases e; obtain ⟨es, h1, _⟩ := hr.dk (.inl ea); exact .inr ⟨rfl, .inl ⟨es, h1⟩⟩
      | lck kvs => cases e; obtain ⟨es, h1, _⟩ := hr.dk (.inr ea); exact .inr ⟨rfl, .inl ⟨es, h1⟩⟩
      | dix kvs => cases e; obtain ⟨es, h1, _⟩ := hr.dx (.inl ea); exact .inr ⟨rfl, .inr ⟨es, h1⟩⟩
      | lcx kvs => cases e; obtain ⟨es, h1, _⟩ := hr.dx (.inr ea); exact .inr ⟨rfl, .inr ⟨es, h1⟩⟩
      | _ => cases e
  | _ => cases e
def SMt (G : Gs) (K : PySem.W.Frag) (r : V → List V → Hp → VK → Prop) (f : D → List D → M D) : Prop := ∀ ρ h H x xs vx vs Q, HR G K ρ h H → RelD K ρ h.n H x vx → RelDs K ρ h.n H xs vs → (f x xs h).all (PostE G K ρ h.n H Q) → r vx vs H Q
def mtM (k1 k2 : Nat) (f1 f2 : D → List D → M D) (mo : M D) (ms : M (List D)) : M D := M.bind mo fun x h => match mtC h x with
  | some k => if k = k1 then M.bind ms (f1 x) h else if k = k2 then M.bind ms (f2 x) h else .ret .bad
  | none => .ret .bad
theorem mt_use {k1 k2 : Nat} {r1 r2 : V → List V → Hp → VK → Prop} {f1 f2 : D → List D → M D} {to : TE} {t : TA} {mo : Env → M D} {ms : Env → M (List D)} (s1 : SMt G K r1 f1) (s2 : SMt G K r2 f2)
    (ho : ∀ ρ env h σ H Q, HR G K ρ h H → ER K ρ h.n H env σ → (mo env h).all (PostE G K ρ h.n H Q) → to σ H Q) (ha : ∀ ρ env h σ H Q, HR G K ρ h H → ER K ρ h.n H env σ → (ms env h).all (PostA G K ρ h.n H Q) → t σ H Q)
    {ρ : Nat → Addr} {env : Env} {h : VH} {σ : L2.St} {H : Hp} {Q : VK} (hr : HR G K ρ h H) (er : ER K ρ h.n H env σ) (hq : (mtM k1 k2 f1 f2 (mo env) (ms env) h).all (PostE G K ρ h.n H Q)) : tMt G.P G.w K (tyM k1) (tyM k2) r1 r2 to t σ H Q := by
  refine useE ho hr er hq (fun z => z) fun ρ1 h1' H1 d v l1 hr1 rd z => ?_
  cases e : mtC h1' d with
  | none => rw [e] at z; exact z.elim
  | some k =>
    rw [e] at z
    simp only at z
    by_cases e1 : k = k1
    · rw [if_pos e1] at z
      subst e1
      refine .inl ⟨tyV_ok hr1 e rd, useA ha hr1 (er.mono l1) z (fun z => z) fun ρ2 h2 H2 xs vs l2 hr2 rs z2 => ?_⟩
      exact s1 ρ2 h2 H2 d xs v vs Q hr2 (rd.mono l2) rs (P.all_mono (fun r z => z.mono (l1.trans l2)) z2)
    · rw [if_neg e1] at z
      by_cases e2 : k = k2
      · rw [if_pos e2] at z
        subst e2
        refine .inr ⟨tyV_ok hr1 e rd, useA ha hr1 (er.mono l1) z (fun z => z) fun ρ2 h2 H2 xs vs l2 hr2 rs z2 => ?_⟩
        exact s2 ρ2 h2 H2 d xs v vs Q hr2 (rd.mono l2) rs (P.all_mono (fun r z => z.mono (l1.trans l2)) z2)
      · rw [if_neg e2] at z; exact z.elim
theorem se_mt {name : Str} {k1 k2 : Nat} {id1 id2 : String} {r1 r2 : V → List V → Hp → VK → Prop} {f1 f2 : D → List D → M D} {o e : Expr} {es : List Expr} {apos cpos : Pos} {mo : Env → M D} {ms : Env → M (List D)} (hpw : ∀ X, C X → X.prog = G.P ∧ X.w = G.w)
    (a1 : ∀ X, C X → X.K = K → Alt X name (tyM k1) id1 r1) (a2 : ∀ X, C X → X.K = K → Alt X name (tyM k2) id2 r2) (s1 : SMt G K r1 f1) (s2 : SMt G K r2 f2) (hb : okBase o = true) (hs : noStars (e :: es) = true) (hl : (e :: es).length < 30) (hline : (apos.endLine == cpos.line) = true)
    (ho : SE G K C o mo) (ha : SA G K C (e :: es) ms) : SE G K C (.Call (.Attribute o name apos) (e :: es) [] cpos) (fun env => mtM k1 k2 f1 f2 (mo env) (ms env)) := by
  obtain ⟨to, po, qo⟩ := ho
  obtain ⟨t, pt, qt⟩ := ha
  exact ⟨tMt G.P G.w K (tyM k1) (tyM k2) r1 r2 to t, fun X hX eK => by subst eK; rw [← (hpw X hX).1, ← (hpw X hX).2]; exact pe_mt2 (a1 X hX rfl) (a2 X hX rfl) (po X hX rfl) (pt X hX rfl) hb hs hl hline, fun ρ env h σ H Q hr er hq => mt_use s1 s2 qo qt hr er hq⟩
theorem se_mt0 {name : Str} {k1 k2 : Nat} {id1 id2 : String} {r1 r2 : V → List V → Hp → VK → Prop} {f1 f2 : D → List D → M D} {o : Expr} {apos cpos : Pos} {mo : Env → M D} (hpw : ∀ X, C X → X.prog = G.P ∧ X.w = G.w)
    (a1 : ∀ X, C X → X.K = K → Alt X name (tyM k1) id1 r1) (a2 : ∀ X, C X → X.K = K → Alt X name (tyM k2) id2 r2) (s1 : SMt G K r1 f1) (s2 : SMt G K r2 f2) (hb : okBase o = true) (hline : (apos.endLine == cpos.line) = true)
    (ho : SE G K C o mo) : SE G K C (.Call (.Attribute o name apos) [] [] cpos) (fun env => mtM k1 k2 f1 f2 (mo env) (M.pure [])) := by
  obtain ⟨to, po, qo⟩ := ho
  exact ⟨tMt G.P G.w K (tyM k1) (tyM k2) r1 r2 to tNil, fun X hX eK => by subst eK; rw [← (hpw X hX).1, ← (hpw X hX).2]; exact pe_mt0 (a1 X hX rfl) (a2 X hX rfl) (po X hX rfl) hb hline, fun ρ env h σ H Q hr er hq => mt_use (t := tNil) (ms := fun _ => M.pure []) s1 s2 qo (fun ρ env h σ H Q hr er hq => hq ρ H [] Le.refl hr (relDs_nil.mpr rfl)) hr er hq⟩
/-! the list's own methods -/
theorem post_chg {ρ : Nat → Addr} {h : VH} {H : Hp} {Q : VK} {a : Nat} {xs ys : List D} {us ws : List V} {d : D} {v : V} (hr : HR G K ρ h H) (ea : h.get a = some (.lst xs)) (hu : H (ρ a) = some (.lst us)) (hy : RelDs K ρ h.n H ys ws) (hd : RelD K ρ h.n H d v)
    (hq : (P.ret (R.ok d (h.set a (.lst ys)))).all (PostE G K ρ h.n H Q)) : Q v (upd H (ρ a) (.lst ws)) := by
  have ha := VH.get_lt ea
  have l : Le K ρ h.n H ρ h.n (upd H (ρ a) (.lst ws)) := Le.chg ha hu trivial
  exact hq ρ _ v l (hr.chg ha hu trivial ⟨ws, upd_same, hy.mono l⟩) (hd.mono l)
def appM (x : D) (ds : List D) : M D := fun h => match x, ds with
  | .ref a, [d] => match h.get a with
    | some (.lst xs) => if xs.length < 16777216 then .ret (.ok .non (h.set a (.lst (xs ++ [d])))) else .ret .bad
    | _ => .ret .bad
  | _, _ => .ret .bad
theorem sm_app : SMt G K rAppend appM := by
  intro ρ h H x xs vx vs Q hr rx rs hq
  unfold appM at hq
  cases x with
  | ref a =>
    cases xs with
    | nil => exact hq.elim
    | cons d r0 =>
      cases r0 with
      | nil =>
        simp only at hq
        rw [relD_ref] at rx
        obtain ⟨_, rfl⟩ := rx
        rw [relDs_one] at rs
        obtain ⟨v, rfl, rd⟩ := rs
        cases ea : h.get a with
        | none => rw [ea] at hq; exact hq.elim
        | some ob =>
          rw [ea] at hq
          cases ob with
          | lst ys =>
            simp only at hq
            obtain ⟨us, h1, r1⟩ := hr.lst ea
            by_cases hz : ys.length < 16777216
            · rw [if_pos hz] at hq
              exact ⟨_, us, v, rfl, rfl, h1, by rw [← relDs_len r1]; exact hz, post_chg hr ea h1 (relDs_append r1 (relDs_one.mpr ⟨v, rfl, rd⟩)) (relD_non.mpr rfl) hq⟩
            · rw [if_neg hz] at hq; exact hq.elim
          | _ => exact hq.elim
      | cons => exact hq.elim
  | _ => exact hq.elim
def extM (x : D) (ds : List D) : M D := fun h => match x, ds with
  | .ref a, [.ref b] => match h.get a, h.get b with
    | some (.lst xs), some (.lst ys) => if xs.length + ys.length ≤ 16777216 then .ret (.ok .non (h.set a (.lst (xs ++ ys)))) else .ret .bad
    | _, _ => .ret .bad
  | _, _ => .ret .bad
theorem sm_ext : SMt G K rExtend extM := by
  intro ρ h H x xs vx vs Q hr rx rs hq
  unfold extM at hq
  cases x with
  | ref a =>
    cases xs with
    | nil => exact hq.elim
    | cons d0 r0 =>
      cases r0 with
      | nil =>
        cases d0 with
        | ref b =>
          simp only at hq
          rw [relD_ref] at rx
          obtain ⟨_, rfl⟩ := rx
          rw [relDs_one] at rs
          obtain ⟨v, rfl, rd⟩ := rs
          rw [relD_ref] at rd
          obtain ⟨_, rfl⟩ := rd
          cases ea : h.get a with
          | none => rw [ea] at hq; exact hq.elim
          | some ob =>
            cases eb : h.get b with
            | none => rw [ea, eb] at hq; cases ob <;> exact hq.elim
            | some oc =>
              rw [ea, eb] at hq
              cases ob with
              | lst ys =>
                cases oc with
                | lst zs =>
                  simp only at hq
                  obtain ⟨us, h1, r1⟩ := hr.lst ea
                  obtain ⟨ws, h2, r2⟩ := hr.lst eb
                  by_cases hz : ys.length + zs.length ≤ 16777216
                  · rw [if_pos hz] at hq
                    exact ⟨_, _, us, ws, rfl, rfl, h1, h2, by rw [← relDs_len r1, ← relDs_len r2]; exact hz, post_chg hr ea h1 (relDs_append r1 r2) (relD_non.mpr rfl) hq⟩
                  · rw [if_neg hz] at hq; exact hq.elim
                | _ => exact hq.elim
              | _ => exact hq.elim
        | _ => exact hq.elim
      | cons => cases d0 <;> exact hq.elim
  | _ => exact hq.elim
def clrM (x : D) (ds : List D) : M D := fun h => match x, ds with
  | .ref a, [] => match h.get a with
    | some (.lst _) => .ret (.ok .non (h.set a (.lst [])))
    | _ => .ret .bad
  | _, _ => .ret .bad
theorem sm_clr : SMt G K rClear clrM := by
  intro ρ h H x xs vx vs Q hr rx rs hq
  unfold clrM at hq
  cases x with
  | ref a =>
    cases xs with
    | nil =>
      simp only at hq
      rw [relD_ref] at rx
      obtain ⟨_, rfl⟩ := rx
      rw [relDs_nil] at rs
      subst rs
      cases ea : h.get a with
      | none => rw [ea] at hq; exact hq.elim
      | some ob =>
        rw [ea] at hq
        cases ob with
        | lst ys =>
          obtain ⟨us, h1, r1⟩ := hr.lst ea
          exact ⟨_, us, rfl, rfl, h1, post_chg hr ea h1 (relDs_nil.mpr rfl) (relD_non.mpr rfl) hq⟩
        | _ => exact hq.elim
    | cons => exact hq.elim
  | _ => exact hq.elim
def popM (x : D) (ds : List D) : M D := fun h => match x, ds with
  | .ref a, [.int i] => match h.get a with
    | some (.lst xs) => if 0 ≤ i ∧ i < 1000000000 then match xs[i.toNat]? with
        | some d => .ret (.ok d (h.set a (.lst (xs.eraseIdx i.toNat))))
        | none => .ret .bad
      else .ret .bad
    | _ => .ret .bad
  | _, _ => .ret .bad
theorem seqIx {i : Int} {n : Nat} (h0 : 0 ≤ i) (h1 : i.toNat < n) : seqIndex? i n = some i.toNat := by
  unfold seqIndex?
  simp
  omega
theorem sm_pop : SMt G K rPopAt popM := by
  intro ρ h H x xs vx vs Q hr rx rs hq
  unfold popM at hq
  cases x with
  | ref a =>
    cases xs with
    | nil => exact hq.elim
    | cons d0 r0 =>
      cases r0 with
      | nil =>
        cases d0 with
        | int i =>
          simp only at hq
          rw [relD_ref] at rx
          obtain ⟨_, rfl⟩ := rx
          rw [relDs_one] at rs
          obtain ⟨v, rfl, rd⟩ := rs
          rw [relD_int] at rd
          subst rd
          cases ea : h.get a with
          | none => rw [ea] at hq; exact hq.elim
          | some ob =>
            rw [ea] at hq
            cases ob with
            | lst ys =>
              simp only at hq
              obtain ⟨us, h1, r1⟩ := hr.lst ea
              by_cases hz : 0 ≤ i ∧ i < 1000000000
              · rw [if_pos hz] at hq
                cases ed : ys[i.toNat]? with
                | none => rw [ed] at hq; exact hq.elim
                | some d =>
                  rw [ed] at hq
                  obtain ⟨u, e2, rd⟩ := relDs_get r1 ed
                  have hlt := (List.getElem?_eq_some_iff.mp e2).1
                  exact ⟨_, us, i, i.toNat, u, rfl, rfl, h1, by omega, by omega, seqIx hz.1 hlt, e2, post_chg hr ea h1 (relDs_erase _ r1) rd hq⟩
              · rw [if_neg hz] at hq; exact hq.elim
            | _ => exact hq.elim
        | _ => exact hq.elim
      | cons => cases d0 <;> exact hq.elim
  | _ => exact hq.elim
/-! ### {} -/
def newDic : M D := fun h => .ret (.ok (.ref h.n) (h.new (.dic [])))
theorem se_dnew {C : Cx → Prop} {pos : Pos} : SE G K C (.Dict [] [] pos) (fun _ => newDic) := by
  refine ⟨tDNewK, fun X hX eK => pe_dnewK, fun ρ env h σ H Q hr er hq p hp => ?_⟩
  have l : Le K ρ h.n H (rset ρ h.n p) (h.n + 1) (upd H p (.dK [])) := Le.new hp
  exact hq _ _ _ l (hr.new hp ⟨[], upd_same, rfl, List.nodup_nil⟩) (relD_ref.mpr ⟨Nat.lt_succ_self _, by rw [rset_at]⟩)
end
end
end PV
set_option Elab.async false
set_option linter.all false
set_option maxRecDepth 100000
set_option maxHeartbeats 1000000
set_option autoImplicit false
namespace PV
noncomputable section
open PySem PySem.Spec PyProof.Rows L2
section
variable {G : Gs} {K : PySem.W.Frag} {C : Cx → Prop} {X : Cx}
/-! ### list(range(n)) -/
def rgD : Nat → Nat → List D
  | 0, _ => []
  | n + 1, i => .int i :: rgD n (i + 1)
theorem rgD_ok {ρ : Nat → Addr} {m : Nat} {H : Hp} : ∀ (n i : Nat), RelDs K ρ m H (rgD n i) ((List.range' i n).map fun (k : Nat) => V.int k)
  | 0, i => relDs_nil.mpr rfl
  | n + 1, i => relDs_cons.mpr ⟨_, _, rfl, relD_int.mpr rfl, rgD_ok n (i + 1)⟩
@[irreducible] def lrgM (x : D) : M D := fun h => match x with
  | .int n => if 0 ≤ n ∧ n ≤ 16777216 then .ret (.ok (.ref h.n) (h.new (.lst (rgD n.toNat 0)))) else .ret .bad
  | _ => .ret .bad
theorem se_lrg {a : Expr} {p p2 pos pos2 : Pos} {m : Env → M D} (hc : ∀ X, C X → X.calm = true) (h1 : ∀ X, C X → Gl X "list" ∧ X.mg "list" = none) (h2 : ∀ X, C X → Gl X "range" ∧ X.mg "range" = none) (hs : isStar a = false) (ha : SE G K C a m) :
    SE G K C (.Call (.Name "list" p) [.Call (.Name "range" p2) [a] [] pos2] [] pos) (fun env => M.bind (m env) lrgM) := by
  obtain ⟨t, pt, q⟩ := ha
  refine ⟨_, fun X hX eK => pe_listRg (hc X hX) (h1 X hX).1 (h1 X hX).2 (prg_1 (h2 X hX).1 (h2 X hX).2 (pt X hX eK) (starEach_no hs)) rfl, fun ρ env h σ H Q hr er hq => ?_⟩
  refine useE q hr er hq (fun z => z) fun ρ1 h1 H1 x vx l1 hr1 rx hq1 => ?_
  unfold lrgM at hq1
  cases x with
  | int n =>
    simp only at hq1
    rw [relD_int] at rx
    by_cases hn : 0 ≤ n ∧ n ≤ 16777216
    · rw [if_pos hn] at hq1
      refine ⟨n, rx, RgOk.of_le (by omega) hn.2 (by omega) hn.1, fun p hp => ?_⟩
      have l : Le K ρ1 h1.n H1 (rset ρ1 h1.n p) (h1.n + 1) (upd H1 p (.lst (rgV 0 n))) := Le.new hp
      refine hq1 _ _ _ (l1.trans l) (hr1.new hp ⟨_, upd_same, ?_⟩) (relD_ref.mpr ⟨Nat.lt_succ_self _, by rw [rset_at]⟩)
      have e : rgV 0 n = (List.range' 0 n.toNat).map fun (k : Nat) => V.int k := by
        unfold rgV
        rw [List.range_eq_range', show (n - 0).toNat = n.toNat by omega]
        exact List.map_congr_left fun k _ => by rw [Int.zero_add]
      rw [e]
      exact rgD_ok _ _
    · rw [if_neg hn] at hq1; exact hq1.elim
  | _ => exact hq1.elim
/-! ### sep.join(..) -/
def joinS (sep : List Nat) : List (List Nat) → List Nat
  | [] => []
  | x :: r => match r with
    | [] => x
    | _ :: _ => x ++ sep ++ joinS sep r
def strsOf : List D → Option (List (List Nat))
  | [] => some []
  | x :: r => match x, strsOf r with
    | .str s, some q => some (s :: q)
    | _, _ => none
def mkStr (s : List Nat) : Str := ⟨s.toArray⟩
theorem joinS_eq (sep : List Nat) : ∀ ss : List (List Nat), Txt.join (mkStr sep) (ss.map mkStr) = mkStr (joinS sep ss) := by
  intro ss
  rw [show Txt.join (mkStr sep) (ss.map mkStr) = Str.join (mkStr sep) (ss.map mkStr) from PySem.StrLaws.glued_eq_join _ _]
  induction ss with
  | nil => rfl
  | cons x r ih =>
    cases r with
    | nil => rfl
    | cons y q =>
      show mkStr x ++ mkStr sep ++ Str.join (mkStr sep) ((y :: q).map mkStr) = _
      rw [ih]
      show mkStr x ++ mkStr sep ++ mkStr (joinS sep (y :: q)) = mkStr (x ++ sep ++ joinS sep (y :: q))
      unfold mkStr
      show (⟨(x.toArray ++ sep.toArray) ++ (joinS sep (y :: q)).toArray⟩ : Str) = _
      simp
theorem joinS_ok {sep : List Nat} (h : ∀ c, c ∈ sep → c < 1114112) : ∀ {ss : List (List Nat)}, (∀ s, s ∈ ss → ∀ c, c ∈ s → c < 1114112) → ∀ c, c ∈ joinS sep ss → c < 1114112
  | [], _, c, hc => by cases hc
  | [x], hs, c, hc => hs x (List.Mem.head _) c hc
  | x :: y :: q, hs, c, hc => by
    unfold joinS at hc
    simp only [List.mem_append] at hc
    rcases hc with (hc | hc) | hc
    · exact hs x (List.Mem.head _) c hc
    · exact h c hc
    · exact joinS_ok h (fun s z => hs s (List.Mem.tail _ z)) c hc
theorem joinS_len {sep : List Nat} : ∀ {ss : List (List Nat)}, (joinS sep ss).length ≤ (ss.map List.length).sum + ss.length * sep.length
  | [] => by simp [joinS]
  | [x] => by simp [joinS]
  | x :: y :: q => by
    have := joinS_len (sep := sep) (ss := y :: q)
    unfold joinS
    simp only [List.length_append, List.map_cons, List.sum_cons, List.length_cons] at this ⊢
    have e : (q.length + 1 + 1) * sep.length = (q.length + 1) * sep.length + sep.length := by rw [Nat.add_mul (q.length + 1) 1, Nat.one_mul]
    omega
theorem strs_ok {ρ : Nat → Addr} {n : Nat} {H : Hp} : ∀ {xs : List D} {vs : List V} {ss : List (List Nat)}, RelDs K ρ n H xs vs → strsOf xs = some ss → vs = (ss.map mkStr).map V.str ∧ ∀ s, s ∈ ss → OkS s
  | [], vs, ss, r, e => by cases e; rw [relDs_nil] at r; subst r; exact ⟨rfl, fun s hs => by cases hs⟩
  | x :: xs, vs, ss, r, e => by
    obtain ⟨v, us, rfl, r1, r2⟩ := relDs_cons.mp r
    unfold strsOf at e
    cases x with
    | str s =>
      cases e2 : strsOf xs with
      | none => rw [e2] at e; cases e
      | some q =>
        rw [e2] at e
        cases e
        obtain ⟨p1, p2⟩ := strs_ok r2 e2
        obtain ⟨rfl, o⟩ := relD_str.mp r1
        refine ⟨by rw [p1]; rfl, fun z hz => ?_⟩
        cases hz with
        | head => exact o
        | tail _ hz => exact p2 z hz
    | _ => cases e
def joinX (s : List Nat) (xs : List D) : M D := fun h => match strsOf xs with
  | some ss => if (ss.map List.length).sum + ss.length * s.length ≤ 16777216 then .ret (.ok (.str (joinS s ss)) h) else .ret .bad
  | none => .ret .bad
def joinM (x : D) (ds : List D) : M D := fun h => match x, ds with
  | .str s, [.tup xs] => joinX s xs h
  | .str s, [.ref a] => match h.get a with
    | some (.lst xs) => joinX s xs h
    | _ => .ret .bad
  | _, _ => .ret .bad
def rJoin (K : PySem.W.Frag) : V → List V → Hp → VK → Prop := fun x xs H Q => ∃ a p, ∃ ys : List Str, x = .str a ∧ xs = [.ref p] ∧ (SqL K H p (ys.map V.str) ∨ SqT K H p (ys.map V.str)) ∧ (ys.map (·.length)).sum + ys.length * a.length ≤ 16777216 ∧ Q (.str (Txt.join a ys)) H
theorem joinX_ok {ρ : Nat → Addr} {h : VH} {H : Hp} {Q : VK} {s : List Nat} {xs : List D} {vs : List V} {p : Addr} (hr : HR G K ρ h H) (os : OkS s) (rs : RelDs K ρ h.n H xs vs) (hp : SqL K H p vs ∨ SqT K H p vs) (hq : (joinX s xs h).all (PostE G K ρ h.n H Q)) : rJoin K (.str (mkStr s)) [.ref p] H Q := by
  unfold joinX at hq
  cases e : strsOf xs with
  | none => rw [e] at hq; exact hq.elim
  | some ss =>
    rw [e] at hq
    simp only at hq
    by_cases hz : (ss.map List.length).sum + ss.length * s.length ≤ 16777216
    · rw [if_pos hz] at hq
      obtain ⟨rfl, o⟩ := strs_ok rs e
      refine ⟨mkStr s, p, ss.map mkStr, rfl, rfl, hp, ?_, ?_⟩
      · rw [List.map_map, List.length_map]
        exact hz
      · rw [joinS_eq]
        exact post_ret hr hq (relD_str.mpr ⟨rfl, joinS_ok os.1 (fun z hz => (o z hz).1), Nat.le_trans joinS_len hz⟩)
    · rw [if_neg hz] at hq; exact hq.elim
theorem sm_join : SMt G K (rJoin K) joinM := by
  intro ρ h H x xs vx vs Q hr rx rs hq
  unfold joinM at hq
  split at hq
  · obtain ⟨v, rfl, r1⟩ := relDs_one.mp rs
    obtain ⟨rfl, o⟩ := relD_str.mp rx
    obtain ⟨p, us, rfl, hp, r2⟩ := relD_tup.mp r1
    exact joinX_ok hr o r2 (.inr hp) hq
  · obtain ⟨v, rfl, r1⟩ := relDs_one.mp rs
    obtain ⟨rfl, o⟩ := relD_str.mp rx
    obtain ⟨ha, rfl⟩ := relD_ref.mp r1
    split at hq
    · rename_i ys ea
      obtain ⟨us, h1, r2⟩ := hr.lst ea
      exact joinX_ok hr o r2 (.inl (.inl (.inl h1))) hq
    · exact hq.elim
  · exact hq.elim
end
end
end PV
set_option Elab.async false
set_option linter.all false
set_option maxRecDepth 100000
set_option maxHeartbeats 3200000
set_option autoImplicit false
/-! ### sets of texts -/
namespace PV
noncomputable section
open PySem PySem.Spec PyProof.Rows L2
def skey (e : Int × Value) : Str := match e.2 with
  | .str k _ => k
  | _ => Str.empty
def SGood (w : World) (e : Int × Value) : Prop := ∃ k tk, e.2 = Value.str k tk ∧ e.1 = hashStr w k
/-- at a a set whose members are the texts of L -/
def TSet (w : World) (h : Heap) (a : Addr) (L : List Str) : Prop := ∃ o es ep t, h.get? a = some o ∧ o.ExactSet ∧ o.data = .set es ep t ∧ (∀ e ∈ es.toList, SGood w e) ∧ (es.toList.map skey).Perm L ∧ L.Nodup ∧ L.length < scanBound ∧ t.fits es.size = true ∧ Ris t.place.toList ∧ (w.params.followText "set-order" = true ∨ t.led = true)
section
variable {P : Program} {w : World} {A : Around} {E : Value → Shared → Prop} {s : Shared} {a : Addr} {L : List Str}
theorem TSet.at {h h' : Heap} (R : TSet w h a L) (k : ∀ o, h.get? a = some o → h'.get? a = some o) : TSet w h' a L := by
  obtain ⟨o, es, ep, t, ho, r⟩ := R
  exact ⟨o, es, ep, t, k o ho, r⟩
theorem sgood_elems {l : List (Int × Value)} (g : ∀ e ∈ l, SGood w e) : ElemsOf (PySem.strKind P w) l := fun e he => by
  obtain ⟨k, tk, h1, h2⟩ := g e he
  exact ⟨⟨k, by rw [h1]; exact strKind_is P w k tk, h2⟩, by rw [h1] <;> rfl⟩
theorem sgood_is {e : Int × Value} (g : SGood w e) (k : Str) : (PySem.strKind P w).is k e.2 = true ↔ skey e = k := by
  obtain ⟨k0, tk, h1, _⟩ := g
  unfold skey
  rw [h1]
  constructor
  · intro h
    obtain ⟨t, q⟩ := Value.isStrOf_shape (show Value.isStrOf k (Value.str k0 tk) = true from h)
    cases q
    rfl
  · rintro rfl
    exact strKind_is P w _ tk
theorem sgood_mem {l : List (Int × Value)} (g : ∀ e ∈ l, SGood w e) (k : Str) : k ∈ l.map skey ↔ ∃ e ∈ l, (PySem.strKind P w).is k e.2 = true := by
  rw [List.mem_map]
  exact ⟨fun ⟨e, he, q⟩ => ⟨e, he, (sgood_is (g e he) k).2 q⟩, fun ⟨e, he, q⟩ => ⟨e, he, (sgood_is (g e he) k).1 q⟩⟩
theorem tset_tail {g : Bool → Sem Unit} (hg : ∀ (b : Bool) (s₁ : Shared) (Q' : Unit → Shared → Prop), Q' () s₁ → wpAny (model P w) A (g b) Q' E s₁)
    {o : Obj} {es : Array (Int × Value)} {ep : Nat} {t : SetTable} (ho : s.heap.get? a = some o) (hex : o.ExactSet) (hd : o.data = .set es ep t)
    {es1 : Array (Int × Value)} {t2 : SetTable} (g1 : ∀ e ∈ es1.toList, SGood w e) (pm1 : (es1.toList.map skey).Perm L) (nd : L.Nodup)
    (hb1 : L.length < scanBound) (hf2 : t2.fits es1.size = true) (hr : Ris t2.place.toList) (hl : w.params.followText "set-order" = true ∨ t2.led = true) {wasDummy : Bool} {R : Option Bool → Shared → Prop}
    (hR : ∀ h', Heap.SameBut a s.heap h' → TSet w h' a L → R (some true) { s with heap := h' }) :
    wpAny (model P w) A (do
        storeSet a es1 t2
        if (!wasDummy && t2.tooFull) = true then do
            g (relayAll t2 es1 (SetTable.grown es1.size)).2.2
            storeSet a (relayAll t2 es1 (SetTable.grown es1.size)).1 (relayAll t2 es1 (SetTable.grown es1.size)).2.1
            pure (some true)
          else pure (some true)) R E s := by
  have hb : es1.size < scanBound := by rw [← Array.length_toList, ← List.length_map (f := skey), pm1.length_eq]; exact hb1
  have sb1 := Heap.SameBut.update s.heap a (Obj.putSet es1 t2)
  have ho1 := store_at (es' := es1) (t' := t2) ho hd
  refine wpAny_bind (wpAny_storeSet_of ho hd ?_ (fits_of_scanBound hb))
  split
  · have pm := relayAll_perm t2 es1 (SetTable.grown es1.size)
    have hf3 := relayAll_fits t2 es1 (SetTable.grown es1.size)
    have hr3 := relayAll_ris t2 es1 (SetTable.grown es1.size)
    have hl3 := relayAll_led t2 es1 (SetTable.grown es1.size)
    generalize relayAll t2 es1 (SetTable.grown es1.size) = Z at pm hf3 hr3 hl3 ⊢
    obtain ⟨es2, t3, gave⟩ := Z
    dsimp only at pm hf3 hr3 hl3 ⊢
    have hb2 : es2.size < scanBound := by rw [← Array.length_toList, pm.length_eq, Array.length_toList]; exact hb
    refine wpAny_bind (hg _ _ _ (wpAny_bind (wpAny_storeSet_of ho1 rfl ?_ (fits_of_scanBound hb2))))
    refine wpAny_pure (hR _ (sb1.trans (Heap.SameBut.update _ a _)) ?_)
    exact ⟨_, es2, _, t3, store_at (es' := es2) (t' := t3) ho1 rfl, hex, rfl, fun e he => g1 e (pm.mem_iff.mp he), (pm.map skey).trans pm1, nd, hb1, hf3, hr3, hl.imp id fun z => by rw [hl3]; exact z⟩
  · exact wpAny_pure (hR _ sb1 ⟨_, es1, _, t2, ho1, hex, rfl, g1, pm1, nd, hb1, hf2, hr, hl⟩)
def addS (L : List Str) (k : Str) : List Str := if k ∈ L then L else k :: L
theorem tset_add {k : Str} {tk : Tok} {Q : Bool → Shared → Prop} (R : TSet w s.heap a L) (room : L.length + 1 < scanBound)
    (hQ : ∀ h' b, Heap.SameBut a s.heap h' → TSet w h' a (addS L k) → Q b { s with heap := h' }) :
    wpAny (model P w) A (setAddHashed a (.str k tk) ((PySem.strKind P w).hash k)) Q E s := by
  obtain ⟨o, es, ep, t, ho, hex, hd, g, pm0, nd, hb, hf, hr, hl⟩ := R
  have hkey : (PySem.strKind P w).is k (.str k tk) = true := strKind_is P w k tk
  have hsc : (Value.str k tk).scannable = true := rfl
  have hel : ElemsOf (PySem.strKind P w) es.toList := sgood_elems g
  have hbe : es.size < scanBound := by rw [← Array.length_toList, ← List.length_map (f := skey), pm0.length_eq]; exact hb
  unfold setAddHashed setAddHashedIn
  refine wpAny_holding (wpAny_bind (wpAny_setState_of ho hd hf ?_))
  dsimp only
  rw [byScan_of hsc hbe hel]
  simp only [↓reduceIte]
  unfold setAddByScan
  refine wpAny_bind (wpAny_bind (wpAny_rule (wpAny_bind (wpAny_setScan_of hkey ho hd hf hel ?_))))
  cases hfi : List.findIdx? (fun e => (PySem.strKind P w).is k e.2) es.toList with
  | some j =>
    dsimp only
    obtain ⟨hj, pj, _⟩ := List.findIdx?_eq_some_iff_getElem.mp hfi
    have hk : k ∈ L := pm0.mem_iff.mp ((sgood_mem (P := P) g k).2 ⟨es.toList[j], List.getElem_mem hj, pj⟩)
    refine wpAny_pure (wpAny_pure (hQ s.heap _ (Heap.SameBut.refl a s.heap) ?_))
    unfold addS
    rw [if_pos hk]
    exact ⟨o, es, ep, t, ho, hex, hd, g, pm0, nd, hb, hf, hr, hl⟩
  | none =>
    dsimp only
    have hnk : k ∉ L := fun z => by
      obtain ⟨e, he, q⟩ := (sgood_mem (P := P) g k).1 (pm0.mem_iff.mpr z)
      have c := List.findIdx?_eq_none_iff.mp hfi e he
      rw [q] at c
      cases c
    have hgw : ∀ (b : Bool) {s₁ : Shared} {Q' : Unit → Shared → Prop}, Q' () s₁ → wpAny (model P w) A (match b with | true => rule "set.scan.the-table-gave-way" | false => pure ()) Q' E s₁ :=
      fun b s₁ Q' q => by cases b <;> first | exact wpAny_pure q | exact wpAny_rule q
    have pm := layNew_perm t es ((PySem.strKind P w).hash k) (.str k tk)
    have hf1 := layNew_fits t es ((PySem.strKind P w).hash k) (.str k tk)
    have hr1 := layNew_ris t es ((PySem.strKind P w).hash k) (.str k tk) hr
    have hl1 := layNew_led t es ((PySem.strKind P w).hash k) (.str k tk)
    generalize layNew t es ((PySem.strKind P w).hash k) (.str k tk) = Z at pm hf1 hr1 hl1 ⊢
    obtain ⟨es1, t1, wasDummy, gave⟩ := Z
    dsimp only at pm hf1 hr1 hl1 ⊢
    rw [Array.toList_push] at pm
    have pc : es1.toList.Perm (((PySem.strKind P w).hash k, Value.str k tk) :: es.toList) := pm.trans (List.perm_append_singleton _ _)
    have pk : (es1.toList.map skey).Perm (k :: L) := (pc.map skey).trans (pm0.cons k)
    have g1 : ∀ e ∈ es1.toList, SGood w e := fun e he => by
      rcases List.mem_cons.mp (pc.mem_iff.mp he) with z | z
      · rw [z]; exact ⟨k, tk, rfl, rfl⟩
      · exact g e z
    have nd1 : (k :: L).Nodup := List.nodup_cons.mpr ⟨hnk, nd⟩
    have hled : w.params.followText "set-order" = true ∨ t1.led = true := hl.imp id fun z => by rw [hl1]; exact z
    have fin : ∀ h' b, Heap.SameBut a s.heap h' → TSet w h' a (k :: L) → Q b { s with heap := h' } := fun h' b sb r => hQ h' b sb (by unfold addS; rw [if_neg hnk]; exact r)
    refine wpAny_bind (hgw _ ?_)
    split
    · refine wpAny_bind ?_
      rw [hashByValue_scannable 8 hsc]
      refine wpAny_pure ?_
      refine tset_tail ?_ ho hex hd g1 pk nd1 room ?_ ?_ ?_ ?_
      · intro b s₁ Q' q; cases b <;> first | exact wpAny_pure q | exact wpAny_rule q
      · first | (split <;> first | exact hf1 | exact SetTable.fits_plain_off hf1) | exact hf1
      · first | (split <;> exact hr1) | exact hr1
      · first | (split <;> exact hled) | exact hled
      · intro h' sb r; dsimp only; exact wpAny_pure (fin h' _ sb r)
    · refine wpAny_bind (wpAny_pure ?_)
      simp only [↓reduceIte]
      refine tset_tail ?_ ho hex hd g1 pk nd1 room hf1 hr1 hled ?_
      · intro b s₁ Q' q; cases b <;> first | exact wpAny_pure q | exact wpAny_rule q
      · intro h' sb r; dsimp only; exact wpAny_pure (fin h' _ sb r)
theorem tset_fresh {h : Heap} (w : World) : TSet w (h.push { cls := .type "set", dict := none, data := .set #[] 0 (.fresh 0 0 (!w.params.followText "set-order")) }) h.objs.size [] :=
  ⟨_, #[], 0, _, Heap.get?_push_size _ rfl, ⟨rfl, rfl, rfl⟩, rfl, (fun e he => by simp at he), .nil, List.nodup_nil, (by decide), (by rfl), List.Pairwise.nil, by
    show _ ∨ (!w.params.followText "set-order") = true
    cases w.params.followText "set-order" with
    | false => exact .inr rfl
    | true => exact .inl rfl⟩
end
end
end PV
set_option Elab.async false
set_option linter.all false
set_option maxRecDepth 100000
set_option maxHeartbeats 3200000
set_option autoImplicit false
/-! ### set(texts) -/
namespace PV
noncomputable section
open PySem PySem.Spec PyProof.Rows L2
abbrev eSet (w : World) : Obj := { cls := .type "set", dict := none, data := .set #[] 0 (.fresh 0 0 (!w.params.followText "set-order")) }
/-- the texts met so far, each once -/
def metS : List Str → List Str → List Str
  | L, [] => L
  | L, x :: r => metS (addS L x) r
theorem metS_take : ∀ (xs : List Str) (L : List Str) (i : Nat) (x : Str), xs[i]? = some x → metS L (xs.take (i + 1)) = addS (metS L (xs.take i)) x
  | [], L, i, x, h => by simp at h
  | y :: r, L, 0, x, h => by simp at h; subst h; simp [metS]
  | y :: r, L, i + 1, x, h => by
    rw [List.take_succ_cons, List.take_succ_cons]
    exact metS_take r (addS L y) i x (by simpa using h)
theorem addS_len (L : List Str) (k : Str) : (addS L k).length ≤ L.length + 1 := by
  unfold addS
  split
  · omega
  · simp
theorem metS_len : ∀ (xs L : List Str), (metS L xs).length ≤ L.length + xs.length
  | [], L => by simp [metS]
  | x :: r, L => by
    have a := metS_len r (addS L x)
    have b := addS_len L x
    simp only [metS, List.length_cons]
    omega
section
variable {prog : Program} {w : World} {A : Around} {R : Result → Shared → Prop} {I : Addr} {fp wr : List Addr} {G : Array GenState → Array GenState → Prop} {n : Nat} {P : Nat → Value → Prop} {St : Nat → Shared → Prop}
theorem loopT (W : WalksS prog w A.in1 I fp wr G n P St) (S : Addr) (hSf : S ∉ fp) (xs : List Str) (hsz : xs.length = n) (hn1 : n + 1 < scanBound) (hval : ∀ i v, P i v → ∃ t, v = .str (xs.getD i Str.empty) t) :
    ∀ (k i : Nat) (s : Shared), n - i = k → i ≤ n → St i s → TSet w s.heap S (metS [] (xs.take i)) →
      (∀ s', Moved (S :: wr) G s s' → TSet w s'.heap S (metS [] xs) → R (.ok (.ret .none)) s') → codeAny (model prog w) A (.builtin "set.update.loop" ⟨[.ref S, .ref I], []⟩) R s := by
  have hSw : S ∉ wr := fun h => hSf (W.sub _ h)
  have hsub : ∀ b ∈ wr, b ∈ S :: wr := fun b hb => List.mem_cons_of_mem _ hb
  intro k
  induction k with
  | zero =>
    intro i s hk hi hst hS hR
    have hin : i = n := by omega
    subst hin
    refine codeAny_builtin PyProof.Rows.F.entry_set_update_loop ?_
    rw [Around.under_plainId PyProof.Rows.F.plain_set_update_loop _]
    show wpAny _ A.in1 (pyNext (.ref I) >>= _) _ _ s
    refine wpAny_bind (W.done s _ _ hst fun s' hm => ?_)
    show wpAny _ A.in1 (ret Value.none) _ _ s'
    rw [List.take_of_length_le (by omega)] at hS
    exact wpAny_pure (hR s' (hm.mono hsub) (hS.at fun o ho => hm.heap S _ hSw ho))
  | succ k ih =>
    intro i s hk hi hst hS hR
    have hlt : i < n := by omega
    refine codeAny_builtin PyProof.Rows.F.entry_set_update_loop ?_
    rw [Around.under_plainId PyProof.Rows.F.plain_set_update_loop _]
    show wpAny _ A.in1 (pyNext (.ref I) >>= _) _ _ s
    refine wpAny_bind (W.item i s _ _ hlt hst fun v s' hP hst' hm => ?_)
    obtain ⟨t, rfl⟩ := hval i v hP
    have hS' : TSet w s'.heap S (metS [] (xs.take i)) := hS.at fun o ho => hm.heap S _ hSw ho
    show wpAny _ A.in1 (holding [Value.str (xs.getD i Str.empty) t] (setAdd S (.str (xs.getD i Str.empty) t)) >>= _) _ _ s'
    refine wpAny_bind (wpAny_holding ?_)
    unfold setAdd
    have room : (metS [] (xs.take i)).length + 1 < scanBound := by
      have := metS_len (xs.take i) []
      rw [List.length_take] at this
      simp at this
      omega
    refine wpAny_holding (wpAny_bind ((PySem.strKind prog w).pyHash (k := xs.getD i Str.empty) (strKind_is _ _ _ _) ?_))
    refine tset_add (s := { s' with toks := s'.toks + 1 }) hS' room fun h' b hsb hS2 => ?_
    have hg : xs[i]? = some (xs.getD i Str.empty) := by
      rw [List.getD_eq_getElem?_getD, List.getElem?_eq_getElem (by omega)]
      rfl
    rw [← metS_take xs [] i _ hg] at hS2
    refine wpAny_pure ⟨plainId_quiet PyProof.Rows.F.plain_set_update_loop _, ih (i + 1) _ (by omega) hlt (W.frame _ s' _ _ hst' (Nat.le_succ _) fun b hb o e => ?_) hS2 fun s'' hm'' hS'' => ?_⟩
    · rw [hsb.2 b (fun h : b = S => hSf (by rw [← h]; exact hb))]; exact e
    · refine hR s'' (Moved.trans W.gtrans ((hm.mono hsub).then_heap (Nat.le_succ _) fun b o hb e => ?_) hm'') hS''
      rw [hsb.2 b (fun h : b = S => hb (by rw [h]; exact List.mem_cons_self))]; exact e
end
section
variable {prog : Program} {w : World} {A : Around} {E : Value → Shared → Prop} {s : Shared}
theorem set_led1 (a : Value) {Q₁ : Value → Shared → Prop} (h : Q₁ (.ref s.heap.objs.size) { s with heap := s.heap.push (eSet w) }) :
    codeAny (model prog w) A (.call (.builtin "set.__new__") ⟨[.type "set", a], []⟩) (wants Q₁ E) s := by
  refine codeAny_of_tree ?_
  show wpAny _ A.in1 (do checkBuiltinCall "set.__new__" ⟨[.type "set", a], []⟩; again (.builtin "set.__new__" ⟨[.type "set", a], []⟩)) _ _ s
  refine wpAny_bind (wpAny_of_eq (PySem.F.newCall_set_1 a) (wpAny_pure ⟨plainId_quiet PySem.F.plain_set_new _, codeAny_builtin PySem.F.entry_set_new ?_⟩))
  rw [Around.under_plainId PySem.F.plain_set_new _]
  unfold Builtin.«set.__new__» Builtin.Frozenset.newClass
  have hsub := sub_set_self
  obtain ⟨hp, g, d, tk, os⟩ := s
  dsimp only
  wp_walk
  refine wpAny_askSetting (wpAny_pure ?_)
  dsimp only
  simp only [newObj]
  exact wpAny_bind (wpAny_alloc (wpAny_pure (wpAny_pure h)))
theorem call_set_list {l : Addr} {items : Array Value} {xs : List Str} {Q : Value → Shared → Prop} (hh : A.handled = none) (hl : s.heap.IsList l items) (hi : PyProof.Rows.StrsAre items.toList xs) (hn1 : xs.length + 1 < scanBound)
    (h : ∀ (h' : Heap) (tk : Nat), TSet w h' s.heap.objs.size (metS [] xs) → (∀ b o, b < s.heap.objs.size → s.heap.get? b = some o → h'.get? b = some o) → Q (.ref s.heap.objs.size) { s with heap := h', toks := tk }) :
    wpAny (model prog w) A (call (.type "set") [.ref l]) Q E s := by
  obtain ⟨c, tl, hmro⟩ := PySem.F.called_set.mro
  have hmade := PySem.F.called_set.made
  have hsub := PySem.F.called_set.sub
  refine wpAny_call (codeAny_of_tree ?_)
  show wpAny _ _ (callAny (.type "set") _) _ _ _
  refine wpAny_pure ⟨Code.quiet_builtin _ (by decide +kernel), codeAny_builtin PySem.F.entry_type_call ?_⟩
  rw [Around.under_plain (weight_type_call_type "set" [.ref l] []) rfl]
  have h1 := PySem.F.called_set.notType
  have h2 := PySem.F.called_set.canCreate
  have hct := PySem.F.typeCall_set_1 (.ref l)
  repeat (any_goals (first | assumption | wp_step))
  refine codeAny_mono (set_led1 (.ref l) (E := E) (Q₁ := fun obj s₁ => obj = .ref s.heap.objs.size ∧ s₁ = { s with heap := s.heap.push (eSet w) }) ⟨rfl, rfl⟩) fun r s₁ hr => ?_
  cases r with
  | error e => exact hr
  | ok fl =>
    cases fl with
    | ret obj =>
      obtain ⟨rfl, rfl⟩ := hr
      have hS : (s.heap.push (eSet w)).get? s.heap.objs.size = some (eSet w) := Heap.get?_push_size _ rfl
      have hT : Shared.TypeIs { s with heap := s.heap.push (eSet w) } (.ref s.heap.objs.size) "set" := ⟨_, hS, rfl⟩
      have hli := PySem.F.called_set.init.lookup
      have hbi := PySem.F.called_set.init.bind (.ref s.heap.objs.size)
      repeat (any_goals (first | assumption | wp_step))
      refine codeAny_mono (codeAny_call_builtin (R := wants (fun r s₂ => r = .none ∧ ∃ h' tk, s₂ = { s with heap := h', toks := tk } ∧ TSet w h' s.heap.objs.size (metS [] xs) ∧
          (∀ b o, b < s.heap.objs.size → s.heap.get? b = some o → h'.get? b = some o)) E) PySem.F.called_set.init.plain PySem.F.entry_set_init (check_set_init_1 hT ?_)) fun r₂ s₂ hr₂ => ?_
      · obtain ⟨ol, hol, hcl, nl, hdl⟩ := hl
        obtain ⟨ocls, odict, odata, oslots⟩ := ol
        simp only at hcl hdl
        subst hcl; subst hdl
        have hol' : (s.heap.push (eSet w)).get? l = some { cls := .type "list", dict := odict, data := .seq items nl, slots := oslots } := Heap.get?_push_of_some _ hol
        have hsls := PySem.F.sub_list_set
        have hslf := PySem.F.sub_list_frozenset
        have hne : (Value.type "list" == Value.type "dict") = false := by decide
        have hl1 : (s.heap.push (eSet w)).IsList l items := ⟨_, hol', rfl, nl, rfl⟩
        unfold Builtin.«set.__init__» noKeywords Builtin.Frozenset.updateFrom
        generalize hPI : pyIter = PI
        wp_walk
        subst hPI
        refine wpAny_pyIter_list hl1 (wpAny_bind (wpAny_runValue ?_))
        have hlS : l < s.heap.objs.size := Heap.lt_size hol
        have hh3 : A.in1.in1.in1.handled = none := by simp [hh]
        have hneI : l ≠ (s.heap.push (eSet w)).objs.size := by rw [Heap.size_push]; exact Nat.ne_of_lt (Nat.lt_succ_of_lt hlS)
        have hSf : s.heap.objs.size ∉ [(s.heap.push (eSet w)).objs.size, l] := by
          rw [Heap.size_push]
          intro z
          rcases List.mem_cons.mp z with z | z
          · exact Nat.ne_of_lt (Nat.lt_succ_self _) z
          · exact Nat.ne_of_gt hlS (List.mem_singleton.mp z)
        have hsz : xs.length = items.size := by rw [← StrsAre.len_eq hi, Array.length_toList]
        have hval : ∀ (i : Nat) (v : Value), items[i]? = some v → ∃ t, v = .str (xs.getD i Str.empty) t := fun i v hv => SS.strs_at hi i v (by rw [Array.getElem?_toList]; exact hv)
        refine loopT ((Walks.list hh3 _ l hneI items).toS) s.heap.objs.size hSf xs hsz (by omega) hval (items.size - 0) 0 _ (by omega) (Nat.zero_le _) ⟨⟨_, Heap.get?_push_size _ rfl, rfl, rfl⟩, (hl1.push _)⟩ ?hS0 ?hR
        case hS0 =>
          exact (tset_fresh (h := s.heap) w).at fun o ho => Heap.get?_push_of_some _ ho
        case hR =>
          intro s' hm hS'
          obtain ⟨h', g', d', tk', os'⟩ := s'
          have eg : g' = s.gens := hm.gens
          have ed : d' = s.drawn := hm.drawn
          have eo : os' = s.os := hm.os
          subst eg; subst ed; subst eo
          show wpAny _ _ _ _ _ _
          refine wpAny_pure ?_
          show wpAny _ _ (ret Value.none) _ _ _
          refine wpAny_pure ⟨rfl, h', tk', rfl, hS', fun b o hb e => hm.heap b o (fun z => ?_) (Heap.get?_push_of_some _ (Heap.get?_push_of_some _ e))⟩
          rcases List.mem_cons.mp z with z | z
          · exact Nat.ne_of_lt hb z
          · have z := List.mem_singleton.mp z
            rw [Heap.size_push] at z
            exact Nat.ne_of_lt (Nat.lt_succ_of_lt hb) z
      · cases r₂ with
        | error e => exact hr₂
        | ok fl₂ =>
          cases fl₂ with
          | ret r =>
            obtain ⟨rfl, h', tk, rfl, hS', hk'⟩ := hr₂
            repeat (any_goals (first | assumption | wp_step))
            exact h _ _ hS' hk'
          | _ => exact hr₂.elim
    | _ => exact hr.elim
theorem call_set_tuple {l : Addr} {items : Array Value} {xs : List Str} {Q : Value → Shared → Prop} (hh : A.handled = none) (hl : s.heap.IsTuple l items) (hi : PyProof.Rows.StrsAre items.toList xs) (hn1 : xs.length + 1 < scanBound)
    (h : ∀ (h' : Heap) (tk : Nat), TSet w h' s.heap.objs.size (metS [] xs) → (∀ b o, b < s.heap.objs.size → s.heap.get? b = some o → h'.get? b = some o) → Q (.ref s.heap.objs.size) { s with heap := h', toks := tk }) :
    wpAny (model prog w) A (call (.type "set") [.ref l]) Q E s := by
  obtain ⟨c, tl, hmro⟩ := PySem.F.called_set.mro
  have hmade := PySem.F.called_set.made
  have hsub := PySem.F.called_set.sub
  refine wpAny_call (codeAny_of_tree ?_)
  show wpAny _ _ (callAny (.type "set") _) _ _ _
  refine wpAny_pure ⟨Code.quiet_builtin _ (by decide +kernel), codeAny_builtin PySem.F.entry_type_call ?_⟩
  rw [Around.under_plain (weight_type_call_type "set" [.ref l] []) rfl]
  have h1 := PySem.F.called_set.notType
  have h2 := PySem.F.called_set.canCreate
  have hct := PySem.F.typeCall_set_1 (.ref l)
  repeat (any_goals (first | assumption | wp_step))
  refine codeAny_mono (set_led1 (.ref l) (E := E) (Q₁ := fun obj s₁ => obj = .ref s.heap.objs.size ∧ s₁ = { s with heap := s.heap.push (eSet w) }) ⟨rfl, rfl⟩) fun r s₁ hr => ?_
  cases r with
  | error e => exact hr
  | ok fl =>
    cases fl with
    | ret obj =>
      obtain ⟨rfl, rfl⟩ := hr
      have hS : (s.heap.push (eSet w)).get? s.heap.objs.size = some (eSet w) := Heap.get?_push_size _ rfl
      have hT : Shared.TypeIs { s with heap := s.heap.push (eSet w) } (.ref s.heap.objs.size) "set" := ⟨_, hS, rfl⟩
      have hli := PySem.F.called_set.init.lookup
      have hbi := PySem.F.called_set.init.bind (.ref s.heap.objs.size)
      repeat (any_goals (first | assumption | wp_step))
      refine codeAny_mono (codeAny_call_builtin (R := wants (fun r s₂ => r = .none ∧ ∃ h' tk, s₂ = { s with heap := h', toks := tk } ∧ TSet w h' s.heap.objs.size (metS [] xs) ∧
          (∀ b o, b < s.heap.objs.size → s.heap.get? b = some o → h'.get? b = some o)) E) PySem.F.called_set.init.plain PySem.F.entry_set_init (check_set_init_1 hT ?_)) fun r₂ s₂ hr₂ => ?_
      · obtain ⟨ol, hol, hcl, nl, hdl⟩ := hl
        obtain ⟨ocls, odict, odata, oslots⟩ := ol
        simp only at hcl hdl
        subst hcl; subst hdl
        have hol' : (s.heap.push (eSet w)).get? l = some { cls := .type "tuple", dict := odict, data := .seq items nl, slots := oslots } := Heap.get?_push_of_some _ hol
        have hsls := PySem.F.sub_tuple_set
        have hslf := PySem.F.sub_tuple_frozenset
        have hne : (Value.type "tuple" == Value.type "dict") = false := by decide
        have hl1 : (s.heap.push (eSet w)).IsTuple l items := ⟨_, hol', rfl, nl, rfl⟩
        unfold Builtin.«set.__init__» noKeywords Builtin.Frozenset.updateFrom
        generalize hPI : pyIter = PI
        wp_walk
        subst hPI
        refine wpAny_pyIter_tuple hl1 (wpAny_bind (wpAny_runValue ?_))
        have hlS : l < s.heap.objs.size := Heap.lt_size hol
        have hh3 : A.in1.in1.in1.handled = none := by simp [hh]
        have hneI : l ≠ (s.heap.push (eSet w)).objs.size := by rw [Heap.size_push]; exact Nat.ne_of_lt (Nat.lt_succ_of_lt hlS)
        have hSf : s.heap.objs.size ∉ [(s.heap.push (eSet w)).objs.size, l] := by
          rw [Heap.size_push]
          intro z
          rcases List.mem_cons.mp z with z | z
          · exact Nat.ne_of_lt (Nat.lt_succ_self _) z
          · exact Nat.ne_of_gt hlS (List.mem_singleton.mp z)
        have hsz : xs.length = items.size := by rw [← StrsAre.len_eq hi, Array.length_toList]
        have hval : ∀ (i : Nat) (v : Value), items[i]? = some v → ∃ t, v = .str (xs.getD i Str.empty) t := fun i v hv => SS.strs_at hi i v (by rw [Array.getElem?_toList]; exact hv)
        refine loopT ((Walks.tuple hh3 _ l hneI items).toS) s.heap.objs.size hSf xs hsz (by omega) hval (items.size - 0) 0 _ (by omega) (Nat.zero_le _) ⟨⟨_, Heap.get?_push_size _ rfl, rfl, rfl⟩, (hl1.push _)⟩ ?hS0 ?hR
        case hS0 =>
          exact (tset_fresh (h := s.heap) w).at fun o ho => Heap.get?_push_of_some _ ho
        case hR =>
          intro s' hm hS'
          obtain ⟨h', g', d', tk', os'⟩ := s'
          have eg : g' = s.gens := hm.gens
          have ed : d' = s.drawn := hm.drawn
          have eo : os' = s.os := hm.os
          subst eg; subst ed; subst eo
          show wpAny _ _ _ _ _ _
          refine wpAny_pure ?_
          show wpAny _ _ (ret Value.none) _ _ _
          refine wpAny_pure ⟨rfl, h', tk', rfl, hS', fun b o hb e => hm.heap b o (fun z => ?_) (Heap.get?_push_of_some _ (Heap.get?_push_of_some _ e))⟩
          rcases List.mem_cons.mp z with z | z
          · exact Nat.ne_of_lt hb z
          · have z := List.mem_singleton.mp z
            rw [Heap.size_push] at z
            exact Nat.ne_of_lt (Nat.lt_succ_of_lt hb) z
      · cases r₂ with
        | error e => exact hr₂
        | ok fl₂ =>
          cases fl₂ with
          | ret r =>
            obtain ⟨rfl, h', tk, rfl, hS', hk'⟩ := hr₂
            repeat (any_goals (first | assumption | wp_step))
            exact h _ _ hS' hk'
          | _ => exact hr₂.elim
    | _ => exact hr.elim
end
end
end PV
set_option Elab.async false
set_option linter.all false
set_option maxRecDepth 100000
set_option maxHeartbeats 3200000
set_option autoImplicit false
namespace PV
noncomputable section
open PySem PySem.Spec PyProof.Rows L2
section
variable {X : Cx}
theorem strs_are : ∀ {ys : List Str} {us : List Value}, Vals (ys.map V.str) us → StrsAre us ys
  | [], _, .nil => .nil
  | y :: ys, _, .cons r t => by
    obtain ⟨k, rfl⟩ := r
    exact .cons y k (strs_are t)
/-- set(a) of texts, and what is done with it at once -/
theorem set_then {a : Expr} {ta : TE} {p2 q : Pos} {pins : List (Addr × Obj)} {σ : L2.St} {H : Hp} {s : Shared} {Q : Value → Shared → Prop} (hc : X.calm = true) (hg2 : Gl X "set") (hm2 : X.mg "set" = none) (ha : PE X a ta) (na : isStar a = false) (I : Inv X pins σ H s) {Q1 : VK} (h : ta σ H Q1)
    (hQ : ∀ x H1, Q1 x H1 → ∃ l, ∃ xs : List Str, x = .ref l ∧ (SqL X.K H1 l (xs.map V.str) ∨ SqT X.K H1 l (xs.map V.str)) ∧ xs.length ≤ 1000 ∧ ∀ s2 b, Inv X pins σ H1 s2 → TSet X.w s2.heap b (metS [] xs) → Q (.ref b) s2) :
    wpAny (model X.prog X.w) X.A (eval (.Call (.Name "set" p2) [a] [] q) X.env) Q X.xe s := by
  refine Call_ (ld_blt I hg2 hm2 boot_set ?_)
  refine PyProof.Rows.callWith_type1 (PyProof.Rows.args_cons (thn (ha.run pins s σ H _ I h) fun v s1 ⟨x, H1, I1, r1, q1⟩ => PyProof.Rows.args_nil ?_) (starEach_no na)) (starEach_no na) rfl
  obtain ⟨l, xs, rfl, hq, h1, q1⟩ := hQ x H1 q1
  cases r1
  have hb : xs.length + 1 < scanBound := by unfold scanBound; omega
  rcases hq with hq | hq
  · obtain ⟨its, r, pl, hz⟩ := I1.list hq
    exact call_set_list (I1.ok.hd hc) pl.isList (by simpa using strs_are r) hb fun h' tk hS hk => q1 _ _ (I1.kept fun b o e => hk b o (Heap.lt_size e) e) hS
  · obtain ⟨its, r, pl, hz⟩ := I1.tuple hq
    exact call_set_tuple (I1.ok.hd hc) pl (by simpa using strs_are r) hb fun h' tk hS hk => q1 _ _ (I1.kept fun b o e => hk b o (Heap.lt_size e) e) hS
def tLenST (K : PySem.W.Frag) (ta : TE) : TE := fun σ H Q => ta σ H fun x H1 => ∃ l, ∃ xs : List Str, x = .ref l ∧ (SqL K H1 l (xs.map V.str) ∨ SqT K H1 l (xs.map V.str)) ∧ xs.length ≤ 1000 ∧ Q (.int (metS [] xs).length) H1
theorem TSet.size {w : World} {h : Heap} {a : Addr} {L : List Str} {o : Obj} {es : Array (Int × Value)} (pm : (es.toList.map skey).Perm L) : es.size = L.length := by
  rw [← Array.length_toList, ← List.length_map (f := skey), pm.length_eq]
theorem pe_lenST {a : Expr} {ta : TE} {p p2 q pos : Pos} (hc : X.calm = true) (hg : Gl X "len") (hm : X.mg "len" = none) (hg2 : Gl X "set") (hm2 : X.mg "set" = none) (ha : PE X a ta) (na : isStar a = false) : PE X (.Call (.Name "len" p) [.Call (.Name "set" p2) [a] [] q] [] pos) (tLenST X.K ta) := by
  refine ⟨fun pins s σ H Q I h => ?_⟩
  refine Call_ (ld_blt I hg hm boot_len ?_)
  refine PyProof.Rows.callWith_builtin1 (PyProof.Rows.args_cons ?_ rfl) rfl rfl
  refine set_then hc hg2 hm2 ha na I h fun x H1 hx => ?_
  obtain ⟨l, xs, e1, e2, e3, q1⟩ := hx
  refine ⟨l, xs, e1, e2, e3, fun s2 b I2 S => PyProof.Rows.args_nil ?_⟩
  obtain ⟨o, es, ep, t, ho, hex, hd, _, pm, nd, hb, hf, _⟩ := S
  have hs := TSet.size (w := X.w) (h := s2.heap) (a := b) (o := o) pm
  exact call_len_set ho hex hd hf (by unfold scanBound at hb; rw [hs]; omega) ⟨.int (metS [] xs).length, H1, I2.tok _, ⟨_, by rw [hs]⟩, q1⟩
def tSortST (K : PySem.W.Frag) (ta : TE) : TE := fun σ H Q => ta σ H fun x H1 => ∃ l, ∃ xs : List Str, x = .ref l ∧ (SqL K H1 l (xs.map V.str) ∨ SqT K H1 l (xs.map V.str)) ∧ xs.length ≤ 1000 ∧ (metS [] xs).length < 64 ∧
  ∀ (ys : List Str) (p : Addr), ys.Perm (metS [] xs) → sortedS ys = true → H1 p = none → Q (.ref p) (upd H1 p (.lst (ys.map V.str)))
theorem strsOf_good {w : World} : ∀ (l : List Value), (∀ v ∈ l, ∃ k tk, v = Value.str k tk) → StrsAre l (l.map fun v => skey (0, v))
  | [], _ => .nil
  | v :: l, h => by
    obtain ⟨k, tk, rfl⟩ := h v List.mem_cons_self
    exact .cons k tk (strsOf_good (w := w) l fun u hu => h u (List.mem_cons_of_mem _ hu))
theorem pe_sortST {a : Expr} {ta : TE} {p p2 q pos : Pos} (hc : X.calm = true) (hg : Gl X "sorted") (hm : X.mg "sorted" = none) (hg2 : Gl X "set") (hm2 : X.mg "set" = none) (ha : PE X a ta) (na : isStar a = false) : PE X (.Call (.Name "sorted" p) [.Call (.Name "set" p2) [a] [] q] [] pos) (tSortST X.K ta) := by
  refine ⟨fun pins s σ H Q I h => ?_⟩
  refine Call_ (ld_blt I hg hm (show bootBuiltins "sorted" = some (.builtin "sorted") by decide +kernel) ?_)
  refine PyProof.Rows.callWith_builtin1 (PyProof.Rows.args_cons ?_ rfl) rfl rfl
  refine set_then hc hg2 hm2 ha na I h fun x H1 hx => ?_
  obtain ⟨l, xs, e1, e2, e3, h64, q1⟩ := hx
  refine ⟨l, xs, e1, e2, e3, fun s2 b I2 S => PyProof.Rows.args_nil ?_⟩
  obtain ⟨o, es, ep, t, ho, hex, hd, g, pm, nd, hb, hf, hr, hl⟩ := S
  have hs := TSet.size (w := X.w) (h := s2.heap) (a := b) (o := o) pm
  refine Calls.call_function_entry kind_sorted plain_sorted entry_sorted (args_sorted1 _) ?_
  unfold Builtin.«sorted»
  refine wpAny_bind (m := checkCount "sorted" 1 1 _) (wpAny_pure ?_)
  refine wpAny_bind (collect_set (A := X.A.in1) (I2.ok.hd hc) ⟨o, ho, hex.1, hd⟩ hf (by rw [hs]; exact hb) hr hl fun s3 vs k3 hz g3 o3 pv => ?_)
  have hvl : vs.length < 64 := by rw [pv.length_eq, List.length_map, Array.length_toList, hs]; exact h64
  have hS : StrsAre vs (vs.map fun v => skey (0, v)) := strsOf_good (w := X.w) vs fun v hv => by
    obtain ⟨e, he, z⟩ := List.mem_map.mp (pv.mem_iff.mp hv)
    obtain ⟨k, tk, h1, _⟩ := g e he
    exact ⟨k, tk, by rw [← z]; exact h1⟩
  have pk : (vs.map fun v => skey (0, v)).Perm (metS [] xs) := by
    have z := pv.map fun v => skey (0, v)
    rw [List.map_map] at z
    exact z.trans pm
  obtain ⟨hp3, gn3, dr3, tk3, os3⟩ := s3
  dsimp only at k3 hz g3 o3
  subst g3 o3
  have I3 : Inv X pins σ H1 ⟨hp3, s2.gens, dr3, tk3, s2.os⟩ := I2.call (ch := []) (Un.kept k3) (I2.hok.kept k3) I2.bare (fun _ z => nomatch z)
  refine wpAny_bind (wpAny_newList ?_ (by rw [sizeLine_eq]; omega))
  have hoL : (hp3.push (seqObj "list" vs.toArray 0)).get? hp3.objs.size = some (seqObj "list" vs.toArray 0) := Heap.get?_push_size _ rfl
  refine wpAny_bind (wpAny_holding (wpAny_call_entry slot_list_sort ⟨_, hoL, rfl⟩ entry_list_sort
    (list_sort_treeK strKind_oneLt (s := ⟨hp3.push (seqObj "list" vs.toArray 0), s2.gens, dr3, tk3, s2.os⟩) hoL hS.keysOf (fun v₁ v₂ rest e => keyKind_strs (by rw [← e]; exact hS)) hvl fun st' hp hs => ⟨_, rfl, ?_⟩) (args_list_sort _)))
  obtain ⟨ys, g1, g2, g4⟩ := sorted_out_str hS hp hs
  obtain ⟨e', he'⟩ := sortedHeap_at (vs := vs) (out := (arrOf st').map (·.2)) hoL
  have hlen : (ys.map V.str).length ≤ sizeLine := by
    rw [List.length_map, g2.length_eq, List.length_map, sizeLine_eq]
    omega
  refine wpAny_pure ⟨_, rfl, .ref hp3.objs.size, upd H1 hp3.objs.size (.lst (ys.map V.str)), I3.laid (t' := tk3) (fun b u e => ?_) (Nat.le_refl _)
    (show ObjOk X.prog X.w _ _ _ (.lst (ys.map V.str)) from ⟨hlen, ((arrOf st').map (·.2)).toList, e', vals_of_strs g1, by rw [Array.toArray_toList]; exact he'⟩), rfl, q1 ys _ (g2.trans pk) g4 (I3.hok.fresh (Nat.le_refl _))⟩
  have hb : b < hp3.objs.size := Heap.lt_size e
  rw [sortedHeap_old (Nat.ne_of_lt hb) (by rw [size_push']; exact Nat.lt_succ_of_lt hb)]
  exact Heap.get?_push_of_some _ e
end
end
end PV
set_option Elab.async false
set_option linter.all false
set_option maxRecDepth 100000
set_option maxHeartbeats 1000000
set_option autoImplicit false
namespace PV
noncomputable section
open PySem PySem.Spec PyProof.Rows L2
/-! ### sorting -/
def insB {α : Type} (lt : α → α → Bool) (x : α) : List α → List α
  | [] => [x]
  | y :: r => if lt y x then y :: insB lt x r else x :: y :: r
def sortB {α : Type} (lt : α → α → Bool) : List α → List α
  | [] => []
  | x :: r => insB lt x (sortB lt r)
section
variable {α : Type} {lt : α → α → Bool}
theorem insB_perm (x : α) : ∀ l : List α, (insB lt x l).Perm (x :: l)
  | [] => .refl _
  | y :: r => by
    unfold insB
    split
    · exact ((insB_perm x r).cons y).trans (.swap x y r)
    · exact .refl _
theorem sortB_perm : ∀ l : List α, (sortB lt l).Perm l
  | [] => .refl _
  | x :: r => (insB_perm x _).trans ((sortB_perm r).cons x)
theorem insB_srt (tr : ∀ x y z, lt y x = false → lt z y = false → lt z x = false) (tot : ∀ x y, lt x y = true → lt y x = false) (x : α) : ∀ l : List α, l.Pairwise (fun a b => lt b a = false) → (insB lt x l).Pairwise (fun a b => lt b a = false)
  | [], _ => List.pairwise_singleton _ _
  | y :: r, h => by
    obtain ⟨h1, h2⟩ := List.pairwise_cons.mp h
    unfold insB
    by_cases e : lt y x = true
    · rw [if_pos e]
      refine List.pairwise_cons.mpr ⟨fun z hz => ?_, insB_srt tr tot x r h2⟩
      rcases List.mem_cons.mp ((insB_perm x r).mem_iff.mp hz) with q | q
      · rw [q]; exact tot _ _ e
      · exact h1 z q
    · rw [if_neg e]
      have e : lt y x = false := by simpa using e
      refine List.pairwise_cons.mpr ⟨fun z hz => ?_, h⟩
      rcases List.mem_cons.mp hz with q | q
      · rw [q]; exact e
      · exact tr x y z e (h1 z q)
theorem sortB_srt (tr : ∀ x y z, lt y x = false → lt z y = false → lt z x = false) (tot : ∀ x y, lt x y = true → lt y x = false) : ∀ l : List α, (sortB lt l).Pairwise (fun a b => lt b a = false)
  | [] => List.Pairwise.nil
  | x :: r => insB_srt tr tot x _ (sortB_srt tr tot r)
theorem srt_eq (anti : ∀ x y, lt x y = false → lt y x = false → x = y) : ∀ {l m : List α}, l.Perm m → l.Pairwise (fun a b => lt b a = false) → m.Pairwise (fun a b => lt b a = false) → l = m
  | [], m, p, _, _ => (List.Perm.nil_eq p).symm ▸ rfl
  | x :: r, [], p, _, _ => by have := p.length_eq; simp at this
  | x :: r, y :: q, p, h1, h2 => by
    obtain ⟨a1, a2⟩ := List.pairwise_cons.mp h1
    obtain ⟨b1, b2⟩ := List.pairwise_cons.mp h2
    have e : x = y := by
      rcases List.mem_cons.mp (p.mem_iff.mp List.mem_cons_self) with z | z
      · exact z
      · rcases List.mem_cons.mp (p.mem_iff.mpr List.mem_cons_self) with u | u
        · exact u.symm
        · exact anti x y (b1 x z |> fun k => by exact k) (a1 y u)
    subst e
    rw [srt_eq anti (List.Perm.cons_inv p) a2 b2]
end
theorem lS_tr (x y z : List Nat) (h1 : ltS y x = false) (h2 : ltS z y = false) : ltS z x = false := by
  rw [ltS_iff, decide_eq_false_iff_not] at *
  exact fun h => h1 (List.lt_of_le_of_lt (List.not_lt.mp h2) h)
theorem lS_as (x y : List Nat) (h : ltS x y = true) : ltS y x = false := by
  rw [ltS_iff] at *
  rw [decide_eq_false_iff_not]
  exact List.lt_asymm (of_decide_eq_true h)
theorem lS_an (x y : List Nat) (h1 : ltS x y = false) (h2 : ltS y x = false) : x = y := by
  rw [ltS_iff, decide_eq_false_iff_not] at *
  exact List.le_antisymm (List.not_lt.mp h2) (List.not_lt.mp h1)
theorem mkStr_inj {s t : List Nat} (h : mkStr s = mkStr t) : s = t := by
  unfold mkStr at h
  injection h with h
  simpa using congrArg Array.toList h
theorem mkStr_of (x : Str) : mkStr x.cps.toList = x := by
  cases x
  unfold mkStr
  simp
theorem rising_pw : ∀ (l : List Str) (p : Str), risingS p l = true → (p :: l).Pairwise (fun a b => ltS b.cps.toList a.cps.toList = false)
  | [], p, _ => List.pairwise_singleton _ _
  | x :: r, p, h => by
    unfold risingS at h
    rw [Bool.and_eq_true, Bool.not_eq_true'] at h
    have ih := rising_pw r x h.2
    have hp : ltS x.cps.toList p.cps.toList = false := by rw [ltS_iff, ← ltCps_eq]; exact h.1
    refine List.pairwise_cons.mpr ⟨fun y hy => ?_, ih⟩
    rcases List.mem_cons.mp hy with q | q
    · rw [q]; exact hp
    · exact lS_tr _ _ _ hp ((List.pairwise_cons.mp ih).1 y q)
theorem sorted_pw {l : List Str} (h : sortedS l = true) : l.Pairwise (fun a b => ltS b.cps.toList a.cps.toList = false) := by
  cases l with
  | nil => exact .nil
  | cons x r => exact rising_pw r x h
/-- what is sorted is our sort -/
theorem sorted_is {ss : List (List Nat)} {ys : List Str} (p : ys.Perm (ss.map mkStr)) (h : sortedS ys = true) : ys = (sortB ltS ss).map mkStr := by
  have e : ys.map (fun x => x.cps.toList) = sortB ltS ss := by
    refine srt_eq lS_an ?_ ?_ (sortB_srt lS_tr lS_as ss)
    · refine (p.map fun x => x.cps.toList).trans ?_
      rw [List.map_map]
      have : (fun x : Str => x.cps.toList) ∘ mkStr = id := by funext s; simp [mkStr]
      rw [this, List.map_id]
      exact (sortB_perm ss).symm
    · rw [List.pairwise_map]
      exact sorted_pw h
  rw [← e, List.map_map]
  have : mkStr ∘ (fun x : Str => x.cps.toList) = id := by funext s; exact mkStr_of s
  rw [this, List.map_id]
theorem sortedI_is {ns ys : List Int} (p : ys.Perm ns) (h : ys.Pairwise (· ≤ ·)) : ys = sortB (fun a b => decide (a < b)) ns := by
  refine srt_eq (lt := fun a b : Int => decide (a < b)) (fun x y h1 h2 => ?_) (p.trans (sortB_perm ns).symm) ?_ (sortB_srt (fun x y z h1 h2 => ?_) (fun x y h1 => ?_) ns)
  · simp only [decide_eq_false_iff_not] at h1 h2; omega
  · exact h.imp fun {a b} q => by simp only [decide_eq_false_iff_not]; omega
  · simp only [decide_eq_false_iff_not] at *; omega
  · simp only [decide_eq_false_iff_not, decide_eq_true_eq] at *; omega
/-- the texts met, each once -/
def inS (x : List Nat) : List (List Nat) → Bool
  | [] => false
  | y :: r => if eqS x y then true else inS x r
def metN : List (List Nat) → List (List Nat) → List (List Nat)
  | L, [] => L
  | L, x :: r => metN (if inS x L then L else x :: L) r
theorem inS_iff (x : List Nat) : ∀ L : List (List Nat), inS x L = true ↔ mkStr x ∈ L.map mkStr
  | [] => by simp [inS]
  | y :: r => by
    unfold inS
    rw [List.map_cons, List.mem_cons]
    by_cases e : eqS x y = true
    · rw [if_pos e]
      have := (eqS_iff x y).mp e
      subst this
      simp
    · rw [if_neg e, inS_iff x r]
      have ne : ¬ mkStr x = mkStr y := fun z => e ((eqS_iff x y).mpr (mkStr_inj z))
      simp [ne]
theorem metN_eq : ∀ (xs L : List (List Nat)), metS (L.map mkStr) (xs.map mkStr) = (metN L xs).map mkStr
  | [], L => rfl
  | x :: r, L => by
    rw [List.map_cons]
    unfold metS metN addS
    by_cases e : inS x L = true
    · rw [if_pos e, if_pos ((inS_iff x L).mp e)]
      exact metN_eq r L
    · rw [if_neg e, if_neg (fun z => e ((inS_iff x L).mpr z))]
      exact metN_eq r (x :: L)
section
variable {G : Gs} {K : PySem.W.Frag} {C : Cx → Prop} {X : Cx}
/-- the texts of a list or tuple -/
def textsOf (h : VH) : D → Option (List (List Nat))
  | .tup xs => strsOf xs
  | .ref a => match h.get a with
    | some (.lst xs) => strsOf xs
    | _ => none
  | _ => none
theorem texts_ok {ρ : Nat → Addr} {h : VH} {H : Hp} (hr : HR G K ρ h H) {d : D} {v : V} {ss : List (List Nat)} (e : textsOf h d = some ss) (r : RelD K ρ h.n H d v) :
    ∃ l, v = .ref l ∧ (SqL K H l ((ss.map mkStr).map V.str) ∨ SqT K H l ((ss.map mkStr).map V.str)) ∧ ∀ s, s ∈ ss → OkS s := by
  cases d with
  | tup xs =>
    obtain ⟨p, vs, rfl, hp, rs⟩ := relD_tup.mp r
    obtain ⟨rfl, o⟩ := strs_ok rs e
    exact ⟨p, rfl, .inr hp, o⟩
  | ref a =>
    simp only [textsOf] at e
    obtain ⟨_, rfl⟩ := relD_ref.mp r
    cases ea : h.get a with
    | none => rw [ea] at e; cases e
    | some ob =>
      rw [ea] at e
      cases ob with
      | lst xs =>
        obtain ⟨vs, h1, r1⟩ := hr.lst ea
        obtain ⟨rfl, o⟩ := strs_ok r1 e
        exact ⟨_, rfl, .inl (.inl (.inl h1)), o⟩
      | _ => cases e
  | _ => cases e
def lenSM (x : D) : M D := fun h => match textsOf h x with
  | some ss => if Nat.ble ss.length 1000 then .ret (.ok (.int (metN [] ss).length) h) else .ret .bad
  | none => .ret .bad
def srtSM (x : D) : M D := fun h => match textsOf h x with
  | some ss => if Nat.ble ss.length 1000 && Nat.ble (metN [] ss).length 63 then .ret (.ok (.ref h.n) (h.new (.lst ((sortB ltS (metN [] ss)).map .str)))) else .ret .bad
  | none => .ret .bad
theorem rel_strs {ρ : Nat → Addr} {n : Nat} {H : Hp} : ∀ {ss : List (List Nat)}, (∀ s, s ∈ ss → OkS s) → RelDs K ρ n H (ss.map .str) ((ss.map mkStr).map V.str)
  | [], _ => relDs_nil.mpr rfl
  | s :: r, h => relDs_cons.mpr ⟨_, _, rfl, relD_str.mpr ⟨rfl, h s List.mem_cons_self⟩, rel_strs fun q hq => h q (List.mem_cons_of_mem _ hq)⟩
theorem metN_mem {s : List Nat} : ∀ {xs L : List (List Nat)}, s ∈ metN L xs → s ∈ L ∨ s ∈ xs
  | [], L, h => .inl h
  | x :: r, L, h => by
    unfold metN at h
    by_cases e : inS x L = true
    · rw [if_pos e] at h
      rcases metN_mem h with q | q
      · exact .inl q
      · exact .inr (List.mem_cons_of_mem _ q)
    · rw [if_neg e] at h
      rcases metN_mem h with q | q
      · rcases List.mem_cons.mp q with q | q
        · exact .inr (by rw [q]; exact List.mem_cons_self)
        · exact .inl q
      · exact .inr (List.mem_cons_of_mem _ q)
theorem se_lenST {a : Expr} {p p2 q pos : Pos} {m : Env → M D} (hc : ∀ X, C X → X.calm = true) (h1 : ∀ X, C X → Gl X "len" ∧ X.mg "len" = none) (h2 : ∀ X, C X → Gl X "set" ∧ X.mg "set" = none) (hs : isStar a = false) (ha : SE G K C a m) :
    SE G K C (.Call (.Name "len" p) [.Call (.Name "set" p2) [a] [] q] [] pos) (fun env => M.bind (m env) lenSM) := by
  obtain ⟨t, pt, qt⟩ := ha
  refine ⟨tLenST K t, fun X hX eK => by subst eK; exact pe_lenST (hc X hX) (h1 X hX).1 (h1 X hX).2 (h2 X hX).1 (h2 X hX).2 (pt X hX rfl) hs, fun ρ env h σ H Q hr er hq => ?_⟩
  refine useE qt hr er hq (fun z => z) fun ρ1 h1 H1 d v l1 hr1 rd z => ?_
  unfold lenSM at z
  cases e : textsOf h1 d with
  | none => rw [e] at z; exact z.elim
  | some ss =>
    rw [e] at z
    simp only at z
    by_cases hz : Nat.ble ss.length 1000 = true
    · rw [if_pos hz] at z
      obtain ⟨l, rfl, hl, o⟩ := texts_ok hr1 e rd
      refine ⟨l, ss.map mkStr, rfl, hl, by rw [List.length_map]; exact Nat.le_of_ble_eq_true hz, ?_⟩
      have := metN_eq ss []
      rw [List.map_nil] at this
      rw [this, List.length_map]
      exact z ρ1 H1 _ l1 hr1 (relD_int.mpr rfl)
    · rw [if_neg hz] at z; exact z.elim
theorem se_srtST {a : Expr} {p p2 q pos : Pos} {m : Env → M D} (hc : ∀ X, C X → X.calm = true) (h1 : ∀ X, C X → Gl X "sorted" ∧ X.mg "sorted" = none) (h2 : ∀ X, C X → Gl X "set" ∧ X.mg "set" = none) (hs : isStar a = false) (ha : SE G K C a m) :
    SE G K C (.Call (.Name "sorted" p) [.Call (.Name "set" p2) [a] [] q] [] pos) (fun env => M.bind (m env) srtSM) := by
  obtain ⟨t, pt, qt⟩ := ha
  refine ⟨tSortST K t, fun X hX eK => by subst eK; exact pe_sortST (hc X hX) (h1 X hX).1 (h1 X hX).2 (h2 X hX).1 (h2 X hX).2 (pt X hX rfl) hs, fun ρ env h σ H Q hr er hq => ?_⟩
  refine useE qt hr er hq (fun z => z) fun ρ1 h1 H1 d v l1 hr1 rd z => ?_
  unfold srtSM at z
  cases e : textsOf h1 d with
  | none => rw [e] at z; exact z.elim
  | some ss =>
    rw [e] at z
    simp only at z
    by_cases hz : (Nat.ble ss.length 1000 && Nat.ble (metN [] ss).length 63) = true
    · rw [if_pos hz] at z
      rw [Bool.and_eq_true] at hz
      obtain ⟨l, rfl, hl, o⟩ := texts_ok hr1 e rd
      have em := metN_eq ss []
      rw [List.map_nil] at em
      refine ⟨l, ss.map mkStr, rfl, hl, by rw [List.length_map]; exact Nat.le_of_ble_eq_true hz.1, by rw [em, List.length_map]; have := Nat.le_of_ble_eq_true hz.2; omega, fun ys pa pm srt hp => ?_⟩
      rw [em] at pm
      have ey := sorted_is pm srt
      subst ey
      exact post_lst hr1 (P.all_mono (fun r z => z.mono l1) z) (rel_strs fun s hs => by
        rcases metN_mem ((sortB_perm _).mem_iff.mp hs) with q | q
        · cases q
        · exact o s q) pa hp
    · rw [if_neg hz] at z; exact z.elim
/-! sorted of texts, of ints, of a dict's texts -/
def keysS : List (D × D) → Option (List (List Nat))
  | [] => some []
  | (k, _) :: r => match k, keysS r with
    | .str s, some q => some (s :: q)
    | _, _ => none
def srtL (xs : List D) : M D := fun h => match strsOf xs with
  | some ss => if Nat.ble ss.length 63 then .ret (.ok (.ref h.n) (h.new (.lst ((sortB ltS ss).map .str)))) else .ret .bad
  | none => match intsD xs with
    | some ns => if Nat.ble ns.length 63 then .ret (.ok (.ref h.n) (h.new (.lst ((sortB (fun a b => decide (a < b)) ns).map .int)))) else .ret .bad
    | none => .ret .bad
def sortM (x : D) : M D := fun h => match x with
  | .ref a => match h.get a with
    | some (.lst xs) => srtL xs h
    | some (.dic kvs) => match keysS kvs with
      | some ss => if Nat.ble ss.length 63 then .ret (.ok (.ref h.n) (h.new (.lst ((sortB ltS ss).map .str)))) else .ret .bad
      | none => .ret .bad
    | _ => .ret .bad
  | _ => .ret .bad
def rSortDk : List V → Hp → VK → Prop := fun xs H Q => ∃ (a : Addr) (kvs : List (Key × V)) (ks : List Str), xs = [.ref a] ∧ Rd H a (.dK kvs) ∧ kvs.map (·.1) = ks.map Sum.inr ∧ ks.length < 64 ∧ ∀ ys p, ys.Perm ks → sortedS ys = true → H p = none → Q (.ref p) (upd H p (.lst (ys.map V.str)))
def rSortA (K : PySem.W.Frag) : List V → Hp → VK → Prop := fun xs H Q => (rSortedS K xs H Q ∨ rSorted K xs H Q) ∨ rSortDk xs H Q
theorem call_sortA (hc : X.calm = true) : CallR X (.builtin "sorted") (rSortA X.K) := CallR.or (CallR.or cr_sortedS cr_sorted) (call_sortedD hc)
theorem keysS_ok {ρ : Nat → Addr} {n : Nat} {H : Hp} : ∀ {kvs : List (D × D)} {es : List (Key × V)} {ss : List (List Nat)}, keysS kvs = some ss → DRel K ρ n H kvs es → es.map (·.1) = (ss.map mkStr).map Sum.inr ∧ ∀ s, s ∈ ss → OkS s
  | [], es, ss, e, r => by cases e; cases r; exact ⟨rfl, fun s hs => by cases hs⟩
  | (k, d) :: q, es, ss, e, r => by
    obtain ⟨k', v, es', rfl, a, b, c⟩ := r
    unfold keysS at e
    cases k with
    | str s =>
      cases e2 : keysS q with
      | none => rw [e2] at e; cases e
      | some tt =>
        rw [e2] at e
        cases e
        obtain ⟨p1, p2⟩ := keysS_ok e2 c
        obtain ⟨rfl, o⟩ := a
        refine ⟨by rw [List.map_cons, p1]; rfl, fun z hz => ?_⟩
        rcases List.mem_cons.mp hz with hz | hz
        · rw [hz]; exact o
        · exact p2 z hz
    | _ => cases e
theorem rel_ints {ρ : Nat → Addr} {n : Nat} {H : Hp} : ∀ {ns : List Int}, RelDs K ρ n H (ns.map .int) (ns.map V.int)
  | [] => relDs_nil.mpr rfl
  | s :: r => relDs_cons.mpr ⟨_, _, rfl, relD_int.mpr rfl, rel_ints⟩
theorem sc_sort : SC1 G K (rSortA K) sortM := by
  intro ρ h H x vx Q hr rx hq
  unfold sortM at hq
  cases x with
  | ref a =>
    simp only at hq
    obtain ⟨_, rfl⟩ := relD_ref.mp rx
    cases ea : h.get a with
    | none => rw [ea] at hq; exact hq.elim
    | some ob =>
      rw [ea] at hq
      cases ob with
      | lst xs =>
        simp only at hq
        obtain ⟨vs, h1, r1⟩ := hr.lst ea
        unfold srtL at hq
        cases es : strsOf xs with
        | some ss =>
          rw [es] at hq
          simp only at hq
          by_cases hz : Nat.ble ss.length 63 = true
          · rw [if_pos hz] at hq
            obtain ⟨rfl, o⟩ := strs_ok r1 es
            have := Nat.le_of_ble_eq_true hz
            refine .inl (.inl ⟨_, ss.map mkStr, rfl, .inl (.inl h1), by rw [List.length_map]; omega, fun ys pa pm srt hp => ?_⟩)
            have ey := sorted_is pm srt
            subst ey
            exact post_lst hr hq (rel_strs fun s hs => o s ((sortB_perm _).mem_iff.mp hs)) pa hp
          · rw [if_neg hz] at hq; exact hq.elim
        | none =>
          rw [es] at hq
          simp only at hq
          cases ei : intsD xs with
          | none => rw [ei] at hq; exact hq.elim
          | some ns =>
            rw [ei] at hq
            simp only at hq
            by_cases hz : Nat.ble ns.length 63 = true
            · rw [if_pos hz] at hq
              have e := ints_ok ei r1
              subst e
              have := Nat.le_of_ble_eq_true hz
              refine .inl (.inr ⟨_, ns, rfl, .inl (.inl h1), by omega, fun ys pa pm srt hp => ?_⟩)
              have ey := sortedI_is pm srt
              subst ey
              exact post_lst hr hq rel_ints pa hp
            · rw [if_neg hz] at hq; exact hq.elim
      | dic kvs =>
        simp only at hq
        obtain ⟨es, h1, r1, _⟩ := hr.dic ea
        cases ek : keysS kvs with
        | none => rw [ek] at hq; exact hq.elim
        | some ss =>
          rw [ek] at hq
          simp only at hq
          by_cases hz : Nat.ble ss.length 63 = true
          · rw [if_pos hz] at hq
            obtain ⟨e1, o⟩ := keysS_ok ek r1
            have := Nat.le_of_ble_eq_true hz
            refine .inr ⟨_, es, ss.map mkStr, rfl, .of h1, e1, by rw [List.length_map]; omega, fun ys pa pm srt hp => ?_⟩
            have ey := sorted_is pm srt
            subst ey
            exact post_lst hr hq (rel_strs fun s hs => o s ((sortB_perm _).mem_iff.mp hs)) pa hp
          · rw [if_neg hz] at hq; exact hq.elim
      | _ => exact hq.elim
  | _ => exact hq.elim
/-! str(text) -/
def strM (x : D) : M D := fun h => match x with
  | .str s => .ret (.ok (.str s) h)
  | _ => .ret .bad
theorem sc_str : SC1 G K (fun xs H Q => ∃ a, xs = [.str a] ∧ Q (.str a) H) strM := by
  intro ρ h H x vx Q hr rx hq
  cases x with
  | str s => obtain ⟨rfl, o⟩ := relD_str.mp rx; exact ⟨_, rfl, post_ret hr hq rx⟩
  | _ => exact hq.elim
end
end
end PV
set_option Elab.async false
set_option linter.all false
set_option maxRecDepth 100000
set_option maxHeartbeats 1000000
set_option autoImplicit false
namespace PV
noncomputable section
open PySem PySem.Spec PyProof.Rows L2
section
variable {G : Gs} {K : PySem.W.Frag} {C C' : Cx → Prop} {X : Cx}
/-! ### methods of dicts -/
theorem x_get {A : Around} {E : Value → Shared → Prop} {pins : List (Addr × Obj)} {σ : L2.St} {H : Hp} {s : Shared} {a b : Addr} {xs : XE} {k : NestedKey} {Q : Value → Shared → Prop} (hu : A.units + 65 < cLine) (I : Inv X pins σ H s) (g : XD X.prog X.w X.K H a xs) (hb : NKv X.K H k (.ref b)) (hk : k.depth ≤ 8)
    (h : ∀ w' s', Inv X pins σ H s' → RelV ((lookX xs k).getD .non) w' → Q w' s') : wpAny (model X.prog X.w) A (call (.builtin "dict.get") [.ref a, .ref b]) Q E s := by
  obtain ⟨hd, ys, hp, dd⟩ := xd_at I g
  refine call_meetsIn PySem.F.slot_dict_get dd.typeIs PySem.F.entry_dict_get (PySem.F.args_dict_get_2 _ _) (meetsH_dict_get (nestedKind X.prog X.w) a b hd) ⟨xroom hu, k, ys, ⟨nk_is I hb rfl, hk⟩, dd, h _ _ (I.tok _) ?_⟩
  exact (xp_look hp).getD rfl
theorem x_get2 {A : Around} {E : Value → Shared → Prop} {pins : List (Addr × Obj)} {σ : L2.St} {H : Hp} {s : Shared} {a b : Addr} {xs : XE} {k : NestedKey} {Q : Value → Shared → Prop} {z : V} {r : Value} (hu : A.units + 65 < cLine) (I : Inv X pins σ H s) (g : XD X.prog X.w X.K H a xs) (hb : NKv X.K H k (.ref b)) (hk : k.depth ≤ 8) (rz : RelV z r)
    (h : ∀ w' s', Inv X pins σ H s' → RelV ((lookX xs k).getD z) w' → Q w' s') : wpAny (model X.prog X.w) A (call (.builtin "dict.get") [.ref a, .ref b, r]) Q E s := by
  obtain ⟨hd, ys, hp, dd⟩ := xd_at I g
  refine call_meetsIn PySem.F.slot_dict_get dd.typeIs PySem.F.entry_dict_get (PySem.F.args_dict_get_3 _ _ _) (meetsH_dict_get_default (nestedKind X.prog X.w) a b hd r) ⟨xroom hu, k, ys, ⟨nk_is I hb rfl, hk⟩, dd, h _ _ (I.tok _) ?_⟩
  exact (xp_look hp).getD rz
def rGet (P : Program) (w : World) (K : PySem.W.Frag) : V → List V → Hp → VK → Prop := fun x xs H Q => ∃ a y o, x = .ref a ∧ (DGet H a y o ∨ ∃ b k es, y = .ref b ∧ XD P w K H a es ∧ NKv K H k (.ref b) ∧ k.depth ≤ 8 ∧ lookX es k = o) ∧ ((xs = [y] ∧ Q (o.getD .non) H) ∨ ∃ z, xs = [y, z] ∧ Q (o.getD z) H)
theorem mt_get (hu : X.A.units + 65 < cLine) : MtR X "dict.get" (rGet X.prog X.w X.K) := by
  intro pins s σ H x xs v us Q I rx rs h
  obtain ⟨a, y, o, rfl, g, h⟩ := h
  obtain rfl : v = Value.ref a := rx
  rcases h with ⟨rfl, q⟩ | ⟨z, rfl, q⟩
  · cases rs with
    | cons ry rr =>
      cases rr
      rcases g with g | ⟨b, k, es, rfl, g, hb, hk, rfl⟩
      · exact d_get1 (by omega) I g ry fun w' s' I' r => ⟨_, H, I', r, q⟩
      · cases (show _ = Value.ref b from ry)
        exact x_get hu I g hb hk fun w' s' I' r => ⟨_, H, I', r, q⟩
  · cases rs with
    | cons ry rr =>
      cases rr with
      | cons rz rr =>
        cases rr
        rcases g with g | ⟨b, k, es, rfl, g, hb, hk, rfl⟩
        · exact d_get2 (by omega) I g ry rz fun w' s' I' r => ⟨_, H, I', r, q⟩
        · cases (show _ = Value.ref b from ry)
          exact x_get2 hu I g hb hk rz fun w' s' I' r => ⟨_, H, I', r, q⟩
def dfl (o : Option D) (ds : List D) : M D := fun h => match ds with
  | [] => .ret (.ok (o.getD .non) h)
  | [z] => .ret (.ok (o.getD z) h)
  | _ => .ret .bad
def getM (x : D) (ds : List D) : M D := fun h => match x, ds with
  | .ref a, y :: r => match h.get a with
    | some (.dic kvs) => if isKey y then dfl (lookD kvs y) r h else if kvs.isEmpty && isTK y then dfl none r h else .ret .bad
    | some (.lck kvs) => if isKey y then dfl (lookD kvs y) r h else if kvs.isEmpty && isTK y then dfl none r h else .ret .bad
    | some (.dix kvs) => if isTK y then dfl (lookXd kvs y) r h else .ret .bad
    | some (.lcx kvs) => if isTK y then dfl (lookXd kvs y) r h else .ret .bad
    | _ => .ret .bad
  | _, _ => .ret .bad
theorem dfl_ok {ρ : Nat → Addr} {h : VH} {H : Hp} {Q : VK} {od : Option D} {o : Option V} {r : List D} {vr : List V} {y : V} (hr : HR G K ρ h H) (rs : RelDs K ρ h.n H r vr) (ro : match od with | some d => ∃ v, o = some v ∧ RelD K ρ h.n H d v | none => o = none) (hq : (dfl od r h).all (PostE G K ρ h.n H Q)) :
    (y :: vr = [y] ∧ Q (o.getD .non) H) ∨ ∃ z, y :: vr = [y, z] ∧ Q (o.getD z) H := by
  unfold dfl at hq
  match r, rs, hq with
  | [], rs, hq =>
    rw [relDs_nil] at rs
    subst rs
    refine .inl ⟨rfl, post_ret hr hq ?_⟩
    revert ro
    cases od with
    | none => intro ro; have ro : o = none := ro; rw [ro]; exact relD_non.mpr rfl
    | some d => rintro ⟨v, rfl, rd⟩; exact rd
  | [z], rs, hq =>
    obtain ⟨vz, rfl, rz⟩ := relDs_one.mp rs
    refine .inr ⟨vz, rfl, post_ret hr hq ?_⟩
    revert ro
    cases od with
    | none => intro ro; have ro : o = none := ro; rw [ro]; exact rz
    | some d => rintro ⟨v, rfl, rd⟩; exact rd
  | _ :: _ :: _, rs, hq => exact hq.elim
theorem sm_get : SMt G K (rGet G.P G.w K) getM := by
  intro ρ h H x xs vx vs Q hr rx rs hq
  unfold getM at hq
  cases x with
  | ref a =>
    cases xs with
    | nil => exact hq.elim
    | cons y r =>
      simp only at hq
      rw [relD_ref] at rx
      obtain ⟨ha, rfl⟩ := rx
      obtain ⟨vy, vr, rfl, ry, rr⟩ := relDs_cons.mp rs
      have kd : ∀ kvs, (h.get a = some (.dic kvs) ∨ h.get a = some (.lck kvs)) → ((if isKey y then dfl (lookD kvs y) r h else if kvs.isEmpty && isTK y then dfl none r h else .ret .bad)).all (PostE G K ρ h.n H Q) → rGet G.P G.w K (.ref (ρ a)) (vy :: vr) H Q := fun kvs ea hq => by
        obtain ⟨es, h1, r1, nd⟩ := hr.dk ea
        by_cases hz : isKey y = true
        · rw [if_pos hz] at hq
          obtain ⟨k, hk, rfl⟩ := key_of hz ry
          exact ⟨_, _, valV es k, rfl, .inl (dgetR h1), dfl_ok hr rr (look_ok hk r1) hq⟩
        · rw [if_neg hz] at hq
          by_cases hy : (kvs.isEmpty && isTK y) = true
          · rw [if_pos hy] at hq
            rw [Bool.and_eq_true] at hy
            obtain ⟨b, rfl, n1, n2⟩ := tk_of hy.2 ry
            cases kvs with
            | cons => cases hy.1
            | nil =>
              cases (show es = [] from r1)
              exact ⟨_, _, none, rfl, .inr ⟨b, _, [], rfl, ⟨.inr ⟨rfl, h1⟩, fun x hx => by cases hx⟩, n1, n2, rfl⟩, dfl_ok hr rr rfl hq⟩
          · rw [if_neg hy] at hq; exact hq.elim
      have kx : ∀ kvs, (h.get a = some (.dix kvs) ∨ h.get a = some (.lcx kvs)) → ((if isTK y then dfl (lookXd kvs y) r h else .ret .bad)).all (PostE G K ρ h.n H Q) → rGet G.P G.w K (.ref (ρ a)) (vy :: vr) H Q := fun kvs ea hq => by
        obtain ⟨es, h1, r1, nd⟩ := hr.dx ea
        by_cases hz : isTK y = true
        · rw [if_pos hz] at hq
          obtain ⟨b, rfl, n1, n2⟩ := tk_of hz ry
          exact ⟨_, _, _, rfl, .inr ⟨b, _, es, rfl, ⟨.inl h1, xrel_keys r1⟩, n1, n2, rfl⟩, dfl_ok hr rr (lookX_ok hz r1) hq⟩
        · rw [if_neg hz] at hq; exact hq.elim
      cases ea : h.get a with
      | none => rw [ea] at hq; exact hq.elim
      | some ob =>
        rw [ea] at hq
        cases ob with
        | dic kvs => exact kd kvs (.inl ea) hq
        | lck kvs => exact kd kvs (.inr ea) hq
        | dix kvs => exact kx kvs (.inl ea) hq
        | lcx kvs => exact kx kvs (.inr ea) hq
        | _ => exact hq.elim
  | _ => exact hq.elim
/-! pop, setdefault -/
def rPopD : V → List V → Hp → VK → Prop := fun x xs H Q => ∃ a k kvs, x = .ref a ∧ H a = some (.dK kvs) ∧ ((∃ v, (xs = [kV k] ∨ ∃ z, xs = [kV k, z]) ∧ valV kvs k = some v ∧ Q v (upd H a (.dK (dropK kvs k)))) ∨ ∃ z, xs = [kV k, z] ∧ valV kvs k = none ∧ Q z H)
theorem mt_popD : MtR X "dict.pop" rPopD := by
  intro pins s σ H x xs v us Q I rx rs h
  obtain ⟨a, k, kvs, rfl, e, h⟩ := h
  obtain rfl : v = Value.ref a := rx
  rcases h with ⟨u, h | ⟨z, h⟩, l, q⟩ | ⟨z, rfl, l, q⟩
  · subst h
    cases rs with
    | cons ry rr =>
      cases rr
      exact d_pop I e ry l (.inl rfl) fun w' s' I' r => ⟨_, _, I', r, q⟩
  · subst h
    cases rs with
    | cons ry rr =>
      cases rr with
      | cons rz rr =>
        cases rr
        exact d_pop I e ry l (.inr ⟨_, rfl⟩) fun w' s' I' r => ⟨_, _, I', r, q⟩
  · cases rs with
    | cons ry rr =>
      cases rr with
      | cons rz rr =>
        cases rr
        exact d_popD I e ry l fun s' I' => ⟨_, _, I', rz, q⟩
def popDM (x : D) (ds : List D) : M D := fun h => match x, ds with
  | .ref a, y :: r => match h.get a with
    | some (.dic kvs) => if isKey y then match lookD kvs y with
        | some d => match r with
          | [] => .ret (.ok d (h.set a (.dic (dropD kvs y))))
          | [_] => .ret (.ok d (h.set a (.dic (dropD kvs y))))
          | _ => .ret .bad
        | none => match r with
          | [z] => .ret (.ok z h)
          | _ => .ret .bad
      else .ret .bad
    | _ => .ret .bad
  | _, _ => .ret .bad
theorem post_dic {ρ : Nat → Addr} {h : VH} {H : Hp} {Q : VK} {a : Nat} {kvs kvs' : List (D × D)} {es es' : List (Key × V)} {d : D} {v : V} (hr : HR G K ρ h H) (ea : h.get a = some (.dic kvs)) (hu : H (ρ a) = some (.dK es)) (hy : DRel K ρ h.n H kvs' es') (nd : (es'.map (·.1)).Nodup) (hd : RelD K ρ h.n H d v)
    (hq : (P.ret (R.ok d (h.set a (.dic kvs')))).all (PostE G K ρ h.n H Q)) : Q v (upd H (ρ a) (.dK es')) := by
  have ha := VH.get_lt ea
  have l : Le K ρ h.n H ρ h.n (upd H (ρ a) (.dK es')) := Le.chg ha hu trivial
  exact hq ρ _ v l (hr.chg ha hu trivial ⟨es', upd_same, hy.mono l, nd⟩) (hd.mono l)
theorem sm_popD : SMt G K rPopD popDM := by
  intro ρ h H x xs vx vs Q hr rx rs hq
  unfold popDM at hq
  cases x with
  | ref a =>
    cases xs with
    | nil => exact hq.elim
    | cons y r =>
      simp only at hq
      rw [relD_ref] at rx
      obtain ⟨ha, rfl⟩ := rx
      obtain ⟨vy, vr, rfl, ry, rr⟩ := relDs_cons.mp rs
      cases ea : h.get a with
      | none => rw [ea] at hq; exact hq.elim
      | some ob =>
        rw [ea] at hq
        cases ob with
        | dic kvs =>
          simp only at hq
          by_cases hz : isKey y = true
          · rw [if_pos hz] at hq
            obtain ⟨k, hk, rfl⟩ := key_of hz ry
            obtain ⟨es, h1, r1, nd⟩ := hr.dic ea
            obtain ⟨d1, d2⟩ := drop_ok hk r1 nd
            have lo := look_ok hk r1
            revert lo hq
            cases lookD kvs y with
            | some d =>
              rintro hq ⟨v, e, rd⟩
              match r, rr, hq with
              | [], rr, hq =>
                rw [relDs_nil] at rr
                subst rr
                exact ⟨_, k, es, rfl, h1, .inl ⟨v, .inl rfl, e, post_dic hr ea h1 d1 d2 rd hq⟩⟩
              | [z], rr, hq =>
                obtain ⟨vz, rfl, rz⟩ := relDs_one.mp rr
                exact ⟨_, k, es, rfl, h1, .inl ⟨v, .inr ⟨_, rfl⟩, e, post_dic hr ea h1 d1 d2 rd hq⟩⟩
              | _ :: _ :: _, rr, hq => exact hq.elim
            | none =>
              intro hq e
              match r, rr, hq with
              | [], rr, hq => exact hq.elim
              | [z], rr, hq =>
                obtain ⟨vz, rfl, rz⟩ := relDs_one.mp rr
                exact ⟨_, k, es, rfl, h1, .inr ⟨vz, rfl, e, post_ret hr hq rz⟩⟩
              | _ :: _ :: _, rr, hq => exact hq.elim
          · rw [if_neg hz] at hq; exact hq.elim
        | _ => exact hq.elim
  | _ => exact hq.elim
def rSetd : V → List V → Hp → VK → Prop := fun x xs H Q => ∃ a k z kvs, x = .ref a ∧ xs = [kV k, z] ∧ H a = some (.dK kvs) ∧ kvs.length < sizeLine ∧ (∀ v, valV kvs k = some v → Q v H) ∧ (valV kvs k = none → Q z (upd H a (.dK (putK kvs k z))))
theorem mt_setd : MtR X "dict.setdefault" rSetd := by
  intro pins s σ H x xs v us Q I rx rs h
  obtain ⟨a, k, z, kvs, rfl, rfl, e, hl, h1, h2⟩ := h
  obtain rfl : v = Value.ref a := rx
  cases rs with
  | cons ry rr =>
    cases rr with
    | cons rz rr =>
      cases rr
      exact d_setd I e ry rz hl (fun v l w' s' I' r => ⟨_, _, I', r, h1 v l⟩) fun l w' s' I' r => ⟨_, _, I', r, h2 l⟩
def setdM (x : D) (ds : List D) : M D := fun h => match x, ds with
  | .ref a, [y, z] => match h.get a with
    | some (.dic kvs) => if isKey y ∧ kvs.length < 16777216 then match lookD kvs y with
        | some d => .ret (.ok d h)
        | none => .ret (.ok z (h.set a (.dic (putD kvs y z))))
      else .ret .bad
    | _ => .ret .bad
  | _, _ => .ret .bad
theorem sm_setd : SMt G K rSetd setdM := by
  intro ρ h H x xs vx vs Q hr rx rs hq
  unfold setdM at hq
  cases x with
  | ref a =>
    match xs, rs, hq with
    | [], rs, hq => exact hq.elim
    | [_], rs, hq => exact hq.elim
    | _ :: _ :: _ :: _, rs, hq => exact hq.elim
    | [y, z], rs, hq =>
      simp only at hq
      rw [relD_ref] at rx
      obtain ⟨ha, rfl⟩ := rx
      obtain ⟨vy, vz, rfl, ry, rz⟩ := relDs_two.mp rs
      cases ea : h.get a with
      | none => rw [ea] at hq; exact hq.elim
      | some ob =>
        rw [ea] at hq
        cases ob with
        | dic kvs =>
          simp only at hq
          by_cases hz : isKey y ∧ kvs.length < 16777216
          · rw [if_pos hz] at hq
            obtain ⟨k, hk, rfl⟩ := key_of hz.1 ry
            obtain ⟨es, h1, r1, nd⟩ := hr.dic ea
            obtain ⟨p1, p2, _⟩ := put_ok hk rz r1 nd
            have lo := look_ok hk r1
            refine ⟨_, k, vz, es, rfl, rfl, h1, by rw [← drel_len r1]; exact hz.2, fun v e => ?_, fun e => ?_⟩
            · revert lo hq
              cases lookD kvs y with
              | some d => rintro hq ⟨v2, e2, rd⟩; rw [e] at e2; cases e2; exact post_ret hr hq rd
              | none => intro hq e2; have e2 : valV es k = none := e2; rw [e] at e2; cases e2
            · revert lo hq
              cases lookD kvs y with
              | some d => rintro hq ⟨v2, e2, rd⟩; rw [e] at e2; cases e2
              | none => intro hq _; exact post_dic hr ea h1 p1 p2 rz hq
          · rw [if_neg hz] at hq; exact hq.elim
        | _ => exact hq.elim
  | _ => exact hq.elim
theorem alt_get (hu : X.A.units + 65 < cLine) : Alt X "get" (tyM 5) "dict.get" (rGet X.prog X.w X.K) := ⟨PySem.F.plainAttrs_dict, PySem.F.slot_dict_get, PySem.F.type_dict_get, mt_get hu⟩
theorem alt_popD : Alt X "pop" (tyM 5) "dict.pop" rPopD := ⟨PySem.F.plainAttrs_dict, PySem.F.slot_dict_pop, PySem.F.type_dict_pop, mt_popD⟩
theorem alt_setd : Alt X "setdefault" (tyM 5) "dict.setdefault" rSetd := ⟨PySem.F.plainAttrs_dict, PySem.F.slot_dict_setdefault, PySem.F.type_dict_setdefault, mt_setd⟩
end
end
end PV
set_option Elab.async false
set_option linter.all false
set_option maxRecDepth 100000
set_option maxHeartbeats 1000000
set_option autoImplicit false
namespace PV
noncomputable section
open PySem PySem.Spec PyProof.Rows L2 PySem.W
section
variable {G : Gs} {K : PySem.W.Frag} {C C' : Cx → Prop} {X : Cx}
/-! ### the least of data -/
abbrev btD (ps : List PyData) : Nat → Nat → Bool := fun i j => dataLt (ps.getD i .none) (ps.getD j .none)
/-- min(a list): the item at its place -/
theorem min_list_at {prog : Program} {w : World} {A : Around} {E : Value → Shared → Prop} {s : Shared} {l : Addr} {vs : Array Value} {ps : List PyData} {as : List Addr} {Q : Value → Shared → Prop} (hh : A.handled = none) (hl : s.heap.IsList l vs) (hr : ReadsAll s.heap vs.toList ps as) (h0 : 0 < vs.size) (ha : AlikeAll ps) (hu : A.units + 1 + PyData.depthAll ps < cLine)
    (h : ∀ v h' tk, vs[argBest (btD ps) (vs.size - 1)]? = some v → (∀ b o, s.heap.get? b = some o → h'.get? b = some o) → Q v { s with heap := h', toks := tk }) : wpAny (model prog w) A (call (.builtin "min") [.ref l]) Q E s := by
  refine call_min_walkH (iter_listW (A := A.in1) hh hl fun s₂ e W st hfp hw hk => ?_)
  refine ⟨_, _, _, _, _, _, _, s.heap, btD ps, rfl, W, st, hfp, h0, hw, hk, cmpIn_lt (A := A.in1) hr ha hu, fun v s' hP m => ?_⟩
  obtain ⟨h', tk, rfl, hk'⟩ := moved_old e rfl m
  exact h v h' tk hP hk'
/-- min(a, b) of data -/
theorem min_two_at {prog : Program} {w : World} {A : Around} {E : Value → Shared → Prop} {s : Shared} {a b : Value} {p q : PyData} {as bs : List Addr} {Q : Value → Shared → Prop} (hh : A.handled = none) (ra : Reads s.heap a p as) (rb : Reads s.heap b q bs) (ha : AlikeAll [p, q]) (hu : A.units + 1 + PyData.depthAll [p, q] < cLine)
    (h : ∀ h' tk, (∀ b o, s.heap.get? b = some o → h'.get? b = some o) → Q (if dataLt q p then b else a) { s with heap := h', toks := tk }) : wpAny (model prog w) A (call (.builtin "min") [a, b]) Q E s := by
  have hname : (toString "min" ++ toString ".loop" : String) = "min.loop" := by decide
  refine call_function_tree F.kind_min F.plain_min F.entry_min (F.args_min2 _ _) ?_
  have eb : Builtin.Builtins.bindParams "min" ["key", "default"] 0 ⟨[], []⟩ = pure [none, none] := rfl
  show wpAny _ A.in1 (Builtin.Builtins.bindParams "min" ["key", "default"] 0 ⟨[], []⟩ >>= _) _ _ s
  refine wpAny_bind (wpAny_of_eq eb ?_)
  show wpAny _ A.in1 (newTuple [a, b] >>= _) _ _ s
  refine wpAny_bind (wpAny_newObj_type ?_)
  let s1 : Shared := { s with heap := s.heap.push { cls := .type "tuple", data := .seq #[a, b] } }
  have hk0 : ∀ c o, s.heap.get? c = some o → s1.heap.get? c = some o := fun c o e => Heap.get?_push_of_some _ e
  have hT : s1.heap.IsTuple s.heap.objs.size #[a, b] := ⟨_, Heap.get?_push_size _ rfl, rfl, 0, rfl⟩
  have hr : ReadsAll s1.heap (#[a, b] : Array Value).toList [p, q] (as ++ (bs ++ [])) := .cons (Reads.keeps hk0 ra) (.cons (Reads.keeps hk0 rb) .nil)
  show wpAny _ A.in1 (pyIter (.ref s.heap.objs.size) >>= _) _ _ s1
  refine wpAny_bind (iter_tupleW (A := A.in1) hh hT fun s₂ e W st hfp hw hk => ?_)
  refine wpAny_bind (wpAny_newObj_type ?_)
  have hSf : s₂.heap.objs.size ∉ [s1.heap.objs.size, s.heap.objs.size] := fun hm => Nat.lt_irrefl _ (hfp _ hm)
  rw [hname]
  refine wpAny_pure ⟨plainId_quiet F.plain_min_loop _, codeAny_min_loop_firstH W s1.heap hw (btD [p, q]) (cmpIn_lt (A := A.in1) hr ha hu) s₂.heap.objs.size hSf (fresh_in hk) _ (by show 0 < 2; decide) (fun b o e => Heap.get?_push_of_some _ (hk b o e)) (W.frame 0 s₂ _ s₂.toks st (Nat.le_refl _) fun b _ o e => Heap.get?_push_of_some _ e) (Heap.get?_push_size _ rfl) fun v s' hP hm => ?_⟩
  have m := Moved.drop_new (tk := s₂.toks) hm (Nat.le_refl _)
  obtain ⟨h', tk, rfl, hk'⟩ := moved_old e rfl m
  have hv : v = if dataLt q p then b else a := by
    have hP : (#[a, b] : Array Value)[argBest (btD [p, q]) 1]? = some v := hP
    have e1 : argBest (btD [p, q]) 1 = if dataLt q p then 1 else 0 := rfl
    rw [e1] at hP
    cases hb : dataLt q p with
    | true => rw [hb] at hP; simpa using hP.symm
    | false => rw [hb] at hP; simpa using hP.symm
  show Q v _
  rw [hv]
  exact h h' tk fun c o e => hk' c o (hk0 c o e)
def alk (ps : List PyData) : Bool := ps.all fun x => (match x with | .none => false | _ => true) && ps.all fun y => alike x y
theorem alk_ok {ps : List PyData} (h : alk ps = true) : AlikeAll ps := by
  unfold alk at h
  rw [List.all_eq_true] at h
  refine ⟨fun x hx y hy => ?_, fun x hx e => ?_⟩
  · have := h x hx
    rw [Bool.and_eq_true, List.all_eq_true] at this
    exact this.2 y hy
  · have := h x hx
    rw [e] at this
    cases this
def rMin2 (K : PySem.W.Frag) : List V → Hp → VK → Prop := fun xs H Q => ∃ a b p q, xs = [a, b] ∧ Dp K H a p ∧ Dp K H b q ∧ AlikeAll [p, q] ∧ PyData.depthAll [p, q] ≤ 16 ∧ Q (if dataLt q p then b else a) H
theorem cr_min2 (hc : X.calm = true) (hu : X.A.units + 65 < cLine) : CallR X (.builtin "min") (rMin2 X.K) := by
  intro pins s σ H xs us Q I r h
  obtain ⟨a, b, p, q, rfl, da, db, al, dp, hq⟩ := h
  obtain ⟨u, u', rfl, r1, r2⟩ := vals2 r
  obtain ⟨as, ra⟩ := Dp.reads I p a u da r1
  obtain ⟨bs, rb⟩ := Dp.reads I q b u' db r2
  refine min_two_at (I.ok.hd hc) ra rb al (by omega) fun h' tk k => ⟨_, H, I.kept k, ?_, hq⟩
  by_cases e : dataLt q p = true
  · rw [if_pos e, if_pos e]; exact r2
  · rw [if_neg e, if_neg e]; exact r1
def min2M (x y : D) : M D := fun h => if isDt 15 h x && isDt 15 h y && alk [toP 15 h x, toP 15 h y] then .ret (.ok (if dataLt (toP 15 h y) (toP 15 h x) then y else x) h) else .ret .bad
theorem sc_min2 : SC2 G K (rMin2 K) min2M := by
  intro ρ h H x y vx vy Q hr rx ry hq
  unfold min2M at hq
  by_cases hz : (isDt 15 h x && isDt 15 h y && alk [toP 15 h x, toP 15 h y]) = true
  · rw [if_pos hz] at hq
    simp only [Bool.and_eq_true] at hz
    obtain ⟨a1, a2, a3⟩ := toP_ok hr 15 x vx hz.1.1 rx
    obtain ⟨b1, b2, b3⟩ := toP_ok hr 15 y vy hz.1.2 ry
    refine ⟨vx, vy, _, _, rfl, a1, b1, alk_ok hz.2, by simp only [PyData.depthAll]; omega, ?_⟩
    by_cases e : dataLt (toP 15 h y) (toP 15 h x) = true
    · rw [if_pos e] at hq ⊢; exact post_ret hr hq ry
    · rw [if_neg e] at hq ⊢; exact post_ret hr hq rx
  · rw [if_neg hz] at hq; exact hq.elim
/-- the least of a list -/
def leastD (f : D → PyData) : D → List D → D
  | b, [] => b
  | b, y :: r => leastD f (if dataLt (f y) (f b) then y else b) r
theorem leastD_take (f : D → PyData) : ∀ (r : List D) (b y : D), leastD f b (r ++ [y]) = if dataLt (f y) (f (leastD f b r)) then y else leastD f b r
  | [], b, y => rfl
  | z :: r, b, y => by rw [List.cons_append]; unfold leastD; exact leastD_take f r _ y
theorem best_at (f : D → PyData) (x : D) (xs : List D) : ∀ k, k ≤ xs.length → (x :: xs)[argBest (btD ((x :: xs).map f)) k]? = some (leastD f x (xs.take k))
  | 0, _ => by simp [argBest, leastD]
  | k + 1, hk => by
    have ih := best_at f x xs k (by omega)
    have hlt : k < xs.length := by omega
    have e1 : xs.take (k + 1) = xs.take k ++ [xs[k]] := by rw [List.take_succ, List.getElem?_eq_getElem hlt]; rfl
    have g1 : ((x :: xs).map f).getD (k + 1) .none = f xs[k] := by simp [List.getD, hlt]
    have g2 : ((x :: xs).map f).getD (argBest (btD ((x :: xs).map f)) k) .none = f (leastD f x (xs.take k)) := by
      rw [List.getD_eq_getElem?_getD, List.getElem?_map, ih]
      rfl
    rw [e1, leastD_take]
    unfold argBest
    show (x :: xs)[if dataLt (((x :: xs).map f).getD (k + 1) .none) (((x :: xs).map f).getD (argBest (btD ((x :: xs).map f)) k) .none) then k + 1 else argBest (btD ((x :: xs).map f)) k]? = _
    rw [g1, g2]
    by_cases e : dataLt (f xs[k]) (f (leastD f x (xs.take k))) = true
    · rw [if_pos e, if_pos e]
      simp [hlt]
    · rw [if_neg e, if_neg e]
      exact ih
def rMinL (K : PySem.W.Frag) : List V → Hp → VK → Prop := fun xs H Q => ∃ a vs ps v, xs = [.ref a] ∧ SqL K H a vs ∧ DpAll K H vs ps ∧ 0 < vs.length ∧ AlikeAll ps ∧ PyData.depthAll ps ≤ 16 ∧ vs[argBest (btD ps) (vs.length - 1)]? = some v ∧ Q v H
theorem cr_minL (hc : X.calm = true) (hu : X.A.units + 65 < cLine) : CallR X (.builtin "min") (rMinL X.K) := by
  intro pins s σ H xs us Q I r h
  obtain ⟨a, vs, ps, v, rfl, sq, da, h0, al, dp, hv, hq⟩ := h
  obtain ⟨u, rfl, r1⟩ := vals1 r
  cases r1
  obtain ⟨its, rv, p, _⟩ := I.list sq
  obtain ⟨as, ra⟩ := Dp.readsAll I ps vs its da rv
  have hl := rv.length
  refine min_list_at (I.ok.hd hc) p.isList (ps := ps) (as := as) ra (by simp; omega) al (by omega) fun w h' tk e k => ⟨v, H, I.kept k, ?_, hq⟩
  obtain ⟨w', e1, r1⟩ := rv.get hv
  rw [show its.toArray.size = vs.length by simp [hl]] at e
  have e : its[argBest (btD ps) (vs.length - 1)]? = some w := by simpa using e
  rw [e1] at e
  cases e
  exact r1
def minLM (x : D) : M D := fun h => match x with
  | .ref a => match h.get a with
    | some (.lst (y :: r)) => if (y :: r).all (isDt 15 h) && alk ((y :: r).map (toP 15 h)) then .ret (.ok (leastD (toP 15 h) y r) h) else .ret .bad
    | _ => .ret .bad
  | _ => .ret .bad
theorem sc_minL : SC1 G K (rMinL K) minLM := by
  intro ρ h H x vx Q hr rx hq
  unfold minLM at hq
  cases x with
  | ref a =>
    simp only at hq
    rw [relD_ref] at rx
    obtain ⟨ha, rfl⟩ := rx
    cases ea : h.get a with
    | none => rw [ea] at hq; exact hq.elim
    | some ob =>
      rw [ea] at hq
      cases ob with
      | lst ys =>
        cases ys with
        | nil => exact hq.elim
        | cons y r =>
          simp only at hq
          by_cases hz : ((y :: r).all (isDt 15 h) && alk ((y :: r).map (toP 15 h))) = true
          · rw [if_pos hz] at hq
            rw [Bool.and_eq_true] at hz
            obtain ⟨vs, h1, r1⟩ := hr.lst ea
            obtain ⟨p1, p2, p3⟩ := dts_ok hr 15 (y :: r) vs hz.1 r1
            have hl := relDs_len r1
            have b := best_at (toP 15 h) y r r.length (Nat.le_refl _)
            rw [List.take_length] at b
            obtain ⟨v, e, rd⟩ := relDs_get r1 b
            refine ⟨_, vs, _, v, rfl, .inl (.inl h1), p1, by rw [← hl]; exact Nat.succ_pos _, alk_ok hz.2, by omega, ?_, post_ret hr hq rd⟩
            rw [show vs.length - 1 = r.length by rw [← hl]; rfl]
            exact e
          · rw [if_neg hz] at hq; exact hq.elim
      | _ => exact hq.elim
  | _ => exact hq.elim
def rMax3 : List V → Hp → VK → Prop := fun xs H Q => ∃ a b c : Int, xs = [.int a, .int b, .int c] ∧ Q (.int (if b > a then (if c > b then c else b) else (if c > a then c else a))) H
theorem cr_max3 (hc : X.calm = true) : CallR X (.builtin "max") rMax3 := by
  intro pins s σ H xs us Q I r h
  obtain ⟨a, b, c, rfl, q⟩ := h
  cases r with
  | cons r1 r =>
    cases r with
    | cons r2 r =>
      cases r with
      | cons r3 r =>
        cases r
        obtain ⟨t, rfl⟩ := r1
        obtain ⟨t', rfl⟩ := r2
        obtain ⟨t'', rfl⟩ := r3
        refine max_three_ints (I.ok.hd hc) fun h' tk k => ⟨_, H, I.kept k, ?_, q⟩
        by_cases e1 : b > a
        · by_cases e2 : c > b
          · simp only [if_pos e1, if_pos e2]; exact ⟨_, rfl⟩
          · simp only [if_pos e1, if_neg e2]; exact ⟨_, rfl⟩
        · by_cases e2 : c > a
          · simp only [if_neg e1, if_pos e2]; exact ⟨_, rfl⟩
          · simp only [if_neg e1, if_neg e2]; exact ⟨_, rfl⟩
def rMax2 : List V → Hp → VK → Prop := fun xs H Q => ∃ i j, xs = [.int i, .int j] ∧ Q (.int (if j > i then j else i)) H
/-- functions of several arguments -/
def SCn (G : Gs) (K : PySem.W.Frag) (r : List V → Hp → VK → Prop) (f : List D → M D) : Prop := ∀ ρ h H xs vs Q, HR G K ρ h H → RelDs K ρ h.n H xs vs → (f xs h).all (PostE G K ρ h.n H Q) → r vs H Q
def maxNM (ds : List D) : M D := fun h => match ds with
  | [.int i, .int j] => .ret (.ok (.int (if j > i then j else i)) h)
  | [.int a, .int b, .int c] => .ret (.ok (.int (if b > a then (if c > b then c else b) else (if c > a then c else a))) h)
  | _ => .ret .bad
def rMaxN : List V → Hp → VK → Prop := fun xs H Q => rMax2 xs H Q ∨ rMax3 xs H Q
theorem sc_maxN : SCn G K rMaxN maxNM := by
  intro ρ h H xs vs Q hr rs hq
  unfold maxNM at hq
  split at hq
  · obtain ⟨v, u, rfl, r1, r2⟩ := relDs_two.mp rs
    rw [relD_int] at r1 r2
    subst r1 r2
    exact .inl ⟨_, _, rfl, post_ret hr hq (relD_int.mpr rfl)⟩
  · obtain ⟨v, us, rfl, r1, rs⟩ := relDs_cons.mp rs
    obtain ⟨u, w, rfl, r2, r3⟩ := relDs_two.mp rs
    rw [relD_int] at r1 r2 r3
    subst r1 r2 r3
    exact .inr ⟨_, _, _, rfl, post_ret hr hq (relD_int.mpr rfl)⟩
  · exact hq.elim
theorem cr_maxN (hc : X.calm = true) : CallR X (.builtin "max") rMaxN := CallR.or (call_max2 hc) (cr_max3 hc)
def minNM (ds : List D) : M D := match ds with
  | [x, y] => min2M x y
  | _ => M.bad
theorem sc_minN : SCn G K (rMin2 K) minNM := by
  intro ρ h H xs vs Q hr rs hq
  unfold minNM at hq
  split at hq
  · obtain ⟨v, u, rfl, r1, r2⟩ := relDs_two.mp rs
    exact sc_min2 ρ h H _ _ _ _ Q hr r1 r2 hq
  · exact hq.elim
/-- f(a, b, ..), a built-in function -/
theorem se_bltN {e : Expr} {es : List Expr} {x : Str} {id : String} {p pos : Pos} {r : List V → Hp → VK → Prop} {ms : Env → M (List D)} {f : List D → M D} (hc : ∀ X, C X → X.K = K → CallR X (.builtin id) r) (hg : ∀ X, C X → Gl X x) (hm : ∀ X, C X → X.mg x = none) (hv : bootBuiltins x = some (.builtin id)) (hn : x ≠ "__name__") (hd : (x == ("__debug__" : Str)) = false)
    (hs : noStars (e :: es) = true) (sc : SCn G K r f) (ha : SA G K C (e :: es) ms) : SE G K C (.Call (.Name x p) (e :: es) [] pos) (fun env => M.bind (ms env) f) := by
  obtain ⟨t, pt, q⟩ := ha
  obtain ⟨s1, s2⟩ := noStars_head hs
  refine ⟨tCB r t, fun X hX eK => pe_callB (hc X hX eK) (hg X hX) (hm X hX) hv (pt X hX eK) hn hd (starEach_no s1) (stars_no s2).2, fun ρ env h σ H Q hr er hq => ?_⟩
  exact useA q hr er hq (fun z => z) fun ρ1 h1 H1 ds vs l1 hr1 rs z => sc ρ1 h1 H1 ds vs Q hr1 rs (P.all_mono (fun r z => z.mono l1) z)
end
end
end PV
set_option Elab.async false
set_option linter.all false
set_option maxRecDepth 100000
set_option maxHeartbeats 1000000
set_option autoImplicit false
/-! ### dict(zip(a, b)), a and b of any kind -/
namespace PV
noncomputable section
open PySem PySem.Spec PyProof.Rows L2
section
variable {prog : Program} {w : World} {A : Around} {E : Value → Shared → Prop} {s : Shared} {z TI TO T i1 i2 : Addr} {fp1 fp2 : List Addr} {n1 n2 i : Nat} {P1 P2 : Nat → Value → Prop} {St1 St2 : Nat → Heap → Prop} {f : Bool} {oT : Obj}
theorem zd_held {Q : Value → Shared → Prop} (S : ZipSep2 z TI TO i1 i2 fp1 fp2) (D1 : Draws prog w A i1 fp1 n1 P1 St1) (D2 : Draws prog w A i2 fp2 n2 P2 St2)
    (hz : IsZipHeld s.heap z TI TO T f) (hT : s.heap.get? T = some oT) (hTI : IsTupOf2 s.heap TI (.ref i1) (.ref i2)) (st1 : St1 i s.heap) (st2 : St2 i s.heap) (lt1 : i < n1) (lt2 : i < n2)
    (hQ : ∀ x y h' tk, P1 i x → P2 i y → IsZipHeld h' z TI TO T true → St1 (i + 1) h' → St2 (i + 1) h' → IsTupOf2 h' s.heap.objs.size x y → (∀ c o, c ≠ z → c ≠ i1 → c ≠ i2 → s.heap.get? c = some o → h'.get? c = some o) → Q (.ref s.heap.objs.size) { s with heap := h', toks := tk }) :
    wpAny (model prog w) A (Builtin.«zip.__next__» ⟨[.ref z], []⟩) (fun fin s' => ∃ v, fin = .done (.ret v) ∧ Q v s') E s := by
  obtain ⟨hp, g, d, tk0, os⟩ := s
  show wpAny _ _ (field (.ref z) 2 >>= _) _ _ _
  refine wpAny_bind (wpAny_field hz rfl (x := .bool false) rfl ?_)
  show wpAny _ _ (field (.ref z) 3 >>= _) _ _ _
  refine wpAny_bind (wpAny_field hz rfl (x := .ref TI) rfl ?_)
  refine wpAny_bind (wpAny_seqItems hTI rfl ?_)
  show wpAny _ _ (Builtin.SmallTypes.ownedTupleIsFree (.ref z) >>= _) _ _ _
  refine wpAny_bind (wpAny_tupleHeld_zip hz hT fun g1 hz1 hs1 => ?_)
  simp only [Bool.false_eq_true, if_false]
  refine wpAny_bind ?_
  rw [← Array.forIn_toList]
  simp only [List.forIn_cons, List.forIn_nil]
  refine wpAny_bind (wpAny_bind (wpAny_holding ?_))
  replace hs1 : Heap.SameBut z hp g1 := hs1
  show wpAny _ _ (Builtin.SmallTypes.nextOf (.ref i1) >>= _) _ _ ⟨g1, g, d, tk0, os⟩
  refine wpAny_bind (D1.item i _ _ _ lt1 (D1.over st1 hs1 S.zf1) fun x g2 tk1 px s1' hs2 => wpAny_pure ?_)
  replace hs2 : Heap.SameBut i1 g1 g2 := hs2
  refine wpAny_pure ?_
  refine wpAny_bind (wpAny_bind (wpAny_holding ?_))
  show wpAny _ _ (Builtin.SmallTypes.nextOf (.ref i2) >>= _) _ _ ⟨g2, g, d, tk1, os⟩
  refine wpAny_bind (D2.item i _ _ _ lt2 (D2.over (D2.over st2 hs1 S.zf2) hs2 S.sep1_2) fun y g3 tk2 py s2' hs3 => wpAny_pure ?_)
  replace hs3 : Heap.SameBut i2 g2 g3 := hs3
  refine wpAny_pure (wpAny_pure ?_)
  show wpAny _ _ (newTuple [x, y] >>= _) _ _ _
  refine wpAny_bind (wpAny_newTuple ?_)
  have hsz : g3.objs.size = hp.objs.size := by rw [hs3.1, hs2.1, hs1.1]
  have hz3 : IsZipHeld g3 z TI TO T true := hs3.extBut _ _ S.zi2 (hs2.extBut _ _ S.zi1 hz1)
  have hk : ∀ c o, c ≠ z → c ≠ i1 → c ≠ i2 → hp.get? c = some o → g3.get? c = some o := fun c o c1 c2 c3 e => hs3.extBut _ _ c3 (hs2.extBut _ _ c2 (hs1.extBut _ _ c1 e))
  refine wpAny_pure ⟨_, rfl, ?_⟩
  have ht : IsTupOf2 (g3.push { cls := .type "tuple", data := .seq #[x, y] }) g3.objs.size x y := Heap.get?_push_size _ rfl
  show Q (.ref g3.objs.size) _
  rw [hsz] at ht ⊢
  have up : ∀ c o, g3.get? c = some o → (g3.push { cls := .type "tuple", data := .seq #[x, y] }).get? c = some o := fun c o e => Heap.get?_push_of_some _ e
  exact hQ x y _ tk2 px py (up _ _ hz3) (D1.frame _ _ _ (D1.over s1' hs3 S.sep2_1) fun b _ o e => up b o e) (D2.frame _ _ _ s2' fun b _ o e => up b o e) ht fun c o c1 c2 c3 e => up c o (hk c o c1 c2 c3 e)
theorem zd_held_end {Q : Fin → Shared → Prop} (S : ZipSep2 z TI TO i1 i2 fp1 fp2) (D1 : Draws prog w A i1 fp1 n1 P1 St1) (D2 : Draws prog w A i2 fp2 n2 P2 St2)
    (hz : IsZipHeld s.heap z TI TO T f) (hT : s.heap.get? T = some oT) (hTI : IsTupOf2 s.heap TI (.ref i1) (.ref i2)) (st1 : St1 i s.heap) (st2 : St2 i s.heap) (le1 : i ≤ n1) (le2 : i ≤ n2) (hend : i = n1 ∨ i = n2)
    (hE : ∀ h' tk e, (∀ c o, c ≠ z → c ≠ i1 → c ≠ i2 → s.heap.get? c = some o → h'.get? c = some o) → (∃ o, h'.get? e = some o ∧ o.cls = .type "StopIteration") → E (.ref e) { s with heap := h', toks := tk }) :
    wpAny (model prog w) A (Builtin.«zip.__next__» ⟨[.ref z], []⟩) Q E s := by
  obtain ⟨hp, g, d, tk0, os⟩ := s
  show wpAny _ _ (field (.ref z) 2 >>= _) _ _ _
  refine wpAny_bind (wpAny_field hz rfl (x := .bool false) rfl ?_)
  show wpAny _ _ (field (.ref z) 3 >>= _) _ _ _
  refine wpAny_bind (wpAny_field hz rfl (x := .ref TI) rfl ?_)
  refine wpAny_bind (wpAny_seqItems hTI rfl ?_)
  show wpAny _ _ (Builtin.SmallTypes.ownedTupleIsFree (.ref z) >>= _) _ _ _
  refine wpAny_bind (wpAny_tupleHeld_zip hz hT fun g1 hz1 hs1 => ?_)
  simp only [Bool.false_eq_true, if_false]
  refine wpAny_bind ?_
  rw [← Array.forIn_toList]
  simp only [List.forIn_cons, List.forIn_nil]
  refine wpAny_bind (wpAny_bind (wpAny_holding ?_))
  replace hs1 : Heap.SameBut z hp g1 := hs1
  show wpAny _ _ (Builtin.SmallTypes.nextOf (.ref i1) >>= _) _ _ ⟨g1, g, d, tk0, os⟩
  by_cases lt1 : i < n1
  · refine wpAny_bind (D1.item i _ _ _ lt1 (D1.over st1 hs1 S.zf1) fun x g2 tk1 px s1' hs2 => wpAny_pure ?_)
    replace hs2 : Heap.SameBut i1 g1 g2 := hs2
    refine wpAny_pure ?_
    refine wpAny_bind (wpAny_bind (wpAny_holding ?_))
    show wpAny _ _ (Builtin.SmallTypes.nextOf (.ref i2) >>= _) _ _ ⟨g2, g, d, tk1, os⟩
    have hi2 : i = n2 := by omega
    refine wpAny_bind (D2.done ⟨g2, g, d, tk1, os⟩ _ _ (by rw [← hi2]; exact D2.over (D2.over st2 hs1 S.zf2) hs2 S.sep1_2) fun q e hq he => ?_)
    replace hq : Heap.ExtBut i2 g2 q := hq
    exact hE q tk1 e (fun c o c1 c2 c3 x => hq _ _ c3 (hs2.extBut _ _ c2 (hs1.extBut _ _ c1 x))) he
  · have hi1 : i = n1 := by omega
    refine wpAny_bind (D1.done ⟨g1, g, d, tk0, os⟩ _ _ (by rw [← hi1]; exact D1.over st1 hs1 S.zf1) fun q e hq he => ?_)
    replace hq : Heap.ExtBut i1 g1 q := hq
    exact hE q tk0 e (fun c o c1 c2 c3 x => hq _ _ c2 (hs1.extBut _ _ c1 x)) he
theorem zd_item {Q : Option Value → Shared → Prop} (S : ZipSep2 z TI TO i1 i2 fp1 fp2) (D1 : Draws prog w A.in1 i1 fp1 n1 P1 St1) (D2 : Draws prog w A.in1 i2 fp2 n2 P2 St2)
    (hz : IsZipHeld s.heap z TI TO T f) (hT : s.heap.get? T = some oT) (hTI : IsTupOf2 s.heap TI (.ref i1) (.ref i2)) (st1 : St1 i s.heap) (st2 : St2 i s.heap) (lt1 : i < n1) (lt2 : i < n2)
    (hQ : ∀ x y h' tk, P1 i x → P2 i y → IsZipHeld h' z TI TO T true → St1 (i + 1) h' → St2 (i + 1) h' → IsTupOf2 h' s.heap.objs.size x y → (∀ c o, c ≠ z → c ≠ i1 → c ≠ i2 → s.heap.get? c = some o → h'.get? c = some o) → Q (some (.ref s.heap.objs.size)) { s with heap := h', toks := tk }) :
    wpAny (model prog w) A (pyNext (.ref z)) Q E s := by
  have hTy : s.TypeIs (.ref z) "zip" := ⟨_, hz, rfl⟩
  unfold pyNext
  exact wpAny_bind (wpAny_attempt (wpAny_callSpecial?_slot (name := Str.ofString "__next__") hTy F.slot_zip_next
    (wpAny_call_entry F.slot_zip_next hTy F.entry_zip_next (zd_held S D1 D2 hz hT hTI st1 st2 lt1 lt2 fun x y h' tk a1 a2 a3 a4 a5 a6 a7 => wpAny_pure (hQ x y h' tk a1 a2 a3 a4 a5 a6 a7)) (F.args_zip_next_1 _))))
theorem zd_end {Q : Option Value → Shared → Prop} (S : ZipSep2 z TI TO i1 i2 fp1 fp2) (D1 : Draws prog w A.in1 i1 fp1 n1 P1 St1) (D2 : Draws prog w A.in1 i2 fp2 n2 P2 St2)
    (hz : IsZipHeld s.heap z TI TO T f) (hT : s.heap.get? T = some oT) (hTI : IsTupOf2 s.heap TI (.ref i1) (.ref i2)) (st1 : St1 i s.heap) (st2 : St2 i s.heap) (le1 : i ≤ n1) (le2 : i ≤ n2) (hend : i = n1 ∨ i = n2)
    (hQ : ∀ h' tk, (∀ c o, c ≠ z → c ≠ i1 → c ≠ i2 → s.heap.get? c = some o → h'.get? c = some o) → Q none { s with heap := h', toks := tk }) : wpAny (model prog w) A (pyNext (.ref z)) Q E s := by
  have hTy : s.TypeIs (.ref z) "zip" := ⟨_, hz, rfl⟩
  unfold pyNext
  refine wpAny_bind (wpAny_attempt (wpAny_callSpecial?_slot (name := Str.ofString "__next__") hTy F.slot_zip_next
    (wpAny_call_entry F.slot_zip_next hTy F.entry_zip_next (zd_held_end S D1 D2 hz hT hTI st1 st2 le1 le2 hend fun h' tk e hk he => ?_) (F.args_zip_next_1 _))))
  obtain ⟨o, ho, hc⟩ := he
  exact wpAny_bind (wpAny_isInstance (T := "StopIteration") (b := true) ⟨o, ho, hc⟩ isSubtype_stop (wpAny_pure (hQ _ _ hk)))
end
def ZOk (z TI TO i1 i2 : Addr) (St1 St2 : Nat → Heap → Prop) (h : Heap) : Prop := IsZip h z TI TO .none ∧ IsTupOf2 h TI (.ref i1) (.ref i2) ∧ (∃ a b, IsTupOf2 h TO a b) ∧ St1 0 h ∧ St2 0 h
theorem pair_zip {prog : Program} {w : World} {z TI TO i1 i2 : Addr} {fp1 fp2 : List Addr} {n1 n2 : Nat} {P1 P2 : Nat → Value → Prop} {St1 St2 : Nat → Heap → Prop} (S : ZipSep2 z TI TO i1 i2 fp1 fp2) (D1 : ∀ A : Around, A.handled = none → Draws prog w A i1 fp1 n1 P1 St1) (D2 : ∀ A : Around, A.handled = none → Draws prog w A i2 fp2 n2 P2 St2)
    (t1 : ∀ j h, St1 j h → ∀ b ∈ fp1, ∃ o, h.get? b = some o) (t2 : ∀ j h, St2 j h → ∀ b ∈ fp2, ∃ o, h.get? b = some o) (A0 : Around) (h0 : A0.handled = none) :
    PairArg prog w "zip" z (z :: TI :: TO :: (fp1 ++ fp2)) [z, TO, i1, i2] (min n1 n2) (fun i k v => P1 i k ∧ P2 i v) (ZOk z TI TO i1 i2 St1 St2) where
  type := fun s ok => ⟨_, ok.1, rfl⟩
  notDict := by decide
  keep := fun h h' ⟨hz, hTI, ⟨a, b, hTO⟩, s1, s2⟩ hk => ⟨hk _ _ hz, hk _ _ hTI, ⟨a, b, hk _ _ hTO⟩, (D1 A0 h0).frame _ _ _ s1 fun b _ o e => hk b o e, (D2 A0 h0).frame _ _ _ s2 fun b _ o e => hk b o e⟩
  there := fun h ⟨hz, hTI, ⟨a, c, hTO⟩, s1, s2⟩ b hb => by
    rcases List.mem_cons.mp hb with rfl | hb
    · exact ⟨_, hz⟩
    rcases List.mem_cons.mp hb with rfl | hb
    · exact ⟨_, hTI⟩
    rcases List.mem_cons.mp hb with rfl | hb
    · exact ⟨_, hTO⟩
    rcases List.mem_append.mp hb with hb | hb
    · exact t1 _ _ s1 b hb
    · exact t2 _ _ s2 b hb
  sub := fun b hb => by
    have hb : b = z ∨ b = TO ∨ b = i1 ∨ b = i2 := by simpa using hb
    have m1 := S.mem1
    have m2 := S.mem2
    rcases hb with rfl | rfl | rfl | rfl <;> simp [*]
  noKeys := fun A s Q E hA ok h => getAttrOr_miss_zip ok.1 rfl rfl rfl zip_no_keys (by decide +kernel) hA h
  iter := fun A s d Q E hA ⟨hz, hTI, ⟨a, b, hTO⟩, s1, s2⟩ hd hdf h => by
    simp only [List.mem_cons, List.mem_append, not_or] at hdf
    obtain ⟨dz, dTI, dTO, df1, df2⟩ := hdf
    have di1 : d ≠ i1 := fun e => df1 (e ▸ S.mem1)
    have di2 : d ≠ i2 := fun e => df2 (e ▸ S.mem2)
    refine wpAny_pyIter_zip hz (h z [z, TO, i1, i2] (fun i h => IsTupOf2 h TI (.ref i1) (.ref i2) ∧ St1 i h ∧ St2 i h ∧
      ((IsZip h z TI TO .none ∧ ∃ a b, IsTupOf2 h TO a b) ∨ ∃ T f oT, IsZipHeld h z TI TO T f ∧ h.get? T = some oT ∧ T ≠ z ∧ T ≠ i1 ∧ T ≠ i2 ∧ T ≠ d)) s.heap s.toks ?_
      ⟨hTI, s1, s2, .inl ⟨hz, a, b, hTO⟩⟩ (fun _ _ e => e) fun b hb => .inl hb)
    exact {
      off := fun hm => by
        have hm : d = z ∨ d = TO ∨ d = i1 ∨ d = i2 := by simpa using hm
        rcases hm with e | e | e | e
        · exact dz e
        · exact dTO e
        · exact di1 e
        · exact di2 e
      frame := fun i h1 h2 ⟨hTI, s1, s2, hz⟩ hk => by
        refine ⟨hk _ _ (Ne.symm dTI) hTI, (D1 A hA).frame _ _ _ s1 fun b hb o e => hk b o (fun z => df1 (z ▸ hb)) e, (D2 A hA).frame _ _ _ s2 fun b hb o e => hk b o (fun z => df2 (z ▸ hb)) e, ?_⟩
        rcases hz with ⟨hz, a, b, hTO⟩ | ⟨T, f, oT, hz, hT, r1, r2, r3, r4⟩
        · exact .inl ⟨hk _ _ (Ne.symm dz) hz, a, b, hk _ _ (Ne.symm dTO) hTO⟩
        · exact .inr ⟨T, f, oT, hk _ _ (Ne.symm dz) hz, hk _ _ r4 hT, r1, r2, r3, r4⟩
      item := fun i s1 Q1 E1 hi ⟨hTI, st1, st2, hz⟩ hds hQ => by
        have lt1 : i < n1 := Nat.lt_of_lt_of_le hi (Nat.min_le_left ..)
        have lt2 : i < n2 := Nat.lt_of_lt_of_le hi (Nat.min_le_right ..)
        have lt : ∀ {c o}, s1.heap.get? c = some o → s1.heap.objs.size ≠ c := fun e => Nat.ne_of_gt (Heap.lt_size e)
        have m1 : s1.heap.objs.size ≠ i1 := let ⟨_, e⟩ := t1 _ _ st1 _ S.mem1; lt e
        have m2 : s1.heap.objs.size ≠ i2 := let ⟨_, e⟩ := t2 _ _ st2 _ S.mem2; lt e
        rcases hz with ⟨hz, a, b, hTO⟩ | ⟨T, f, oT, hz, hT, r1, r2, r3, r4⟩
        · refine wpAny_pyNext_zipD2_item S (D1 A.in1 hA) (D2 A.in1 hA) hz hTI hTO st1 st2 lt1 lt2 fun x y h' tk px py a1 a2 a3 a4 a5 a6 hk => ?_
          exact hQ s1.heap.objs.size x y h' tk ⟨px, py⟩ (.inl ⟨_, a5, rfl, _, rfl⟩) ⟨hk _ _ S.TIz S.TITO S.TIi1 S.TIi2 hTI, a3, a4, .inr ⟨s1.heap.objs.size, false, _, a1, a5, lt hz, m1, m2, Nat.ne_of_gt hds⟩⟩
            fun c o hc e => hk c o (fun x => hc (by simp [x])) (fun x => hc (by simp [x])) (fun x => hc (by simp [x])) (fun x => hc (by simp [x])) e
        · refine zd_item S (D1 A.in1 hA) (D2 A.in1 hA) hz hT hTI st1 st2 lt1 lt2 fun x y h' tk px py a1 a3 a4 a5 hk => ?_
          exact hQ s1.heap.objs.size x y h' tk ⟨px, py⟩ (.inl ⟨_, a5, rfl, _, rfl⟩) ⟨hk _ _ S.TIz S.TIi1 S.TIi2 hTI, a3, a4, .inr ⟨T, true, oT, a1, hk _ _ r1 r2 r3 hT, r1, r2, r3, r4⟩⟩
            fun c o hc e => hk c o (fun x => hc (by simp [x])) (fun x => hc (by simp [x])) (fun x => hc (by simp [x])) e
      done := fun s1 Q1 E1 ⟨hTI, st1, st2, hz⟩ hQ => by
        have le1 := Nat.min_le_left n1 n2
        have le2 := Nat.min_le_right n1 n2
        have hend : min n1 n2 = n1 ∨ min n1 n2 = n2 := by omega
        rcases hz with ⟨hz, a, b, hTO⟩ | ⟨T, f, oT, hz, hT, r1, r2, r3, r4⟩
        · exact wpAny_pyNext_zipD2_end S (D1 A.in1 hA) (D2 A.in1 hA) hz hTI hTO st1 st2 le1 le2 hend fun h' tk hk => hQ h' tk fun c o hc e => hk c o (fun x => hc (by simp [x])) (fun x => hc (by simp [x])) (fun x => hc (by simp [x])) (fun x => hc (by simp [x])) e
        · exact zd_end S (D1 A.in1 hA) (D2 A.in1 hA) hz hT hTI st1 st2 le1 le2 hend fun h' tk hk => hQ h' tk fun c o hc e => hk c o (fun x => hc (by simp [x])) (fun x => hc (by simp [x])) (fun x => hc (by simp [x])) e }
end
end PV
set_option Elab.async false
set_option linter.all false
set_option maxRecDepth 100000
set_option maxHeartbeats 1000000
set_option autoImplicit false
namespace PV
noncomputable section
open PySem PySem.Spec PyProof.Rows L2
def Src.seq : Src → Prop
  | .str _ => False
  | _ => True
section
variable {X : Cx} {pins : List (Addr × Obj)} {σ : L2.St} {H : Hp} {s : Shared}
/-- the values themselves, of a list or a tuple -/
theorem Src.drawsX {src : Src} (Iv : Inv X pins σ H s) (hq : src.seq) {vs : List V} (h1 : src.At X.K H vs) {I : Addr} (hn : I ∉ src.cells) :
    ∃ (us : List Value) (St : Nat → Heap → Prop), Vals vs us ∧ (∀ A : Around, A.handled = none → Draws X.prog X.w A I (I :: src.cells) vs.length (fun j v => us[j]? = some v) St) ∧
      (∀ h t, h.get? I = some (src.ob t) → (∀ b o, s.heap.get? b = some o → h.get? b = some o) → St 0 h) ∧ ∀ j h, St j h → ∀ b ∈ I :: src.cells, ∃ o, h.get? b = some o := by
  cases src with
  | lst a =>
    obtain ⟨its, rv, p, _⟩ := Iv.list h1
    have D : ∀ A : Around, A.handled = none → _ := fun A hh => Draws.list (prog := X.prog) (w := X.w) (A := A) hh I a (fun z => hn (by rw [z]; exact List.Mem.head _)) its.toArray
    rw [show its.toArray.size = vs.length by simp [← rv.length]] at D
    simp only [List.getElem?_toArray] at D
    refine ⟨its, _, rv, D, fun h t e k => ⟨⟨_, e, rfl, rfl⟩, p.isList.at fun o e => k a o e⟩, fun j h z b hb => ?_⟩
    obtain ⟨⟨o, e, _⟩, ⟨o2, e2, _⟩⟩ := z
    cases hb with
    | head => exact ⟨o, e⟩
    | tail _ hb => cases hb with
      | head => exact ⟨o2, e2⟩
      | tail _ hb => cases hb
  | tup a =>
    obtain ⟨its, rv, p, _⟩ := Iv.tuple h1
    have D : ∀ A : Around, A.handled = none → _ := fun A hh => Draws.tuple (prog := X.prog) (w := X.w) (A := A) hh I a (fun z => hn (by rw [z]; exact List.Mem.head _)) its.toArray
    rw [show its.toArray.size = vs.length by simp [← rv.length]] at D
    simp only [List.getElem?_toArray] at D
    refine ⟨its, _, rv, D, fun h t e k => ⟨⟨_, e, rfl, rfl⟩, Heap.IsTuple.at (show s.heap.IsTuple a its.toArray from p) fun o e => k a o e⟩, fun j h z b hb => ?_⟩
    obtain ⟨⟨o, e, _⟩, ⟨o2, e2, _⟩⟩ := z
    cases hb with
    | head => exact ⟨o, e⟩
    | tail _ hb => cases hb with
      | head => exact ⟨o2, e2⟩
      | tail _ hb => cases hb
  | str x => exact hq.elim
end
def Zipped (vs ws : List V) (kvs : List (Key × V)) : Prop := vs.zip ws = kvs.map fun q => (kV q.1, q.2)
def tDz (K : PySem.W.Frag) (ta tb : TE) : TE := fun σ H Q => ta σ H fun v H1 => tb σ H1 fun u H2 => ∃ a b vs ws kvs, [v, u] = [Src.v a, Src.v b] ∧ a.seq ∧ b.seq ∧ a.At K H2 vs ∧ b.At K H2 ws ∧ Zipped vs ws kvs ∧ ∀ p, H2 p = none → Q (.ref p) (upd H2 p (.dK (mergeK [] kvs)))
theorem zipped_get {vs ws : List V} {kvs : List (Key × V)} (z : Zipped vs ws kvs) {i : Nat} {x y : V} (h1 : vs[i]? = some x) (h2 : ws[i]? = some y) : ∃ k, kvs[i]? = some (k, y) ∧ x = kV k := by
  have e : (vs.zip ws)[i]? = some (x, y) := by rw [List.getElem?_zip_eq_some]; exact ⟨h1, h2⟩
  rw [z, List.getElem?_map] at e
  cases q : kvs[i]? with
  | none => rw [q] at e; cases e
  | some p =>
    rw [q] at e
    obtain ⟨k, v⟩ := p
    simp only [Option.map_some, Option.some.injEq, Prod.mk.injEq] at e
    exact ⟨k, by rw [e.2], e.1.symm⟩
theorem zip_len {vs ws : List V} {kvs : List (Key × V)} (z : Zipped vs ws kvs) : kvs.length = min vs.length ws.length := by
  have := congrArg List.length z
  rw [List.length_zip, List.length_map] at this
  exact this.symm
theorem vals_get' : ∀ {xs : List V} {us : List Value}, Vals xs us → ∀ {i : Nat} {u : Value}, us[i]? = some u → ∃ x, xs[i]? = some x ∧ RelV x u
  | _, _, .nil, i, u, e => by simp at e
  | _, _, .cons r t, 0, u, e => by simp at e; subst e; exact ⟨_, rfl, r⟩
  | _, _, .cons r t, i + 1, u, e => by
    obtain ⟨x, a, b⟩ := vals_get' t (i := i) (u := u) (by simpa using e)
    exact ⟨x, by simpa using a, b⟩
/-- the pairs as values -/
theorem kv_of : ∀ {kvs : List (Key × V)} {us : List Value}, Vals (kvs.map (·.2)) us → KV kvs ((kvs.map (·.1)).zip us)
  | [], us, h => by cases h; exact .nil
  | (k, v) :: r, us, h => by
    cases h with
    | cons r1 r2 => exact .cons ⟨rfl, r1⟩ (kv_of r2)
theorem zip_snd : ∀ xs ys : List V, (xs.zip ys).map (·.2) = ys.take (min xs.length ys.length)
  | [], ys => by simp
  | x :: xs, [] => by simp
  | x :: xs, y :: ys => by
    rw [List.zip_cons_cons, List.map_cons, zip_snd xs ys]
    rw [List.length_cons, List.length_cons, show min (xs.length + 1) (ys.length + 1) = min xs.length ys.length + 1 by omega, List.take_succ_cons]
theorem pe_dz {X : Cx} {e e2 : Expr} {ta tb : TE} {p p2 pos pos2 : Pos} (hc : X.calm = true) (hg : Gl X "zip") (hm : X.mg "zip" = none) (hg2 : Gl X "dict") (hm2 : X.mg "dict" = none) (ha : PE X e ta) (hb : PE X e2 tb) (hs : isStar e = false) (hs2 : isStar e2 = false) :
    PE X (.Call (.Name "dict" p2) [.Call (.Name "zip" p) [e, e2] [] pos] [] pos2) (tDz X.K ta tb) := by
  refine ⟨fun pins s σ H Q I h => ?_⟩
  have pa : PA X [e, e2] (tCons ta (tCons tb tNil)) := pa_cons ha (pa_cons hb pa_nil (starEach_no hs2)) (starEach_no hs)
  refine Call_ (ld_blt I hg2 hm2 boot_dict ?_)
  refine PyProof.Rows.callWith_type1 (PyProof.Rows.args_cons ?_ rfl) rfl rfl
  refine Call_ (ld_blt I hg hm PyProof.Rows.boot_zip (PyProof.Rows.callWith_type1 (thn (pa.run pos pins s σ H (fun vs H2 => ∃ a b xs ys kvs, vs = [Src.v a, Src.v b] ∧ a.seq ∧ b.seq ∧ a.At X.K H2 xs ∧ b.At X.K H2 ys ∧ Zipped xs ys kvs ∧ ∀ p, H2 p = none → Q (.ref p) (upd H2 p (.dK (mergeK [] kvs)))) I h) fun us s1 ⟨vs, H1, I1, r1, q1⟩ => ?_) (starEach_no hs) (by rw [starEach_no hs2]; rfl)))
  obtain ⟨a, b, xs, ys, kvs, rfl, sa, sb, hqx, hqy, hz, q⟩ := q1
  cases r1 with
  | cons r rr =>
    cases rr with
    | cons r' rr =>
      cases rr
      obtain ⟨t, Hb, B, hb, hit, hlt⟩ := Src.begins I1 hqx r
      obtain ⟨tk2, Hb2, B2, hb2, hit2, hlt2⟩ := Src.begins I1 hqy r'
      refine zip_begins2 B B2 hb hb2 fun h' zz hTI hTO h1 h2 hsz hk => PyProof.Rows.args_nil ?_
      have I2 : Inv X pins σ H1 { s1 with heap := h' } := I1.kept (t' := s1.toks) hk
      have n1 : s1.heap.objs.size ∉ a.cells := fun z => Nat.lt_irrefl _ (hlt _ z)
      have n2 : s1.heap.objs.size + 1 ∉ b.cells := fun z => Nat.lt_irrefl _ (Nat.lt_of_succ_lt (hlt2 _ z))
      obtain ⟨us1, St1, rv1, D1, b1, t1⟩ := Src.drawsX I1 sa hqx n1
      obtain ⟨us2, St2, rv2, D2, b2, t2⟩ := Src.drawsX I1 sb hqy n2
      have S := zip_sep2 hlt hlt2
      have P := pair_zip S D1 D2 t1 t2 X.A (I1.ok.hd hc)
      have l1 := rv1.length
      have l2 := rv2.length
      have hl := zip_len hz
      have vv : Vals (kvs.map (·.2)) (us2.take (min xs.length ys.length)) := by
        have e1 : kvs.map (·.2) = (xs.zip ys).map (·.2) := by rw [hz, List.map_map]; rfl
        have e2 : (xs.zip ys).map (·.2) = ys.take (min xs.length ys.length) := zip_snd xs ys
        rw [e1, e2]
        exact rv2.take _
      have kv := kv_of vv
      have hav : PairsHave (mixKind X.prog X.w) (min xs.length ys.length) (fun i k v => us1[i]? = some k ∧ us2[i]? = some v) ((kvs.map (·.1)).zip (us2.take (min xs.length ys.length))) := by
        refine ⟨by rw [List.length_zip, List.length_map, List.length_take, hl]; omega, fun i key v ⟨g1, g2⟩ => ?_⟩
        obtain ⟨x, ex, rx⟩ := vals_get' rv1 g1
        obtain ⟨y, ey, ry⟩ := vals_get' rv2 g2
        obtain ⟨k, ek, rfl⟩ := zipped_get hz ex ey
        refine ⟨k, ?_, kV_is rx⟩
        rw [List.getElem?_zip_eq_some, List.getElem?_map, ek]
        refine ⟨rfl, ?_⟩
        rw [List.getElem?_take, if_pos (by have := (List.getElem?_eq_some_iff.mp ek).1; omega)]
        exact g2
      have hsl : min xs.length ys.length ≤ sizeLine := by
        cases a with
        | lst a => obtain ⟨_, _, _, z⟩ := I1.list hqx; omega
        | tup a => obtain ⟨_, _, _, z⟩ := I1.tuple hqx; omega
        | str x => exact sa.elim
      refine PySem.call_dict_pairs P (I1.ok.hd hc) ⟨zz, hTI, ⟨_, _, hTO⟩, b1 _ t h1 hk, b2 _ tk2 h2 hk⟩ hav hsl fun h'' tk dd hk2 => ?_
      have hf : H1 h'.objs.size = none := I2.hok.fresh (Nat.le_refl _)
      have le : s1.heap.objs.size ≤ h'.objs.size := by rw [hsz]; exact Nat.le_add_right _ _
      have big := I1.big
      have new : ObjOk X.prog X.w (upd H1 h'.objs.size (.dK (mergeK [] kvs))) h'' h'.objs.size (.dK (mergeK [] kvs)) := by
        refine ⟨?_, ?_, _, KV.merge kv .nil, dd⟩
        · have := length_mergeK kvs []
          rw [List.length_nil] at this
          omega
        · simp only [beq_eq_false_iff_ne]
          intro z
          rw [z] at le
          exact absurd big (Nat.not_lt.mpr le)
      refine ⟨.ref h'.objs.size, _, I1.laid (t' := tk) (fun c o e => hk2 c o (fun hm => ?_) (hk c o e)) le new, rfl, q _ hf⟩
      have lt := Heap.lt_size e
      have hm : c = s1.heap.objs.size + 4 ∨ c = s1.heap.objs.size + 3 ∨ c = s1.heap.objs.size ∨ c = s1.heap.objs.size + 1 := by simpa using hm
      rcases hm with z | z | z | z <;> rw [z] at lt
      · exact absurd lt (Nat.not_lt.mpr (Nat.le_add_right _ _))
      · exact absurd lt (Nat.not_lt.mpr (Nat.le_add_right _ _))
      · exact absurd lt (Nat.lt_irrefl _)
      · exact absurd lt (Nat.not_lt.mpr (Nat.le_add_right _ _))
/-! as data -/
section
variable {G : Gs} {K : PySem.W.Frag} {C : Cx → Prop}
def mergeD (kvs : List (D × D)) : List D → List D → List (D × D)
  | k :: ks, v :: vs => mergeD (putD kvs k v) ks vs
  | _, _ => kvs
def allKeys : List D → List D → Bool
  | k :: ks, _ :: vs => isKey k && allKeys ks vs
  | _, _ => true
def isSq : D → Bool
  | .str _ => false
  | _ => true
def dzM (x y : D) : M D := fun h => match itemsD h x, itemsD h y with
  | some ks, some vs => if isSq x && isSq y && allKeys ks vs then .ret (.ok (.ref h.n) (h.new (.dic (mergeD [] ks vs)))) else .ret .bad
  | _, _ => .ret .bad
theorem merge_ok {ρ : Nat → Addr} {n : Nat} {H : Hp} : ∀ {ks vs : List D} {us ws : List V} {acc : List (D × D)} {es : List (Key × V)}, RelDs K ρ n H ks us → RelDs K ρ n H vs ws → allKeys ks vs = true → DRel K ρ n H acc es → (es.map (·.1)).Nodup →
    ∃ kvs, Zipped us ws kvs ∧ DRel K ρ n H (mergeD acc ks vs) (mergeK es kvs) ∧ ((mergeK es kvs).map (·.1)).Nodup
  | [], vs, us, ws, acc, es, r1, r2, ak, d, nd => by
    rw [relDs_nil] at r1
    subst r1
    exact ⟨[], rfl, by simpa [mergeD, mergeK] using d, nd⟩
  | k :: ks, [], us, ws, acc, es, r1, r2, ak, d, nd => by
    rw [relDs_nil] at r2
    subst r2
    exact ⟨[], by unfold Zipped; simp, by simpa [mergeD, mergeK] using d, nd⟩
  | k :: ks, v :: vs, us, ws, acc, es, r1, r2, ak, d, nd => by
    obtain ⟨u, us', rfl, ru, q1'⟩ := relDs_cons.mp r1
    obtain ⟨w, ws', rfl, rw', q2'⟩ := relDs_cons.mp r2
    unfold allKeys at ak
    rw [Bool.and_eq_true] at ak
    obtain ⟨key, hk, rfl⟩ := key_of ak.1 ru
    obtain ⟨p1, p2, _⟩ := put_ok hk rw' d nd
    obtain ⟨kvs, z, q1, q2⟩ := merge_ok q1' q2' ak.2 p1 p2
    refine ⟨(key, w) :: kvs, ?_, q1, q2⟩
    unfold Zipped at z ⊢
    rw [List.zip_cons_cons, z]
    rfl
theorem isSq_ok {ρ : Nat → Addr} {h : VH} {H : Hp} {d : D} {v : V} {xs : List D} (hr : HR G K ρ h H) (rd : RelD K ρ h.n H d v) (e : itemsD h d = some xs) (q : isSq d = true) : ∃ src, v = Src.v src ∧ src.seq ∧ SrcOk G K ρ h.n H d src := by
  obtain ⟨src, e1, so⟩ := src_of hr rd e
  cases src with
  | lst a => exact ⟨_, e1, trivial, so⟩
  | tup a => exact ⟨_, e1, trivial, so⟩
  | str x =>
    exfalso
    subst e1
    cases d with
    | str s => cases q
    | tup xs => obtain ⟨_, _, z, _⟩ := relD_tup.mp rd; cases z
    | ref a => obtain ⟨_, z⟩ := relD_ref.mp rd; cases z
    | kls ns => obtain ⟨_, z, _⟩ := kls_sq rd; cases z
    | _ => cases e
theorem se_dz {e e2 : Expr} {p p2 pos pos2 : Pos} {ma mb : Env → M D} (hc : ∀ X, C X → X.calm = true) (h1 : ∀ X, C X → Gl X "zip" ∧ X.mg "zip" = none) (h2 : ∀ X, C X → Gl X "dict" ∧ X.mg "dict" = none) (hs : isStar e = false) (hs2 : isStar e2 = false) (ha : SE G K C e ma) (hb : SE G K C e2 mb) :
    SE G K C (.Call (.Name "dict" p2) [.Call (.Name "zip" p) [e, e2] [] pos] [] pos2) (fun env => M.bind (ma env) fun x => M.bind (mb env) fun y => dzM x y) := by
  obtain ⟨t, pt, q⟩ := ha
  obtain ⟨u, pu, qu⟩ := hb
  refine ⟨tDz K t u, fun X hX eK => by subst eK; exact pe_dz (hc X hX) (h1 X hX).1 (h1 X hX).2 (h2 X hX).1 (h2 X hX).2 (pt X hX rfl) (pu X hX rfl) hs hs2, fun ρ env h σ H Q hr er hq => ?_⟩
  refine useE q hr er hq (fun z => z) fun ρ1 h1 H1 d v l1 hr1 rd z => ?_
  refine useE qu hr1 (er.mono l1) z (fun z => z) fun ρ2 h2 H2 d2 v2 l2 hr2 rd2 z => ?_
  unfold dzM at z
  cases e1 : itemsD h2 d with
  | none => rw [e1] at z; exact z.elim
  | some xs =>
    cases e3 : itemsD h2 d2 with
    | none => rw [e1, e3] at z; exact z.elim
    | some ys =>
      rw [e1, e3] at z
      simp only at z
      by_cases hz : (isSq d && isSq d2 && allKeys xs ys) = true
      · rw [if_pos hz] at z
        simp only [Bool.and_eq_true] at hz
        obtain ⟨s1, rfl, q1, so1⟩ := isSq_ok hr2 (rd.mono l2) e1 hz.1.1
        obtain ⟨s2, rfl, q2, so2⟩ := isSq_ok hr2 rd2 e3 hz.1.2
        obtain ⟨vs, a1, b1⟩ := so1 ρ2 h2 H2 xs Le.refl.w hr2 e1
        obtain ⟨ws, a2, b2⟩ := so2 ρ2 h2 H2 ys Le.refl.w hr2 e3
        obtain ⟨kvs, zz, k1, k2⟩ := merge_ok (acc := []) (es := []) b1 b2 hz.2 rfl List.nodup_nil
        refine ⟨s1, s2, vs, ws, kvs, rfl, q1, q2, a1, a2, zz, fun p hp => ?_⟩
        have l : Le K ρ2 h2.n H2 (rset ρ2 h2.n p) (h2.n + 1) (upd H2 p (.dK (mergeK [] kvs))) := Le.new hp
        exact z _ _ _ ((l1.trans l2).trans l) (hr2.new hp ⟨_, upd_same, k1.mono l, k2⟩) (relD_ref.mpr ⟨Nat.lt_succ_self _, by rw [rset_at]⟩)
      · rw [if_neg hz] at z; exact z.elim
end
end
end PV
set_option Elab.async false
set_option linter.all false
set_option maxRecDepth 100000
set_option maxHeartbeats 2000000
set_option autoImplicit false
namespace PV
noncomputable section
open PySem PySem.Spec PyProof.Rows L2
section
variable {G : Gs} {K : PySem.W.Frag} {C C' : Cx → Prop} {X : Cx}
/-! ### two fors in a comprehension -/
def tn2 : Nat := 4000
def lc2F (st : Stp) (g : Env → D → M Env) (tt : Env → M Bool) (mi1 : Env → M Stp) (g1 : Env → D → M Env) (tt1 : Env → M Bool) (te : Env → M D) (vs1 : List Nat) (env : Env) : Nat → Nat → List D → M (List D)
  | 0, _, _ => M.bad
  | f + 1, i, acc => fun h => match st.go i h with
    | none => .ret .bad
    | some none => .ret (.ok acc h)
    | some (some d) => M.bind (g env d) (fun e2 => M.bind (tt e2) fun b => if b then M.bind (mi1 e2) (fun st1 => match st1.lk with
        | none => M.bind (lcF st1 g1 tt1 te (wipeE e2 vs1) tn2 0 acc) (fun acc2 => lc2F st g tt mi1 g1 tt1 te vs1 env f (i + 1) acc2)
        | some _ => M.bad) else lc2F st g tt mi1 g1 tt1 te vs1 env f (i + 1) acc) h
def lc2M (mi : Env → M Stp) (g : Env → D → M Env) (tt : Env → M Bool) (mi1 : Env → M Stp) (g1 : Env → D → M Env) (tt1 : Env → M Bool) (te : Env → M D) (vs vs1 : List Nat) (env : Env) : M D :=
  M.bind (mi env) fun st => M.bind (lc2F st g tt mi1 g1 tt1 te vs1 (wipeE env vs) tn2 0 []) fun acc => M.bind (unlk st.lk) fun _ => newLst acc.reverse
theorem lc2_use {ws vs ws1 vs1 : List Nat} {ti ti1 : TI} {tg' tg1' : TG} {tt' tt1' : TT} {te' : TE} {mi mi1 : Env → M Stp} {g g1 : Env → D → M Env} {tt tt1 : Env → M Bool} {te : Env → M D} (hws : ∀ i, i ∈ ws → i ∈ vs) (hws1 : ∀ i, i ∈ ws1 → i ∈ vs1)
    (qi : ∀ ρ env h σ H (R : It → Hp → Prop), HR G K ρ h H → ER K ρ h.n H env σ → (mi env h).all (PostI G K ρ h.n H R) → ti σ H R)
    (qi1 : ∀ ρ env h σ H (R : It → Hp → Prop), HR G K ρ h H → ER K ρ h.n H env σ → (mi1 env h).all (PostI G K ρ h.n H R) → ti1 σ H R)
    (qg : ∀ ρ env h σ H d v Q, HR G K ρ h H → ER K ρ h.n H env σ → RelD K ρ h.n H d v → (g env d h).all (PostG G K ρ h.n H ws σ Q) → tg' v σ H Q)
    (qg1 : ∀ ρ env h σ H d v Q, HR G K ρ h H → ER K ρ h.n H env σ → RelD K ρ h.n H d v → (g1 env d h).all (PostG G K ρ h.n H ws1 σ Q) → tg1' v σ H Q)
    (qt : ∀ ρ env h σ H Q, HR G K ρ h H → ER K ρ h.n H env σ → (tt env h).all (PostT G K ρ h.n H Q) → tt' σ H Q)
    (qt1 : ∀ ρ env h σ H Q, HR G K ρ h H → ER K ρ h.n H env σ → (tt1 env h).all (PostT G K ρ h.n H Q) → tt1' σ H Q)
    (qe : ∀ ρ env h σ H Q, HR G K ρ h H → ER K ρ h.n H env σ → (te env h).all (PostE G K ρ h.n H Q) → te' σ H Q)
    (ρ : Nat → Addr) (env : Env) (h : VH) (σ : L2.St) (H : Hp) (Q : VK) (hr : HR G K ρ h H) (er : ER K ρ h.n H env σ) (hq : (lc2M mi g tt mi1 g1 tt1 te vs vs1 env h).all (PostE G K ρ h.n H Q)) : tUnlE (tLc2 ti tg' tt' ti1 tg1' tt1' te' vs vs1) σ H Q := by
  refine qi ρ env h σ H _ hr er (P.all_mono (fun r z => ?_) (all_M hq (fun z => z)))
  cases r with
  | bad => exact z.elim
  | ok st h1 =>
    intro ρ1 H1 J l1 hr1 ok1 lk1 p hp
    have z : (M.bind (lc2F st g tt mi1 g1 tt1 te vs1 (wipeE env vs) tn2 0 []) (fun acc => M.bind (unlk st.lk) fun _ => newLst acc.reverse) h1).all (PostE G K ρ h.n H Q) := z
    have f1 := fresh_no hr1 hp
    have z := all_M z (fun z => z)
    have ew := er_wipe (er.mono l1) vs
    refine ⟨fun i m H' => i + m = tn2 ∧ ∃ ρ' h' acc us, Le K ρ1 h1.n H1 ρ' h'.n H' ∧ HR G K ρ' h' H' ∧ H' p = some (.lst us) ∧ (∀ a, a < h'.n → ρ' a ≠ p) ∧ RelDs K ρ' h'.n H' acc.reverse us ∧ acc.length ≤ i * 4000 ∧ (lc2F st g tt mi1 g1 tt1 te vs1 (wipeE env vs) m i acc h').all (PL G K st ρ h.n H Q), ⟨tn2, Nat.zero_add _, ρ1, h1, [], [], Le.upd_fresh hp, hr1.fresh hp, upd_same, f1, relDs_nil.mpr rfl, Nat.le_refl _, P.all_mono (fun r z => by cases r with | bad => exact z.elim | ok a h' => exact z) z⟩, ?_⟩
    rintro i m H2 ⟨him, ρ2, h2, acc, us, l2, hr2, hp2, f2, ra, hl, q2⟩
    cases m with
    | zero => exact q2.elim
    | succ m =>
      have q2 : ((match st.go i h2 with
        | none => (.ret .bad : P (R (List D)))
        | some none => .ret (.ok acc h2)
        | some (some d) => M.bind (g (wipeE env vs) d) (fun e2 => M.bind (tt e2) fun b => if b then M.bind (mi1 e2) (fun st1 => match st1.lk with
            | none => M.bind (lcF st1 g1 tt1 te (wipeE e2 vs1) tn2 0 acc) (fun acc2 => lc2F st g tt mi1 g1 tt1 te vs1 (wipeE env vs) m (i + 1) acc2)
            | some _ => M.bad) else lc2F st g tt mi1 g1 tt1 te vs1 (wipeE env vs) m (i + 1) acc) h2)).all (PL G K st ρ h.n H Q) := q2
      have o := ok1 ρ2 h2 H2 i l2.w hr2
      revert q2 o
      cases st.go i h2 with
      | none => intro q2; exact q2.elim
      | some w =>
        cases w with
        | none =>
          intro q2 o
          refine .inl ⟨o, unlk_ok (lk1.mono l2) (l1.trans l2) hr2 q2 (fun z => z) fun h' H' hn l0 lz hr' uf q => ?_⟩
          have hp3 : H' p = some (.lst us) := uf p _ hp2 f2
          refine q (rset ρ2 h'.n p) H' (.ref p) (l0.own (fr0 hr1 l1 hp)) (hr'.own hp3 (by rw [hn]; exact f2) (ra.mono0 lz)) ?_
          rw [relD_ref]
          exact ⟨Nat.lt_succ_self _, by rw [rset_at]⟩
        | some d =>
          rintro q2 ⟨o1, o2⟩
          refine .inr ⟨o1, fun H' => (i + 1) + m = tn2 ∧ ∃ ρ' h' acc us, Le K ρ1 h1.n H1 ρ' h'.n H' ∧ HR G K ρ' h' H' ∧ H' p = some (.lst us) ∧ (∀ a, a < h'.n → ρ' a ≠ p) ∧ RelDs K ρ' h'.n H' acc.reverse us ∧ acc.length ≤ (i + 1) * 4000 ∧ (lc2F st g tt mi1 g1 tt1 te vs1 (wipeE env vs) m (i + 1) acc h').all (PL G K st ρ h.n H Q), fun H' w => ⟨m, Nat.lt_succ_self m, w⟩, fun x H3 hy => ?_⟩
          have him2 : (i + 1) + m = tn2 := by omega
          obtain ⟨ρ3, l3, hr3, rd3⟩ := o2 x H3 hy
          have l13 := l2.trans l3
          refine qg ρ3 _ h2 _ H3 d x _ hr3 (ew.mono l13) rd3 (P.all_mono (fun r z => ?_) (all_M (p := PL G K st ρ h.n H Q) q2 (fun z => z)))
          cases r with
          | bad => exact z.elim
          | ok e2 h4 =>
            intro ρ4 H4 σ4 l4 hr4 er4 sb4
            refine ⟨wipe_same hws sb4, ?_⟩
            refine qt ρ4 e2 h4 σ4 H4 _ hr4 er4 (P.all_mono (fun r z2 => ?_) (all_M (p := PL G K st ρ h.n H Q) z (fun z => z)))
            cases r with
            | bad => exact z2.elim
            | ok b h5 =>
              intro ρ5 H5 l5 hr5
              have l35 := (l3.trans l4).trans l5
              obtain ⟨hp5, f5⟩ := l35.fr p _ hp2 f2
              have l15 := l2.trans l35
              cases b with
              | false =>
                rw [if_neg Bool.false_ne_true]
                refine ⟨him2, ρ5, h5, acc, us, l15, hr5, hp5, f5, ra.mono l35, by omega, z2⟩
              | true =>
                rw [if_pos rfl]
                refine qi1 ρ5 e2 h5 σ4 H5 _ hr5 (er4.mono l5) (P.all_mono (fun r z3 => ?_) (all_M (p := PL G K st ρ h.n H Q) z2 (fun z => z)))
                cases r with
                | bad => exact z3.elim
                | ok st1 h6 =>
                  intro ρ6 H6 J1 l6 hr6 ok6 lk6
                  simp only at z3
                  cases ek : st1.lk with
                  | some a => rw [ek] at z3; exact z3.elim
                  | none =>
                    rw [ek] at z3
                    have z3 : (M.bind (lcF st1 g1 tt1 te (wipeE e2 vs1) tn2 0 acc) (fun acc2 => lc2F st g tt mi1 g1 tt1 te vs1 (wipeE env vs) m (i + 1) acc2) h6).all (PL G K st ρ h.n H Q) := z3
                    have z3 := all_M z3 (fun z => z)
                    obtain ⟨hp6, f6⟩ := l6.fr p _ hp5 f5
                    have ew1 := er_wipe ((er4.mono l5).mono l6) vs1
                    have l16 := l15.trans l6
                    refine ⟨fun j k H' => j + k = tn2 ∧ ∃ ρ' h' acc us, Lw K ρ6 h6.n H6 ρ' h'.n H' ∧ HR G K ρ' h' H' ∧ H' p = some (.lst us) ∧ (∀ a, a < h'.n → ρ' a ≠ p) ∧ Le K ρ1 h1.n H1 ρ' h'.n H' ∧ RelDs K ρ' h'.n H' acc.reverse us ∧ acc.length ≤ i * 4000 + j ∧ (lcF st1 g1 tt1 te (wipeE e2 vs1) k j acc h').all (fun r => match r with
                      | .ok acc2 h' => (lc2F st g tt mi1 g1 tt1 te vs1 (wipeE env vs) m (i + 1) acc2 h').all (PL G K st ρ h.n H Q)
                      | .bad => False), ⟨tn2, Nat.zero_add _, ρ6, h6, acc, us, Le.refl.w, hr6, hp6, f6, l16, (ra.mono l35).mono l6, hl, P.all_mono (fun r z => by cases r <;> exact z) z3⟩, ?_⟩
                    rintro j k H7 ⟨hjk, ρ7, h7, acc7, us7, l67, hr7, hp7, f7, l17, ra7, hl7, q7⟩
                    cases k with
                    | zero => exact q7.elim
                    | succ k =>
                      let PP : PV.R (List D) → Prop := fun r => match r with
                        | .ok acc2 h' => (lc2F st g tt mi1 g1 tt1 te vs1 (wipeE env vs) m (i + 1) acc2 h').all (PL G K st ρ h.n H Q)
                        | .bad => False
                      have q7 : ((match st1.go j h7 with
                        | none => (.ret .bad : P (R (List D)))
                        | some none => .ret (.ok acc7 h7)
                        | some (some d) => M.bind (g1 (wipeE e2 vs1) d) (fun e3 => M.bind (tt1 e3) fun b => if b then M.bind (te e3) (fun y => lcF st1 g1 tt1 te (wipeE e2 vs1) k (j + 1) (y :: acc7)) else lcF st1 g1 tt1 te (wipeE e2 vs1) k (j + 1) acc7) h7)).all PP := q7
                      have oo := ok6 ρ7 h7 H7 j l67 hr7
                      have hj4 : j < 4000 := by have : tn2 = 4000 := rfl; omega
                      have hi4 : i < 4000 := by have : tn2 = 4000 := rfl; omega
                      revert q7 oo
                      cases st1.go j h7 with
                      | none => intro q7; exact q7.elim
                      | some w7 =>
                        cases w7 with
                        | none =>
                          intro q7 oo
                          exact .inl ⟨oo, him2, ρ7, h7, acc7, us7, l17, hr7, hp7, f7, ra7, by omega, q7⟩
                        | some d7 =>
                          rintro q7 ⟨p1, p2⟩
                          refine .inr ⟨p1, fun H' => (j + 1) + k = tn2 ∧ ∃ ρ' h' acc us, Lw K ρ6 h6.n H6 ρ' h'.n H' ∧ HR G K ρ' h' H' ∧ H' p = some (.lst us) ∧ (∀ a, a < h'.n → ρ' a ≠ p) ∧ Le K ρ1 h1.n H1 ρ' h'.n H' ∧ RelDs K ρ' h'.n H' acc.reverse us ∧ acc.length ≤ i * 4000 + (j + 1) ∧ (lcF st1 g1 tt1 te (wipeE e2 vs1) k (j + 1) acc h').all PP, fun H' w => ⟨k, Nat.lt_succ_self k, w⟩, fun x H8 hy8 => ?_⟩
                          have hjk2 : (j + 1) + k = tn2 := by omega
                          obtain ⟨ρ8, l8, hr8, rd8⟩ := p2 x H8 hy8
                          obtain ⟨hp8, f8⟩ := l8.fr p _ hp7 f7
                          have ew8 : ER K ρ8 h7.n H8 (wipeE e2 vs1) (wipe σ4 vs1) := ew1.mono0 (l67.z.trans l8.z)
                          refine qg1 ρ8 _ h7 _ H8 d7 x _ hr8 ew8 rd8 (P.all_mono (fun r z => ?_) (all_M (p := PP) q7 (fun z => z)))
                          cases r with
                          | bad => exact z.elim
                          | ok e9 h9 =>
                            intro ρ9 H9 σ9 l9 hr9 er9 sb9
                            refine ⟨wipe_same hws1 sb9, ?_⟩
                            refine qt1 ρ9 e9 h9 σ9 H9 _ hr9 er9 (P.all_mono (fun r z => ?_) (all_M (p := PP) z (fun z => z)))
                            cases r with
                            | bad => exact z.elim
                            | ok b h10 =>
                              intro ρ10 H10 l10 hr10
                              have l710 := (l8.trans l9).trans l10
                              obtain ⟨hp10, f10⟩ := l710.fr p _ hp7 f7
                              cases b with
                              | false =>
                                rw [if_neg Bool.false_ne_true]
                                exact ⟨hjk2, ρ10, h10, acc7, us7, l67.trans l710.w, hr10, hp10, f10, l17.trans l710, ra7.mono l710, by omega, z⟩
                              | true =>
                                rw [if_pos rfl]
                                refine qe ρ10 e9 h10 σ9 H10 _ hr10 (er9.mono l10) (P.all_mono (fun r z => ?_) (all_M (p := PP) z (fun z => z)))
                                cases r with
                                | bad => exact z.elim
                                | ok y h11 =>
                                  intro ρ11 H11 v11 l11 hr11 rd11
                                  obtain ⟨hp11, f11⟩ := l11.fr p _ hp10 f10
                                  have l711 := l710.trans l11
                                  have hz : us7.length < 16777216 := by
                                    have e1 := relDs_len ra7
                                    rw [List.length_reverse] at e1
                                    omega
                                  have lf : Le0 K ρ11 h11.n H11 ρ11 h11.n (upd H11 p (.lst (us7 ++ [v11]))) := Le0.for hp11
                                  refine ⟨us7, hp11, hz, hjk2, ρ11, h11, y :: acc7, us7 ++ [v11], ⟨(l67.z.trans l711.z).trans lf, fun q o u hq => ?_⟩, hr11.for hp11 f11, upd_same, f11, (l17.trans l711).for hp, ?_, ?_, z⟩
                                  · have e := l711.lk q o u (l67.lk q o u hq)
                                    rw [upd_ne (fun w => by rw [w, hp11] at e; cases e)]
                                    exact e
                                  · exact (relDs_rev1 (ra7.mono l711) rd11).mono0 lf
                                  · rw [List.length_cons]; omega
end
end
end PV
set_option Elab.async false
set_option linter.all false
set_option maxRecDepth 100000
set_option maxHeartbeats 2000000
set_option autoImplicit false
namespace PV
noncomputable section
open PySem PySem.Spec PyProof.Rows L2
section
variable {G : Gs} {K : PySem.W.Frag} {C C' : Cx → Prop} {X : Cx}
theorem se_lc2 {elt tg it tg1 it1 : Expr} {ifs ifs1 : List Expr} {scope : Scope} {own : List (Str × Nat)} {ws ws1 vs1 : List Nat} {pos : Pos} {mi mi1 : Env → M Stp} {g g1 : Env → D → M Env} {tt tt1 : Env → M Bool} {te : Env → M D} (hc : ∀ X, C X → X.calm = true) (hN : ∀ X, C X → X.N.Nodup)
    (ok : ∀ X, C X → BlkOk X.N X.env.scope scope own) (hin : ∀ X, C X → ∀ s H A cl fp, C' (X.blk s H scope (compEnvC scope cl A X.env) fp)) (hws : ∀ i, i ∈ ws → i ∈ own.map (fun q : Str × Nat => q.2)) (hws1 : ∀ i, i ∈ ws1 → i ∈ vs1) (hv1 : ∀ i, i ∈ vs1 → i ∈ own.map (fun q : Str × Nat => q.2)) (hs : ∀ X, C X → ∀ x, foldedSetIterable it X.env x = pure x) (hs1 : ∀ env x, foldedSetIterable it1 env x = pure x)
    (hi : SI G K C tg it mi) (hg : SG G K C' tg ws g) (ht : STs G K C' ifs tt) (hi1 : SI G K C' tg1 it1 mi1) (hg1 : SG G K C' tg1 ws1 g1) (ht1 : STs G K C' ifs1 tt1) (he : SE G K C' elt te) : SE G K C (.ListComp elt [⟨tg, it, ifs, 0⟩, ⟨tg1, it1, ifs1, 0⟩] scope pos) (lc2M mi g tt mi1 g1 tt1 te (own.map (fun q : Str × Nat => q.2)) vs1) := by
  obtain ⟨ti, pi, qi⟩ := hi
  obtain ⟨tg', pg, qg⟩ := hg
  obtain ⟨tt', pt, qt⟩ := ht
  obtain ⟨ti1, pi1, qi1⟩ := hi1
  obtain ⟨tg1', pg1, qg1⟩ := hg1
  obtain ⟨tt1', pt1, qt1⟩ := ht1
  obtain ⟨te', pe, qe⟩ := he
  exact ⟨_, fun X hX eK => pe_unl <| pe_lc2 (hc X hX) (hN X hX) (pi X hX eK) (ok X hX) hv1 (fun s H A cl fp => pg _ (hin X hX s H A cl fp) eK) (fun s H A cl fp => pt _ (hin X hX s H A cl fp) eK) (fun s H A cl fp => pi1 _ (hin X hX s H A cl fp) eK) (fun s H A cl fp => pg1 _ (hin X hX s H A cl fp) eK) (fun s H A cl fp => pt1 _ (hin X hX s H A cl fp) eK) (fun s H A cl fp => pe _ (hin X hX s H A cl fp) eK) (hs X hX) hs1, lc2_use hws hws1 qi qi1 qg qg1 qt qt1 qe⟩
theorem ss_setLc2 {i : Nat} {y : Str} {py : Pos} {elt tg it tg1 it1 : Expr} {ifs ifs1 : List Expr} {scope : Scope} {own : List (Str × Nat)} {ws ws1 vs1 : List Nat} {pos spos : Pos} {mi mi1 : Env → M Stp} {g g1 : Env → D → M Env} {tt tt1 : Env → M Bool} {te : Env → M D} (hc : ∀ X, C X → X.calm = true) (hN : ∀ X, C X → X.N.Nodup)
    (hy : ∀ X, C X → X.N[i]? = some y) (hyl : ∀ X, C X → L2.Loc X.env.scope y) (hf : ∀ X, C X → X.fn y = true ∨ X.env.scope.names.lookup y = some .local)
    (hsw : ∀ X, C X → (X.env.scope.names.lookup y = some .local ∧ swapsWith (.ListComp elt [⟨tg, it, ifs, 0⟩, ⟨tg1, it1, ifs1, 0⟩] scope pos) (some (.Name y py)) spos.line X.env = pure true) ∨ swapsWith (.ListComp elt [⟨tg, it, ifs, 0⟩, ⟨tg1, it1, ifs1, 0⟩] scope pos) (some (.Name y py)) spos.line X.env = pure false)
    (ok : ∀ X, C X → BlkOk X.N X.env.scope scope own) (hin : ∀ X, C X → ∀ s H A cl fp, C' (X.blk s H scope (compEnvC scope cl A X.env) fp)) (hws : ∀ i, i ∈ ws → i ∈ own.map (fun q : Str × Nat => q.2)) (hws1 : ∀ i, i ∈ ws1 → i ∈ vs1) (hv1 : ∀ i, i ∈ vs1 → i ∈ own.map (fun q : Str × Nat => q.2)) (hs : ∀ X, C X → ∀ x, foldedSetIterable it X.env x = pure x) (hs1 : ∀ env x, foldedSetIterable it1 env x = pure x)
    (hi : SI G K C tg it mi) (hg : SG G K C' tg ws g) (ht : STs G K C' ifs tt) (hi1 : SI G K C' tg1 it1 mi1) (hg1 : SG G K C' tg1 ws1 g1) (ht1 : STs G K C' ifs1 tt1) (he : SE G K C' elt te) : SS G K C (.Assign [.Name y py] (.ListComp elt [⟨tg, it, ifs, 0⟩, ⟨tg1, it1, ifs1, 0⟩] scope pos) spos) (fun env => M.bind (lc2M mi g tt mi1 g1 tt1 te (own.map (fun q : Str × Nat => q.2)) vs1 env) fun d => M.pure (.nx (env.set i (some d)))) := by
  obtain ⟨ti, pi, qi⟩ := hi
  obtain ⟨tg', pg, qg⟩ := hg
  obtain ⟨tt', pt, qt⟩ := ht
  obtain ⟨ti1, pi1, qi1⟩ := hi1
  obtain ⟨tg1', pg1, qg1⟩ := hg1
  obtain ⟨tt1', pt1, qt1⟩ := ht1
  obtain ⟨te', pe, qe⟩ := he
  refine ⟨tAsg (tUnlE (tLc2 ti tg' tt' ti1 tg1' tt1' te' (own.map (fun q : Str × Nat => q.2)) vs1)) (gName i), fun X hX eK => ?_, fun ρ env h σ H Z hr er hq => ?_⟩
  · rcases hsw X hX with ⟨hl, z⟩ | z
    · refine ⟨fun pins s σ H D I h => (ps_unl (ps_setLc2 (hc X hX) (hN X hX) (hy X hX) hl z (pi X hX eK) (ok X hX) hv1 (fun s H A cl fp => pg _ (hin X hX s H A cl fp) eK) (fun s H A cl fp => pt _ (hin X hX s H A cl fp) eK) (fun s H A cl fp => pi1 _ (hin X hX s H A cl fp) eK) (fun s H A cl fp => pg1 _ (hin X hX s H A cl fp) eK) (fun s H A cl fp => pt1 _ (hin X hX s H A cl fp) eK) (fun s H A cl fp => pe _ (hin X hX s H A cl fp) eK) (hs X hX) hs1)).run pins s σ H D I h⟩
    · exact ps_asg (pe_unl <| pe_lc2 (hc X hX) (hN X hX) (pi X hX eK) (ok X hX) hv1 (fun s H A cl fp => pg _ (hin X hX s H A cl fp) eK) (fun s H A cl fp => pt _ (hin X hX s H A cl fp) eK) (fun s H A cl fp => pi1 _ (hin X hX s H A cl fp) eK) (fun s H A cl fp => pg1 _ (hin X hX s H A cl fp) eK) (fun s H A cl fp => pt1 _ (hin X hX s H A cl fp) eK) (fun s H A cl fp => pe _ (hin X hX s H A cl fp) eK) (hs X hX) hs1) (pg_name (hN X hX) (hy X hX) (hyl X hX) (hf X hX)) z rfl rfl
  · exact useE (lc2_use hws hws1 qi qi1 qg qg1 qt qt1 qe) hr er hq (fun z => z) fun ρ1 h1 H1 d v l1 hr1 rd hq1 => hq1 ρ1 H1 _ l1 hr1 (er_set i (er.mono l1) rd)
/-! ### a thing of its own becomes an object of ours -/
theorem HR.ownO {ρ : Nat → Addr} {h : VH} {H : Hp} {p : Addr} {o : O} {u : HO} (r : HR G K ρ h H) (hp : H p = some u) (nf : ∀ od w, u ≠ .frz od w) (hf : ∀ a, a < h.n → ρ a ≠ p) (ho : Le0 K ρ h.n H (rset ρ h.n p) (h.n + 1) H → ORel G K (rset ρ h.n p) (h.n + 1) H p o) : HR G K (rset ρ h.n p) (h.new o) H := by
  have l : Le0 K ρ h.n H (rset ρ h.n p) (h.n + 1) H := ⟨Nat.le_succ _, fun a ha => rset_lt ha, fun _ _ z => z, fun q o u z f => ⟨z, fun c hc w => by
    by_cases e : c = h.n
    · rw [e, rset_at] at w; rw [← w, hp] at z; cases z; exact nf _ _ rfl
    · have hc2 : c < h.n := by omega
      rw [rset_lt hc2] at w
      exact f c hc2 w⟩⟩
  refine ⟨fun a b ha hb e => ?_, fun a ha => ?_⟩
  · have ha' : a < h.n + 1 := ha
    have hb' : b < h.n + 1 := hb
    by_cases ea : a = h.n
    · by_cases eb : b = h.n
      · rw [ea, eb]
      · have hb2 : b < h.n := by omega
        rw [ea, rset_at, rset_lt hb2] at e
        exact absurd e.symm (hf b hb2)
    · have ha2 : a < h.n := by omega
      by_cases eb : b = h.n
      · rw [eb, rset_at, rset_lt ha2] at e
        exact absurd e (hf a ha2)
      · have hb2 : b < h.n := by omega
        rw [rset_lt ha2, rset_lt hb2] at e
        exact r.inj a b ha2 hb2 e
  · have ha' : a < h.n + 1 := ha
    by_cases ea : a = h.n
    · exact ⟨o, by rw [VH.get_new, if_pos ea], by rw [ea, rset_at]; exact ho l⟩
    · have ha2 : a < h.n := by omega
      obtain ⟨ob, e, q⟩ := r.obj a ha2
      refine ⟨ob, by rw [VH.get_new, if_neg ea]; exact e, ?_⟩
      rw [rset_lt ha2]
      exact q.mono0 l rfl
theorem HR.forM {ρ : Nat → Addr} {h : VH} {H : Hp} {p : Addr} {o u : HO} (r : HR G K ρ h H) (hp : H p = some u) (hu : Chg u) (hf : ∀ a, a < h.n → ρ a ≠ p) : HR G K ρ h (upd H p o) ∧ Le0 K ρ h.n H ρ h.n (upd H p o) := by
  have l : Le0 K ρ h.n H ρ h.n (upd H p o) := ⟨Nat.le_refl _, fun _ _ => rfl, fun x vs z => by
    rcases z with (z | ⟨ob, z⟩) | z
    · exact .inl (.inl (by rw [upd_ne (fun w => by rw [w, hp] at z; cases z; exact hu)]; exact z))
    · exact .inl (.inr ⟨ob, by rw [upd_ne (fun w => by rw [w, hp] at z; cases z; exact hu)]; exact z⟩)
    · exact .inr z, fun x ob w z f => ⟨by rw [upd_ne (fun q => by rw [q, hp] at z; cases z; exact hu)]; exact z, f⟩⟩
  refine ⟨⟨r.inj, fun a ha => ?_⟩, l⟩
  obtain ⟨ob, e, q⟩ := r.obj a ha
  exact ⟨ob, e, q.mono0 l (upd_ne (hf a ha))⟩
/-! ### dict comprehensions, keys ints and texts -/
def dcF (st : Stp) (g : Env → D → M Env) (tt : Env → M Bool) (tk tv : Env → M D) (env : Env) : Nat → Nat → List (D × D) → M (List (D × D))
  | 0, _, _ => M.bad
  | f + 1, i, acc => fun h => match st.go i h with
    | none => .ret .bad
    | some none => .ret (.ok acc h)
    | some (some d) => M.bind (g env d) (fun e2 => M.bind (tt e2) fun b => if b then M.bind (tk e2) (fun k => M.bind (tv e2) fun v => if isKey k then dcF st g tt tk tv env f (i + 1) (putD acc k v) else M.bad) else dcF st g tt tk tv env f (i + 1) acc) h
def newDicK (kvs : List (D × D)) : M D := fun h => .ret (.ok (.ref h.n) (h.new (.dic kvs)))
def dcM (mi : Env → M Stp) (g : Env → D → M Env) (tt : Env → M Bool) (tk tv : Env → M D) (vs : List Nat) (env : Env) : M D :=
  M.bind (mi env) fun st => M.bind (dcF st g tt tk tv (wipeE env vs) turns 0 []) fun acc => M.bind (unlk st.lk) fun _ => newDicK acc
def PD (G : Gs) (K : PySem.W.Frag) (st : Stp) (ρ : Nat → Addr) (n : Nat) (H : Hp) (Q : VK) : R (List (D × D)) → Prop
  | .ok acc h' => (M.bind (unlk st.lk) (fun _ => newDicK acc) h').all (PostE G K ρ n H Q)
  | .bad => False
theorem dc_use {ws vs : List Nat} {ti : TI} {tg' : TG} {tt' : TT} {tk' tv' : TE} {mi : Env → M Stp} {g : Env → D → M Env} {tt : Env → M Bool} {tk tv : Env → M D} (hws : ∀ i, i ∈ ws → i ∈ vs)
    (qi : ∀ ρ env h σ H (R : It → Hp → Prop), HR G K ρ h H → ER K ρ h.n H env σ → (mi env h).all (PostI G K ρ h.n H R) → ti σ H R)
    (qg : ∀ ρ env h σ H d v Q, HR G K ρ h H → ER K ρ h.n H env σ → RelD K ρ h.n H d v → (g env d h).all (PostG G K ρ h.n H ws σ Q) → tg' v σ H Q)
    (qt : ∀ ρ env h σ H Q, HR G K ρ h H → ER K ρ h.n H env σ → (tt env h).all (PostT G K ρ h.n H Q) → tt' σ H Q)
    (qk : ∀ ρ env h σ H Q, HR G K ρ h H → ER K ρ h.n H env σ → (tk env h).all (PostE G K ρ h.n H Q) → tk' σ H Q)
    (qv : ∀ ρ env h σ H Q, HR G K ρ h H → ER K ρ h.n H env σ → (tv env h).all (PostE G K ρ h.n H Q) → tv' σ H Q)
    (ρ : Nat → Addr) (env : Env) (h : VH) (σ : L2.St) (H : Hp) (Q : VK) (hr : HR G K ρ h H) (er : ER K ρ h.n H env σ) (hq : (dcM mi g tt tk tv vs env h).all (PostE G K ρ h.n H Q)) : tUnlE (tDc ti tg' tt' tk' tv' vs) σ H Q := by
  refine qi ρ env h σ H _ hr er (P.all_mono (fun r z => ?_) (all_M hq (fun z => z)))
  cases r with
  | bad => exact z.elim
  | ok st h1 =>
    intro ρ1 H1 J l1 hr1 ok1 lk1 p hp
    have z : (M.bind (dcF st g tt tk tv (wipeE env vs) turns 0 []) (fun acc => M.bind (unlk st.lk) fun _ => newDicK acc) h1).all (PostE G K ρ h.n H Q) := z
    have f1 := fresh_no hr1 hp
    have z := all_M z (fun z => z)
    have ew := er_wipe (er.mono l1) vs
    refine ⟨fun i m H' => i + m = turns ∧ ∃ ρ' h' acc us, Le K ρ1 h1.n H1 ρ' h'.n H' ∧ HR G K ρ' h' H' ∧ H' p = some (.dK us) ∧ (∀ a, a < h'.n → ρ' a ≠ p) ∧ DRel K ρ' h'.n H' acc us ∧ (us.map (·.1)).Nodup ∧ us.length ≤ i ∧ (dcF st g tt tk tv (wipeE env vs) m i acc h').all (PD G K st ρ h.n H Q), ⟨turns, Nat.zero_add _, ρ1, h1, [], [], Le.upd_fresh hp, hr1.fresh hp, upd_same, f1, rfl, List.nodup_nil, Nat.le_refl _, P.all_mono (fun r z => by cases r with | bad => exact z.elim | ok a h' => exact z) z⟩, ?_⟩
    rintro i m H2 ⟨him, ρ2, h2, acc, us, l2, hr2, hp2, f2, ra, nd, hl, q2⟩
    cases m with
    | zero => exact q2.elim
    | succ m =>
      have q2 : ((match st.go i h2 with
        | none => (.ret .bad : P (R (List (D × D))))
        | some none => .ret (.ok acc h2)
        | some (some d) => M.bind (g (wipeE env vs) d) (fun e2 => M.bind (tt e2) fun b => if b then M.bind (tk e2) (fun k => M.bind (tv e2) fun v => if isKey k then dcF st g tt tk tv (wipeE env vs) m (i + 1) (putD acc k v) else M.bad) else dcF st g tt tk tv (wipeE env vs) m (i + 1) acc) h2)).all (PD G K st ρ h.n H Q) := q2
      have o := ok1 ρ2 h2 H2 i l2.w hr2
      revert q2 o
      cases st.go i h2 with
      | none => intro q2; exact q2.elim
      | some w =>
        cases w with
        | none =>
          intro q2 o
          refine .inl ⟨o, unlk_ok (lk1.mono l2) (l1.trans l2) hr2 q2 (fun z => z) fun h' H' hn l0 lz hr' uf q => ?_⟩
          have hp3 : H' p = some (.dK us) := uf p _ hp2 f2
          refine q (rset ρ2 h'.n p) H' (.ref p) (l0.own (fr0 hr1 l1 hp)) (hr'.ownO hp3 (fun _ _ z => by cases z) (by rw [hn]; exact f2) fun lo => ⟨us, hp3, (ra.mono0 lz).mono0 lo, nd⟩) ?_
          rw [relD_ref]
          exact ⟨Nat.lt_succ_self _, by rw [rset_at]⟩
        | some d =>
          rintro q2 ⟨o1, o2⟩
          refine .inr ⟨o1, fun H' => (i + 1) + m = turns ∧ ∃ ρ' h' acc us, Le K ρ1 h1.n H1 ρ' h'.n H' ∧ HR G K ρ' h' H' ∧ H' p = some (.dK us) ∧ (∀ a, a < h'.n → ρ' a ≠ p) ∧ DRel K ρ' h'.n H' acc us ∧ (us.map (·.1)).Nodup ∧ us.length ≤ i + 1 ∧ (dcF st g tt tk tv (wipeE env vs) m (i + 1) acc h').all (PD G K st ρ h.n H Q), fun H' w => ⟨m, Nat.lt_succ_self m, w⟩, fun x H3 hy => ?_⟩
          have him2 : (i + 1) + m = turns := by omega
          obtain ⟨ρ3, l3, hr3, rd3⟩ := o2 x H3 hy
          have l13 := l2.trans l3
          refine qg ρ3 _ h2 _ H3 d x _ hr3 (ew.mono l13) rd3 (P.all_mono (fun r z => ?_) (all_M (p := PD G K st ρ h.n H Q) q2 (fun z => z)))
          cases r with
          | bad => exact z.elim
          | ok e2 h4 =>
            intro ρ4 H4 σ4 l4 hr4 er4 sb4
            refine ⟨wipe_same hws sb4, ?_⟩
            refine qt ρ4 e2 h4 σ4 H4 _ hr4 er4 (P.all_mono (fun r z2 => ?_) (all_M (p := PD G K st ρ h.n H Q) z (fun z => z)))
            cases r with
            | bad => exact z2.elim
            | ok b h5 =>
              intro ρ5 H5 l5 hr5
              have l35 := (l3.trans l4).trans l5
              obtain ⟨hp5, f5⟩ := l35.fr p _ hp2 f2
              have l15 := l2.trans l35
              cases b with
              | false =>
                rw [if_neg Bool.false_ne_true]
                refine ⟨him2, ρ5, h5, acc, us, l15, hr5, hp5, f5, ra.mono l35, nd, by omega, z2⟩
              | true =>
                rw [if_pos rfl]
                refine qk ρ5 e2 h5 σ4 H5 _ hr5 (er4.mono l5) (P.all_mono (fun r z3 => ?_) (all_M (p := PD G K st ρ h.n H Q) z2 (fun z => z)))
                cases r with
                | bad => exact z3.elim
                | ok y h6 =>
                  intro ρ6 H6 v6 l6 hr6 rd6
                  obtain ⟨hp6, f6⟩ := l6.fr p _ hp5 f5
                  refine qv ρ6 e2 h6 σ4 H6 _ hr6 ((er4.mono l5).mono l6) (P.all_mono (fun r z4 => ?_) (all_M (p := PD G K st ρ h.n H Q) z3 (fun z => z)))
                  cases r with
                  | bad => exact z4.elim
                  | ok y2 h7 =>
                    intro ρ7 H7 v7 l7 hr7 rd7
                    obtain ⟨hp7, f7⟩ := l7.fr p _ hp6 f6
                    by_cases hk : isKey y = true
                    · simp only [if_pos hk] at z4
                      obtain ⟨k, kk, rfl⟩ := key_of hk (rd6.mono l7)
                      have l37 := (l35.trans l6).trans l7
                      obtain ⟨p1, p2, _⟩ := put_ok kk rd7 (ra.mono l37) nd
                      obtain ⟨hr8, lf⟩ := hr7.forM (o := .dK (putK us k v7)) hp7 trivial f7
                      have hlen := length_putK us k v7
                      have ht : turns = 1000000 := rfl
                      exact ⟨us, k, rfl, hp7, by rw [sizeLine_eq]; omega, him2, ρ7, h7, _, _, ((l15.trans l6).trans l7).for hp, hr8, upd_same, f7, p1.mono0 lf, p2, by omega, z4⟩
                    · simp only [if_neg hk] at z4
                      exact z4.elim
theorem se_dc {kx vx tg it : Expr} {ifs : List Expr} {scope : Scope} {own : List (Str × Nat)} {ws : List Nat} {pos : Pos} {mi : Env → M Stp} {g : Env → D → M Env} {tt : Env → M Bool} {tk tv : Env → M D} (hc : ∀ X, C X → X.calm = true) (hN : ∀ X, C X → X.N.Nodup)
    (ok : ∀ X, C X → BlkOk X.N X.env.scope scope own) (hin : ∀ X, C X → ∀ s H A cl fp, C' (X.blk s H scope (compEnvC scope cl A X.env) fp)) (hws : ∀ i, i ∈ ws → i ∈ own.map (fun q : Str × Nat => q.2)) (hs : ∀ X, C X → ∀ x, foldedSetIterable it X.env x = pure x)
    (hi : SI G K C tg it mi) (hg : SG G K C' tg ws g) (ht : STs G K C' ifs tt) (hk : SE G K C' kx tk) (hv : SE G K C' vx tv) : SE G K C (.DictComp kx vx [⟨tg, it, ifs, 0⟩] scope pos) (dcM mi g tt tk tv (own.map (fun q : Str × Nat => q.2))) := by
  obtain ⟨ti, pi, qi⟩ := hi
  obtain ⟨tg', pg, qg⟩ := hg
  obtain ⟨tt', pt, qt⟩ := ht
  obtain ⟨tk', pk, qk⟩ := hk
  obtain ⟨tv', pv, qv⟩ := hv
  exact ⟨_, fun X hX eK => pe_unl <| pe_dc (hc X hX) (hN X hX) (pi X hX eK) (ok X hX) (fun s H A cl fp => pg _ (hin X hX s H A cl fp) eK) (fun s H A cl fp => pt _ (hin X hX s H A cl fp) eK) (fun s H A cl fp => pk _ (hin X hX s H A cl fp) eK) (fun s H A cl fp => pv _ (hin X hX s H A cl fp) eK) (hs X hX), dc_use hws qi qg qt qk qv⟩
end
end
end PV
set_option Elab.async false
set_option linter.all false
set_option maxRecDepth 100000
set_option maxHeartbeats 2000000
set_option autoImplicit false
namespace PV
noncomputable section
open PySem PySem.Spec PyProof.Rows L2
section
variable {G : Gs} {K : PySem.W.Frag} {C C' : Cx → Prop} {X : Cx}
theorem ps_setDc {i : Nat} {y : Str} {py : Pos} {kx vx tg iter : Expr} {ifs : List Expr} {scope : Scope} {own : List (Str × Nat)} {pos spos : Pos} {wi : TI} {g : TG} {tt : TT} {tk tv : TE} (hc : X.calm = true) (hN : X.N.Nodup) (hy : X.N[i]? = some y) (hyl : X.env.scope.names.lookup y = some .local)
    (hsw : swapsWith (.DictComp kx vx [⟨tg, iter, ifs, 0⟩] scope pos) (some (.Name y py)) spos.line X.env = pure true) (hi : PI X tg iter wi) (ok : BlkOk X.N X.env.scope scope own)
    (hg : ∀ s H C cl fp, PG (X.blk s H scope (compEnvC scope cl C X.env) fp) tg g) (ht : ∀ s H C cl fp, PTs (X.blk s H scope (compEnvC scope cl C X.env) fp) ifs tt)
    (hk : ∀ s H C cl fp, PE (X.blk s H scope (compEnvC scope cl C X.env) fp) kx tk) (he : ∀ s H C cl fp, PE (X.blk s H scope (compEnvC scope cl C X.env) fp) vx tv) (hs : ∀ x, foldedSetIterable iter X.env x = pure x) :
    PS X (.Assign [.Name y py] (.DictComp kx vx [⟨tg, iter, ifs, 0⟩] scope pos) spos) (tAsg (tDc wi g tt tk tv (own.map (·.2))) (gName i)) := by
  refine ⟨fun pins s σ H D I h => ?_⟩
  rw [exec_Assign_Name_used _ _ _ _ hsw]
  refine wpAny_bind (wpAny_standAt (wpAny_bind ?_))
  show wpAny _ X.A (do let _ ← comprehension (.DictComp kx vx [⟨tg, iter, ifs, 0⟩] scope pos) scope X.env (firstIterPos [⟨tg, iter, ifs, 0⟩] pos) newDict false (eval iter X.env) (some (assign (.Name y py) X.env))) _ _ s
  have h : tDc wi g tt tk tv (own.map (·.2)) σ H (fun x H1 => gName i x σ H1 D.nx) := h
  refine wpAny_bind (thn (dc_core (Qf := fun _ s' => SP X pins D .next s') hc hN I hi ok hg ht hk he hs h fun L C s' m H' I' q hn f => ?_) fun _ s' hq => wpAny_pure (wpAny_pure hq))
  show wpAny _ _ (assign (.Name y py) X.env (.ref L)) _ _ _
  refine wpAny_assign_Name (store_ok2 (v := V.ref L) I' hN hy (.inl hyl) rfl (fun s2 I2 ⟨a, sb, ha⟩ => ?_) (.inr hyl))
  obtain ⟨f0, f1, f2, f3, f4, f5⟩ := f
  have haC : C ≠ a := by
    rcases ha with z | z
    · rw [z]; exact f1
    · exact fun e => f4 y a z e.symm
  exact ⟨m, hn.sameBut sb haC, fun h3 sb3 => ⟨_, H', I2.turned (t' := s2.toks) (fun b o hb e => (sb3.2 b hb).trans e) f0 f1 f3 f4 f5, q⟩⟩
theorem ss_setDc {i : Nat} {y : Str} {py : Pos} {kx vx tg it : Expr} {ifs : List Expr} {scope : Scope} {own : List (Str × Nat)} {ws : List Nat} {pos spos : Pos} {mi : Env → M Stp} {g : Env → D → M Env} {tt : Env → M Bool} {tk tv : Env → M D} (hc : ∀ X, C X → X.calm = true) (hN : ∀ X, C X → X.N.Nodup)
    (hy : ∀ X, C X → X.N[i]? = some y) (hyl : ∀ X, C X → L2.Loc X.env.scope y) (hf : ∀ X, C X → X.fn y = true ∨ X.env.scope.names.lookup y = some .local)
    (hsw : ∀ X, C X → (X.env.scope.names.lookup y = some .local ∧ swapsWith (.DictComp kx vx [⟨tg, it, ifs, 0⟩] scope pos) (some (.Name y py)) spos.line X.env = pure true) ∨ swapsWith (.DictComp kx vx [⟨tg, it, ifs, 0⟩] scope pos) (some (.Name y py)) spos.line X.env = pure false)
    (ok : ∀ X, C X → BlkOk X.N X.env.scope scope own) (hin : ∀ X, C X → ∀ s H A cl fp, C' (X.blk s H scope (compEnvC scope cl A X.env) fp)) (hws : ∀ i, i ∈ ws → i ∈ own.map (fun q : Str × Nat => q.2)) (hs : ∀ X, C X → ∀ x, foldedSetIterable it X.env x = pure x)
    (hi : SI G K C tg it mi) (hg : SG G K C' tg ws g) (ht : STs G K C' ifs tt) (hk : SE G K C' kx tk) (hv : SE G K C' vx tv) : SS G K C (.Assign [.Name y py] (.DictComp kx vx [⟨tg, it, ifs, 0⟩] scope pos) spos) (fun env => M.bind (dcM mi g tt tk tv (own.map (fun q : Str × Nat => q.2)) env) fun d => M.pure (.nx (env.set i (some d)))) := by
  obtain ⟨ti, pi, qi⟩ := hi
  obtain ⟨tg', pg, qg⟩ := hg
  obtain ⟨tt', pt, qt⟩ := ht
  obtain ⟨tk', pk, qk⟩ := hk
  obtain ⟨tv', pv, qv⟩ := hv
  refine ⟨tAsg (tUnlE (tDc ti tg' tt' tk' tv' (own.map (fun q : Str × Nat => q.2)))) (gName i), fun X hX eK => ?_, fun ρ env h σ H Z hr er hq => ?_⟩
  · rcases hsw X hX with ⟨hl, z⟩ | z
    · refine ⟨fun pins s σ H D I h => (ps_unl (ps_setDc (hc X hX) (hN X hX) (hy X hX) hl z (pi X hX eK) (ok X hX) (fun s H A cl fp => pg _ (hin X hX s H A cl fp) eK) (fun s H A cl fp => pt _ (hin X hX s H A cl fp) eK) (fun s H A cl fp => pk _ (hin X hX s H A cl fp) eK) (fun s H A cl fp => pv _ (hin X hX s H A cl fp) eK) (hs X hX))).run pins s σ H D I h⟩
    · exact ps_asg (pe_unl <| pe_dc (hc X hX) (hN X hX) (pi X hX eK) (ok X hX) (fun s H A cl fp => pg _ (hin X hX s H A cl fp) eK) (fun s H A cl fp => pt _ (hin X hX s H A cl fp) eK) (fun s H A cl fp => pk _ (hin X hX s H A cl fp) eK) (fun s H A cl fp => pv _ (hin X hX s H A cl fp) eK) (hs X hX)) (pg_name (hN X hX) (hy X hX) (hyl X hX) (hf X hX)) z rfl rfl
  · exact useE (dc_use hws qi qg qt qk qv) hr er hq (fun z => z) fun ρ1 h1 H1 d v l1 hr1 rd hq1 => hq1 ρ1 H1 _ l1 hr1 (er_set i (er.mono l1) rd)
/-! ### *x in a display -/
def starM (x : D) : M (List D) := fun h => match x with
  | .tup xs => .ret (.ok xs h)
  | .ref a => match h.get a with
    | some (.lst xs) => .ret (.ok xs h)
    | _ => .ret .bad
  | _ => .ret .bad
theorem sa_star {e : Expr} {es : List Expr} {p : Pos} {m : Env → M D} {ms : Env → M (List D)} (he : SE G K C e m) (hes : SA G K C es ms) : SA G K C (.Starred e p :: es) (fun env => M.bind (m env) fun x => M.bind (starM x) fun ys => M.bind (ms env) fun xs => M.pure (ys ++ xs)) := by
  obtain ⟨t, pt, ht⟩ := he
  obtain ⟨u, pu, hu⟩ := hes
  refine ⟨StX.tStar K t u, fun X hX eK => by subst eK; exact StX.pa_star (pt X hX rfl) (pu X hX rfl) rfl, fun ρ env h σ H Q hr er hq => ?_⟩
  refine useE ht hr er hq (fun z => z) fun ρ1 h1 H1 x vx l1 hr1 rx hq1 => ?_
  have hq1 := all_M hq1 (fun z => z)
  have fin : ∀ (ys : List D) (vs : List V), RelDs K ρ1 h1.n H1 ys vs → (M.bind (ms env) (fun xs => M.pure (ys ++ xs)) h1).all (PostA G K ρ h.n H Q) → u σ H1 fun zs H2 => Q (vs ++ zs) H2 := fun ys vs rs z => by
    refine useA hu hr1 (er.mono l1) z (fun z => z) fun ρ2 h2 H2 xs ws l2 hr2 rws z2 => ?_
    exact z2 ρ2 H2 _ (l1.trans l2) hr2 (relDs_append (rs.mono l2) rws)
  unfold starM at hq1
  cases x with
  | tup ys =>
    obtain ⟨p, vs, rfl, hp, rs⟩ := relD_tup.mp rx
    exact ⟨p, vs, rfl, .inl hp, fin ys vs rs hq1⟩
  | ref a =>
    obtain ⟨ha, rfl⟩ := relD_ref.mp rx
    simp only at hq1
    cases ea : h1.get a with
    | none => rw [ea] at hq1; exact hq1.elim
    | some ob =>
      rw [ea] at hq1
      cases ob with
      | lst ys =>
        obtain ⟨vs, h2, r2⟩ := hr1.lst ea
        exact ⟨_, vs, rfl, .inr (.inl (.inl h2)), fin ys vs r2 hq1⟩
      | _ => exact hq1.elim
  | _ => exact hq1.elim
/-! ### dict displays -/
def SPp (G : Gs) (K : PySem.W.Frag) (C : Cx → Prop) (pos : Pos) (ks : List (Option Expr)) (vs : List Expr) (m : Env → M (List (D × D))) : Prop :=
  ∃ t, (∀ X, C X → X.K = K → PPs X pos ks vs t) ∧ ∀ ρ env h σ H (Q : List (V × V) → Hp → Prop), HR G K ρ h H → ER K ρ h.n H env σ → (m env h).all (fun r => match r with
    | .ok kvs h' => ∀ ρ' H' ps, Le K ρ h.n H ρ' h'.n H' → HR G K ρ' h' H' → DPs K ρ' h'.n H' kvs ps → Q ps H'
    | .bad => False) → tPairs t σ H Q
theorem spp_nil {pos : Pos} : SPp G K C pos [] [] (fun _ => M.pure []) := ⟨[], fun X hX eK => pps_nil, fun ρ env h σ H Q hr er hq => hq ρ H [] Le.refl hr ⟨relDs_nil.mpr rfl, relDs_nil.mpr rfl⟩⟩
theorem spp_cons {pos : Pos} {k v : Expr} {ks : List (Option Expr)} {vs : List Expr} {mk mv : Env → M D} {m : Env → M (List (D × D))} (hk : SE G K C k mk) (hv : SE G K C v mv) (hr : SPp G K C pos ks vs m) :
    SPp G K C pos (some k :: ks) (v :: vs) (fun env => M.bind (mk env) fun x => M.bind (mv env) fun y => M.bind (m env) fun kvs => M.pure ((x, y) :: kvs)) := by
  obtain ⟨tk, pk, qk⟩ := hk
  obtain ⟨tv, pv, qv⟩ := hv
  obtain ⟨t, pt, q⟩ := hr
  refine ⟨(tk, tv) :: t, fun X hX eK => pps_cons (pk X hX eK) (pv X hX eK) (pt X hX eK), fun ρ env h σ H Q hr er hq => ?_⟩
  let PP : PV.R (List (D × D)) → Prop := fun r => match r with
    | .ok kvs h' => ∀ ρ' H' ps, Le K ρ h.n H ρ' h'.n H' → HR G K ρ' h' H' → DPs K ρ' h'.n H' kvs ps → Q ps H'
    | .bad => False
  refine useE qk hr er (P.all_mono (q := PP) (fun r z => by cases r <;> exact z) hq) (fun z => z) fun ρ1 h1 H1 x vx l1 hr1 rx hq1 => ?_
  refine useE qv hr1 (er.mono l1) hq1 (fun z => z) fun ρ2 h2 H2 y vy l2 hr2 ry hq2 => ?_
  refine q ρ2 env h2 σ H2 _ hr2 ((er.mono l1).mono l2) (P.all_mono (fun r z => ?_) (all_M (p := PP) hq2 (fun z => z)))
  cases r with
  | bad => exact z.elim
  | ok kvs h3 =>
    intro ρ3 H3 ps l3 hr3 r3
    exact z ρ3 H3 _ ((l1.trans l2).trans l3) hr3 ⟨relDs_cons.mpr ⟨_, _, rfl, (rx.mono l2).mono l3, r3.1⟩, relDs_cons.mpr ⟨_, _, rfl, ry.mono l3, r3.2⟩⟩
def putAll : List (D × D) → List (D × D) → List (D × D)
  | acc, [] => acc
  | acc, q :: r => putAll (putD acc q.1 q.2) r
def dispM (kvs : List (D × D)) : M D := if kvs.all (fun q => isKey q.1) && Nat.ble kvs.length 15 then newDicK (putAll [] kvs) else M.bad
theorem putAll_ok {ρ : Nat → Addr} {n : Nat} {H : Hp} : ∀ {kvs : List (D × D)} {ps : List (V × V)} {acc : List (D × D)} {es : List (Key × V)}, DPs K ρ n H kvs ps → kvs.all (fun q => isKey q.1) = true → DRel K ρ n H acc es → (es.map (·.1)).Nodup →
    ∃ kv : List (Key × V), ps = kv.map (fun q => (kV q.1, q.2)) ∧ DRel K ρ n H (putAll acc kvs) (mergeK es kv) ∧ ((mergeK es kv).map (·.1)).Nodup
  | [], ps, acc, es, r, ak, d, nd => by
    have e : ps = [] := List.eq_nil_of_length_eq_zero r.len.symm
    subst e
    exact ⟨[], rfl, d, nd⟩
  | (a, b) :: kvs, ps, acc, es, r, ak, d, nd => by
    cases ps with
    | nil => have := r.len; simp at this
    | cons p ps =>
      obtain ⟨v1, u1, e1, r1, s1⟩ := relDs_cons.mp r.1
      obtain ⟨v2, u2, e2, r2, s2⟩ := relDs_cons.mp r.2
      rw [List.map_cons, List.cons.injEq] at e1 e2
      obtain ⟨e1, f1⟩ := e1
      obtain ⟨e2, f2⟩ := e2
      rw [List.all_cons, Bool.and_eq_true] at ak
      obtain ⟨k, kk, ek⟩ := key_of ak.1 r1
      obtain ⟨p1, p2, _⟩ := put_ok kk r2 d nd
      obtain ⟨kv, z1, z2, z3⟩ := putAll_ok (ps := ps) ⟨by rw [f1]; exact s1, by rw [f2]; exact s2⟩ ak.2 p1 p2
      refine ⟨(k, v2) :: kv, ?_, z2, z3⟩
      rw [List.map_cons, ← z1]
      obtain ⟨pa, pb⟩ := p
      simp only at e1 e2
      rw [e1, e2, ek]
theorem se_disp {pos : Pos} {keys : List (Option Expr)} {values : List Expr} {m : Env → M (List (D × D))} (hall : keys.all (·.isSome) = true) (hl : keys.length = values.length) (h0 : keys ≠ []) (h15 : keys.length ≤ 15) (hp : SPp G K C pos keys values m) :
    SE G K C (.Dict keys values pos) (fun env => M.bind (m env) dispM) := by
  obtain ⟨t, pt, q⟩ := hp
  refine ⟨tDisp t, fun X hX eK => pe_disp (pt X hX eK) hall hl h0 h15, fun ρ env h σ H Q hr er hq => ?_⟩
  intro p hp
  have f0 := fresh_no hr hp
  have l0 : Le K ρ h.n H ρ h.n (upd H p (.dK [])) := Le.upd_fresh hp
  refine q ρ env h σ _ _ (hr.fresh hp) (er.mono l0) (P.all_mono (fun r z => ?_) (all_M hq (fun z => z)))
  cases r with
  | bad => exact z.elim
  | ok kvs h1 =>
    intro ρ1 H1 ps l1 hr1 r1
    obtain ⟨e1, f1⟩ := l1.fr p _ upd_same f0
    simp only [dispM] at z
    by_cases ak : (kvs.all (fun q => isKey q.1) && Nat.ble kvs.length 15) = true
    · rw [if_pos ak] at z
      rw [Bool.and_eq_true] at ak
      have zl := Nat.le_of_ble_eq_true ak.2
      obtain ⟨kv, z1, z2, z3⟩ := putAll_ok (acc := []) (es := []) r1 ak.1 rfl List.nodup_nil
      refine ⟨e1, kv, z1, ?_, ?_⟩
      · have a1 := r1.len
        rw [z1, List.length_map] at a1
        omega
      · obtain ⟨hr2, lf⟩ := hr1.forM (o := .dK (mergeK [] kv)) e1 trivial f1
        have l2 : Le K ρ h.n H ρ1 h1.n (upd H1 p (.dK (mergeK [] kv))) := (l0.trans l1).for hp
        refine z (rset ρ1 h1.n p) _ (.ref p) (l2.own hp) (hr2.ownO upd_same (fun _ _ z => by cases z) f1 fun lo => ⟨_, upd_same, (z2.mono0 lf).mono0 lo, z3⟩) ?_
        rw [relD_ref]
        exact ⟨Nat.lt_succ_self _, by rw [rset_at]⟩
    · rw [if_neg ak] at z; exact z.elim
/-! ### isinstance(x, C), C an own class -/
structure ICl (G : Gs) (K : PySem.W.Frag) (c : Nat) : Prop where
  cl : ∀ d, d < G.nc → Cls K (G.cls d)
  ha : ∀ d, d < G.nc → PySem.W.findIn K (.ref (G.cls d)) "__class__" = some (some (.builtin "object.__class__"))
  hn : PySem.W.specialIn K (.builtin "object.__class__") "__get__" = some (some (.builtin "getset_descriptor.__get__"))
  htk : PySem.W.takesIn K (.builtin "object.__class__") = some true
  hm : ∀ d, d < G.nc → PySem.W.mroIn K (G.cls d) (.type "object") = some true
  own : ∀ d, d < G.nc → PySem.W.kitOne K (.ref (G.cls d)) (.ref (G.cls c)) = some (Nat.beq d c)
  blt : ∀ k, k < 7 → PySem.W.kitOne K (.type (tyF k)) (.ref (G.cls c)) = some false
  cv : ClsV (.ref (G.cls c)) (.ref (G.cls c))
def iscM (c : Nat) (d : D) : M D := fun h => match tyC h d with
  | some _ => .ret (.ok (.bl false) h)
  | none => match d with
    | .ref a => match h.get a with
      | some (.ins k _) => .ret (.ok (.bl (Nat.beq k c)) h)
      | _ => .ret .bad
    | _ => .ret .bad
theorem se_isc {a : Expr} {p p2 pos : Pos} {x : Str} {c : Nat} {m : Env → M D} (I : ICl G K c) (hg : ∀ X, C X → Gl X "isinstance") (hm : ∀ X, C X → X.mg "isinstance" = none) (hg2 : ∀ X, C X → Gl X x) (hm2 : ∀ X, C X → X.mg x = some (.ref (G.cls c))) (hd : (x == ("__debug__" : Str)) = false) (hst : isStar a = false) (ha : SE G K C a m) :
    SE G K C (.Call (.Name "isinstance" p) [a, .Name x p2] [] pos) (fun env => M.bind (m env) (iscM c)) := by
  obtain ⟨t, pt, q⟩ := ha
  refine ⟨tCB (rIsi K) (tCons t (tCons (tC (.ref (G.cls c))) tNil)), fun X hX eK => by
    subst eK
    exact pe_callB call_isi (hg X hX) (hm X hX) (by decide +kernel) (pa_cons (pt X hX rfl) (pa_cons (pe_glob (v := .ref (G.cls c)) (hg2 X hX) (hm2 X hX) rfl hd) pa_nil rfl) (starEach_no hst)) (by decide) (by decide) (starEach_no hst) rfl, fun ρ env h σ H Q hr er hq => ?_⟩
  refine useE q hr er hq (fun z => z) fun ρ1 h1 H1 d v l1 hr1 rd z => ?_
  unfold iscM at z
  cases e : tyC h1 d with
  | some k =>
    rw [e] at z
    obtain ⟨ty, hk⟩ := tyC_ok hr1 e rd
    exact ⟨v, _, _, _, _, rfl, I.cv, ty, I.blt k hk, z ρ1 H1 _ l1 hr1 (relD_bl.mpr rfl)⟩
  | none =>
    rw [e] at z
    cases d with
    | ref b =>
      simp only at z
      obtain ⟨hb, rfl⟩ := relD_ref.mp rd
      cases ea : h1.get b with
      | none => rw [ea] at z; exact z.elim
      | some ob =>
        rw [ea] at z
        cases ob with
        | ins k fs =>
          obtain ⟨dx, vs, e1, e2, e3, e4⟩ := hr1.at ea
          exact ⟨_, _, _, _, _, rfl, I.cv, .base (.ins e1 (I.cl k e3) (I.ha k e3) I.hn I.htk (I.hm k e3)), I.own k e3, z ρ1 H1 _ l1 hr1 (relD_bl.mpr rfl)⟩
        | _ => exact z.elim
    | _ => exact z.elim
end
end
end PV
set_option Elab.async false
set_option linter.all false
set_option maxRecDepth 100000
set_option maxHeartbeats 2000000
set_option autoImplicit false
namespace PV
noncomputable section
open PySem PySem.Spec PyProof.Rows L2
/-! ### tuple(text) -/
section
variable {G : Gs} {K : PySem.W.Frag} {X : Cx}
def rTupS : List V → Hp → VK → Prop := fun xs H Q => ∃ x : Str, xs = [.str x] ∧ x.cps.size ≤ 1000 ∧ ∀ l, H l = none → Q (.ref l) (upd H l (.tup (x.cps.toList.map fun c => V.str ⟨#[c]⟩)))
theorem vals_signs {x : Str} {acc : Array Value} (h : ItemsOf (SignAt x) acc x.cps.size) : Vals (x.cps.toList.map fun c => V.str ⟨#[c]⟩) acc.toList := by
  refine vals_of_at (by simp [h.1]) fun j v u h1 h2 => ?_
  obtain ⟨c, t, e, rfl⟩ := h.2 j u (by simpa using h2)
  rw [List.getElem?_map, Array.getElem?_toList, e] at h1
  cases h1
  exact ⟨t, rfl⟩
theorem call_tuple_signs (hc : X.calm = true) : CallR X (.type "tuple") rTupS := by
  intro pins s σ H xs us Q I r h
  obtain ⟨x, rfl, hz, q⟩ := h
  obtain ⟨u, rfl, rx⟩ := vals1 r
  obtain ⟨t, rfl⟩ := rx
  refine call_tuple_str (I.ok.hd hc) x t (fun h' tk acc kp hacc => ?_) (by rw [sizeLine_eq]; omega)
  have J : Inv X pins σ H { s with heap := h', toks := tk } := I.kept (t' := tk) kp
  have J2 : Inv X pins σ (upd H h'.objs.size (.tup (x.cps.toList.map fun c => V.str ⟨#[c]⟩))) { s with heap := h'.push { cls := .type "tuple", data := .seq acc }, toks := tk } :=
    J.laid (t' := tk) (fun b o e => Heap.get?_push_of_some _ e) (Nat.le_refl _) ⟨by rw [List.length_map, Array.length_toList]; (first | (rw [sizeLine_eq]; omega) | omega), acc.toList, vals_signs hacc, by have := IsTup.new h' acc; simpa using this⟩
  exact ⟨.ref h'.objs.size, _, J2, rfl, q _ (J.hok.fresh (Nat.le_refl _))⟩
def rTupX (K : PySem.W.Frag) : List V → Hp → VK → Prop := fun xs H Q => rTupA K xs H Q ∨ rTupS xs H Q
theorem call_tupX (hc : X.calm = true) : CallR X (.type "tuple") (rTupX X.K) := CallR.or call_tuple_of (call_tuple_signs hc)
def tupX (x : D) : M D := match x with
  | .str s => if s.length ≤ 1000 then fun h => .ret (.ok (.tup (s.map fun c => .str [c])) h) else M.bad
  | _ => tupleM x
theorem rel_signs {ρ : Nat → Addr} {n : Nat} {H : Hp} : ∀ {s : List Nat}, (∀ c, c ∈ s → c < 1114112) → RelDs K ρ n H (s.map fun c => .str [c]) (s.map fun c => V.str ⟨#[c]⟩)
  | [], _ => relDs_nil.mpr rfl
  | c :: r, h => relDs_cons.mpr ⟨_, _, rfl, relD_str.mpr ⟨rfl, fun d hd => h d (by simp at hd; simp [hd]), by simp⟩, rel_signs fun d hd => h d (List.Mem.tail _ hd)⟩
theorem sc_tupX : SC1 G K (rTupX K) tupX := by
  intro ρ h H x vx Q hr rx hq
  cases x with
  | str s =>
    unfold tupX at hq
    obtain ⟨rfl, ok⟩ := relD_str.mp rx
    by_cases hl : s.length ≤ 1000
    · simp only [if_pos hl] at hq
      refine .inr ⟨_, rfl, by simpa using hl, ?_⟩
      have := post_tup hr hq (rel_signs ok.1)
      simpa using this
    · simp only [if_neg hl] at hq
      exact hq.elim
  | _ => exact .inl (sc_tuple _ _ _ _ _ _ hr rx hq)
end
end
end PV
set_option Elab.async false
set_option linter.all false
set_option maxRecDepth 100000
set_option maxHeartbeats 1000000
set_option autoImplicit false
namespace PV
noncomputable section
open PySem PySem.Spec PyProof.Rows L2
/-! ### contexts and calls -/
/-- what stays through the law -/
structure Wd where
  P : Program
  w : World
  mg : Str → Option Value
  base : Heap
/-- what is known of a block by its text: its names, its scope, a comprehension's own scope -/
structure Sx where
  N : List Str
  sc : Scope
  cm : Option Scope
def Sx.fn (S : Sx) (x : Str) : Bool := match S.cm with
  | none => true
  | some s => s.names.lookup x == some .cell
structure GX (W : Wd) (lev : Nat) (S : Sx) (X : Cx) : Prop where
  prog : X.prog = W.P
  w : X.w = W.w
  mg : X.mg = W.mg
  base : X.base = W.base
  N : X.N = S.N
  sc : X.env.scope = S.sc
  calm : X.calm = true
  fn : X.fn = S.fn
  room : Room lev X.A
  xe : X.xe = fun _ _ => False
abbrev CT := Nat → List D → M D
def spD (G : Gs) (K : PySem.W.Frag) (ct : CT) (f n : Nat) : Sp := fun vs H Q _ => ∃ ρ h ds, HR G K ρ h H ∧ RelDs K ρ h.n H ds vs ∧ ds.length = n ∧ (ct f ds h).all (PostE G K ρ h.n H Q)
/-- at a stands the function f of n parameters -/
structure FAt (G : Gs) (K : PySem.W.Frag) (W : Wd) (ct : CT) (lev f : Nat) (a : Addr) (n : Nat) : Prop where
  chk : ∀ ds h, ds.length ≠ n → ct f ds h = .ret .bad
  ok : ∃ fd ps, ps.length = n ∧ Binds K fd ps [] ∧ FnOk W.P W.w K W.mg W.base CX0 lev a fd ps (spD G K ct f n)
theorem FAt.mono {G : Gs} {K : PySem.W.Frag} {W : Wd} {ct : CT} {j k f : Nat} {a : Addr} {n : Nat} (F : FAt G K W ct j f a n) (h : j ≤ k) : FAt G K W ct k f a n :=
  ⟨F.chk, let ⟨fd, ps, a1, a2, a3⟩ := F.ok; ⟨fd, ps, a1, a2, a3.mono h⟩⟩
/-- the name x is the function f of n parameters -/
structure FOk (G : Gs) (K : PySem.W.Frag) (W : Wd) (ct : CT) (lev f : Nat) (x : Str) (n : Nat) : Prop where
  ok : ∃ a, W.mg x = some (.ref a) ∧ PySem.W.keepIn K (.ref a) = true ∧ FAt G K W ct lev f a n
section
variable {G : Gs} {K : PySem.W.Frag} {W : Wd} {lev : Nat} {S : Sx}
theorem len_of {ct : CT} {f n : Nat} {ds : List D} {h : VH} {p : R D → Prop} (c : ∀ ds h, ds.length ≠ n → ct f ds h = .ret .bad) (hp : p .bad → False) (q : (ct f ds h).all p) : ds.length = n := by
  by_cases e : ds.length = n
  · exact e
  · rw [c ds h e] at q
    exact (hp q).elim
theorem se_call {ct : CT} {k f n : Nat} {x : Str} {e : Expr} {es : List Expr} {p pos : Pos} {ms : Env → M (List D)} (hF : FOk G K W ct k f x n) (hk : k ≤ lev) (hg : S.sc.names.lookup x = some .globalImplicit) (hdb : (x == ("__debug__" : Str)) = false) (hs : noStars (e :: es) = true)
    (ha : SA G K (GX W lev S) (e :: es) ms) : SE G K (GX W lev S) (.Call (.Name x p) (e :: es) [] pos) (fun env => M.bind (ms env) (ct f)) := by
  obtain ⟨t, pt, q⟩ := ha
  obtain ⟨a, mga, kp, chk, fd, ps, hl, hb, F⟩ := hF
  obtain ⟨s1, s2⟩ := noStars_head hs
  refine ⟨tCall (spD G K ct f n) [] E0 t, fun X hX eK => ?_, fun ρ env h σ H Q hr er hq => ?_⟩
  · subst eK
    have F' : FnOk X.prog X.w X.K X.mg X.base CX0 k a fd ps (spD G X.K ct f n) := by rw [hX.prog, hX.w, hX.mg, hX.base]; exact F
    exact pe_call F' (hX.room.mono hk) (show X.env.scope.names.lookup x = _ by rw [hX.sc]; exact hg) (by rw [hX.mg]; exact mga) kp hb .nil pass0 (pt X hX rfl) hdb (starEach_no s1) (stars_no s2).2
  · refine useA q hr er hq (fun z => z) fun ρ1 h1 H1 ds vs l1 hr1 rs z => ?_
    show spD G K ct f n (vs ++ []) H1 Q _
    rw [List.append_nil]
    exact ⟨ρ1, h1, ds, hr1, rs, len_of chk (fun z => z) z, P.all_mono (fun r z => z.mono l1) z⟩
theorem se_call0 {ct : CT} {k f : Nat} {x : Str} {p pos : Pos} (hF : FOk G K W ct k f x 0) (hk : k ≤ lev) (hg : S.sc.names.lookup x = some .globalImplicit) (hdb : (x == ("__debug__" : Str)) = false) :
    SE G K (GX W lev S) (.Call (.Name x p) [] [] pos) (fun env => ct f []) := by
  obtain ⟨a, mga, kp, chk, fd, ps, hl, hb, F⟩ := hF
  refine ⟨tCall (spD G K ct f 0) [] E0 tNil, fun X hX eK => ?_, fun ρ env h σ H Q hr er hq => ?_⟩
  · subst eK
    have F' : FnOk X.prog X.w X.K X.mg X.base CX0 k a fd ps (spD G X.K ct f 0) := by rw [hX.prog, hX.w, hX.mg, hX.base]; exact F
    exact pe_call0 F' (hX.room.mono hk) (show X.env.scope.names.lookup x = _ by rw [hX.sc]; exact hg) (by rw [hX.mg]; exact mga) kp hb .nil pass0 hdb
  · exact ⟨ρ, h, [], hr, relDs_nil.mpr rfl, rfl, hq⟩
def startE (n : Nat) (ds : List D) : Env := ds.map some ++ List.replicate (n - ds.length) none
def endF (f : F) : M D := match f with
  | .rt d => M.pure d
  | .nx _ => M.pure .non
  | _ => M.bad
/-- what a def's body makes of the arguments -/
def runF (np nn : Nat) (m : Env → M F) (ds : List D) : M D := fun h => if ds.length = np then M.bind (m (startE nn ds)) endF h else .ret .bad
theorem er_start {ρ : Nat → Addr} {n : Nat} {H : Hp} {N : List Str} {ds : List D} {vs : List V} (r : RelDs K ρ n H ds vs) : ER K ρ n H (startE N.length ds) (L2.start N vs) := by
  have hl := relDs_len r
  refine ⟨by simp [startE, L2.start, hl], fun i d e => ?_⟩
  unfold startE at e
  unfold L2.start
  by_cases hi : i < ds.length
  · rw [List.getElem?_append_left (by simpa using hi), List.getElem?_map] at e
    rw [List.getElem?_append_left (by rw [List.length_map, ← hl]; exact hi), List.getElem?_map]
    cases e2 : ds[i]? with
    | none => rw [e2] at e; cases e
    | some d2 =>
      rw [e2] at e
      cases e
      obtain ⟨v, e3, rd⟩ := relDs_get r e2
      exact ⟨v, by rw [e3]; rfl, rd⟩
  · rw [List.getElem?_append_right (by simpa using hi)] at e
    have := List.mem_of_getElem? e
    have e2 := (List.mem_replicate.mp this).2
    cases e2
theorem fn_sound {x qual : Str} {params : Arguments} {body : List Stmt} {scope : Scope} {kws : List (Str × V)} {a : Addr} {fd : FuncData} {N ps : List Str} {m : Env → M F} {ct : CT} {f : Nat} (Fd : FunD K x qual params body scope [] kws a fd) (S : FnScope N ps scope)
    (hb : SSs G K (GX W lev ⟨N, scope, none⟩) body m) (hct : ∀ ds, ct f ds = runF ps.length N.length m ds) : FnOk W.P W.w K W.mg W.base CX0 (lev + 1) a fd ps (spD G K ct f ps.length) := by
  refine Fd.ok S (fun vs H Q E h => ?_) (fun cdv A outer s H vs Q E hr h => ?_)
  · obtain ⟨ρ, hh, ds, _, r, hl, _⟩ := h
    rw [← relDs_len r]; exact hl
  · obtain ⟨ρ, hh, ds, h1, r, hl, q⟩ := h
    obtain ⟨t, pt, qt⟩ := hb
    refine ⟨t, PSs.nox (pt _ ⟨rfl, rfl, rfl, rfl, rfl, rfl, rfl, rfl, hr, rfl⟩ rfl), qt ρ _ hh _ H _ h1 (er_start r) ?_⟩
    rw [hct ds] at q
    unfold runF at q
    rw [if_pos hl] at q
    refine P.all_mono (fun r z => ?_) (all_M q (fun z => z))
    cases r with
    | bad => exact z.elim
    | ok fl h2 =>
      cases fl with
      | rt d => exact z
      | nx e => exact fun ρ2 H2 σ2 l2 hr2 er2 => z ρ2 H2 _ l2 hr2 (relD_non.mpr rfl)
      | bk e => exact z.elim
      | ct e => exact z.elim
/-! ### instances -/
def lookF (f : Nat) : List (Nat × D) → Option D
  | [] => none
  | (g, d) :: r => if Nat.beq g f then some d else lookF f r
def putFd (f : Nat) (d : D) : List (Nat × D) → List (Nat × D)
  | [] => [(f, d)]
  | (g, x) :: r => if Nat.beq g f then (g, d) :: r else (g, x) :: putFd f d r
def FRel (G : Gs) (K : PySem.W.Frag) (ρ : Nat → Addr) (n : Nat) (H : Hp) (fs : List (Nat × D)) (es : List (Str × V)) : Prop :=
  ∃ vs, es = (fs.map fun q => G.att q.1).zip vs ∧ RelDs K ρ n H (fs.map (·.2)) vs
theorem lookF_ok {ρ : Nat → Addr} {n : Nat} {H : Hp} {f : Nat} (hf : f < G.na) : ∀ {fs : List (Nat × D)} {vs : List V}, (∀ q, q ∈ fs → q.1 < G.na) → RelDs K ρ n H (fs.map (·.2)) vs → ∀ {d : D}, lookF f fs = some d → ∃ v, ((fs.map fun q => G.att q.1).zip vs).lookup (G.att f) = some v ∧ RelD K ρ n H d v
  | [], vs, _, _, d, h => by cases h
  | (g, x) :: r, vs, hq, hr, d, h => by
    rw [List.map_cons, relDs_cons] at hr
    obtain ⟨v, us, rfl, r1, r2⟩ := hr
    unfold lookF at h
    rw [List.map_cons, List.zip_cons_cons, List.lookup_cons]
    by_cases e : g = f
    · subst e
      rw [if_pos (Nat.beq_refl g)] at h
      cases h
      rw [beq_self_eq_true]
      exact ⟨v, rfl, r1⟩
    · rw [if_neg (by rw [Nat.beq_eq]; exact e)] at h
      have ne : (G.att f == G.att g) = false := by
        rw [beq_eq_false_iff_ne]
        exact fun z => e (G.inj g f (hq (g, x) (List.Mem.head _)) hf z.symm)
      rw [show (G.att f == G.att (g, x).1) = false from ne]
      exact lookF_ok hf (fun q z => hq q (List.Mem.tail _ z)) r2 h
theorem putF_ok {ρ : Nat → Addr} {n : Nat} {H : Hp} {f : Nat} {d : D} {v : V} (hf : f < G.na) (rd : RelD K ρ n H d v) : ∀ {fs : List (Nat × D)} {vs : List V}, (∀ q, q ∈ fs → q.1 < G.na) → RelDs K ρ n H (fs.map (·.2)) vs →
    ∃ us, putF (G.att f) v ((fs.map fun q => G.att q.1).zip vs) = ((putFd f d fs).map fun q => G.att q.1).zip us ∧ RelDs K ρ n H ((putFd f d fs).map (·.2)) us ∧ ∀ q, q ∈ putFd f d fs → q.1 < G.na
  | [], vs, _, hr => by
    rw [relDs_nil.mp hr]
    exact ⟨[v], rfl, relDs_one.mpr ⟨v, rfl, rd⟩, fun q z => by cases z with | head => exact hf | tail _ z => cases z⟩
  | (g, x) :: r, vs, hq, hr => by
    rw [List.map_cons, relDs_cons] at hr
    obtain ⟨w, us, rfl, r1, r2⟩ := hr
    rw [List.map_cons, List.zip_cons_cons]
    unfold putF putFd
    by_cases e : g = f
    · subst e
      rw [if_pos rfl, if_pos (Nat.beq_refl g)]
      exact ⟨v :: us, rfl, relDs_cons.mpr ⟨v, us, rfl, rd, r2⟩, fun q z => by
        cases z with
        | head => exact hf
        | tail _ z => exact hq q (List.Mem.tail _ z)⟩
    · have ne : ¬ G.att g = G.att f := fun z => e (G.inj g f (hq (g, x) (List.Mem.head _)) hf z)
      rw [if_neg ne, if_neg (by rw [Nat.beq_eq]; exact e)]
      obtain ⟨ts, e1, e2, e3⟩ := putF_ok hf rd (fun q z => hq q (List.Mem.tail _ z)) r2
      rw [e1]
      exact ⟨w :: ts, rfl, relDs_cons.mpr ⟨w, ts, rfl, r1, e2⟩, fun q z => by
        cases z with
        | head => exact hq (g, x) (List.Mem.head _)
        | tail _ z => exact e3 q z⟩
theorem lookN {ρ : Nat → Addr} {n : Nat} {H : Hp} {m : Str} (hm : ∀ i, i < G.na → G.att i ≠ m) : ∀ {fs : List (Nat × D)} {vs : List V}, (∀ q, q ∈ fs → q.1 < G.na) → ((fs.map fun q => G.att q.1).zip vs).lookup m = none
  | [], vs, _ => rfl
  | (g, x) :: r, [], _ => rfl
  | (g, x) :: r, v :: us, hq => by
    rw [List.map_cons, List.zip_cons_cons, List.lookup_cons]
    rw [show (m == G.att (g, x).1) = false from by rw [beq_eq_false_iff_ne]; exact fun z => hm g (hq (g, x) (List.Mem.head _)) z.symm]
    exact lookN (ρ := ρ) (n := n) (H := H) hm fun q z => hq q (List.Mem.tail _ z)
theorem HR.ins {ρ : Nat → Addr} {h : VH} {H : Hp} (r : HR G K ρ h H) {a c : Nat} {fs : List (Nat × D)} (e : h.get a = some (.ins c fs)) :
    ∃ (dx : Addr) (vs : List V), H (ρ a) = some (.ins (G.cls c) dx ((fs.map fun q => G.att q.1).zip vs)) ∧ RelDs K ρ h.n H (fs.map (·.2)) vs ∧ c < G.nc ∧ ∀ q, q ∈ fs → q.1 < G.na := r.at e
/-- o.f, a field -/
def fldM (f : Nat) (x : D) : M D := fun h => match x with
  | .ref a => match h.get a with
    | some (.ins _ fs) => match lookF f fs with
      | some d => .ret (.ok d h)
      | none => .ret .bad
    | _ => .ret .bad
  | _ => .ret .bad
theorem se_fld {C : Cx → Prop} {o : Expr} {nm : Str} {pos : Pos} {f : Nat} {m : Env → M D} (hb : okBase o = true) (hf : f < G.na) (hn : G.att f = nm) (hc : ∀ c, c < G.nc → Cls K (G.cls c) ∧ NoAttr K (G.cls c) nm) (ho : SE G K C o m) :
    SE G K C (.Attribute o nm pos) (fun env => M.bind (m env) (fldM f)) := by
  obtain ⟨t, p, q⟩ := ho
  refine ⟨tFld K t nm, fun X hX eK => by subst eK; exact pe_fld (p X hX rfl) (base_no hb), fun ρ env h σ H Q hr er hq => ?_⟩
  refine useE q hr er hq (fun z => z) fun ρ1 h1 H1 x vx l1 hr1 rx hq1 => ?_
  unfold fldM at hq1
  cases x with
  | ref a =>
    rw [relD_ref] at rx
    obtain ⟨ha, rfl⟩ := rx
    simp only at hq1
    cases ea : h1.get a with
    | none => rw [ea] at hq1; exact hq1.elim
    | some ob =>
      rw [ea] at hq1
      cases ob with
      | ins c fs =>
        simp only at hq1
        cases el : lookF f fs with
        | none => rw [el] at hq1; exact hq1.elim
        | some d =>
          rw [el] at hq1
          obtain ⟨dx, vs, e1, e2, e3, e4⟩ := hr1.ins ea
          obtain ⟨v, e5, rd⟩ := lookF_ok hf e4 e2 el
          rw [hn] at e5
          exact ⟨_, _, dx, _, v, rfl, e1, (hc c e3).1, (hc c e3).2, e5, hq1 ρ1 H1 v l1 hr1 rd⟩
      | _ => exact hq1.elim
  | _ => exact hq1.elim
/-- o.f = e -/
def setF (f : Nat) (x d : D) : M Unit := fun h => match x with
  | .ref a => match h.get a with
    | some (.ins c fs) => if fs.length < 1000 then .ret (.ok () (h.set a (.ins c (putFd f d fs)))) else .ret .bad
    | _ => .ret .bad
  | _ => .ret .bad
theorem ss_fld {C : Cx → Prop} {o e : Expr} {nm : Str} {pos pos' : Pos} {f : Nat} {mo me : Env → M D} (hf : f < G.na) (hn : G.att f = nm) (hc : ∀ c, c < G.nc → Cls K (G.cls c) ∧ NoAttr K (G.cls c) nm) (he : SE G K C e me) (ho : SE G K C o mo) :
    SS G K C (.Assign [.Attribute o nm pos'] e pos) (fun env => M.bind (me env) fun d => M.bind (mo env) fun x => M.bind (setF f x d) fun _ => M.pure (.nx env)) := by
  obtain ⟨t, p, q⟩ := ho
  obtain ⟨te, pe, qe⟩ := he
  refine ⟨sFld K t te nm, fun X hX eK => by subst eK; exact ps_fld (p X hX rfl) (pe X hX rfl) (by cases e <;> rfl), fun ρ env h σ H Z hr er hq => ?_⟩
  refine useE qe hr er hq (fun z => z) fun ρ1 h1 H1 d vd l1 hr1 rd hq1 => ?_
  refine useE q hr1 (er.mono l1) hq1 (fun z => z) fun ρ2 h2 H2 x vx l2 hr2 rx hq2 => ?_
  unfold setF at hq2
  cases x with
  | ref a =>
    rw [relD_ref] at rx
    obtain ⟨ha, rfl⟩ := rx
    simp only [M.bind_eq] at hq2
    cases ea : h2.get a with
    | none => rw [ea] at hq2; exact hq2.elim
    | some ob =>
      rw [ea] at hq2
      cases ob with
      | ins c fs =>
        simp only at hq2
        by_cases hl : fs.length < 1000
        · rw [if_pos hl] at hq2
          obtain ⟨dx, vs, e1, e2, e3, e4⟩ := hr2.ins ea
          obtain ⟨us, e5, e6, e7⟩ := putF_ok hf (rd.mono l2) e4 e2
          have hz : ((fs.map fun q => G.att q.1).zip vs).length < 1000 := by rw [List.length_zip]; simp; omega
          have le : Le K ρ2 h2.n H2 ρ2 h2.n (upd H2 (ρ2 a) (.ins (G.cls c) dx (putF nm vd ((fs.map fun q => G.att q.1).zip vs)))) := Le.chg ha e1 True.intro
          refine ⟨_, _, dx, _, rfl, e1, (hc c e3).1, (hc c e3).2, hz, ?_⟩
          refine hq2 ρ2 _ σ ((l1.trans l2).trans le) (hr2.chg ha e1 True.intro ⟨dx, us, ?_, e6.mono le, e3, e7⟩) ((er.mono (l1.trans l2)).mono le)
          rw [upd_same, ← hn, e5]
        · rw [if_neg hl] at hq2; exact hq2.elim
      | _ => exact hq2.elim
  | _ => exact hq2.elim
/-- is it an instance of the class c -/
def insM (c : Nat) (x : D) : M D := fun h => match x with
  | .ref a => match h.get a with
    | some (.ins k _) => if Nat.beq k c then .ret (.ok x h) else .ret .bad
    | _ => .ret .bad
  | _ => .ret .bad
theorem insM_ok {ρ : Nat → Addr} {h : VH} {H : Hp} (hr : HR G K ρ h H) {c : Nat} {x : D} {vx : V} {p : R D → Prop} (rx : RelD K ρ h.n H x vx) (hq : (insM c x h).all p) (hp : p .bad → False) :
    p (.ok x h) ∧ ∃ (a dx : Addr) (fs : List (Nat × D)) (vs : List V), vx = .ref a ∧ H a = some (.ins (G.cls c) dx ((fs.map fun q => G.att q.1).zip vs)) ∧ c < G.nc ∧ ∀ q, q ∈ fs → q.1 < G.na := by
  unfold insM at hq
  cases x with
  | ref a =>
    rw [relD_ref] at rx
    obtain ⟨ha, rfl⟩ := rx
    simp only at hq
    cases ea : h.get a with
    | none => rw [ea] at hq; exact (hp hq).elim
    | some ob =>
      rw [ea] at hq
      cases ob with
      | ins k fs =>
        simp only at hq
        by_cases e : k = c
        · subst e
          rw [if_pos (Nat.beq_refl k)] at hq
          obtain ⟨dx, vs, e1, e2, e3, e4⟩ := hr.ins ea
          exact ⟨hq, _, dx, fs, vs, rfl, e1, e3, e4⟩
        · rw [if_neg (by rw [Nat.beq_eq]; exact e)] at hq; exact (hp hq).elim
      | _ => exact (hp hq).elim
  | _ => exact (hp hq).elim
theorem methTree {o : Expr} {nm : Str} {apos pos : Pos} {args : List Expr} {env : PySem.Env} (hb : okBase o = true) (hs : noStars args = true) (hl : args.length < 30) (hline : (apos.endLine == pos.line) = true) :
    eval (.Call (.Attribute o nm apos) args [] pos) env = (do
      let ov ← eval o env
      standAt apos.atName
      let (f, first) ← holding [ov] (getMethod ov nm (do return (← importBound o env).getD true))
      callWith pos f first (backTo pos (starEach args env)) (backToKw pos (keywordEach [] env))) := by
  rw [arm_eval_Call, base_no hb]
  have hform : methodCallForm (args.length + ([] : List Keyword).length) (backTo pos (starEach args env)) (backToKw pos (keywordEach [] env)) = true := few_no hs hl
  have hpos : methodCallPos true o env apos pos = pure pos := by unfold methodCallPos; simp [hline]
  unfold methodCall
  rw [hform, hpos]
  rfl
/-- o.m(e, ..) -/
theorem se_met {ct : CT} {k f n c : Nat} {g : Addr} {nm : Str} {o e : Expr} {es : List Expr} {apos pos : Pos} {mo : Env → M D} {ms : Env → M (List D)} (hF : FAt G K W ct k f g n) (hk : k ≤ lev) (hb : okBase o = true) (hs : noStars (e :: es) = true)
    (hl : (e :: es).length < 30) (hline : (apos.endLine == pos.line) = true) (hc : Cls K (G.cls c)) (hm : Meth K (G.cls c) nm g) (hn : ∀ i, i < G.na → G.att i ≠ nm) (ho : SE G K (GX W lev S) o mo) (ha : SA G K (GX W lev S) (e :: es) ms) :
    SE G K (GX W lev S) (.Call (.Attribute o nm apos) (e :: es) [] pos) (fun env => M.bind (mo env) fun x => M.bind (insM c x) fun x => M.bind (ms env) fun ds => ct f (x :: ds)) := by
  obtain ⟨t, pt, q⟩ := ha
  obtain ⟨to, po, qo⟩ := ho
  obtain ⟨chk, fd, ps, hl2, hbd, F⟩ := hF
  obtain ⟨s1, s2⟩ := noStars_head hs
  refine ⟨tMeth (G.cls c) nm (spD G K ct f n) [] E0 to t, fun X hX eK => ?_, fun ρ env h σ H Q hr er hq => ?_⟩
  · subst eK
    have F' : FnOk X.prog X.w X.K X.mg X.base CX0 k g fd ps (spD G X.K ct f n) := by rw [hX.prog, hX.w, hX.mg, hX.base]; exact F
    exact pe_meth (po X hX rfl) hc hm F' (hX.room.mono hk) hbd .nil pass0 (pt X hX rfl) (starEach_no s1) (stars_no s2).2 (methTree hb hs hl hline)
  · refine useE qo hr er hq (fun z => z) fun ρ1 h1 H1 x vx l1 hr1 rx hq1 => ?_
    have hq1 := all_M hq1 (fun z => z)
    obtain ⟨hq2, a, dx, fs, vs, rfl, e1, e3, e4⟩ := insM_ok hr1 rx hq1 (fun z => z)
    refine ⟨a, dx, _, rfl, e1, lookN (ρ := ρ1) (n := h1.n) (H := H1) hn e4, ?_⟩
    refine useA q hr1 (er.mono l1) hq2 (fun z => z) fun ρ2 h2 H2 ds vs l2 hr2 rs z => ?_
    show spD G K ct f n (.ref a :: (vs ++ [])) H2 Q _
    rw [List.append_nil]
    exact ⟨ρ2, h2, x :: ds, hr2, relDs_cons.mpr ⟨_, _, rfl, rx.mono l2, rs⟩, len_of chk (fun z => z) z, P.all_mono (fun r z => z.mono (l1.trans l2)) z⟩
theorem se_met0 {ct : CT} {k f n c : Nat} {g : Addr} {nm : Str} {o : Expr} {apos pos : Pos} {mo : Env → M D} (hF : FAt G K W ct k f g n) (hk : k ≤ lev) (hb : okBase o = true) (hline : (apos.endLine == pos.line) = true)
    (hc : Cls K (G.cls c)) (hm : Meth K (G.cls c) nm g) (hn : ∀ i, i < G.na → G.att i ≠ nm) (ho : SE G K (GX W lev S) o mo) :
    SE G K (GX W lev S) (.Call (.Attribute o nm apos) [] [] pos) (fun env => M.bind (mo env) fun x => M.bind (insM c x) fun x => ct f [x]) := by
  obtain ⟨to, po, qo⟩ := ho
  obtain ⟨chk, fd, ps, hl2, hbd, F⟩ := hF
  refine ⟨tMeth (G.cls c) nm (spD G K ct f n) [] E0 to tNil, fun X hX eK => ?_, fun ρ env h σ H Q hr er hq => ?_⟩
  · subst eK
    have F' : FnOk X.prog X.w X.K X.mg X.base CX0 k g fd ps (spD G X.K ct f n) := by rw [hX.prog, hX.w, hX.mg, hX.base]; exact F
    exact pe_meth0 (po X hX rfl) hc hm F' (hX.room.mono hk) hbd .nil pass0 (methTree hb rfl (by decide) hline)
  · refine useE qo hr er hq (fun z => z) fun ρ1 h1 H1 x vx l1 hr1 rx hq1 => ?_
    have hq1 := all_M hq1 (fun z => z)
    obtain ⟨hq2, a, dx, fs, vs, rfl, e1, e3, e4⟩ := insM_ok hr1 rx hq1 (fun z => z)
    refine ⟨a, dx, _, rfl, e1, lookN (ρ := ρ1) (n := h1.n) (H := H1) hn e4, ?_⟩
    show spD G K ct f n [.ref a] H1 Q E0
    exact ⟨ρ1, h1, [x], hr1, relDs_one.mpr ⟨_, rfl, rx⟩, len_of chk (fun z => z) hq2, P.all_mono (fun r z => z.mono l1) hq2⟩
/-- o.f, a property -/
theorem se_prp {ct : CT} {k f n c : Nat} {p g : Addr} {nm : Str} {o : Expr} {pos : Pos} {mo : Env → M D} (hF : FAt G K W ct k f g n) (hk : k + 1 ≤ lev) (hb : okBase o = true)
    (hc : Cls K (G.cls c)) (hm : PropOf K (G.cls c) nm p g) (ho : SE G K (GX W lev S) o mo) :
    SE G K (GX W lev S) (.Attribute o nm pos) (fun env => M.bind (mo env) fun x => M.bind (insM c x) fun x => ct f [x]) := by
  obtain ⟨to, po, qo⟩ := ho
  obtain ⟨chk, fd, ps, hl2, hbd, F⟩ := hF
  refine ⟨tProp (G.cls c) (spD G K ct f n) [] E0 to, fun X hX eK => ?_, fun ρ env h σ H Q hr er hq => ?_⟩
  · subst eK
    have F' : FnOk X.prog X.w X.K X.mg X.base CX0 k g fd ps (spD G X.K ct f n) := by rw [hX.prog, hX.w, hX.mg, hX.base]; exact F
    exact pe_prop (po X hX rfl) hc hm F' (hX.room.mono hk) hbd .nil pass0 (base_no hb)
  · refine useE qo hr er hq (fun z => z) fun ρ1 h1 H1 x vx l1 hr1 rx hq1 => ?_
    have hq1 := all_M hq1 (fun z => z)
    obtain ⟨hq2, a, dx, fs, vs, rfl, e1, e3, e4⟩ := insM_ok hr1 rx hq1 (fun z => z)
    refine ⟨a, dx, _, rfl, e1, ?_⟩
    show spD G K ct f n [.ref a] H1 Q E0
    exact ⟨ρ1, h1, [x], hr1, relDs_one.mpr ⟨_, rfl, rx⟩, len_of chk (fun z => z) hq2, P.all_mono (fun r z => z.mono l1) hq2⟩
/-- C(..) -/
def mkIns (ct : CT) (c f : Nat) (ds : List D) : M D := fun h => M.bind (ct f (.ref h.n :: ds)) (fun r => match r with
  | .non => M.pure (.ref h.n)
  | _ => M.bad) (h.new (.ins c []))
theorem mkIns_ok {ct : CT} {f n c : Nat} {ρ ρ1 : Nat → Addr} {h h1 : VH} {H H1 : Hp} {ds : List D} {vs : List V} {Q : VK} {x dx : Addr} (chk : ∀ ds h, ds.length ≠ n → ct f ds h = .ret .bad) (hc : c < G.nc) (l1 : Le K ρ h.n H ρ1 h1.n H1) (hr1 : HR G K ρ1 h1 H1) (rs : RelDs K ρ1 h1.n H1 ds vs)
    (z : (mkIns ct c f ds h1).all (PostE G K ρ h.n H Q)) (hx : H1 x = none) (hdx : H1 dx = none) (hne : dx ≠ x) :
    spD G K ct f n (.ref x :: vs) (upd (upd H1 dx (.own x)) x (.ins (G.cls c) dx [])) (fun v H2 => v = .non ∧ Q (.ref x) H2) E0 := by
  have hx2 : upd H1 dx (.own x) x = none := by rw [upd_ne (Ne.symm hne)]; exact hx
  have lA : Le K ρ1 h1.n H1 ρ1 h1.n (upd H1 dx (.own x)) := Le.upd_fresh hdx
  have lB : Le K ρ1 h1.n (upd H1 dx (.own x)) (rset ρ1 h1.n x) (h1.n + 1) (upd (upd H1 dx (.own x)) x (.ins (G.cls c) dx [])) := Le.new hx2
  have hr2 : HR G K (rset ρ1 h1.n x) (h1.new (.ins c [])) (upd (upd H1 dx (.own x)) x (.ins (G.cls c) dx [])) := (hr1.fresh hdx).new hx2 ⟨dx, [], by rw [upd_same]; rfl, relDs_nil.mpr rfl, hc, fun q z => by cases z⟩
  have z := all_M z (fun z => z)
  refine ⟨rset ρ1 h1.n x, h1.new (.ins c []), .ref h1.n :: ds, hr2, relDs_cons.mpr ⟨_, _, rfl, relD_ref.mpr ⟨Nat.lt_succ_self _, by rw [rset_at]⟩, (rs.mono lA).mono lB⟩, len_of chk (fun z => z) z, P.all_mono (fun r z => ?_) z⟩
  cases r with
  | bad => exact z.elim
  | ok d h3 =>
    cases d with
    | non => exact fun ρ3 H3 v l3 hr3 rd => ⟨relD_non.mp rd, z ρ3 H3 _ (((l1.trans lA).trans lB).trans l3) hr3 (relD_ref.mpr ⟨Nat.lt_of_lt_of_le (Nat.lt_succ_self _) l3.le, by rw [l3.ad _ (Nat.lt_succ_self _), rset_at]⟩)⟩
    | _ => exact z.elim
theorem se_mk {ct : CT} {k f n c : Nat} {g : Addr} {x : Str} {e : Expr} {es : List Expr} {p pos : Pos} {ms : Env → M (List D)} (hF : FAt G K W ct k f g n) (hk : k + 1 ≤ lev) (hc : c < G.nc) (hM : Mk K (G.cls c) g) (hmg : W.mg x = some (.ref (G.cls c)))
    (hg : S.sc.names.lookup x = some .globalImplicit) (hdb : (x == ("__debug__" : Str)) = false) (hs : noStars (e :: es) = true) (ha : SA G K (GX W lev S) (e :: es) ms) : SE G K (GX W lev S) (.Call (.Name x p) (e :: es) [] pos) (fun env => M.bind (ms env) (mkIns ct c f)) := by
  obtain ⟨t, pt, q⟩ := ha
  obtain ⟨chk, fd, ps, hl2, hbd, F⟩ := hF
  obtain ⟨s1, s2⟩ := noStars_head hs
  refine ⟨tMake (G.cls c) (spD G K ct f n) [] E0 t, fun X hX eK => ?_, fun ρ env h σ H Q hr er hq => ?_⟩
  · subst eK
    have F' : FnOk X.prog X.w X.K X.mg X.base CX0 k g fd ps (spD G X.K ct f n) := by rw [hX.prog, hX.w, hX.mg, hX.base]; exact F
    exact pe_make hM F' (hX.room.mono hk) (show X.env.scope.names.lookup x = _ by rw [hX.sc]; exact hg) (by rw [hX.mg]; exact hmg) hbd .nil pass0 (pt X hX rfl) hdb (starEach_no s1) (stars_no s2).2
  · refine useA q hr er hq (fun z => z) fun ρ1 h1 H1 ds vs l1 hr1 rs z x dx hx hdx hne => ?_
    rw [List.append_nil]
    exact mkIns_ok chk hc l1 hr1 rs z hx hdx hne
end
end
end PV
set_option Elab.async false
set_option linter.all false
set_option maxRecDepth 100000
set_option maxHeartbeats 1000000
set_option autoImplicit false
namespace PV
noncomputable section
open PySem PySem.Spec PyProof.Rows L2
/-! ### a program in short, and what it does -/
mutual
inductive Ex where
  | loc (i : Nat)
  | cst (d : D)
  | tup (es : List Ex)
  | lst (es : List Ex)
  | bin (o : Nat) (a b : Ex)
  | cmp (o : Nat) (a b : Ex)
  | chn (o p : Nat) (a b c : Ex)
  | and (es : List Ex)
  | or (es : List Ex)
  | not (a : Ex)
  | ifx (c : Tx) (a b : Ex)
  | ix (a b : Ex)
  | sl (a : Ex) (lo hi : Option Ex)
  | rev (a : Ex)
  | neg (a : Ex)
  | call (f : Nat) (es : List Ex)
  | bf1 (f : Nat) (a : Ex)
  | isi (a : Ex) (ts : List Nat)
  | mth (m : Nat) (o : Ex) (es : List Ex)
  | lc (it : Ix) (tg : Tg) (ifs : Option Tx) (elt : Ex) (vs : List Nat)
  | fld (f : Nat) (o : Ex)
  | prp (c g : Nat) (o : Ex)
  | met (c g : Nat) (o : Ex) (es : List Ex)
  | mk (c g : Nat) (es : List Ex)
  | dnew
  | tupS (bs : List Bool) (es : List Ex)
  | lstS (bs : List Bool) (es : List Ex)
  | bfN (f : Nat) (es : List Ex)
  | lenS (a : Ex)
  | srtS (a : Ex)
  | lrg (a : Ex)
  | dz (a b : Ex)
  | isc (c : Nat) (a : Ex)
  | disp (ks vs : List Ex)
  | dc (it : Ix) (tg : Tg) (ifs : Option Tx) (k v : Ex) (vs : List Nat)
  | lc2 (it : Ix) (tg : Tg) (ifs : Option Tx) (it1 : Ix) (tg1 : Tg) (ifs1 : Option Tx) (elt : Ex) (vs vs1 : List Nat)
inductive Tx where
  | val (e : Ex)
  | cmp (o : Nat) (a b : Ex)
  | chn (o p : Nat) (a b c : Ex)
  | and (ts : List Tx)
  | or (ts : List Tx)
  | not (a : Tx)
inductive Ix where
  | seq (e : Ex)
  | rng1 (a : Ex)
  | rng2 (a b : Ex)
  | itm (a : Ex)
  | vals (a : Ex)
  | enm (a : Ex)
  | zip (a b : Ex)
inductive Tg where
  | nam (i : Nat)
  | tup (ts : List Tg)
  | sub (o i : Ex)
end
inductive Sm where
  | expr (e : Ex)
  | ret (e : Ex)
  | retN
  | pass
  | bad
  | cnd (c : Tx) (a b : List Sm)
  | asg (tg : Tg) (e : Ex)
  | par (i j : Nat) (es : List Ex)
  | setLc (k : Nat) (it : Ix) (tg : Tg) (ifs : Option Tx) (elt : Ex) (vs : List Nat)
  | setLc2 (k : Nat) (it : Ix) (tg : Tg) (ifs : Option Tx) (it1 : Ix) (tg1 : Tg) (ifs1 : Option Tx) (elt : Ex) (vs vs1 : List Nat)
  | setDc (k : Nat) (it : Ix) (tg : Tg) (ifs : Option Tx) (a b : Ex) (vs : List Nat)
  | forr (it : Ix) (tg : Tg) (body : List Sm)
  | whl (c : Tx) (body : List Sm)
  | setF (f : Nat) (o e : Ex)
def binD : Nat → D → D → M D
  | 0 => addD
  | 1 => subD
  | 2 => mulD
  | 3 => modD
  | 4 => fdivD
  | 5 => powD
  | _ => fun _ _ => M.bad
def cmpD : Nat → D → D → M D
  | 0 => ltD
  | 1 => leD
  | 2 => gtD
  | 3 => geD
  | 4 => eqM false
  | 5 => eqM true
  | 6 => inM false
  | 7 => inM true
  | 8 => isM false
  | 9 => isM true
  | _ => fun _ _ => M.bad
def bf1D : Nat → D → M D
  | 0 => lenM
  | 1 => allM
  | 2 => anyM
  | 3 => sumM
  | 4 => maxM
  | 5 => minLM
  | 6 => intM
  | 7 => listM
  | 8 => tupX
  | 9 => sortM
  | 10 => strM
  | _ => fun _ => M.bad
def mthD : Nat → M D → M (List D) → M D
  | 0 => mtM 1 1 appM appM
  | 1 => mtM 1 1 extM extM
  | 2 => mtM 1 5 popM popDM
  | 3 => mtM 1 1 clrM clrM
  | 4 => mtM 5 5 getM getM
  | 5 => mtM 5 5 setdM setdM
  | 6 => mtM 0 0 joinM joinM
  | _ => fun _ _ => M.bad
def bfND : Nat → List D → M D
  | 0 => maxNM
  | 1 => minNM
  | _ => fun _ => M.bad
/-- what the parts do -/
structure Evs where
  e : Ex → Env → M D
  t : Tx → Env → M Bool
  i : Ix → Env → M Stp
  g : Tg → Env → D → M Env
  s : Sm → Env → M F
section
variable (ct : CT)
def evA (E : Evs) : List Ex → Env → M (List D)
  | [], _ => M.pure []
  | x :: xs, env => M.bind (E.e x env) fun d => M.bind (evA E xs env) fun ds => M.pure (d :: ds)
def evAS (E : Evs) : List Bool → List Ex → Env → M (List D)
  | [], xs, _ => match xs with
    | [] => M.pure []
    | _ => M.bad
  | b :: bs, xs, env => match xs with
    | [] => M.bad
    | x :: xs => if b then M.bind (E.e x env) fun d => M.bind (starM d) fun ys => M.bind (evAS E bs xs env) fun ds => M.pure (ys ++ ds)
      else M.bind (E.e x env) fun d => M.bind (evAS E bs xs env) fun ds => M.pure (d :: ds)
def evP (E : Evs) : List Ex → List Ex → Env → M (List (D × D))
  | [], vs, _ => match vs with
    | [] => M.pure []
    | _ => M.bad
  | k :: ks, vs, env => match vs with
    | [] => M.bad
    | v :: vs => M.bind (E.e k env) fun x => M.bind (E.e v env) fun y => M.bind (evP E ks vs env) fun kvs => M.pure ((x, y) :: kvs)
def evSs (E : Evs) : List Sm → Env → M F
  | [], env => M.pure (.nx env)
  | s :: r, env => M.bind (E.s s env) (seqF (evSs E r))
def evGs (E : Evs) : List Tg → Env → List D → M Env
  | [], env, ds => match ds with
    | [] => M.pure env
    | _ => M.bad
  | t :: r, env, ds => match ds with
    | [] => M.bad
    | d :: q => M.bind (E.g t env d) fun env' => evGs E r env' q
def evO (E : Evs) : Option Ex → Env → M (Option Int)
  | none, _ => M.pure none
  | some x, env => M.bind (E.e x env) asI
def evIf (E : Evs) : Option Tx → Env → M Bool
  | none, _ => M.pure true
  | some x, env => E.t x env
def evAnd (E : Evs) : List Ex → Env → M D
  | [], _ => M.bad
  | a :: r, env => match r with
    | [] => E.e a env
    | _ :: _ => M.bind (E.e a env) fun x => M.bind (truM x) fun c => if c then evAnd E r env else M.pure x
def evOr (E : Evs) : List Ex → Env → M D
  | [], _ => M.bad
  | a :: r, env => match r with
    | [] => E.e a env
    | _ :: _ => M.bind (E.e a env) fun x => M.bind (truM x) fun c => if c then M.pure x else evOr E r env
def evAndT (E : Evs) : List Tx → Env → M Bool
  | [], _ => M.bad
  | a :: r, env => match r with
    | [] => E.t a env
    | _ :: _ => M.bind (E.t a env) fun c => if c then evAndT E r env else M.pure false
def evOrT (E : Evs) : List Tx → Env → M Bool
  | [], _ => M.bad
  | a :: r, env => match r with
    | [] => E.t a env
    | _ :: _ => M.bind (E.t a env) fun c => if c then M.pure true else evOrT E r env
def stepE (E : Evs) : Ex → Env → M D
  | .loc i, env => fun h => match env[i]? with
    | some (some d) => .ret (.ok d h)
    | _ => .ret .bad
  | .cst d, _ => M.pure d
  | .tup es, env => M.bind (evA E es env) mkTup
  | .lst es, env => M.bind (evA E es env) mkLst
  | .bin o a b, env => M.bind (E.e a env) fun x => M.bind (E.e b env) fun y => binD o x y
  | .cmp o a b, env => M.bind (E.e a env) fun x => M.bind (E.e b env) fun y => cmpD o x y
  | .chn o p a b c, env => M.bind (E.e a env) fun x => M.bind (E.e b env) fun y => M.bind (cmpD o x y) fun z => M.bind (asB z) fun k => if k then M.bind (E.e c env) fun w => cmpD p y w else M.pure (.bl false)
  | .and es, env => evAnd E es env
  | .or es, env => evOr E es env
  | .not a, env => M.bind (E.e a env) fun x => M.bind (truM x) fun b => M.pure (.bl (!b))
  | .ifx c a b, env => M.bind (E.t c env) fun k => if k then E.e a env else E.e b env
  | .ix a b, env => M.bind (E.e a env) fun x => M.bind (E.e b env) fun y => ixM x y
  | .sl a lo hi, env => M.bind (E.e a env) fun x => M.bind (evO E lo env) fun l => M.bind (evO E hi env) fun u => slM x l u
  | .rev a, env => M.bind (E.e a env) revM
  | .neg a, env => M.bind (E.e a env) negM
  | .call f es, env => match es with
    | [] => ct f []
    | _ => M.bind (evA E es env) (ct f)
  | .bf1 f a, env => M.bind (E.e a env) (bf1D f)
  | .isi a ts, env => M.bind (E.e a env) (isiM ts)
  | .mth m o es, env => mthD m (E.e o env) (evA E es env)
  | .lc it tg ifs elt vs, env => lcM (E.i it) (E.g tg) (evIf E ifs) (E.e elt) vs env
  | .fld f o, env => M.bind (E.e o env) (fldM f)
  | .prp c g o, env => M.bind (E.e o env) fun x => M.bind (insM c x) fun x => ct g [x]
  | .met c g o es, env => match es with
    | [] => M.bind (E.e o env) fun x => M.bind (insM c x) fun x => ct g [x]
    | _ => M.bind (E.e o env) fun x => M.bind (insM c x) fun x => M.bind (evA E es env) fun ds => ct g (x :: ds)
  | .mk c g es, env => M.bind (evA E es env) (mkIns ct c g)
  | .dnew, _ => newDic
  | .tupS bs es, env => M.bind (evAS E bs es env) mkTup
  | .lstS bs es, env => M.bind (evAS E bs es env) mkLst
  | .bfN f es, env => M.bind (evA E es env) (bfND f)
  | .lenS a, env => M.bind (E.e a env) lenSM
  | .srtS a, env => M.bind (E.e a env) srtSM
  | .lrg a, env => M.bind (E.e a env) lrgM
  | .dz a b, env => M.bind (E.e a env) fun x => M.bind (E.e b env) fun y => dzM x y
  | .isc c a, env => M.bind (E.e a env) (iscM c)
  | .disp ks vs, env => M.bind (evP E ks vs env) dispM
  | .dc it tg ifs k v vs, env => dcM (E.i it) (E.g tg) (evIf E ifs) (E.e k) (E.e v) vs env
  | .lc2 it tg ifs it1 tg1 ifs1 elt vs vs1, env => lc2M (E.i it) (E.g tg) (evIf E ifs) (E.i it1) (E.g tg1) (evIf E ifs1) (E.e elt) vs vs1 env
def stepT (E : Evs) : Tx → Env → M Bool
  | .val e, env => M.bind (E.e e env) truM
  | .cmp o a b, env => M.bind (E.e a env) fun x => M.bind (E.e b env) fun y => M.bind (cmpD o x y) asB
  | .chn o p a b c, env => M.bind (M.bind (E.e a env) fun x => M.bind (E.e b env) fun y => M.bind (cmpD o x y) fun z => M.bind (asB z) fun k => if k then M.bind (E.e c env) fun w => cmpD p y w else M.pure (.bl false)) asB
  | .and ts, env => evAndT E ts env
  | .or ts, env => evOrT E ts env
  | .not a, env => M.bind (E.t a env) fun b => M.pure (!b)
def stepI (E : Evs) : Ix → Env → M Stp
  | .seq e, env => M.bind (E.e e env) seqI
  | .rng1 a, env => M.bind (E.e a env) rngI1
  | .rng2 a b, env => M.bind (E.e a env) fun x => M.bind (E.e b env) fun y => rngI2 x y
  | .itm a, env => M.bind (E.e a env) itemsI
  | .vals a, env => M.bind (E.e a env) valsI
  | .enm a, env => M.bind (E.e a env) enumI
  | .zip a b, env => M.bind (E.e a env) fun x => M.bind (E.e b env) fun y => zipI x y
def stepG (E : Evs) : Tg → Env → D → M Env
  | .nam i, env, d => M.pure (env.set i (some d))
  | .tup ts, env, d => gTupD ts.length (evGs E ts) env d
  | .sub o i, env, d => M.bind (E.e o env) fun x => M.bind (E.e i env) fun y => M.bind (setM x y d) fun _ => M.pure env
def stepS (E : Evs) : Sm → Env → M F
  | .expr e, env => M.bind (E.e e env) fun _ => M.pure (.nx env)
  | .ret e, env => M.bind (E.e e env) fun d => M.pure (.rt d)
  | .retN, _ => M.pure (.rt .non)
  | .pass, env => M.pure (.nx env)
  | .bad, _ => M.bad
  | .cnd c a b, env => M.bind (E.t c env) fun k => if k then evSs E a env else evSs E b env
  | .asg tg e, env => M.bind (E.e e env) fun d => M.bind (E.g tg env d) fun env' => M.pure (.nx env')
  | .par i j es, env => M.bind (evA E es env) fun ds => match ds with
    | [d, e] => M.pure (.nx ((env.set i (some d)).set j (some e)))
    | _ => M.bad
  | .setLc k it tg ifs elt vs, env => M.bind (lcM (E.i it) (E.g tg) (evIf E ifs) (E.e elt) vs env) fun d => M.pure (.nx (env.set k (some d)))
  | .setLc2 k it tg ifs it1 tg1 ifs1 elt vs vs1, env => M.bind (lc2M (E.i it) (E.g tg) (evIf E ifs) (E.i it1) (E.g tg1) (evIf E ifs1) (E.e elt) vs vs1 env) fun d => M.pure (.nx (env.set k (some d)))
  | .setDc k it tg ifs a b vs, env => M.bind (dcM (E.i it) (E.g tg) (evIf E ifs) (E.e a) (E.e b) vs env) fun d => M.pure (.nx (env.set k (some d)))
  | .forr it tg body, env => M.bind (E.i it env) fun st => forM st (E.g tg) (evSs E body) env
  | .whl c body, env => whileF (E.t c) (evSs E body) turns env
  | .setF f o e, env => M.bind (E.e e env) fun d => M.bind (E.e o env) fun x => M.bind (setF f x d) fun _ => M.pure (.nx env)
def evs : Nat → Evs
  | 0 => ⟨fun _ _ => M.bad, fun _ _ => M.bad, fun _ _ => M.bad, fun _ _ _ => M.bad, fun _ _ => M.bad⟩
  | n + 1 => ⟨stepE ct (evs n), stepT (evs n), stepI (evs n), stepG (evs n), stepS (evs n)⟩
end
/-- a function: its parameters' number, its names' number, its body -/
structure Fn where
  np : Nat
  nn : Nat
  body : List Sm
/-- calls, so many deep; id 0 is the draw, id 1 the source -/
def prim (ds : List D) : M D := fun h => match ds with
  | [.ref a, .int m] => match h.get a with
    | some (.src n) => if 0 < m ∧ m < 1000000 ∧ n < 1000000 then .draw m.toNat fun d => .ret (.ok (.int d) (h.set a (.src (n + 1)))) else .ret .bad
    | _ => .ret .bad
  | _ => .ret .bad
def prim2 (ds : List D) : M D := fun h => match ds with
  | [.kls _] => .ret (.ok (.ref h.n) (h.new (.src 0)))
  | _ => .ret .bad
def callT (tab : List Fn) (deep : Nat) : Nat → CT
  | 0 => fun _ _ => M.bad
  | n + 1 => fun f ds => match f with
    | 0 => prim ds
    | 1 => prim2 ds
    | f + 2 => match tab[f]? with
      | some q => runF q.np q.nn (evSs (evs (callT tab deep n) deep) q.body) ds
      | none => M.bad
/-- does every way end in True -/
def P.good : P (R D) → Bool
  | .ret (.ok (.bl true) _) => true
  | .ret _ => false
  | .draw m k => (List.range m).all fun d => P.good (k d)
end
end PV
set_option Elab.async false
set_option linter.all false
set_option maxRecDepth 100000
set_option maxHeartbeats 2000000
set_option autoImplicit false
namespace PV
noncomputable section
open PySem PySem.Spec PyProof.Rows L2
/-! ### from a text to its short form -/
inductive Gk where
  | fn (f n : Nat)
  | cst (d : D)
  | cls (c g n : Nat)
inductive Ak where
  | fld (f : Nat)
  | prp (c g : Nat)
  | met (c g n : Nat)
/-- what the text's global names and attribute names are -/
structure Ge where
  g : List (Str × Gk)
  a : List (Str × Ak)
theorem bindS {α β : Type} {o : Option α} {f : α → Option β} {b : β} (h : o.bind f = some b) : ∃ a, o = some a ∧ f a = some b := by
  cases o with
  | none => cases h
  | some a => exact ⟨a, rfl, h⟩
theorem iteS {α : Type} {c : Bool} {x : Option α} {b : α} (h : (if c then x else none) = some b) : c = true ∧ x = some b := by
  cases c with
  | true => exact ⟨rfl, h⟩
  | false => cases h
def place : List Str → Str → Option Nat
  | [], _ => none
  | y :: r, x => if decide (y = x) then some 0 else (place r x).map (· + 1)
theorem place_ok : ∀ {N : List Str} {x : Str} {i : Nat}, place N x = some i → N[i]? = some x
  | [], x, i, h => by cases h
  | y :: r, x, i, h => by
    unfold place at h
    by_cases e : y = x
    · rw [if_pos (decide_eq_true e)] at h
      cases h
      rw [e]; rfl
    · rw [if_neg (by simp [e])] at h
      cases q : place r x with
      | none => rw [q] at h; cases h
      | some j =>
        rw [q] at h
        cases h
        have := place_ok q
        simpa using this
def visB (sc : Scope) (x : Str) : Bool := match sc.names.lookup x with
  | some .local => true
  | some .cell => true
  | some .free => true
  | _ => false
def locB (sc : Scope) (x : Str) : Bool := match sc.names.lookup x with
  | some .local => true
  | some .cell => true
  | _ => false
def glB (sc : Scope) (x : Str) : Bool := decide (sc.names.lookup x = some .globalImplicit)
theorem visB_ok {sc : Scope} {x : Str} (h : visB sc x = true) : Vis sc x := by
  unfold visB at h
  unfold Vis
  cases e : sc.names.lookup x with
  | none => rw [e] at h; cases h
  | some k => rw [e] at h; cases k <;> first | (simp; done) | cases h
theorem locB_ok {sc : Scope} {x : Str} (h : locB sc x = true) : L2.Loc sc x := by
  unfold locB at h
  unfold L2.Loc
  cases e : sc.names.lookup x with
  | none => rw [e] at h; cases h
  | some k => rw [e] at h; cases k <;> first | (simp; done) | cases h
def plainName (x : Str) : Bool := !(x == ("__debug__" : Str)) && !(x == ("__classdict__" : Str))
/-- how texts become short forms -/
structure Cmp where
  e : Sx → Expr → Option Ex
  t : Sx → Expr → Option Tx
  i : Sx → Expr → Expr → Option Ix
  g : Sx → Expr → Option Tg
  s : Sx → Stmt → Option Sm
section
variable (gt : Ge)
def cA (f : Expr → Option Ex) : List Expr → Option (List Ex)
  | [] => some []
  | e :: es => (f e).bind fun x => (cA f es).bind fun xs => some (x :: xs)
def cSs (f : Stmt → Option Sm) : List Stmt → Option (List Sm)
  | [] => some []
  | e :: es => (f e).bind fun x => (cSs f es).bind fun xs => some (x :: xs)
def cGs (f : Expr → Option Tg) : List Expr → Option (List Tg)
  | [] => some []
  | e :: es => (f e).bind fun x => (cGs f es).bind fun xs => some (x :: xs)
def cAS (f : Expr → Option Ex) : List Expr → Option (List Bool × List Ex)
  | [] => some ([], [])
  | .Starred e _ :: es => (f e).bind fun x => (cAS f es).bind fun q => some (true :: q.1, x :: q.2)
  | e :: es => (f e).bind fun x => (cAS f es).bind fun q => some (false :: q.1, x :: q.2)
def cPs (f : Expr → Option Ex) : List (Option Expr) → List Expr → Option (List Ex × List Ex)
  | [], [] => some ([], [])
  | some k :: ks, v :: vs => (f k).bind fun x => (f v).bind fun y => (cPs f ks vs).bind fun q => some (x :: q.1, y :: q.2)
  | _, _ => none
def cName (S : Sx) (x : Str) : Option Ex := if plainName x then (if visB S.sc x then (place S.N x).map .loc else if glB S.sc x then match gt.g.lookup x with
    | some (.cst d) => some (.cst d)
    | _ => none else none) else none
def okSB (s : List Nat) : Bool := s.all (fun c => decide (c < 1114112)) && decide (s.length ≤ 16777216)
def cConst : Const → Option Ex
  | .none => some (.cst .non)
  | .bool b => some (.cst (.bl b))
  | .int i => some (.cst (.int i))
  | .str x => if okSB x.cps.toList then some (.cst (.str x.cps.toList)) else none
  | _ => none
def cOp : Operator → Option Nat
  | .Add => some 0
  | .Sub => some 1
  | .Mult => some 2
  | .Mod => some 3
  | .FloorDiv => some 4
  | .Pow => some 5
  | _ => none
def cCmp : CmpOp → Nat
  | .Lt => 0
  | .LtE => 1
  | .Gt => 2
  | .GtE => 3
  | .Eq => 4
  | .NotEq => 5
  | .In => 6
  | .NotIn => 7
  | .Is => 8
  | .IsNot => 9
def cTs (f : Expr → Option Tx) : List Expr → Option (List Tx)
  | [] => some []
  | e :: es => (f e).bind fun x => (cTs f es).bind fun xs => some (x :: xs)
def boolX (op : BoolOp) (xs : List Ex) : Ex := match op with
  | .And => .and xs
  | .Or => .or xs
def boolY (op : BoolOp) (xs : List Tx) : Tx := match op with
  | .And => .and xs
  | .Or => .or xs
def cBool (f : Expr → Option Ex) (op : BoolOp) (es : List Expr) : Option Ex := (cA f es).map (boolX op)
def cBoolT (f : Expr → Option Tx) (op : BoolOp) (es : List Expr) : Option Tx := (cTs f es).map (boolY op)
def cO (f : Expr → Option Ex) : Option Expr → Option (Option Ex)
  | none => some none
  | some e => (f e).map some
def cSub (f : Expr → Option Ex) (a : Expr) : Expr → Option Ex
  | .Slice lo hi none _ => (f a).bind fun x => (cO f lo).bind fun l => (cO f hi).bind fun u => some (.sl x l u)
  | .Slice none none (some (.UnaryOp .USub (.Constant (.int 1) _ _) _)) _ => (f a).map .rev
  | b => if !isSl b then (f a).bind fun x => (f b).bind fun y => some (.ix x y) else none
def bfName : List (Str × Nat) := [("len", 0), ("all", 1), ("any", 2), ("sum", 3), ("max", 4), ("min", 5), ("int", 6), ("list", 7), ("tuple", 8), ("sorted", 9), ("str", 10)]
def tyCode : List (Str × Nat) := [("str", 0), ("list", 1), ("tuple", 2), ("int", 3), ("bool", 4), ("dict", 5)]
def mtName : List (Str × Nat) := [("append", 0), ("extend", 1), ("pop", 2), ("get", 4), ("setdefault", 5), ("join", 6)]
def mnName : List (Str × Nat) := [("max", 0), ("min", 1)]
def cCall (f : Expr → Option Ex) (S : Sx) (x : Str) (args : List Expr) : Option Ex := if plainName x && glB S.sc x && noStars args then match gt.g.lookup x with
    | some (.fn k n) => if decide (args.length = n) then (cA f args).map (.call k) else none
    | some (.cls c k n) => if decide (args.length = n) && !args.isEmpty then (cA f args).map (.mk c k) else none
    | some _ => none
    | none => match args with
      | [.Call (.Name y _) [a] [] _] => if glB S.sc y && (gt.g.lookup y).isNone && !isStar a && decide (y = "set") && decide (x = "len") then (f a).map .lenS
          else if glB S.sc y && (gt.g.lookup y).isNone && !isStar a && decide (y = "set") && decide (x = "sorted") then (f a).map .srtS
          else if glB S.sc y && (gt.g.lookup y).isNone && !isStar a && decide (y = "range") && decide (x = "list") then (f a).map .lrg
          else match bfName.lookup x with
            | some k => (f (args.getD 0 (.Constant .none 0 ⟨0, 0, 0, 0⟩))).map (.bf1 k)
            | none => none
      | [.Call (.Name y _) [a, b] [] _] => if glB S.sc y && (gt.g.lookup y).isNone && !isStar a && !isStar b && decide (y = "zip") && decide (x = "dict") then (f a).bind fun p => (f b).bind fun q => some (.dz p q)
          else match bfName.lookup x with
            | some k => (f (args.getD 0 (.Constant .none 0 ⟨0, 0, 0, 0⟩))).map (.bf1 k)
            | none => none
      | [a] => match bfName.lookup x with
        | some k => (f a).map (.bf1 k)
        | none => none
      | [a, .Name y q] => if decide (x = "isinstance") then (if glB S.sc y then match gt.g.lookup y with
            | some (.cls c _ _) => if plainName y then (f a).map (.isc c) else none
            | some _ => none
            | none => match tyCode.lookup y with
              | some k => (f a).map fun z => .isi z [k]
              | none => none else none)
          else match mnName.lookup x with
            | some k => (cA f [a, .Name y q]).map (.bfN k)
            | none => none
      | [a, .Tuple [.Name y _, .Name z _] _ _] => if decide (x = "isinstance") && glB S.sc y && (gt.g.lookup y).isNone && glB S.sc z && (gt.g.lookup z).isNone then match tyCode.lookup y, tyCode.lookup z with
          | some k, some j => (f a).map fun q => .isi q [k, j]
          | _, _ => none else none
      | a :: b :: r => match mnName.lookup x with
          | some k => (cA f (a :: b :: r)).map (.bfN k)
          | none => none
      | _ => none else none
def cMeth (f : Expr → Option Ex) (o : Expr) (m : Str) (args : List Expr) (line : Bool) : Option Ex := if okBase o && noStars args && line && decide (args.length < 30) then match gt.a.lookup m with
    | some (.met c g n) => if decide (args.length = n) then (f o).bind fun x => (cA f args).bind fun xs => some (.met c g x xs) else none
    | some _ => none
    | none => match args with
    | [] => if decide (m = "clear") then (f o).map fun x => .mth 3 x [] else none
    | _ => match mtName.lookup m with
      | some k => (f o).bind fun x => (cA f args).bind fun xs => some (.mth k x xs)
      | none => none else none
def cAttr (f : Expr → Option Ex) (o : Expr) (nm : Str) : Option Ex := if okBase o then match gt.a.lookup nm with
    | some (.fld k) => (f o).map (.fld k)
    | some (.prp c g) => (f o).map (.prp c g)
    | _ => none else none
def ownOf (S : Sx) (scope : Scope) : List (Str × Nat) := scope.names.filterMap fun y => match y.2 with
  | .local => (place S.N y.1).map fun i => (y.1, i)
  | .cell => (place S.N y.1).map fun i => (y.1, i)
  | _ => none
def inner (S : Sx) (scope : Scope) : Sx := ⟨S.N, relS scope S.sc, some scope⟩
mutual
def slots : Tg → List Nat
  | .nam i => [i]
  | .tup ts => slotsL ts
  | .sub _ _ => []
def slotsL : List Tg → List Nat
  | [] => []
  | t :: r => slots t ++ slotsL r
end
def isSet : Expr → Bool
  | .Set _ _ _ => true
  | _ => false
def cIfs (f : Expr → Option Tx) : List Expr → Option (Option Tx)
  | [] => some none
  | [c] => (f c).map some
  | _ => none
def cLc (M : Cmp) (S : Sx) (elt tg it : Expr) (ifs : List Expr) (scope : Scope) : Option Ex :=
  let own := ownOf S scope
  if !isSet it && blkC S.N S.sc scope own then
    (M.i S tg it).bind fun i => (M.g (inner S scope) tg).bind fun g => (cIfs (M.t (inner S scope)) ifs).bind fun c => (M.e (inner S scope) elt).bind fun x =>
      if (slots g).all (fun k => (own.map (fun q : Str × Nat => q.2)).contains k) then some (.lc i g c x (own.map (fun q : Str × Nat => q.2))) else none
  else none
def cDc (M : Cmp) (S : Sx) (kx vx tg it : Expr) (ifs : List Expr) (scope : Scope) : Option Ex :=
  let own := ownOf S scope
  if !isSet it && blkC S.N S.sc scope own then
    (M.i S tg it).bind fun i => (M.g (inner S scope) tg).bind fun g => (cIfs (M.t (inner S scope)) ifs).bind fun c => (M.e (inner S scope) kx).bind fun x => (M.e (inner S scope) vx).bind fun y =>
      if (slots g).all (fun k => (own.map (fun q : Str × Nat => q.2)).contains k) then some (.dc i g c x y (own.map (fun q : Str × Nat => q.2))) else none
  else none
def cLc2 (M : Cmp) (S : Sx) (elt tg it : Expr) (ifs : List Expr) (tg1 it1 : Expr) (ifs1 : List Expr) (scope : Scope) : Option Ex :=
  let own := ownOf S scope
  if !isSet it && !isSet it1 && blkC S.N S.sc scope own then
    (M.i S tg it).bind fun i => (M.g (inner S scope) tg).bind fun g => (cIfs (M.t (inner S scope)) ifs).bind fun c => (M.i (inner S scope) tg1 it1).bind fun i1 => (M.g (inner S scope) tg1).bind fun g1 => (cIfs (M.t (inner S scope)) ifs1).bind fun c1 => (M.e (inner S scope) elt).bind fun x =>
      if (slots g).all (fun k => (own.map (fun q : Str × Nat => q.2)).contains k) && (slots g1).all (fun k => (own.map (fun q : Str × Nat => q.2)).contains k) then some (.lc2 i g c i1 g1 c1 x (own.map (fun q : Str × Nat => q.2)) (slots g1)) else none
  else none
def stepCE (M : Cmp) (S : Sx) : Expr → Option Ex
  | .Name x _ => cName gt S x
  | .Constant k _ _ => cConst k
  | .Tuple es _ _ => if noStars es then (cA (M.e S) es).map .tup else (cAS (M.e S) es).map fun q => .tupS q.1 q.2
  | .List es _ => if noStars es then (cA (M.e S) es).map .lst else (cAS (M.e S) es).map fun q => .lstS q.1 q.2
  | .BinOp a op b _ => (cOp op).bind fun o => (M.e S a).bind fun x => (M.e S b).bind fun y => some (.bin o x y)
  | .Compare a [op] [b] _ => if !isSet b then (M.e S a).bind fun x => (M.e S b).bind fun y => some (.cmp (cCmp op) x y) else none
  | .Compare a [op, op'] [b, c] _ => if !isSet c then (M.e S a).bind fun x => (M.e S b).bind fun y => (M.e S c).bind fun z => some (.chn (cCmp op) (cCmp op') x y z) else none
  | .BoolOp op es _ => cBool (M.e S) op es
  | .UnaryOp .Not a _ => (M.e S a).map .not
  | .UnaryOp .USub a _ => (M.e S a).map .neg
  | .IfExp c a b _ => (M.t S c).bind fun k => (M.e S a).bind fun x => (M.e S b).bind fun y => some (.ifx k x y)
  | .Subscript a b _ => cSub (M.e S) a b
  | .Call (.Name x _) args [] _ => cCall gt (M.e S) S x args
  | .Call (.Attribute o m apos) args [] pos => cMeth gt (M.e S) o m args (apos.endLine == pos.line)
  | .ListComp elt [⟨tg, it, ifs, 0⟩] scope _ => cLc M S elt tg it ifs scope
  | .Attribute o nm _ => cAttr gt (M.e S) o nm
  | .ListComp elt [⟨tg, it, ifs, 0⟩, ⟨tg1, it1, ifs1, 0⟩] scope _ => cLc2 M S elt tg it ifs tg1 it1 ifs1 scope
  | .DictComp kx vx [⟨tg, it, ifs, 0⟩] scope _ => cDc M S kx vx tg it ifs scope
  | .Dict [] [] _ => some .dnew
  | .Dict (k :: ks) vs _ => if Nat.ble (ks.length + 1) 15 then (cPs (M.e S) (k :: ks) vs).map fun q => .disp q.1 q.2 else none
  | _ => none
def stepCT (M : Cmp) (S : Sx) : Expr → Option Tx
  | .Compare a [op] [b] _ => if !isSet b then (M.e S a).bind fun x => (M.e S b).bind fun y => some (.cmp (cCmp op) x y) else none
  | .Compare a [op, op'] [b, c] _ => if !isSet c then (M.e S a).bind fun x => (M.e S b).bind fun y => (M.e S c).bind fun z => some (.chn (cCmp op) (cCmp op') x y z) else none
  | .BoolOp op es _ => cBoolT (M.t S) op es
  | .UnaryOp .Not a _ => (M.t S a).map .not
  | e => if plainT e then (M.e S e).map .val else none
def isTup : Expr → Bool
  | .Tuple _ _ _ => true
  | _ => false
def stepCI (M : Cmp) (S : Sx) (tg : Expr) : Expr → Option Ix
  | .Call (.Name x p) [a] [] pos => if decide (x = "range") then (if glB S.sc x && (gt.g.lookup x).isNone && !isStar a then (M.e S a).map .rng1 else none)
      else if decide (x = "enumerate") then (if glB S.sc x && (gt.g.lookup x).isNone && !isStar a && isTup tg then (M.e S a).map .enm else none)
      else (M.e S (.Call (.Name x p) [a] [] pos)).map .seq
  | .Call (.Name x p) [a, b] [] pos => if decide (x = "range") then (if glB S.sc x && (gt.g.lookup x).isNone && !isStar a && !isStar b then (M.e S a).bind fun p => (M.e S b).bind fun q => some (.rng2 p q) else none)
      else if decide (x = "zip") then (if glB S.sc x && (gt.g.lookup x).isNone && !isStar a && !isStar b && isTup tg then (M.e S a).bind fun p => (M.e S b).bind fun q => some (.zip p q) else none)
      else (M.e S (.Call (.Name x p) [a, b] [] pos)).map .seq
  | .Call (.Attribute o nm apos) [] [] pos => if decide (nm = "items") then (if okBase o && isTup tg && (apos.endLine == pos.line) then (M.e S o).map .itm else none)
      else if decide (nm = "values") then (if okBase o && (apos.endLine == pos.line) then (M.e S o).map .vals else none)
      else (M.e S (.Call (.Attribute o nm apos) [] [] pos)).map .seq
  | e => (M.e S e).map .seq
def stepCG (M : Cmp) (S : Sx) : Expr → Option Tg
  | .Name x _ => if locB S.sc x && (S.fn x || decide (S.sc.names.lookup x = some .local)) then (place S.N x).map .nam else none
  | .Tuple es _ _ => if noStars es then (cGs (M.g S) es).map .tup else none
  | .Subscript o i _ => if !isSl i then (M.e S o).bind fun x => (M.e S i).bind fun y => some (.sub x y) else none
  | _ => none
/-- is the value's list stored at once (x = [..]) -/
def tsOf : List Expr → Option (List (Str × Pos))
  | [] => some []
  | .Name x p :: r => (tsOf r).map ((x, p) :: ·)
  | _ => none
/-- a, b = x, y by two stores: 1; by a tuple: 0 -/
def lcl (sc : Scope) (x : Str) : Bool := sc.names.lookup x == some .local
def swC2 (sc : Scope) (ts vs : List Expr) : Nat := match ts, vs with
  | [.Name x px, .Name y py], [a, b] => if !(lcl sc x && lcl sc y && (py.line == px.line)) || [a, b].all (foldedForSure 8) then 0
    else if (py.line == px.line) && !decide (x = y) && ![a, b].all (foldedForSure 8) && ![a, b].all (constantsAlone 8) then 1 else 2
  | ts, vs => if (!(ts.length == 2 || ts.length == 3) || vs.length != ts.length) then 0 else 2
def cPar (M : Cmp) (S : Sx) (ts vs : List Expr) : Option Sm := match ts, vs with
  | [.Name x _, .Name y _], [a, b] => if decide (S.sc.names.lookup x = some .local) && decide (S.sc.names.lookup y = some .local) && noStars [a, b] then
      (place S.N x).bind fun i => (place S.N y).bind fun j => if decide (i ≠ j) then (cA (M.e S) [a, b]).map (.par i j) else none
    else none
  | _, _ => none
def cAsg (M : Cmp) (S : Sx) (tg e : Expr) : Option Sm := match tg, e with
  | .Tuple ts _ _, .Tuple vs _ _ => match swC2 S.sc ts vs with
    | 0 => (M.e S e).bind fun x => (M.g S tg).bind fun g => some (.asg g x)
    | 1 => cPar M S ts vs
    | _ => none
  | .Tuple _ _ _, e => (M.e S e).bind fun x => (M.g S tg).bind fun g => some (.asg g x)
  | .Subscript _ _ _, e => (M.e S e).bind fun x => (M.g S tg).bind fun g => some (.asg g x)
  | .Name y _, .ListComp elt [⟨tg, it, ifs, 0⟩] scope _ => if locB S.sc y && (S.fn y || decide (S.sc.names.lookup y = some .local)) then (place S.N y).bind fun k => match cLc M S elt tg it ifs scope with
      | some (.lc i g c x vs) => some (.setLc k i g c x vs)
      | _ => none else none
  | .Name y _, .ListComp elt [⟨tg, it, ifs, 0⟩, ⟨tg1, it1, ifs1, 0⟩] scope _ => if locB S.sc y && (S.fn y || decide (S.sc.names.lookup y = some .local)) then (place S.N y).bind fun k => match cLc2 M S elt tg it ifs tg1 it1 ifs1 scope with
      | some (.lc2 i g c i1 g1 c1 x vs vs1) => some (.setLc2 k i g c i1 g1 c1 x vs vs1)
      | _ => none else none
  | .Name y _, .DictComp kx vx [⟨tg, it, ifs, 0⟩] scope _ => if locB S.sc y && (S.fn y || decide (S.sc.names.lookup y = some .local)) then (place S.N y).bind fun k => match cDc M S kx vx tg it ifs scope with
      | some (.dc i g c a b vs) => some (.setDc k i g c a b vs)
      | _ => none else none
  | .Name _ _, e => if !isComp e then (M.e S e).bind fun x => (M.g S tg).bind fun g => some (.asg g x) else none
  | _, _ => none
def orBad (f : Stmt → Option Sm) (s : Stmt) : Sm := match f s with
  | some x => x
  | none => .bad
def stepCS (M : Cmp) (S : Sx) : Stmt → Option Sm
  | .Expr e _ => if !isComp e then (M.e S e).map .expr else none
  | .Return (some e) _ => (M.e S e).map .ret
  | .Return none _ => some .retN
  | .Pass _ => some .pass
  | .If c a b _ => (M.t S c).map fun k => .cnd k (a.map (orBad (M.s S))) (b.map (orBad (M.s S)))
  | .Assign [.Attribute o nm _] e _ => match gt.a.lookup nm with
    | some (.fld f) => (M.e S e).bind fun x => (M.e S o).bind fun y => some (.setF f y x)
    | _ => none
  | .Assign [tg] e _ => cAsg M S tg e
  | .For tg it body [] _ => if !isSet it then (M.i S tg it).bind fun i => (M.g S tg).bind fun g => some (.forr i g (body.map (orBad (M.s S)))) else none
  | .While c body [] _ => (M.t S c).map fun k => .whl k (body.map (orBad (M.s S)))
  | _ => none
def cmps : Nat → Cmp
  | 0 => ⟨fun _ _ => none, fun _ _ => none, fun _ _ _ => none, fun _ _ => none, fun _ _ => none⟩
  | n + 1 => ⟨stepCE gt (cmps n), stepCT (cmps n), stepCI gt (cmps n), stepCG (cmps n), stepCS gt (cmps n)⟩
end
end
end PV
set_option Elab.async false
set_option linter.all false
set_option maxRecDepth 100000
set_option maxHeartbeats 2000000
set_option autoImplicit false
namespace PV
noncomputable section
open PySem PySem.Spec PyProof.Rows L2
def bltNames : List Str := ["range", "isinstance", "len", "all", "any", "sum", "max", "min", "int", "list", "tuple", "str", "bool", "dict", "set", "sorted", "zip", "enumerate"]
structure GtOk (G : Gs) (K : PySem.W.Frag) (W : Wd) (ct : CT) (lev : Nat) (gt : Ge) : Prop where
  cst : ∀ x d, gt.g.lookup x = some (.cst d) → ∃ v u, W.mg x = some u ∧ RelV v u ∧ ∀ ρ n H, RelD K ρ n H d v
  fn : ∀ x f n, gt.g.lookup x = some (.fn f n) → ∃ k, k ≤ lev ∧ FOk G K W ct k f x n
  free : ∀ x, x ∈ bltNames → gt.g.lookup x = none → W.mg x = none
  cls : ∀ x c g n, gt.g.lookup x = some (.cls c g n) → c < G.nc ∧ W.mg x = some (.ref (G.cls c)) ∧ ∃ k a, k + 1 ≤ lev ∧ Mk K (G.cls c) a ∧ FAt G K W ct k g a (n + 1)
  fld : ∀ x f, gt.a.lookup x = some (.fld f) → f < G.na ∧ G.att f = x ∧ ∀ c, c < G.nc → Cls K (G.cls c) ∧ NoAttr K (G.cls c) x
  prp : ∀ x c g, gt.a.lookup x = some (.prp c g) → Cls K (G.cls c) ∧ ∃ k p a, k + 1 ≤ lev ∧ PropOf K (G.cls c) x p a ∧ FAt G K W ct k g a 1
  met : ∀ x c g n, gt.a.lookup x = some (.met c g n) → Cls K (G.cls c) ∧ (∀ i, i < G.na → G.att i ≠ x) ∧ ∃ k a, k ≤ lev ∧ Meth K (G.cls c) x a ∧ FAt G K W ct k g a (n + 1)
  isi : ∀ x c g n, gt.g.lookup x = some (.cls c g n) → ICl G K c
  pw : W.P = G.P ∧ W.w = G.w
structure NOk (S : Sx) : Prop where
  nd : S.N.Nodup
  kind : S.sc.kind = .function
structure Snd (G : Gs) (K : PySem.W.Frag) (W : Wd) (lev : Nat) (Mc : Cmp) (E : Evs) : Prop where
  e : ∀ S ex ir, NOk S → Mc.e S ex = some ir → SE G K (GX W lev S) ex (E.e ir)
  t : ∀ S ex ir, NOk S → Mc.t S ex = some ir → STt G K (GX W lev S) ex (E.t ir)
  i : ∀ S tg ex ir, NOk S → Mc.i S tg ex = some ir → SI G K (GX W lev S) tg ex (E.i ir)
  g : ∀ S ex ir, NOk S → Mc.g S ex = some ir → SG G K (GX W lev S) ex (slots ir) (E.g ir)
  s : ∀ S st ir, NOk S → Mc.s S st = some ir → SS G K (GX W lev S) st (E.s ir)
  bd : E.s .bad = fun _ => M.bad
  pw : W.P = G.P ∧ W.w = G.w
section
variable {G : Gs} {K : PySem.W.Frag} {W : Wd} {ct : CT} {lev : Nat} {gt : Ge} {Mc : Cmp} {E : Evs} {S : Sx}
theorem units_of {X : Cx} (h : GX W lev S X) : X.A.units + 65 < cLine := by have := h.room.un; omega
theorem gl_of {X : Cx} {x : Str} (h : GX W lev S X) (e : glB S.sc x = true) : Gl X x := by
  show X.env.scope.names.lookup x = _
  rw [h.sc]
  exact of_decide_eq_true e
theorem free_of (g : GtOk G K W ct lev gt) {X : Cx} {x : Str} (h : GX W lev S X) (hx : x ∈ bltNames) (e : gt.g.lookup x = none) : X.mg x = none := by rw [h.mg]; exact g.free x hx e
theorem cA_ok (sn : Snd G K W lev Mc E) (nk : NOk S) : ∀ {es : List Expr} {irs : List Ex}, noStars es = true → cA (Mc.e S) es = some irs → SA G K (GX W lev S) es (evA E irs)
  | [], irs, _, h => by cases h; exact sa_nil
  | e :: es, irs, hs, h => by
    obtain ⟨x, h1, h⟩ := bindS h
    obtain ⟨xs, h2, h⟩ := bindS h
    cases h
    obtain ⟨s1, s2⟩ := noStars_head hs
    exact sa_cons (sn.e S e x nk h1) (cA_ok sn nk s2 h2) fun X hX => starEach_no s1
theorem cAS_ok (sn : Snd G K W lev Mc E) (nk : NOk S) : ∀ {es : List Expr} {q : List Bool × List Ex}, cAS (Mc.e S) es = some q → SA G K (GX W lev S) es (evAS E q.1 q.2)
  | [], q, h => by cases h; exact sa_nil
  | e :: es, q, h => by
    unfold cAS at h
    split at h
    · rename_i z; cases z
    · rename_i a p r z
      cases z
      obtain ⟨x, h1, h⟩ := bindS h
      obtain ⟨xs, h2, h⟩ := bindS h
      cases h
      exact sa_star (sn.e S a x nk h1) (cAS_ok sn nk h2)
    · rename_i a r hn z
      cases z
      obtain ⟨x, h1, h⟩ := bindS h
      obtain ⟨xs, h2, h⟩ := bindS h
      cases h
      have s1 : isStar e = false := by cases e <;> first | rfl | exact (hn _ _ rfl).elim
      exact sa_cons (sn.e S e x nk h1) (cAS_ok sn nk h2) fun X hX => starEach_no s1
theorem cPs_ok (sn : Snd G K W lev Mc E) (nk : NOk S) {pos : Pos} : ∀ {ks : List (Option Expr)} {vs : List Expr} {q : List Ex × List Ex}, cPs (Mc.e S) ks vs = some q → SPp G K (GX W lev S) pos ks vs (evP E q.1 q.2) ∧ ks.all (·.isSome) = true ∧ ks.length = vs.length
  | [], [], q, h => by cases h; exact ⟨spp_nil, rfl, rfl⟩
  | [], _ :: _, q, h => by cases h
  | none :: _, _, q, h => by cases h
  | some k :: ks, [], q, h => by cases h
  | some k :: ks, v :: vs, q, h => by
    obtain ⟨x, h1, h⟩ := bindS h
    obtain ⟨y, h2, h⟩ := bindS h
    obtain ⟨r, h3, h⟩ := bindS h
    cases h
    obtain ⟨a, b, c⟩ := cPs_ok sn nk (pos := pos) h3
    exact ⟨spp_cons (sn.e S k x nk h1) (sn.e S v y nk h2) a, by rw [List.all_cons, b]; rfl, by rw [List.length_cons, List.length_cons, c]⟩
theorem lookup_mem {α : Type} {x : Str} {v : α} : ∀ {l : List (Str × α)}, l.lookup x = some v → (x, v) ∈ l
  | [], h => by cases h
  | (y, w) :: r, h => by
    rw [List.lookup_cons] at h
    by_cases e : (x == y) = true
    · rw [e] at h
      cases h
      have := eq_of_beq e
      subst this
      simp
    · simp only [Bool.not_eq_true] at e
      rw [e] at h
      exact List.mem_cons_of_mem _ (lookup_mem h)
theorem okSB_ok {s : List Nat} (h : okSB s = true) : OkS s := by
  unfold okSB at h
  rw [Bool.and_eq_true, List.all_eq_true] at h
  exact ⟨fun c hc => of_decide_eq_true (h.1 c hc), of_decide_eq_true h.2⟩
theorem plain_ok {x : Str} (h : plainName x = true) : (x == ("__debug__" : Str)) = false ∧ (x == ("__classdict__" : Str)) = false := by
  unfold plainName at h
  rw [Bool.and_eq_true, Bool.not_eq_true', Bool.not_eq_true'] at h
  exact h
theorem name_ok (gk : GtOk G K W ct lev gt) {x : Str} {pos : Pos} {ir : Ex} (h : cName gt S x = some ir) : SE G K (GX W lev S) (.Name x pos) (stepE ct E ir) := by
  unfold cName at h
  obtain ⟨hp, h⟩ := iteS h
  obtain ⟨p1, p2⟩ := plain_ok hp
  by_cases hv : visB S.sc x = true
  · rw [if_pos hv] at h
    cases e : place S.N x with
    | none => rw [e] at h; cases h
    | some i =>
      rw [e] at h
      cases h
      exact se_loc (fun X hX => by rw [hX.N]; exact place_ok e) (fun X hX => by rw [hX.sc]; exact visB_ok hv) p1 p2
  · rw [if_neg hv] at h
    obtain ⟨hg, h⟩ := iteS h
    cases e : gt.g.lookup x with
    | none => rw [e] at h; cases h
    | some k =>
      rw [e] at h
      cases k with
      | fn f n => cases h
      | cls c g n => cases h
      | cst d =>
        cases h
        obtain ⟨v, u, h1, h2, h3⟩ := gk.cst x d e
        exact se_cst (fun X hX eK => pe_glob (gl_of hX hg) (by rw [hX.mg]; exact h1) h2 p1) h3
theorem const_ok {k : Const} {j : Nat} {pos : Pos} {ir : Ex} (h : cConst k = some ir) : SE G K (GX W lev S) (.Constant k j pos) (stepE ct E ir) := by
  cases k with
  | none => cases h; exact se_cst (fun X hX eK => pe_non) fun _ _ _ => relD_non.mpr rfl
  | bool b => cases h; exact se_cst (fun X hX eK => pe_bl) fun _ _ _ => relD_bl.mpr rfl
  | int i => cases h; exact se_cst (fun X hX eK => pe_int) fun _ _ _ => relD_int.mpr rfl
  | str x =>
    obtain ⟨ho, h⟩ := iteS h
    cases h
    exact se_cst (fun X hX eK => pe_str) fun _ _ _ => relD_str.mpr ⟨rfl, okSB_ok ho⟩
  | _ => cases h
theorem bin_ok {a b : Expr} {op : Operator} {o : Nat} {pos : Pos} {ma mb : Env → PV.M D} (h : cOp op = some o) (ha : SE G K (GX W lev S) a ma) (hb : SE G K (GX W lev S) b mb) : SE G K (GX W lev S) (.BinOp a op b pos) (fun env => M.bind (ma env) fun x => M.bind (mb env) fun y => binD o x y) := by
  cases op with
  | Add => cases h; exact se_binop (fun X hX eK => by subst eK; exact op_addD) sop_add ha hb
  | Sub => cases h; exact se_binop (fun X hX eK => op_sub) sop_sub ha hb
  | Mult => cases h; exact se_binop (fun X hX eK => op_mulD) sop_mul ha hb
  | Mod => cases h; exact se_binop (fun X hX eK => op_mod) sop_mod ha hb
  | FloorDiv => cases h; exact se_binop (fun X hX eK => op_fdiv) sop_fdiv ha hb
  | Pow => cases h; exact se_binop (fun X hX eK => op_pow) sop_pow ha hb
  | _ => cases h
/-- the comparisons -/
theorem pw_of (pw : W.P = G.P ∧ W.w = G.w) {X : Cx} (h : GX W lev S X) : X.prog = G.P ∧ X.w = G.w := ⟨h.prog.trans pw.1, h.w.trans pw.2⟩
theorem cmp_rule (pw : W.P = G.P ∧ W.w = G.w) (op : CmpOp) : ∃ r, (∀ X, GX W lev S X → X.K = K → OpR X (compareOp op) r) ∧ SOp G K r (cmpD (cCmp op)) := by
  cases op with
  | Lt => exact ⟨_, fun X hX eK => op_ltD, sop_lt⟩
  | LtE => exact ⟨_, fun X hX eK => op_leD, sop_le⟩
  | Gt => exact ⟨_, fun X hX eK => op_gtD, sop_gt⟩
  | GtE => exact ⟨_, fun X hX eK => op_geD, sop_ge⟩
  | Eq => exact ⟨rEqD K, fun X hX eK => by subst eK; exact op_eqD (by have := units_of hX; omega), sop_eq⟩
  | NotEq => exact ⟨rNeD K, fun X hX eK => by subst eK; exact op_neD (by have := units_of hX; omega), sop_ne⟩
  | In => exact ⟨rInB G.P G.w K false, fun X hX eK => by subst eK; rw [← (pw_of pw hX).1, ← (pw_of pw hX).2]; exact op_inB (units_of hX), sop_in false⟩
  | NotIn => exact ⟨rInB G.P G.w K true, fun X hX eK => by subst eK; rw [← (pw_of pw hX).1, ← (pw_of pw hX).2]; exact op_notInB (units_of hX), sop_in true⟩
  | Is => exact ⟨_, fun X hX eK => op_isN, sop_is⟩
  | IsNot => exact ⟨_, fun X hX eK => op_notN, sop_isnot⟩
theorem marks_no {op : CmpOp} {b : Expr} (h : isSet b = false) : behindInMarks op b = false := by
  cases b <;> first | rfl | cases h
theorem lastMarks_no {op op' : CmpOp} {b c : Expr} (h : isSet c = false) : lastMarks [op, op'] [b, c] = false := by
  show behindInMarks op' c = false
  exact marks_no h
theorem and_ok (sn : Snd G K W lev Mc E) (nk : NOk S) {pos : Pos} : ∀ {es : List Expr} {irs : List Ex}, cA (Mc.e S) es = some irs → SE G K (GX W lev S) (.BoolOp .And es pos) (evAnd E irs)
  | [], irs, h => by cases h; exact se_never
  | [a], irs, h => by
    obtain ⟨x, h1, h⟩ := bindS h
    cases h
    exact se_one (sn.e S a x nk h1)
  | a :: b :: r, irs, h => by
    obtain ⟨x, h1, h⟩ := bindS h
    obtain ⟨xs, h2, h⟩ := bindS h
    cases h
    have ih := and_ok sn nk (pos := pos) h2
    obtain ⟨y, h3, h2⟩ := bindS h2
    obtain ⟨ys, h4, h2⟩ := bindS h2
    cases h2
    exact se_and (sn.e S a x nk h1) ih
theorem or_ok (sn : Snd G K W lev Mc E) (nk : NOk S) {pos : Pos} : ∀ {es : List Expr} {irs : List Ex}, cA (Mc.e S) es = some irs → SE G K (GX W lev S) (.BoolOp .Or es pos) (evOr E irs)
  | [], irs, h => by cases h; exact se_never
  | [a], irs, h => by
    obtain ⟨x, h1, h⟩ := bindS h
    cases h
    exact se_one (sn.e S a x nk h1)
  | a :: b :: r, irs, h => by
    obtain ⟨x, h1, h⟩ := bindS h
    obtain ⟨xs, h2, h⟩ := bindS h
    cases h
    have ih := or_ok sn nk (pos := pos) h2
    obtain ⟨y, h3, h2⟩ := bindS h2
    obtain ⟨ys, h4, h2⟩ := bindS h2
    cases h2
    exact se_or (sn.e S a x nk h1) ih
theorem sw_never {e : Expr} : SWt G K (GX W lev S) e (fun env => M.bad) := ⟨fun _ _ _ => False, fun X hX eK => ⟨fun _ _ _ _ _ _ _ h => h.elim⟩, fun ρ env h σ H Z hr er hq => hq.elim⟩
theorem andT_ok (sn : Snd G K W lev Mc E) (nk : NOk S) {pos : Pos} : ∀ {es : List Expr} {irs : List Tx}, cTs (Mc.t S) es = some irs → SWt G K (GX W lev S) (.BoolOp .And es pos) (evAndT E irs)
  | [], irs, h => by cases h; exact sw_never
  | [a], irs, h => by
    obtain ⟨x, h1, h⟩ := bindS h
    cases h
    exact sw_one (sn.t S a x nk h1)
  | a :: b :: r, irs, h => by
    obtain ⟨x, h1, h⟩ := bindS h
    obtain ⟨xs, h2, h⟩ := bindS h
    cases h
    have ih := andT_ok sn nk (pos := pos) h2
    obtain ⟨y, h3, h2⟩ := bindS h2
    obtain ⟨ys, h4, h2⟩ := bindS h2
    cases h2
    exact sw_and (sn.t S a x nk h1) ih
theorem orT_ok (sn : Snd G K W lev Mc E) (nk : NOk S) {pos : Pos} : ∀ {es : List Expr} {irs : List Tx}, cTs (Mc.t S) es = some irs → SWt G K (GX W lev S) (.BoolOp .Or es pos) (evOrT E irs)
  | [], irs, h => by cases h; exact sw_never
  | [a], irs, h => by
    obtain ⟨x, h1, h⟩ := bindS h
    cases h
    exact sw_one (sn.t S a x nk h1)
  | a :: b :: r, irs, h => by
    obtain ⟨x, h1, h⟩ := bindS h
    obtain ⟨xs, h2, h⟩ := bindS h
    cases h
    have ih := orT_ok sn nk (pos := pos) h2
    obtain ⟨y, h3, h2⟩ := bindS h2
    obtain ⟨ys, h4, h2⟩ := bindS h2
    cases h2
    exact sw_or (sn.t S a x nk h1) ih
theorem mapS {α β : Type} {o : Option α} {f : α → β} {b : β} (h : o.map f = some b) : ∃ a, o = some a ∧ f a = b := by
  cases o with
  | none => cases h
  | some a => cases h; exact ⟨a, rfl, rfl⟩
theorem cO_ok (sn : Snd G K W lev Mc E) (nk : NOk S) {e : Option Expr} {ir : Option Ex} (h : cO (Mc.e S) e = some ir) : SPo G K (GX W lev S) e (evO E ir) := by
  cases e with
  | none => cases h; exact sp_none
  | some e =>
    obtain ⟨x, h1, rfl⟩ := mapS h
    exact sp_some (sn.e S e x nk h1)
theorem plainIx_no {b : Expr} (h : isSl b = false) : PlainIx b := fun o i => by
  cases b <;> first | rfl | cases h
theorem sub_ok (sn : Snd G K W lev Mc E) (nk : NOk S) {a b : Expr} {pos : Pos} {ir : Ex} (h : cSub (Mc.e S) a b = some ir) : SE G K (GX W lev S) (.Subscript a b pos) (stepE ct E ir) := by
  unfold cSub at h
  split at h
  · obtain ⟨x, h1, h⟩ := bindS h
    obtain ⟨l, h2, h⟩ := bindS h
    obtain ⟨u, h3, h⟩ := bindS h
    cases h
    exact se_slice (sn.e S a x nk h1) (cO_ok sn nk h2) (cO_ok sn nk h3)
  · obtain ⟨x, h1, rfl⟩ := mapS h
    exact se_rev (sn.e S a x nk h1)
  · obtain ⟨hs, h⟩ := iteS h
    obtain ⟨x, h1, h⟩ := bindS h
    obtain ⟨y, h2, h⟩ := bindS h
    cases h
    rw [Bool.not_eq_true'] at hs
    exact se_ix (fun X hX => units_of hX) (fun X hX => pw_of sn.pw hX) (plainIx_no hs) (sn.e S a x nk h1) (sn.e S _ y nk h2)
/-- the built-in functions of one argument -/
theorem bf1_ok (gk : GtOk G K W ct lev gt) {x : Str} {k : Nat} {a : Expr} {p pos : Pos} {m : Env → PV.M D} (hk : bfName.lookup x = some k) (hl : gt.g.lookup x = none) (hg : glB S.sc x = true) (hst : isStar a = false) (ha : SE G K (GX W lev S) a m) :
    SE G K (GX W lev S) (.Call (.Name x p) [a] [] pos) (fun env => M.bind (m env) (bf1D k)) := by
  have hm := lookup_mem hk
  simp only [bfName, List.mem_cons, Prod.mk.injEq, List.not_mem_nil, or_false] at hm
  rcases hm with ⟨rfl, rfl⟩ | ⟨rfl, rfl⟩ | ⟨rfl, rfl⟩ | ⟨rfl, rfl⟩ | ⟨rfl, rfl⟩ | ⟨rfl, rfl⟩ | ⟨rfl, rfl⟩ | ⟨rfl, rfl⟩ | ⟨rfl, rfl⟩ | ⟨rfl, rfl⟩ | ⟨rfl, rfl⟩
  · exact se_blt1 (r := rLenA K) (id := "len") (fun X hX eK => by subst eK; exact call_lenA) (fun X hX => gl_of hX hg) (fun X hX => free_of gk hX (by decide) hl) (by decide +kernel) (by decide) (by decide) hst sc_len ha
  · exact se_blt1 (r := rAll K) (id := "all") (fun X hX eK => by subst eK; exact cr_all hX.calm) (fun X hX => gl_of hX hg) (fun X hX => free_of gk hX (by decide) hl) (by decide +kernel) (by decide) (by decide) hst sc_all ha
  · exact se_blt1 (r := rAny K) (id := "any") (fun X hX eK => by subst eK; exact cr_any hX.calm) (fun X hX => gl_of hX hg) (fun X hX => free_of gk hX (by decide) hl) (by decide +kernel) (by decide) (by decide) hst sc_any ha
  · exact se_blt1 (r := rSum K) (id := "sum") (fun X hX eK => by subst eK; exact cr_sum hX.calm) (fun X hX => gl_of hX hg) (fun X hX => free_of gk hX (by decide) hl) (by decide +kernel) (by decide) (by decide) hst sc_sum ha
  · exact se_blt1 (r := rMax K) (id := "max") (fun X hX eK => by subst eK; exact cr_max hX.calm) (fun X hX => gl_of hX hg) (fun X hX => free_of gk hX (by decide) hl) (by decide +kernel) (by decide) (by decide) hst sc_max ha
  · exact se_blt1 (r := rMinL K) (id := "min") (fun X hX eK => by subst eK; exact cr_minL hX.calm (units_of hX)) (fun X hX => gl_of hX hg) (fun X hX => free_of gk hX (by decide) hl) (by decide +kernel) (by decide) (by decide) hst sc_minL ha
  · exact se_bty1 (T := "int") (fun X hX eK => call_int1) (fun X hX => gl_of hX hg) (fun X hX => free_of gk hX (by decide) hl) (by decide +kernel) (by decide) (by decide) hst sc_int ha
  · exact se_bty1 (r := rListA K) (T := "list") (fun X hX eK => by subst eK; exact call_listA hX.calm) (fun X hX => gl_of hX hg) (fun X hX => free_of gk hX (by decide) hl) (by decide +kernel) (by decide) (by decide) hst sc_list ha
  · exact se_bty1 (r := rTupX K) (T := "tuple") (fun X hX eK => by subst eK; exact call_tupX hX.calm) (fun X hX => gl_of hX hg) (fun X hX => free_of gk hX (by decide) hl) (by decide +kernel) (by decide) (by decide) hst sc_tupX ha
  · exact se_blt1 (r := rSortA K) (id := "sorted") (fun X hX eK => by subst eK; exact call_sortA hX.calm) (fun X hX => gl_of hX hg) (fun X hX => free_of gk hX (by decide) hl) (by decide +kernel) (by decide) (by decide) hst sc_sort ha
  · exact se_bty1 (T := "str") (fun X hX eK => SkE.call_str_str) (fun X hX => gl_of hX hg) (fun X hX => free_of gk hX (by decide) hl) (by decide +kernel) (by decide) (by decide) hst sc_str ha
theorem bfN_ok (gk : GtOk G K W ct lev gt) {x : Str} {k : Nat} {e : Expr} {es : List Expr} {p pos : Pos} {m : Env → PV.M (List D)} (hk : mnName.lookup x = some k) (hl : gt.g.lookup x = none) (hg : glB S.sc x = true) (hs : noStars (e :: es) = true) (ha : SA G K (GX W lev S) (e :: es) m) :
    SE G K (GX W lev S) (.Call (.Name x p) (e :: es) [] pos) (fun env => M.bind (m env) (bfND k)) := by
  have hm := lookup_mem hk
  simp only [mnName, List.mem_cons, Prod.mk.injEq, List.not_mem_nil, or_false] at hm
  rcases hm with ⟨rfl, rfl⟩ | ⟨rfl, rfl⟩
  · exact se_bltN (r := rMaxN) (id := "max") (fun X hX eK => cr_maxN hX.calm) (fun X hX => gl_of hX hg) (fun X hX => free_of gk hX (by decide) hl) (by decide +kernel) (by decide) (by decide) hs sc_maxN ha
  · exact se_bltN (r := rMin2 K) (id := "min") (fun X hX eK => by subst eK; exact cr_min2 hX.calm (units_of hX)) (fun X hX => gl_of hX hg) (fun X hX => free_of gk hX (by decide) hl) (by decide +kernel) (by decide) (by decide) hs sc_minN ha
theorem ty_of {y : Str} {k : Nat} (h : tyCode.lookup y = some k) : y = Str.ofString (tyN k) ∧ k < 6 ∧ y ∈ bltNames := by
  have hm := lookup_mem h
  simp only [tyCode, List.mem_cons, Prod.mk.injEq, List.not_mem_nil, or_false] at hm
  rcases hm with ⟨rfl, rfl⟩ | ⟨rfl, rfl⟩ | ⟨rfl, rfl⟩ | ⟨rfl, rfl⟩ | ⟨rfl, rfl⟩ | ⟨rfl, rfl⟩ <;> exact ⟨rfl, by decide, by decide⟩
theorem call_ok (gk : GtOk G K W ct lev gt) (sn : Snd G K W lev Mc E) (nk : NOk S) {x : Str} {args : List Expr} {p pos : Pos} {ir : Ex} (h : cCall gt (Mc.e S) S x args = some ir) : SE G K (GX W lev S) (.Call (.Name x p) args [] pos) (stepE ct E ir) := by
  unfold cCall at h
  obtain ⟨hc, h⟩ := iteS h
  rw [Bool.and_eq_true, Bool.and_eq_true] at hc
  obtain ⟨⟨hp, hg⟩, hs⟩ := hc
  cases e : gt.g.lookup x with
  | some q =>
    rw [e] at h
    cases q with
    | cst d => cases h
    | fn k n =>
      obtain ⟨hn, h⟩ := iteS h
      obtain ⟨xs, h1, rfl⟩ := mapS h
      obtain ⟨lv, hl, F⟩ := gk.fn x k n e
      cases args with
      | nil =>
        cases h1
        have : n = 0 := (of_decide_eq_true hn).symm
        subst this
        exact se_call0 F hl (of_decide_eq_true hg) (plain_ok hp).1
      | cons a r =>
        have hA := cA_ok sn nk hs h1
        obtain ⟨y, h2, h1⟩ := bindS h1
        obtain ⟨ys, h3, h1⟩ := bindS h1
        cases h1
        exact se_call F hl (of_decide_eq_true hg) (plain_ok hp).1 hs hA
    | cls c k n =>
      obtain ⟨hn, h⟩ := iteS h
      obtain ⟨xs, h1, rfl⟩ := mapS h
      obtain ⟨hc, hm, lv, a, hl, M1, F⟩ := gk.cls x c k n e
      rw [Bool.and_eq_true] at hn
      cases args with
      | nil => cases hn.2
      | cons a r => exact se_mk F hl hc M1 hm (of_decide_eq_true hg) (plain_ok hp).1 hs (cA_ok sn nk hs h1)
  | none =>
    rw [e] at h
    simp only at h
    split at h
    · rename_i y py a pos2 hh
      clear hh
      simp only [List.getD_cons_zero] at h
      by_cases c1 : (glB S.sc y && (gt.g.lookup y).isNone && !isStar a && decide (y = "set") && decide (x = "len")) = true
      · rw [if_pos c1] at h
        simp only [Bool.and_eq_true, Bool.not_eq_true', Option.isNone_iff_eq_none] at c1
        obtain ⟨⟨⟨⟨g2, l2⟩, st⟩, ey⟩, ex⟩ := c1
        have ey := of_decide_eq_true ey
        have ex := of_decide_eq_true ex
        subst ex ey
        obtain ⟨z, h1, rfl⟩ := mapS h
        exact se_lenST (fun X hX => hX.calm) (fun X hX => ⟨gl_of hX hg, free_of gk hX (by decide) e⟩) (fun X hX => ⟨gl_of hX g2, free_of gk hX (by decide) l2⟩) st (sn.e S a z nk h1)
      rw [if_neg c1] at h
      by_cases c2 : (glB S.sc y && (gt.g.lookup y).isNone && !isStar a && decide (y = "set") && decide (x = "sorted")) = true
      · rw [if_pos c2] at h
        simp only [Bool.and_eq_true, Bool.not_eq_true', Option.isNone_iff_eq_none] at c2
        obtain ⟨⟨⟨⟨g2, l2⟩, st⟩, ey⟩, ex⟩ := c2
        have ey := of_decide_eq_true ey
        have ex := of_decide_eq_true ex
        subst ex ey
        obtain ⟨z, h1, rfl⟩ := mapS h
        exact se_srtST (fun X hX => hX.calm) (fun X hX => ⟨gl_of hX hg, free_of gk hX (by decide) e⟩) (fun X hX => ⟨gl_of hX g2, free_of gk hX (by decide) l2⟩) st (sn.e S a z nk h1)
      rw [if_neg c2] at h
      by_cases c3 : (glB S.sc y && (gt.g.lookup y).isNone && !isStar a && decide (y = "range") && decide (x = "list")) = true
      · rw [if_pos c3] at h
        simp only [Bool.and_eq_true, Bool.not_eq_true', Option.isNone_iff_eq_none] at c3
        obtain ⟨⟨⟨⟨g2, l2⟩, st⟩, ey⟩, ex⟩ := c3
        have ey := of_decide_eq_true ey
        have ex := of_decide_eq_true ex
        subst ex ey
        obtain ⟨z, h1, rfl⟩ := mapS h
        exact se_lrg (fun X hX => hX.calm) (fun X hX => ⟨gl_of hX hg, free_of gk hX (by decide) e⟩) (fun X hX => ⟨gl_of hX g2, free_of gk hX (by decide) l2⟩) st (sn.e S a z nk h1)
      rw [if_neg c3] at h
      cases e2 : bfName.lookup x with
      | none => rw [e2] at h; cases h
      | some k =>
        rw [e2] at h
        obtain ⟨z, h1, rfl⟩ := mapS h
        exact bf1_ok gk e2 e hg (noStars_head hs).1 (sn.e S _ z nk h1)
    · rename_i y py a b pos2 hh
      clear hh
      simp only [List.getD_cons_zero] at h
      by_cases c1 : (glB S.sc y && (gt.g.lookup y).isNone && !isStar a && !isStar b && decide (y = "zip") && decide (x = "dict")) = true
      · rw [if_pos c1] at h
        simp only [Bool.and_eq_true, Bool.not_eq_true', Option.isNone_iff_eq_none] at c1
        obtain ⟨⟨⟨⟨⟨g2, l2⟩, st⟩, st2⟩, ey⟩, ex⟩ := c1
        have ey := of_decide_eq_true ey
        have ex := of_decide_eq_true ex
        subst ex ey
        obtain ⟨z, h1, h⟩ := bindS h
        obtain ⟨z2, h2, h⟩ := bindS h
        cases h
        exact se_dz (fun X hX => hX.calm) (fun X hX => ⟨gl_of hX g2, free_of gk hX (by decide) l2⟩) (fun X hX => ⟨gl_of hX hg, free_of gk hX (by decide) e⟩) st st2 (sn.e S a z nk h1) (sn.e S b z2 nk h2)
      rw [if_neg c1] at h
      cases e2 : bfName.lookup x with
      | none => rw [e2] at h; cases h
      | some k =>
        rw [e2] at h
        obtain ⟨z, h1, rfl⟩ := mapS h
        exact bf1_ok gk e2 e hg (noStars_head hs).1 (sn.e S _ z nk h1)
    · rename_i a n1 n2 hh
      cases e2 : bfName.lookup x with
      | none => rw [e2] at h; cases h
      | some k =>
        rw [e2] at h
        obtain ⟨y, h1, rfl⟩ := mapS h
        exact bf1_ok gk e2 e hg (noStars_head hs).1 (sn.e S a y nk h1)
    · rename_i a y py hh
      clear hh
      by_cases hx : decide (x = "isinstance") = true
      · rw [if_pos hx] at h
        have hx := of_decide_eq_true hx
        subst hx
        obtain ⟨hgy, hq⟩ := iteS h
        cases ey : gt.g.lookup y with
        | some q =>
          rw [ey] at hq
          cases q with
          | fn k n => cases hq
          | cst d => cases hq
          | cls c g n =>
            obtain ⟨py2, hq⟩ := iteS hq
            obtain ⟨z, h1, rfl⟩ := mapS hq
            obtain ⟨_, mg, _⟩ := gk.cls y c g n ey
            exact se_isc (gk.isi y c g n ey) (fun X hX => gl_of hX hg) (fun X hX => free_of gk hX (by decide) e) (fun X hX => gl_of hX hgy) (fun X hX => by rw [hX.mg]; exact mg) (plain_ok py2).1 (noStars_head hs).1 (sn.e S a z nk h1)
        | none =>
          rw [ey] at hq
          cases e2 : tyCode.lookup y with
          | none => rw [e2] at hq; cases hq
          | some k =>
            rw [e2] at hq
            obtain ⟨z, h1, rfl⟩ := mapS hq
            obtain ⟨rfl, hk, hb⟩ := ty_of e2
            exact se_isi1 hk (fun X hX => gl_of hX hg) (fun X hX => free_of gk hX (by decide) e) (fun X hX => gl_of hX hgy) (fun X hX => free_of gk hX hb ey) (noStars_head hs).1 (sn.e S a z nk h1)
      · rw [if_neg hx] at h
        cases e2 : mnName.lookup x with
        | none => rw [e2] at h; cases h
        | some k =>
          rw [e2] at h
          obtain ⟨z, h1, rfl⟩ := mapS h
          exact bfN_ok gk e2 e hg hs (cA_ok sn nk hs h1)
    · rename_i a y py z pz kk pp hh
      obtain ⟨hc, hq⟩ := iteS h
      clear h hh
      simp only [Bool.and_eq_true] at hc
      obtain ⟨⟨⟨⟨hx, hgy⟩, hly⟩, hgz⟩, hlz⟩ := hc
      have hx := of_decide_eq_true hx
      subst hx
      cases e2 : tyCode.lookup y with
      | none => rw [e2] at hq; cases hq
      | some k =>
        cases e3 : tyCode.lookup z with
        | none => rw [e2, e3] at hq; cases hq
        | some j =>
          rw [e2, e3] at hq
          obtain ⟨q, h1, rfl⟩ := mapS hq
          obtain ⟨rfl, hk, hb⟩ := ty_of e2
          obtain ⟨rfl, hj, hb2⟩ := ty_of e3
          rw [Option.isNone_iff_eq_none] at hly hlz
          exact se_isi2 hk hj (fun X hX => gl_of hX hg) (fun X hX => free_of gk hX (by decide) e) (fun X hX => gl_of hX hgy) (fun X hX => free_of gk hX hb hly) (fun X hX => gl_of hX hgz) (fun X hX => free_of gk hX hb2 hlz) (noStars_head hs).1 (sn.e S a q nk h1)
    · rename_i a b r _ _ hh
      cases e2 : mnName.lookup x with
      | none => rw [e2] at h; cases h
      | some k =>
        rw [e2] at h
        obtain ⟨z, h1, rfl⟩ := mapS h
        exact bfN_ok gk e2 e hg hs (cA_ok sn nk hs h1)
    · cases h
theorem alt_app {X : Cx} : Alt X "append" (tyM 1) "list.append" rAppend := ⟨PySem.F.plainAttrs_list, PySem.F.slot_list_append, PySem.F.type_list_append, fun pins s σ H x xs v us Q I rx rs q => mt_append pins s σ H x xs v us Q I rx rs q⟩
theorem alt_ext {X : Cx} : Alt X "extend" (tyM 1) "list.extend" rExtend := ⟨PySem.F.plainAttrs_list, PySem.F.slot_list_extend, PySem.F.type_list_extend, fun pins s σ H x xs v us Q I rx rs q => mt_extend pins s σ H x xs v us Q I rx rs q⟩
theorem alt_pop {X : Cx} : Alt X "pop" (tyM 1) "list.pop" rPopAt := ⟨PySem.F.plainAttrs_list, PySem.F.slot_list_pop, PySem.F.type_list_pop, fun pins s σ H x xs v us Q I rx rs q => mt_popAt pins s σ H x xs v us Q I rx rs q⟩
theorem alt_join {X : Cx} : Alt X "join" (tyM 0) "str.join" (rJoin X.K) := ⟨PySem.F.plainAttrs_str, PySem.F.slot_str_join, PySem.F.type_str_join, fun pins s σ H x xs v us Q I rx rs q => mt_join pins s σ H x xs v us Q I rx rs q⟩
theorem alt_clr {X : Cx} : Alt X "clear" (tyM 1) "list.clear" rClear := ⟨PySem.F.plainAttrs_list, PySem.F.slot_list_clear, PySem.F.type_list_clear, fun pins s σ H x xs v us Q I rx rs q => mt_clear pins s σ H x xs v us Q I rx rs q⟩
theorem meth_ok (gk : GtOk G K W ct lev gt) (sn : Snd G K W lev Mc E) (nk : NOk S) {o : Expr} {m : Str} {args : List Expr} {apos pos : Pos} {ir : Ex} (h : cMeth gt (Mc.e S) o m args (apos.endLine == pos.line) = some ir) : SE G K (GX W lev S) (.Call (.Attribute o m apos) args [] pos) (stepE ct E ir) := by
  unfold cMeth at h
  obtain ⟨hc, h⟩ := iteS h
  simp only [Bool.and_eq_true] at hc
  obtain ⟨⟨⟨hb, hs⟩, hl⟩, hn⟩ := hc
  have hn := of_decide_eq_true hn
  cases ea : gt.a.lookup m with
  | some q =>
    rw [ea] at h
    cases q with
    | fld f => cases h
    | prp c g => cases h
    | met c g n =>
      obtain ⟨hn2, h⟩ := iteS h
      obtain ⟨x, h1, h⟩ := bindS h
      obtain ⟨xs, h2, h⟩ := bindS h
      cases h
      obtain ⟨hc, hat, k, a, hk, hm, F⟩ := gk.met m c g n ea
      have hO := sn.e S o x nk h1
      cases args with
      | nil => cases h2; exact se_met0 F hk hb hl hc hm hat hO
      | cons e es =>
        have hA := cA_ok sn nk hs h2
        obtain ⟨y, h3, h2⟩ := bindS h2
        obtain ⟨ys, h4, h2⟩ := bindS h2
        cases h2
        exact se_met F hk hb hs hn hl hc hm hat hO hA
  | none =>
  rw [ea] at h
  cases args with
  | nil =>
    simp only at h
    obtain ⟨hm, h⟩ := iteS h
    have hm := of_decide_eq_true hm
    subst hm
    obtain ⟨x, h1, rfl⟩ := mapS h
    exact se_mt0 (k1 := 1) (k2 := 1) (fun X hX => pw_of sn.pw hX) (fun X hX eK => alt_clr) (fun X hX eK => alt_clr) sm_clr sm_clr hb hl (sn.e S o x nk h1)
  | cons a r =>
    simp only at h
    cases e2 : mtName.lookup m with
    | none => rw [e2] at h; cases h
    | some k =>
      rw [e2] at h
      obtain ⟨x, h1, h⟩ := bindS h
      obtain ⟨xs, h2, h⟩ := bindS h
      cases h
      have hA := cA_ok sn nk hs h2
      have hO := sn.e S o x nk h1
      have hm := lookup_mem e2
      simp only [mtName, List.mem_cons, Prod.mk.injEq, List.not_mem_nil, or_false] at hm
      rcases hm with ⟨rfl, rfl⟩ | ⟨rfl, rfl⟩ | ⟨rfl, rfl⟩ | ⟨rfl, rfl⟩ | ⟨rfl, rfl⟩ | ⟨rfl, rfl⟩
      · exact se_mt (k1 := 1) (k2 := 1) (fun X hX => pw_of sn.pw hX) (fun X hX eK => alt_app) (fun X hX eK => alt_app) sm_app sm_app hb hs hn hl hO hA
      · exact se_mt (k1 := 1) (k2 := 1) (fun X hX => pw_of sn.pw hX) (fun X hX eK => alt_ext) (fun X hX eK => alt_ext) sm_ext sm_ext hb hs hn hl hO hA
      · exact se_mt (k1 := 1) (k2 := 5) (fun X hX => pw_of sn.pw hX) (fun X hX eK => alt_pop) (fun X hX eK => alt_popD) sm_pop sm_popD hb hs hn hl hO hA
      · exact se_mt (k1 := 5) (k2 := 5) (fun X hX => pw_of sn.pw hX) (fun X hX eK => by rw [← eK, ← (pw_of sn.pw hX).1, ← (pw_of sn.pw hX).2]; exact alt_get (units_of hX)) (fun X hX eK => by rw [← eK, ← (pw_of sn.pw hX).1, ← (pw_of sn.pw hX).2]; exact alt_get (units_of hX)) sm_get sm_get hb hs hn hl hO hA
      · exact se_mt (k1 := 5) (k2 := 5) (fun X hX => pw_of sn.pw hX) (fun X hX eK => alt_setd) (fun X hX eK => alt_setd) sm_setd sm_setd hb hs hn hl hO hA
      · exact se_mt (k1 := 0) (k2 := 0) (fun X hX => pw_of sn.pw hX) (fun X hX eK => by rw [← eK]; exact alt_join) (fun X hX eK => by rw [← eK]; exact alt_join) sm_join sm_join hb hs hn hl hO hA

theorem attr_ok (gk : GtOk G K W ct lev gt) (sn : Snd G K W lev Mc E) (nk : NOk S) {o : Expr} {nm : Str} {pos : Pos} {ir : Ex} (h : cAttr gt (Mc.e S) o nm = some ir) : SE G K (GX W lev S) (.Attribute o nm pos) (stepE ct E ir) := by
  unfold cAttr at h
  obtain ⟨hb, h⟩ := iteS h
  cases ea : gt.a.lookup nm with
  | none => rw [ea] at h; cases h
  | some q =>
    rw [ea] at h
    cases q with
    | met c g n => cases h
    | fld f =>
      obtain ⟨x, h1, rfl⟩ := mapS h
      obtain ⟨h2, h3, h4⟩ := gk.fld nm f ea
      exact se_fld hb h2 h3 h4 (sn.e S o x nk h1)
    | prp c g =>
      obtain ⟨x, h1, rfl⟩ := mapS h
      obtain ⟨hc, k, p, a, hk, hp, F⟩ := gk.prp nm c g ea
      exact se_prp F hk hb hc hp (sn.e S o x nk h1)
theorem own_sub {l : List Nat} {g : List Nat} (h : g.all (fun k => l.contains k) = true) : ∀ i, i ∈ g → i ∈ l := fun i hi => by
  rw [List.all_eq_true] at h
  have := h i hi
  simpa using this
theorem relS_kind (scope sc : Scope) : (relS scope sc).kind = scope.kind := rfl
theorem inner_gx {scope : Scope} {X : Cx} (hX : GX W lev S X) (s : Shared) (H : Hp) (A : Addr) (cl : List (Str × Addr)) (fp : List Addr) : GX W lev (inner S scope) (X.blk s H scope (compEnvC scope cl A X.env) fp) :=
  ⟨hX.prog, hX.w, hX.mg, hX.base, hX.N, by
    show relabel scope X.env = relS scope S.sc
    rw [← hX.sc]
    rfl, hX.calm, by
    funext x
    rfl, hX.room, rfl⟩
theorem fold_no {it : Expr} {env : PySem.Env} (h : isSet it = false) : ∀ x, foldedSetIterable it env x = pure x := fun x => by
  cases it <;> first | rfl | cases h
theorem blk_kind {N : List Str} {sc scope : Scope} {own : List (Str × Nat)} (h : blkC N sc scope own = true) : scope.kind = .function := (blkOk_by h).kind
theorem cIfs_ok (sn : Snd G K W lev Mc E) (nk : NOk S) {ifs : List Expr} {ir : Option Tx} (h : cIfs (Mc.t S) ifs = some ir) : STs G K (GX W lev S) ifs (evIf E ir) := by
  match ifs, h with
  | [], h => cases h; exact sts_nil
  | [c], h =>
    obtain ⟨x, h1, rfl⟩ := mapS h
    exact sts_one (sn.t S c x nk h1)
  | _ :: _ :: _, h => cases h
theorem lc_ok (sn : Snd G K W lev Mc E) (nk : NOk S) {elt tg it : Expr} {ifs : List Expr} {scope : Scope} {pos : Pos} {ir : Ex} (h : cLc Mc S elt tg it ifs scope = some ir) : SE G K (GX W lev S) (.ListComp elt [⟨tg, it, ifs, 0⟩] scope pos) (stepE ct E ir) := by
  unfold cLc at h
  simp only at h
  obtain ⟨hc, h⟩ := iteS h
  rw [Bool.and_eq_true, Bool.not_eq_true'] at hc
  obtain ⟨i, h1, h⟩ := bindS h
  obtain ⟨g, h2, h⟩ := bindS h
  obtain ⟨c, h3, h⟩ := bindS h
  obtain ⟨x, h4, h⟩ := bindS h
  obtain ⟨hsl, h⟩ := iteS h
  cases h
  have nk2 : NOk (inner S scope) := ⟨nk.nd, show scope.kind = .function from blk_kind hc.2⟩
  exact se_lc (C' := GX W lev (inner S scope)) (own := ownOf S scope) (fun X hX => hX.calm) (fun X hX => by rw [hX.N]; exact nk.nd) (fun X hX => by rw [hX.N, hX.sc]; exact blkOk_by hc.2) (fun X hX => inner_gx hX) (own_sub hsl) (fun X hX => fold_no hc.1)
    (sn.i S tg it i nk h1) (sn.g _ tg g nk2 h2) (cIfs_ok sn nk2 h3) (sn.e _ elt x nk2 h4)
theorem bool_ok (sn : Snd G K W lev Mc E) (nk : NOk S) {op : BoolOp} {pos : Pos} {es : List Expr} {xs : List Ex} (h : cA (Mc.e S) es = some xs) : SE G K (GX W lev S) (.BoolOp op es pos) (stepE ct E (boolX op xs)) := by
  cases op with
  | And => exact and_ok sn nk h
  | Or => exact or_ok sn nk h
theorem boolT_ok (sn : Snd G K W lev Mc E) (nk : NOk S) {op : BoolOp} {pos : Pos} {es : List Expr} {xs : List Tx} (h : cTs (Mc.t S) es = some xs) : STt G K (GX W lev S) (.BoolOp op es pos) (stepT E (boolY op xs)) := by
  cases op with
  | And => exact (andT_ok sn nk h).st
  | Or => exact (orT_ok sn nk h).st
theorem dc_ok (sn : Snd G K W lev Mc E) (nk : NOk S) {kx vx tg it : Expr} {ifs : List Expr} {scope : Scope} {pos : Pos} {ir : Ex} (h : cDc Mc S kx vx tg it ifs scope = some ir) : SE G K (GX W lev S) (.DictComp kx vx [⟨tg, it, ifs, 0⟩] scope pos) (stepE ct E ir) := by
  unfold cDc at h
  simp only at h
  obtain ⟨hc, h⟩ := iteS h
  rw [Bool.and_eq_true, Bool.not_eq_true'] at hc
  obtain ⟨i, h1, h⟩ := bindS h
  obtain ⟨g, h2, h⟩ := bindS h
  obtain ⟨c, h3, h⟩ := bindS h
  obtain ⟨x, h4, h⟩ := bindS h
  obtain ⟨y, h5, h⟩ := bindS h
  obtain ⟨hsl, h⟩ := iteS h
  cases h
  have nk2 : NOk (inner S scope) := ⟨nk.nd, show scope.kind = .function from blk_kind hc.2⟩
  exact se_dc (C' := GX W lev (inner S scope)) (own := ownOf S scope) (fun X hX => hX.calm) (fun X hX => by rw [hX.N]; exact nk.nd) (fun X hX => by rw [hX.N, hX.sc]; exact blkOk_by hc.2) (fun X hX => inner_gx hX) (own_sub hsl) (fun X hX => fold_no hc.1)
    (sn.i S tg it i nk h1) (sn.g _ tg g nk2 h2) (cIfs_ok sn nk2 h3) (sn.e _ kx x nk2 h4) (sn.e _ vx y nk2 h5)
theorem lc2_ok (sn : Snd G K W lev Mc E) (nk : NOk S) {elt tg it tg1 it1 : Expr} {ifs ifs1 : List Expr} {scope : Scope} {pos : Pos} {ir : Ex} (h : cLc2 Mc S elt tg it ifs tg1 it1 ifs1 scope = some ir) : SE G K (GX W lev S) (.ListComp elt [⟨tg, it, ifs, 0⟩, ⟨tg1, it1, ifs1, 0⟩] scope pos) (stepE ct E ir) := by
  unfold cLc2 at h
  simp only at h
  obtain ⟨hc, h⟩ := iteS h
  simp only [Bool.and_eq_true, Bool.not_eq_true'] at hc
  obtain ⟨⟨c1, c2⟩, c3⟩ := hc
  obtain ⟨i, h1, h⟩ := bindS h
  obtain ⟨g, h2, h⟩ := bindS h
  obtain ⟨c, h3, h⟩ := bindS h
  obtain ⟨i1, k1, h⟩ := bindS h
  obtain ⟨g1, k2, h⟩ := bindS h
  obtain ⟨c1', k3, h⟩ := bindS h
  obtain ⟨x, h4, h⟩ := bindS h
  obtain ⟨hsl, h⟩ := iteS h
  cases h
  rw [Bool.and_eq_true] at hsl
  have nk2 : NOk (inner S scope) := ⟨nk.nd, show scope.kind = .function from blk_kind c3⟩
  exact se_lc2 (C' := GX W lev (inner S scope)) (own := ownOf S scope) (fun X hX => hX.calm) (fun X hX => by rw [hX.N]; exact nk.nd) (fun X hX => by rw [hX.N, hX.sc]; exact blkOk_by c3) (fun X hX => inner_gx hX) (own_sub hsl.1) (fun i hi => hi) (own_sub hsl.2) (fun X hX => fold_no c1) (fun env => fold_no c2)
    (sn.i S tg it i nk h1) (sn.g _ tg g nk2 h2) (cIfs_ok sn nk2 h3) (sn.i _ tg1 it1 i1 nk2 k1) (sn.g _ tg1 g1 nk2 k2) (cIfs_ok sn nk2 k3) (sn.e _ elt x nk2 h4)
theorem e_ok (gk : GtOk G K W ct lev gt) (sn : Snd G K W lev Mc E) (S : Sx) (ex : Expr) (ir : Ex) (nk : NOk S) (h : stepCE gt Mc S ex = some ir) : SE G K (GX W lev S) ex (stepE ct E ir) := by
  unfold stepCE at h
  split at h
  · exact name_ok gk h
  · exact const_ok h
  · rename_i es _ _
    by_cases hs : noStars es = true
    · rw [if_pos hs] at h
      obtain ⟨xs, h1, rfl⟩ := mapS h
      exact se_tup (cA_ok sn nk hs h1)
    · rw [if_neg hs] at h
      obtain ⟨xs, h1, rfl⟩ := mapS h
      exact se_tup (cAS_ok sn nk h1)
  · rename_i es _
    by_cases hs : noStars es = true
    · rw [if_pos hs] at h
      obtain ⟨xs, h1, rfl⟩ := mapS h
      exact se_lst (cA_ok sn nk hs h1)
    · rw [if_neg hs] at h
      obtain ⟨xs, h1, rfl⟩ := mapS h
      exact se_lst (cAS_ok sn nk h1)
  · obtain ⟨o, h0, h⟩ := bindS h
    obtain ⟨x, h1, h⟩ := bindS h
    obtain ⟨y, h2, h⟩ := bindS h
    cases h
    exact bin_ok h0 (sn.e S _ x nk h1) (sn.e S _ y nk h2)
  · obtain ⟨hs, h⟩ := iteS h
    obtain ⟨x, h1, h⟩ := bindS h
    obtain ⟨y, h2, h⟩ := bindS h
    cases h
    rw [Bool.not_eq_true'] at hs
    obtain ⟨r, ho, hr⟩ := cmp_rule (G := G) (K := K) (W := W) (lev := lev) (S := S) sn.pw _
    exact se_cmp ho (marks_no hs) hr (sn.e S _ x nk h1) (sn.e S _ y nk h2)
  · obtain ⟨hs, h⟩ := iteS h
    obtain ⟨x, h1, h⟩ := bindS h
    obtain ⟨y, h2, h⟩ := bindS h
    obtain ⟨z, h3, h⟩ := bindS h
    cases h
    rw [Bool.not_eq_true'] at hs
    obtain ⟨r, ho, hr⟩ := cmp_rule (G := G) (K := K) (W := W) (lev := lev) (S := S) sn.pw _
    obtain ⟨r', ho', hr'⟩ := cmp_rule (G := G) (K := K) (W := W) (lev := lev) (S := S) sn.pw _
    exact se_chain ho ho' (lastMarks_no hs) hr hr' (sn.e S _ x nk h1) (sn.e S _ y nk h2) (sn.e S _ z nk h3)
  · obtain ⟨xs, h1, rfl⟩ := mapS h
    exact bool_ok sn nk h1
  · obtain ⟨x, h1, rfl⟩ := mapS h
    exact se_not (sn.e S _ x nk h1)
  · obtain ⟨x, h1, rfl⟩ := mapS h
    exact se_neg (sn.e S _ x nk h1)
  · obtain ⟨k, h0, h⟩ := bindS h
    obtain ⟨x, h1, h⟩ := bindS h
    obtain ⟨y, h2, h⟩ := bindS h
    cases h
    exact se_ifx (sn.t S _ k nk h0) (sn.e S _ x nk h1) (sn.e S _ y nk h2)
  · exact sub_ok sn nk h
  · exact call_ok gk sn nk h
  · exact meth_ok gk sn nk h
  · exact lc_ok sn nk h
  · exact attr_ok gk sn nk h
  · exact lc2_ok sn nk h
  · exact dc_ok sn nk h
  · cases h; exact se_dnew
  · obtain ⟨hb, h⟩ := iteS h
    obtain ⟨xs, h1, rfl⟩ := mapS h
    obtain ⟨a1, a2, a3⟩ := cPs_ok sn nk h1
    exact se_disp a2 a3 (fun z => by cases z) (Nat.le_of_ble_eq_true hb) a1
  · cases h
theorem t_ok (sn : Snd G K W lev Mc E) (S : Sx) (ex : Expr) (ir : Tx) (nk : NOk S) (h : stepCT Mc S ex = some ir) : STt G K (GX W lev S) ex (stepT E ir) := by
  unfold stepCT at h
  split at h
  · obtain ⟨hs, h⟩ := iteS h
    obtain ⟨x, h1, h⟩ := bindS h
    obtain ⟨y, h2, h⟩ := bindS h
    cases h
    rw [Bool.not_eq_true'] at hs
    obtain ⟨r, ho, hr⟩ := cmp_rule (G := G) (K := K) (W := W) (lev := lev) (S := S) sn.pw _
    exact st_cmp ho (marks_no hs) hr (sn.e S _ x nk h1) (sn.e S _ y nk h2)
  · obtain ⟨hs, h⟩ := iteS h
    obtain ⟨x, h1, h⟩ := bindS h
    obtain ⟨y, h2, h⟩ := bindS h
    obtain ⟨z, h3, h⟩ := bindS h
    cases h
    rw [Bool.not_eq_true'] at hs
    obtain ⟨r, ho, hr⟩ := cmp_rule (G := G) (K := K) (W := W) (lev := lev) (S := S) sn.pw _
    obtain ⟨r', ho', hr'⟩ := cmp_rule (G := G) (K := K) (W := W) (lev := lev) (S := S) sn.pw _
    exact st_chain ho ho' (lastMarks_no hs) hr hr' (sn.e S _ x nk h1) (sn.e S _ y nk h2) (sn.e S _ z nk h3)
  · obtain ⟨xs, h1, rfl⟩ := mapS h
    exact boolT_ok sn nk h1
  · obtain ⟨x, h1, rfl⟩ := mapS h
    exact st_not (sn.t S _ x nk h1)
  · obtain ⟨hp, h⟩ := iteS h
    obtain ⟨x, h1, rfl⟩ := mapS h
    exact st_val hp (sn.e S _ x nk h1)
theorem isTup_ok {e : Expr} (h : isTup e = true) : ∃ a b c, e = .Tuple a b c := by
  cases e <;> first | exact ⟨_, _, _, rfl⟩ | cases h
theorem i_ok (gk : GtOk G K W ct lev gt) (sn : Snd G K W lev Mc E) (S : Sx) (tg ex : Expr) (ir : Ix) (nk : NOk S) (h : stepCI gt Mc S tg ex = some ir) : SI G K (GX W lev S) tg ex (stepI E ir) := by
  have seq : ∀ e, (Mc.e S e).map Ix.seq = some ir → SI G K (GX W lev S) tg e (stepI E ir) := fun e h => by
    obtain ⟨x, h1, rfl⟩ := mapS h
    exact si_seq (fun X hX => pw_of sn.pw hX) (sn.e S _ x nk h1)
  unfold stepCI at h
  split at h
  · rename_i x p a pos
    by_cases c1 : decide (x = "range") = true
    · rw [if_pos c1] at h
      have hx := of_decide_eq_true c1
      subst hx
      obtain ⟨hc, h⟩ := iteS h
      simp only [Bool.and_eq_true, Bool.not_eq_true', Option.isNone_iff_eq_none] at hc
      obtain ⟨x, h1, rfl⟩ := mapS h
      exact si_rng1 (fun X hX => gl_of hX hc.1.1) (fun X hX => free_of gk hX (by decide) hc.1.2) hc.2 (sn.e S _ x nk h1)
    rw [if_neg c1] at h
    by_cases c2 : decide (x = "enumerate") = true
    · rw [if_pos c2] at h
      have hx := of_decide_eq_true c2
      subst hx
      obtain ⟨hc, h⟩ := iteS h
      simp only [Bool.and_eq_true, Bool.not_eq_true', Option.isNone_iff_eq_none] at hc
      obtain ⟨x, h1, rfl⟩ := mapS h
      obtain ⟨ea, eb, ec, rfl⟩ := isTup_ok hc.2
      exact si_enum (fun X hX => gl_of hX hc.1.1.1) (fun X hX => free_of gk hX (by decide) hc.1.1.2) hc.1.2 (sn.e S _ x nk h1)
    rw [if_neg c2] at h
    exact seq _ h
  · rename_i x p a b pos
    by_cases c1 : decide (x = "range") = true
    · rw [if_pos c1] at h
      have hx := of_decide_eq_true c1
      subst hx
      obtain ⟨hc, h⟩ := iteS h
      simp only [Bool.and_eq_true, Bool.not_eq_true', Option.isNone_iff_eq_none] at hc
      obtain ⟨x, h1, h⟩ := bindS h
      obtain ⟨y, h2, h⟩ := bindS h
      cases h
      exact si_rng2 (fun X hX => gl_of hX hc.1.1.1) (fun X hX => free_of gk hX (by decide) hc.1.1.2) hc.1.2 hc.2 (sn.e S _ x nk h1) (sn.e S _ y nk h2)
    rw [if_neg c1] at h
    by_cases c2 : decide (x = "zip") = true
    · rw [if_pos c2] at h
      have hx := of_decide_eq_true c2
      subst hx
      obtain ⟨hc, h⟩ := iteS h
      simp only [Bool.and_eq_true, Bool.not_eq_true', Option.isNone_iff_eq_none] at hc
      obtain ⟨x, h1, h⟩ := bindS h
      obtain ⟨y, h2, h⟩ := bindS h
      cases h
      obtain ⟨ea, eb, ec, rfl⟩ := isTup_ok hc.2
      exact si_zip (fun X hX => gl_of hX hc.1.1.1.1) (fun X hX => free_of gk hX (by decide) hc.1.1.1.2) hc.1.1.2 hc.1.2 (sn.e S _ x nk h1) (sn.e S _ y nk h2)
    rw [if_neg c2] at h
    exact seq _ h
  · rename_i o nm apos pos
    by_cases c1 : decide (nm = "items") = true
    · rw [if_pos c1] at h
      have hx := of_decide_eq_true c1
      subst hx
      obtain ⟨hc, h⟩ := iteS h
      simp only [Bool.and_eq_true] at hc
      obtain ⟨x, h1, rfl⟩ := mapS h
      obtain ⟨ea, eb, ec, rfl⟩ := isTup_ok hc.1.2
      exact si_items (fun X hX => pw_of sn.pw hX) (fun X hX => base_no hc.1.1) hc.2 (sn.e S _ x nk h1)
    rw [if_neg c1] at h
    by_cases c2 : decide (nm = "values") = true
    · rw [if_pos c2] at h
      have hx := of_decide_eq_true c2
      subst hx
      obtain ⟨hc, h⟩ := iteS h
      simp only [Bool.and_eq_true] at hc
      obtain ⟨x, h1, rfl⟩ := mapS h
      exact si_vals (fun X hX => pw_of sn.pw hX) (fun X hX => base_no hc.1) hc.2 (sn.e S _ x nk h1)
    rw [if_neg c2] at h
    exact seq _ h
  · exact seq _ h
theorem cGs_ok (sn : Snd G K W lev Mc E) (nk : NOk S) : ∀ {es : List Expr} {irs : List Tg}, noStars es = true → cGs (Mc.g S) es = some irs → SGs G K (GX W lev S) es (slotsL irs) (evGs E irs) ∧ es.length = irs.length
  | [], irs, _, h => by cases h; exact ⟨sgs_nil, rfl⟩
  | e :: es, irs, hs, h => by
    obtain ⟨x, h1, h⟩ := bindS h
    obtain ⟨xs, h2, h⟩ := bindS h
    cases h
    obtain ⟨s1, s2⟩ := noStars_head hs
    obtain ⟨a, b⟩ := cGs_ok sn nk s2 h2
    exact ⟨sgs_cons s1 (sn.g S e x nk h1) a, by simp [b]⟩
theorem gtup_ok (sn : Snd G K W lev Mc E) (nk : NOk S) {es : List Expr} {xs : List Tg} {k : Nat} {pos : Pos} (hs : noStars es = true) (h1 : cGs (Mc.g S) es = some xs) : SG G K (GX W lev S) (.Tuple es k pos) (slotsL xs) (gTupD xs.length (evGs E xs)) := by
  obtain ⟨a, b⟩ := cGs_ok sn nk hs h1
  rw [← b]
  exact sg_tup (fun X hX => GX.calm hX) hs a
theorem g_ok (sn : Snd G K W lev Mc E) (S : Sx) (ex : Expr) (ir : Tg) (nk : NOk S) (h : stepCG Mc S ex = some ir) : SG G K (GX W lev S) ex (slots ir) (stepG E ir) := by
  unfold stepCG at h
  split at h
  · obtain ⟨hc, h⟩ := iteS h
    rw [Bool.and_eq_true, Bool.or_eq_true] at hc
    obtain ⟨i, h1, rfl⟩ := mapS h
    exact sg_name (fun X hX => by rw [hX.N]; exact nk.nd) (fun X hX => by rw [hX.N]; exact place_ok h1) (fun X hX => by rw [hX.sc]; exact locB_ok hc.1) (fun X hX => by
      rcases hc.2 with z | z
      · exact .inl (by rw [hX.fn]; exact z)
      · exact .inr (by rw [hX.sc]; exact of_decide_eq_true z))
  · obtain ⟨hs, h⟩ := iteS h
    obtain ⟨xs, h1, rfl⟩ := mapS h
    exact gtup_ok sn nk hs h1
  · obtain ⟨hs, h⟩ := iteS h
    rw [Bool.not_eq_true'] at hs
    obtain ⟨x, h1, h⟩ := bindS h
    obtain ⟨y, h2, h⟩ := bindS h
    cases h
    exact sg_sub hs (fun X hX eK => by subst eK; rw [← (pw_of sn.pw hX).1, ← (pw_of sn.pw hX).2]; exact set_all (units_of hX)) ss_set (sn.e S _ x nk h1) (sn.e S _ y nk h2)
  · cases h
end
end
end PV
set_option Elab.async false
set_option linter.all false
set_option maxRecDepth 100000
set_option maxHeartbeats 2000000
set_option autoImplicit false
namespace PV
noncomputable section
open PySem PySem.Spec PyProof.Rows L2
section
variable {G : Gs} {K : PySem.W.Frag} {W : Wd} {ct : CT} {lev : Nat} {gt : Ge} {Mc : Cmp} {E : Evs} {S : Sx}
theorem block_ok (sn : Snd G K W lev Mc E) (nk : NOk S) : ∀ (sts : List Stmt), SSs G K (GX W lev S) sts (evSs E (sts.map (orBad (Mc.s S))))
  | [] => sss_nil
  | st :: r => by
    rw [List.map_cons]
    refine sss_cons ?_ (block_ok sn nk r)
    unfold orBad
    cases e : Mc.s S st with
    | none => rw [sn.bd]; exact ss_never
    | some x => exact sn.s S st x nk e
theorem swN_none {x : Str} {p : Pos} {e : Expr} {env : PySem.Env} : swappedStores [.Name x p] e env = pure none := by cases e <;> rfl
theorem swT_none {ts : List Expr} {k : Nat} {p : Pos} {e : Expr} {env : PySem.Env} (h : isTup e = false) : swappedStores [.Tuple ts k p] e env = pure none := by
  cases e <;> first | rfl | cases h
theorem soleT_no {ts : List Expr} {k : Nat} {p : Pos} {e : Expr} {l : Nat} {env : PySem.Env} : swapsWithSole [.Tuple ts k p] e l env = pure false := by
  cases e <;> rfl
theorem blk_fun {env : PySem.Env} (hk : env.scope.kind = .function) : env.blockKind = .function := by unfold Env.blockKind; rw [hk]; rfl
theorem sw_len {ts vs : List Expr} {k k2 : Nat} {p p2 : Pos} {env : PySem.Env} (h1 : (!(ts.length == 2 || ts.length == 3) || vs.length != ts.length) = true) : swappedStores [.Tuple ts k p] (.Tuple vs k2 p2) env = pure none := by
  unfold swappedStores
  simp only [h1, Bool.true_or, if_true]
theorem sw2_none {x y : Str} {a b : Expr} {px py p p2 : Pos} {k k2 : Nat} {env : PySem.Env} (hk : env.scope.kind = .function) (h : (lcl env.scope x && lcl env.scope y && (py.line == px.line)) = false ∨ [a, b].all (foldedForSure 8) = true) :
    swappedStores [.Tuple [.Name x px, .Name y py] k p] (.Tuple [a, b] k2 p2) env = pure none := by
  unfold swappedStores
  simp only [blk_fun hk, List.length_cons, List.length_nil]
  rw [if_neg (by decide)]
  split
  · rfl
  · rename_i h2
    rcases h with h | h
    · simp only [List.head?_cons, Option.map_some, Option.getD_some, Expr.pos, List.filterMap_cons, List.filterMap_nil, Env.kindOf, beq_self_eq_true, Bool.and_true]
      unfold lcl at h
      cases h3 : (env.scope.names.lookup x == some NameKind.local) with
      | false =>
        by_cases h4 : (env.scope.names.lookup y == some NameKind.local && py.line == px.line) = true
        · simp only [h4, if_true, Bool.false_eq_true, if_false]
          rfl
        · simp only [h4, Bool.false_eq_true, if_false]
          rfl
      | true =>
        rw [h3] at h
        rw [Bool.true_and] at h
        simp only [h, if_true, Bool.false_eq_true, if_false]
        rfl
    · simp only [h, if_true]
      split <;> rfl
theorem sw2_some {x y : Str} {a b : Expr} {px py p p2 : Pos} {k k2 : Nat} {env : PySem.Env} (hk : env.scope.kind = .function) (hx : lcl env.scope x = true) (hy : lcl env.scope y = true) (hl : (py.line == px.line) = true) (hxy : x ≠ y) (ha : isStar a = false) (hb : isStar b = false) (h1 : [a, b].all (foldedForSure 8) = false) (h2 : [a, b].all (constantsAlone 8) = false) :
    swappedStores [.Tuple [.Name x px, .Name y py] k p] (.Tuple [a, b] k2 p2) env = pure (some [x, y]) := by
  unfold swappedStores
  simp only [blk_fun hk, List.length_cons, List.length_nil]
  rw [if_neg (by decide)]
  split
  · rename_i h3
    cases a <;> cases b <;> first | (cases h3; done) | (cases ha; done) | (cases hb; done)
  unfold lcl at hx hy
  simp only [List.head?_cons, Option.map_some, Option.getD_some, Expr.pos, List.filterMap_cons, List.filterMap_nil, Env.kindOf, beq_self_eq_true, Bool.and_true, hx, hy, hl, h1, h2, if_true]
  have e : [x, y].eraseDups.length = 2 := by
    have : (x == y) = false := by simpa using hxy
    have h4 : (y == x) = false := by simpa using Ne.symm hxy
    simp [List.eraseDups_cons, this, h4]
  simp [e]
theorem swB_eq {elt : Expr} {gs : List Comprehension} {scope : Scope} {pos py : Pos} {y : Str} {l : Nat} {env : PySem.Env} (hk : env.scope.kind = .function) :
    swapsWith (.ListComp elt gs scope pos) (some (.Name y py)) l env = pure (env.scope.names.lookup y == some .local && py.line == pos.line && !(scope.names.any fun (n, k) => n == y && (k == .local || k == .cell))) := by
  unfold swapsWith
  simp only [blk_fun hk, Env.kindOf, Expr.pos, beq_self_eq_true, Bool.true_and]
theorem setLc_sw {elt : Expr} {gs : List Comprehension} {scope : Scope} {pos py : Pos} {y : Str} {l : Nat} {env : PySem.Env} (hk : env.scope.kind = .function) :
    (env.scope.names.lookup y = some .local ∧ swapsWith (.ListComp elt gs scope pos) (some (.Name y py)) l env = pure true) ∨ swapsWith (.ListComp elt gs scope pos) (some (.Name y py)) l env = pure false := by
  rw [swB_eq hk]
  cases e : (env.scope.names.lookup y == some NameKind.local && py.line == pos.line && !(scope.names.any fun (n, k) => n == y && (k == .local || k == .cell))) with
  | false => exact .inr rfl
  | true =>
    rw [Bool.and_eq_true, Bool.and_eq_true] at e
    exact .inl ⟨by simpa using e.1.1, rfl⟩
theorem swD_eq {kx vx : Expr} {gs : List Comprehension} {scope : Scope} {pos py : Pos} {y : Str} {l : Nat} {env : PySem.Env} (hk : env.scope.kind = .function) :
    swapsWith (.DictComp kx vx gs scope pos) (some (.Name y py)) l env = pure (env.scope.names.lookup y == some .local && py.line == pos.line && !(scope.names.any fun (n, k) => n == y && (k == .local || k == .cell))) := by
  unfold swapsWith
  simp only [blk_fun hk, Env.kindOf, Expr.pos, beq_self_eq_true, Bool.true_and]
theorem setDc_sw {kx vx : Expr} {gs : List Comprehension} {scope : Scope} {pos py : Pos} {y : Str} {l : Nat} {env : PySem.Env} (hk : env.scope.kind = .function) :
    (env.scope.names.lookup y = some .local ∧ swapsWith (.DictComp kx vx gs scope pos) (some (.Name y py)) l env = pure true) ∨ swapsWith (.DictComp kx vx gs scope pos) (some (.Name y py)) l env = pure false := by
  rw [swD_eq hk]
  cases e : (env.scope.names.lookup y == some NameKind.local && py.line == pos.line && !(scope.names.any fun (n, k) => n == y && (k == .local || k == .cell))) with
  | false => exact .inr rfl
  | true =>
    rw [Bool.and_eq_true, Bool.and_eq_true] at e
    exact .inl ⟨by simpa using e.1.1, rfl⟩
theorem kind_of {X : Cx} (nk : NOk S) (h : GX W lev S X) : X.env.scope.kind = .function := by rw [h.sc]; exact nk.kind
theorem par_ok (sn : Snd G K W lev Mc E) (nk : NOk S) {ts vs : List Expr} {k k2 : Nat} {p p2 pos : Pos} {ir : Sm} (hw : swC2 S.sc ts vs = 1) (h : cPar Mc S ts vs = some ir) : SS G K (GX W lev S) (.Assign [.Tuple ts k p] (.Tuple vs k2 p2) pos) (stepS E ir) := by
  unfold cPar at h
  split at h
  · obtain ⟨hc, h⟩ := iteS h
    simp only [Bool.and_eq_true] at hc
    obtain ⟨⟨hx, hy⟩, hs⟩ := hc
    obtain ⟨i, h1, h⟩ := bindS h
    obtain ⟨j, h2, h⟩ := bindS h
    obtain ⟨hij, h⟩ := iteS h
    obtain ⟨xs, h3, rfl⟩ := mapS h
    have hij := of_decide_eq_true hij
    have hx := of_decide_eq_true hx
    have hy := of_decide_eq_true hy
    simp only [swC2] at hw
    split at hw
    · cases hw
    · rename_i q1
      split at hw
      · rename_i q2
        simp only [Bool.and_eq_true, Bool.not_eq_true'] at q2
        obtain ⟨⟨⟨q2, q3⟩, q4⟩, q5⟩ := q2
        obtain ⟨s1, s2⟩ := noStars_head hs
        obtain ⟨s2, _⟩ := noStars_head s2
        refine ss_par (fun X hX => hX.calm) (fun X hX => by rw [hX.N]; exact nk.nd) (fun X hX => by rw [hX.N]; exact place_ok h1) (fun X hX => by rw [hX.N]; exact place_ok h2) hij (fun X hX => by rw [hX.sc]; exact hx) (fun X hX => by rw [hX.sc]; exact hy) (cA_ok sn nk hs h3) (fun X hX => ?_)
        refine sw2_some (kind_of nk hX) (by unfold lcl; rw [hX.sc, hx]; rfl) (by unfold lcl; rw [hX.sc, hy]; rfl) q2 (fun z => ?_) s1 s2 q4 q5
        subst z
        rw [h1] at h2
        cases h2
        exact hij rfl
      · cases hw
  · cases h
end
end
end PV
set_option Elab.async false
set_option linter.all false
set_option maxRecDepth 100000
set_option maxHeartbeats 2000000
set_option autoImplicit false
namespace PV
noncomputable section
open PySem PySem.Spec PyProof.Rows L2
section
variable {G : Gs} {K : PySem.W.Frag} {W : Wd} {ct : CT} {lev : Nat} {gt : Ge} {Mc : Cmp} {E : Evs} {S : Sx}
theorem swC2_none {ts vs : List Expr} {k k2 : Nat} {p p2 : Pos} {X : Cx} (nk : NOk S) (hX : GX W lev S X) (h : swC2 S.sc ts vs = 0) : swappedStores [.Tuple ts k p] (.Tuple vs k2 p2) X.env = pure none := by
  unfold swC2 at h
  split at h
  · split at h
    · rename_i q
      rw [Bool.or_eq_true, Bool.not_eq_true'] at q
      exact sw2_none (kind_of nk hX) (by rw [hX.sc]; exact q)
    · split at h <;> cases h
  · split at h
    · rename_i q
      exact sw_len q
    · cases h
theorem soleN {t e : Expr} {l : Nat} {env : PySem.Env} : swapsWithSole [t] e l env = swapsWith e (some t) l env := by first | rfl | (unfold swapsWithSole; rfl)
theorem asg_ok (sn : Snd G K W lev Mc E) (nk : NOk S) {tg e : Expr} {pos : Pos} {ir : Sm} (h : cAsg Mc S tg e = some ir) : SS G K (GX W lev S) (.Assign [tg] e pos) (stepS E ir) := by
  unfold cAsg at h
  split at h
  · rename_i ts k p vs k2 p2
    split at h
    · rename_i hw
      obtain ⟨x, h1, h⟩ := bindS h
      obtain ⟨g, h2, h⟩ := bindS h
      cases h
      exact ss_asg (fun X hX => soleT_no) (fun X hX => swC2_none nk hX hw) rfl (sn.e S _ x nk h1) (sn.g S _ g nk h2)
    · rename_i hw
      exact par_ok sn nk hw h
    · cases h
  · rename_i ts k p hnt
    obtain ⟨x, h1, h⟩ := bindS h
    obtain ⟨g, h2, h⟩ := bindS h
    cases h
    have ht : isTup e = false := by
      cases e <;> first | rfl | exact (hnt _ _ _ rfl).elim
    exact ss_asg (fun X hX => soleT_no) (fun X hX => swT_none ht) rfl (sn.e S _ x nk h1) (sn.g S _ g nk h2)
  · obtain ⟨x, h1, h⟩ := bindS h
    obtain ⟨g, h2, h⟩ := bindS h
    cases h
    exact ss_asg (fun X hX => by rw [soleN]; cases e <;> rfl) (fun X hX => by cases e <;> rfl) rfl (sn.e S _ x nk h1) (sn.g S _ g nk h2)
  · rename_i y py elt tg it ifs scope p2
    obtain ⟨hc, h⟩ := iteS h
    rw [Bool.and_eq_true, Bool.or_eq_true] at hc
    obtain ⟨i, h1, h⟩ := bindS h
    cases e2 : cLc Mc S elt tg it ifs scope with
    | none => rw [e2] at h; cases h
    | some q =>
      rw [e2] at h
      unfold cLc at e2
      simp only at e2
      obtain ⟨hb, e2⟩ := iteS e2
      rw [Bool.and_eq_true, Bool.not_eq_true'] at hb
      obtain ⟨ii, k1, e2⟩ := bindS e2
      obtain ⟨g, k2, e2⟩ := bindS e2
      obtain ⟨c, k3, e2⟩ := bindS e2
      obtain ⟨x, k4, e2⟩ := bindS e2
      obtain ⟨hsl, e2⟩ := iteS e2
      cases e2
      cases h
      have nk2 : NOk (inner S scope) := ⟨nk.nd, show scope.kind = .function from blk_kind hb.2⟩
      exact ss_setLc (C' := GX W lev (inner S scope)) (own := ownOf S scope) (fun X hX => hX.calm) (fun X hX => by rw [hX.N]; exact nk.nd) (fun X hX => by rw [hX.N]; exact place_ok h1) (fun X hX => by rw [hX.sc]; exact locB_ok hc.1) (fun X hX => by
        rcases hc.2 with z | z
        · exact .inl (by rw [hX.fn]; exact z)
        · exact .inr (by rw [hX.sc]; exact of_decide_eq_true z)) (fun X hX => setLc_sw (kind_of nk hX)) (fun X hX => by rw [hX.N, hX.sc]; exact blkOk_by hb.2) (fun X hX => inner_gx hX) (own_sub hsl) (fun X hX => fold_no hb.1)
        (sn.i S tg it ii nk k1) (sn.g _ tg g nk2 k2) (cIfs_ok sn nk2 k3) (sn.e _ elt x nk2 k4)
  · rename_i y py elt tg it ifs tg1 it1 ifs1 scope p2
    obtain ⟨hc, h⟩ := iteS h
    rw [Bool.and_eq_true, Bool.or_eq_true] at hc
    obtain ⟨i, h1, h⟩ := bindS h
    cases e2 : cLc2 Mc S elt tg it ifs tg1 it1 ifs1 scope with
    | none => rw [e2] at h; cases h
    | some q =>
      rw [e2] at h
      unfold cLc2 at e2
      simp only at e2
      obtain ⟨hb, e2⟩ := iteS e2
      simp only [Bool.and_eq_true, Bool.not_eq_true'] at hb
      obtain ⟨⟨b1, b2⟩, b3⟩ := hb
      obtain ⟨ii, k1, e2⟩ := bindS e2
      obtain ⟨g, k2, e2⟩ := bindS e2
      obtain ⟨c, k3, e2⟩ := bindS e2
      obtain ⟨i1, m1, e2⟩ := bindS e2
      obtain ⟨g1, m2, e2⟩ := bindS e2
      obtain ⟨c1, m3, e2⟩ := bindS e2
      obtain ⟨x, k4, e2⟩ := bindS e2
      obtain ⟨hsl, e2⟩ := iteS e2
      rw [Bool.and_eq_true] at hsl
      cases e2
      cases h
      have nk2 : NOk (inner S scope) := ⟨nk.nd, show scope.kind = .function from blk_kind b3⟩
      exact ss_setLc2 (C' := GX W lev (inner S scope)) (own := ownOf S scope) (fun X hX => hX.calm) (fun X hX => by rw [hX.N]; exact nk.nd) (fun X hX => by rw [hX.N]; exact place_ok h1) (fun X hX => by rw [hX.sc]; exact locB_ok hc.1) (fun X hX => by
        rcases hc.2 with z | z
        · exact .inl (by rw [hX.fn]; exact z)
        · exact .inr (by rw [hX.sc]; exact of_decide_eq_true z)) (fun X hX => setLc_sw (kind_of nk hX)) (fun X hX => by rw [hX.N, hX.sc]; exact blkOk_by b3) (fun X hX => inner_gx hX) (own_sub hsl.1) (fun i hi => hi) (own_sub hsl.2) (fun X hX => fold_no b1) (fun env => fold_no b2)
        (sn.i S tg it ii nk k1) (sn.g _ tg g nk2 k2) (cIfs_ok sn nk2 k3) (sn.i _ tg1 it1 i1 nk2 m1) (sn.g _ tg1 g1 nk2 m2) (cIfs_ok sn nk2 m3) (sn.e _ elt x nk2 k4)
  · rename_i y py kx vx tg it ifs scope p2
    obtain ⟨hc, h⟩ := iteS h
    rw [Bool.and_eq_true, Bool.or_eq_true] at hc
    obtain ⟨i, h1, h⟩ := bindS h
    cases e2 : cDc Mc S kx vx tg it ifs scope with
    | none => rw [e2] at h; cases h
    | some q =>
      rw [e2] at h
      unfold cDc at e2
      simp only at e2
      obtain ⟨hb, e2⟩ := iteS e2
      rw [Bool.and_eq_true, Bool.not_eq_true'] at hb
      obtain ⟨ii, k1, e2⟩ := bindS e2
      obtain ⟨g, k2, e2⟩ := bindS e2
      obtain ⟨c, k3, e2⟩ := bindS e2
      obtain ⟨x, k4, e2⟩ := bindS e2
      obtain ⟨x2, k5, e2⟩ := bindS e2
      obtain ⟨hsl, e2⟩ := iteS e2
      cases e2
      cases h
      have nk2 : NOk (inner S scope) := ⟨nk.nd, show scope.kind = .function from blk_kind hb.2⟩
      exact ss_setDc (C' := GX W lev (inner S scope)) (own := ownOf S scope) (fun X hX => hX.calm) (fun X hX => by rw [hX.N]; exact nk.nd) (fun X hX => by rw [hX.N]; exact place_ok h1) (fun X hX => by rw [hX.sc]; exact locB_ok hc.1) (fun X hX => by
        rcases hc.2 with z | z
        · exact .inl (by rw [hX.fn]; exact z)
        · exact .inr (by rw [hX.sc]; exact of_decide_eq_true z)) (fun X hX => setDc_sw (kind_of nk hX)) (fun X hX => by rw [hX.N, hX.sc]; exact blkOk_by hb.2) (fun X hX => inner_gx hX) (own_sub hsl) (fun X hX => fold_no hb.1)
        (sn.i S tg it ii nk k1) (sn.g _ tg g nk2 k2) (cIfs_ok sn nk2 k3) (sn.e _ kx x nk2 k4) (sn.e _ vx x2 nk2 k5)
  · obtain ⟨hc, h⟩ := iteS h
    rw [Bool.not_eq_true'] at hc
    obtain ⟨x, h1, h⟩ := bindS h
    obtain ⟨g, h2, h⟩ := bindS h
    cases h
    exact ss_asg (fun X hX => by rw [soleN]; exact swaps_no hc) (fun X hX => swN_none) rfl (sn.e S _ x nk h1) (sn.g S _ g nk h2)
  · cases h
theorem s_ok (gk : GtOk G K W ct lev gt) (sn : Snd G K W lev Mc E) (S : Sx) (st : Stmt) (ir : Sm) (nk : NOk S) (h : stepCS gt Mc S st = some ir) : SS G K (GX W lev S) st (stepS E ir) := by
  unfold stepCS at h
  split at h
  · obtain ⟨hc, h⟩ := iteS h
    rw [Bool.not_eq_true'] at hc
    obtain ⟨x, h1, rfl⟩ := mapS h
    exact ss_expr hc (sn.e S _ x nk h1)
  · obtain ⟨x, h1, rfl⟩ := mapS h
    exact ss_ret (sn.e S _ x nk h1)
  · cases h; exact ss_retN
  · cases h; exact ss_pass
  · obtain ⟨x, h1, rfl⟩ := mapS h
    exact ss_if (sn.t S _ x nk h1) (block_ok sn nk _) (block_ok sn nk _)
  · split at h
    · rename_i f ea
      obtain ⟨x, h1, h⟩ := bindS h
      obtain ⟨y, h2, h⟩ := bindS h
      cases h
      obtain ⟨h5, h3, h4⟩ := gk.fld _ f ea
      exact ss_fld h5 h3 h4 (sn.e S _ x nk h1) (sn.e S _ y nk h2)
    · cases h
  · exact asg_ok sn nk h
  · obtain ⟨hc, h⟩ := iteS h
    rw [Bool.not_eq_true'] at hc
    obtain ⟨i, h1, h⟩ := bindS h
    obtain ⟨g, h2, h⟩ := bindS h
    cases h
    exact ss_for (fun X hX => by rw [hX.xe]; exact PassesOwn.never) (fun X hX => hX.calm) (sn.i S _ _ i nk h1) (sn.g S _ g nk h2) (block_ok sn nk _) (fun X hX => fold_no hc)
  · obtain ⟨x, h1, rfl⟩ := mapS h
    exact ss_while (fun X hX => by rw [hX.xe]; exact PassesOwn.never) (sn.t S _ x nk h1) (block_ok sn nk _)
  · cases h
theorem st_never {e : Expr} : STt G K (GX W lev S) e (fun env => M.bad) := (sw_never (e := e)).st
theorem si_never {tg e : Expr} : SI G K (GX W lev S) tg e (fun env => M.bad) := ⟨fun _ _ _ => False, fun X hX eK => ⟨fun _ _ _ _ _ _ h => h.elim⟩, fun ρ env h σ H Z hr er hq => hq.elim⟩
theorem sg_never {e : Expr} {ws : List Nat} : SG G K (GX W lev S) e ws (fun env d => M.bad) := ⟨fun _ _ _ _ => False, fun X hX eK => ⟨fun _ _ _ _ _ _ _ _ _ h => h.elim⟩, fun ρ env h σ H d v Q hr er rd hq => hq.elim⟩
theorem snd_all (gk : GtOk G K W ct lev gt) : ∀ n k, Snd G K W lev (cmps gt n) (evs ct k)
  | 0, k => ⟨fun _ _ _ _ h => (by cases h), fun _ _ _ _ h => (by cases h), fun _ _ _ _ _ h => (by cases h), fun _ _ _ _ h => (by cases h), fun _ _ _ _ h => (by cases h), by cases k <;> rfl, gk.pw⟩
  | n + 1, 0 => ⟨fun _ _ _ _ _ => se_never, fun _ _ _ _ _ => st_never, fun _ _ _ _ _ _ => si_never, fun _ _ _ _ _ => sg_never, fun _ _ _ _ _ => ss_never, rfl, gk.pw⟩
  | n + 1, k + 1 => ⟨fun S ex ir nk h => e_ok gk (snd_all gk n k) S ex ir nk h, fun S ex ir nk h => t_ok (snd_all gk n k) S ex ir nk h, fun S tg ex ir nk h => i_ok gk (snd_all gk n k) S tg ex ir nk h, fun S ex ir nk h => g_ok (snd_all gk n k) S ex ir nk h, fun S st ir nk h => s_ok gk (snd_all gk n k) S st ir nk h, rfl, gk.pw⟩
end
end
end PV
set_option Elab.async false
set_option linter.all false
set_option maxRecDepth 100000
set_option maxHeartbeats 2000000
set_option autoImplicit false
namespace PV
noncomputable section
open PySem PySem.Spec PyProof.Rows L2
/-! ### the draw and the source -/
def drawB : List Sm := [
  .asg (.sub (.loc 0) (.cst (.int 2))) (.bin 0 (.ix (.loc 0) (.cst (.int 2))) (.cst (.int 1))),
  .cnd (.cmp 2 (.ix (.loc 0) (.cst (.int 0))) (.cst (.int 1)))
    [.asg (.nam 3) (.bin 3 (.bf1 6 (.ix (.loc 0) (.cst (.int 0)))) (.loc 1)),
     .asg (.sub (.loc 0) (.cst (.int 0))) (.bin 4 (.ix (.loc 0) (.cst (.int 0))) (.loc 1)),
     .ret (.loc 3)] [],
  .asg (.nam 2) (.bin 3 (.bin 5 (.bin 0 (.ix (.loc 0) (.cst (.int 1))) (.bin 2 (.cst (.int 7919)) (.ix (.loc 0) (.cst (.int 2))))) (.cst (.int 5))) (.cst (.int 2147483629))),
  .ret (.bin 3 (.bin 3 (.bin 5 (.bin 0 (.bin 0 (.bin 2 (.loc 2) (.cst (.int 48271))) (.bin 2 (.bin 2 (.cst (.int 16807)) (.ix (.loc 0) (.cst (.int 2)))) (.ix (.loc 0) (.cst (.int 2))))) (.cst (.int 11))) (.cst (.int 3))) (.cst (.int 1000000007))) (.loc 1))]
def srcB : List Sm := [
  .asg (.tup [.nam 2, .nam 3]) (.tup [.cst (.int 0), .cst (.int 17)]),
  .forr (.seq (.loc 0)) (.nam 1)
    [.cnd (.and [.cmp 4 (.loc 2) (.cst (.int 0)), .cmp 3 (.loc 1) (.bin 5 (.cst (.int 10)) (.cst (.int 18)))]) [.asg (.nam 2) (.loc 1)] [],
     .asg (.nam 3) (.bin 3 (.bf1 6 (.bin 0 (.bin 0 (.bin 2 (.loc 3) (.cst (.int 31))) (.loc 1)) (.cst (.int 7)))) (.cst (.int 2147483647)))],
  .ret (.lst [.loc 2, .loc 3, .cst (.int 0)])]
section
variable {ct : CT} {k : Nat} {h : VH} {a : Nat} {g s c m : Int}
theorem bind_ret {α β : Type} {x : α} {f : α → P β} : P.bind (.ret x) f = f x := rfl
theorem Mbind_ok {α β : Type} {x : M α} {f : α → M β} {h h' : VH} {y : α} (e : x h = .ret (.ok y h')) : M.bind x f h = f y h' := by
  rw [M.bind_eq, e]; rfl
theorem set_get {o : O} (ha : a < h.n) : (h.set a o).get a = some o := by rw [VH.get_set ha, if_pos rfl]
def drw (g s c m : Int) : Int := if 1 < g then g % m else ((((s + 7919 * c) ^ 5 % 2147483629) * 48271 + 16807 * c * c + 11) ^ 3 % 1000000007) % m
theorem set_set {o u : O} (ha : a < h.n) (b : Nat) : ((h.set a o).set a u).get b = (h.set a u).get b := by
  rw [VH.get_set (show a < (h.set a o).n from ha), VH.get_set ha, VH.get_set ha]
  by_cases e : b = a <;> simp [e]
theorem ix3 {x y z : D} : ixD [x, y, z] 0 = some x ∧ ixD [x, y, z] 1 = some y ∧ ixD [x, y, z] 2 = some z := ⟨rfl, rfl, rfl⟩
theorem draw_run (ha : h.get a = some (.lst [.int g, .int s, .int c])) (hm : 0 < m ∧ m < 1000000) (hs : 0 ≤ s ∧ s < 2147483648) (hc : 0 ≤ c ∧ c < 1000000) :
    ∃ h2 g2, evSs (evs ct (k + 12)) drawB [some (.ref a), some (.int m), none, none] h = .ret (.ok (.rt (.int (drw g s (c + 1) m))) h2) ∧ h2.n = h.n ∧ (∀ b, h2.get b = (h.set a (.lst [.int g2, .int s, .int (c + 1)])).get b) ∧ (0 ≤ g → 0 ≤ g2) := by
  have hlt := VH.get_lt ha
  have hm2 : 0 < m ∧ m < 1073741824 := ⟨hm.1, by omega⟩
  unfold drw
  have b1 : (s + 7919 * (c + 1)).natAbs < 18446744073709551616 := by omega
  have b0 : 0 ≤ (s + 7919 * (c + 1)) ^ 5 % 2147483629 ∧ (s + 7919 * (c + 1)) ^ 5 % 2147483629 < 2147483629 := ⟨Int.emod_nonneg _ (by decide), Int.emod_lt_of_pos _ (by decide)⟩
  have b3 : 0 ≤ 16807 * (c + 1) * (c + 1) ∧ 16807 * (c + 1) * (c + 1) ≤ 16807000000 * 1000000 := by
    have x : 0 ≤ 16807 * (c + 1) ∧ 16807 * (c + 1) ≤ 16807000000 := by omega
    exact ⟨Int.mul_nonneg x.1 (by omega), Int.mul_le_mul x.2 (by omega) (by omega) (by omega)⟩
  generalize hq : (s + 7919 * (c + 1)) ^ 5 % 2147483629 = q at b0
  have b2 : (q * 48271 + 16807 * (c + 1) * (c + 1) + 11).natAbs < 18446744073709551616 := by
    generalize 16807 * (c + 1) * (c + 1) = r at b3
    omega
  have b4 : -18446744073709551616 < c + 1 ∧ c + 1 < 18446744073709551616 := by omega
  have b5 : -18446744073709551616 < q ∧ q < 18446744073709551616 := by omega
  by_cases hg : 1 < g
  · refine ⟨(h.set a (.lst [.int g, .int s, .int (c + 1)])).set a (.lst [.int (g / m), .int s, .int (c + 1)]), g / m, ?_, rfl, set_set hlt, fun z => Int.ediv_nonneg z (by omega)⟩
    simp [drawB, evSs, evs, stepS, stepE, stepT, stepG, M.bind_eq, M.pure, bind_ret, ha, binD, ixM, ix3, addD, setM, set_get hlt, seqF, cmpD, gtD, ordD, hg, asB, bf1D, intM, modD, fdivD, set_get (show a < (h.set a _).n from hlt), hm.1, hm2]
  · refine ⟨h.set a (.lst [.int g, .int s, .int (c + 1)]), g, ?_, rfl, fun b => rfl, fun z => z⟩
    simp [drawB, evSs, evs, stepS, stepE, stepT, stepG, M.bind_eq, M.pure, bind_ret, ha, binD, ixM, ix3, addD, setM, set_get hlt, seqF, cmpD, gtD, ordD, hg, asB, bf1D, intM, modD, mulD, powD, hm.1, hm2, b1, hq, b2, b4, b5]
theorem src_body {ns : List Int} {x : Option D} {n : Int} (hs : 0 ≤ s ∧ s < 2147483648) (hg : 0 ≤ g) : ∃ g2 s2, evSs (evs ct (k + 11)) [.cnd (.and [.cmp 4 (.loc 2) (.cst (.int 0)), .cmp 3 (.loc 1) (.bin 5 (.cst (.int 10)) (.cst (.int 18)))]) [.asg (.nam 2) (.loc 1)] [],
     .asg (.nam 3) (.bin 3 (.bf1 6 (.bin 0 (.bin 0 (.bin 2 (.loc 3) (.cst (.int 31))) (.loc 1)) (.cst (.int 7)))) (.cst (.int 2147483647)))] [some (.kls ns), some (.int n), some (.int g), some (.int s)] h = .ret (.ok (.nx [some (.kls ns), some (.int n), some (.int g2), some (.int s2)]) h) ∧ (0 ≤ s2 ∧ s2 < 2147483648) ∧ 0 ≤ g2 := by
  have b0 : 0 ≤ (s * 31 + n + 7) % 2147483647 ∧ (s * 31 + n + 7) % 2147483647 < 2147483648 := ⟨Int.emod_nonneg _ (by decide), Int.lt_trans (Int.emod_lt_of_pos _ (by decide)) (by decide)⟩
  by_cases h1 : g = 0
  · by_cases h2 : n < 1000000000000000000
    · refine ⟨g, (s * 31 + n + 7) % 2147483647, ?_, b0, hg⟩
      have h3 : ¬ (1000000000000000000 ≤ n) := by omega
      subst h1
      simp [evSs, evs, stepS, stepE, stepT, stepG, evAndT, M.bind_eq, M.pure, bind_ret, binD, addD, seqF, cmpD, geD, ordD, asB, bf1D, intM, modD, mulD, powD, eqM, isDt, eqF, h3]
    · refine ⟨n, (s * 31 + n + 7) % 2147483647, ?_, b0, by omega⟩
      have h3 : 1000000000000000000 ≤ n := by omega
      subst h1
      simp [evSs, evs, stepS, stepE, stepT, stepG, evAndT, M.bind_eq, M.pure, bind_ret, binD, addD, seqF, cmpD, geD, ordD, asB, bf1D, intM, modD, mulD, powD, eqM, isDt, eqF, h3]
  · refine ⟨g, (s * 31 + n + 7) % 2147483647, ?_, b0, hg⟩
    simp [evSs, evs, stepS, stepE, stepT, stepG, evAndT, M.bind_eq, M.pure, bind_ret, binD, addD, seqF, cmpD, geD, ordD, asB, bf1D, intM, modD, mulD, powD, eqM, isDt, eqF, h1]
theorem src_loop {ns : List Int} {tg : Tg} : ∀ (f i : Nat) (x : Option D) (g s : Int), (0 ≤ s ∧ s < 2147483648) → 0 ≤ g → ns.length ≤ i + f → i ≤ ns.length → ∃ x2 g2 s2, loopF (stpL (ns.map .int)) ((evs ct (k + 11)).g (.nam 1)) (evSs (evs ct (k + 11)) [.cnd (.and [.cmp 4 (.loc 2) (.cst (.int 0)), .cmp 3 (.loc 1) (.bin 5 (.cst (.int 10)) (.cst (.int 18)))]) [.asg (.nam 2) (.loc 1)] [],
     .asg (.nam 3) (.bin 3 (.bf1 6 (.bin 0 (.bin 0 (.bin 2 (.loc 3) (.cst (.int 31))) (.loc 1)) (.cst (.int 7)))) (.cst (.int 2147483647)))]) (f + 1) i [some (.kls ns), x, some (.int g), some (.int s)] h = .ret (.ok (.nx [some (.kls ns), x2, some (.int g2), some (.int s2)]) h) ∧ (0 ≤ s2 ∧ s2 < 2147483648) ∧ 0 ≤ g2
  | f, i, x, g, s, hs, hg, h1, h2 => by
    by_cases e : i < ns.length
    · obtain ⟨g1, s1, e1, hs1, hg1⟩ := src_body (ct := ct) (k := k) (ns := ns) (h := h) (x := x) (n := ns[i]) hs hg
      cases f with
      | zero => omega
      | succ f =>
        obtain ⟨x2, g2, s2, e2, r⟩ := src_loop (ns := ns) (tg := tg) f (i + 1) (some (.int ns[i])) g1 s1 hs1 hg1 (by omega) (by omega)
        refine ⟨x2, g2, s2, ?_, r⟩
        unfold loopF
        have q : (stpL (ns.map .int)).go i h = some (some (.int ns[i])) := by
          unfold stpL; simp [e]
        rw [q]
        show M.bind (M.pure [some (D.kls ns), some (D.int ns[i]), some (D.int g), some (D.int s)]) _ h = _
        rw [Mbind_ok rfl, Mbind_ok e1]
        exact e2
    · refine ⟨x, g, s, ?_, hs, hg⟩
      unfold loopF
      have q : (stpL (ns.map .int)).go i h = some none := by
        unfold stpL; simp; omega
      rw [q]
theorem src_run {ns : List Int} (hl : ns.length ≤ 1000) :
    ∃ g s, evSs (evs ct (k + 12)) srcB [some (.kls ns), none, none, none] h = .ret (.ok (.rt (.ref h.n)) (h.new (.lst [.int g, .int s, .int 0]))) ∧ (0 ≤ s ∧ s < 2147483648) ∧ 0 ≤ g := by
  obtain ⟨x2, g2, s2, e2, r⟩ := src_loop (ct := ct) (k := k) (ns := ns) (h := h) (tg := .nam 0) 999999 0 none 0 17 (by decide) (by decide) (by omega) (by omega)
  refine ⟨g2, s2, ?_, r⟩
  unfold srcB evSs
  rw [Mbind_ok (y := .nx [some (.kls ns), none, some (.int 0), some (.int 17)]) (h' := h) (by simp [evSs, evs, stepS, stepE, stepT, stepG, evA, M.bind_eq, M.pure, bind_ret, mkTup, gTupD, evGs])]
  unfold seqF evSs
  have e3 : (evs ct (k + 12)).s (.forr (.seq (.loc 0)) (.nam 1)
    [.cnd (.and [.cmp 4 (.loc 2) (.cst (.int 0)), .cmp 3 (.loc 1) (.bin 5 (.cst (.int 10)) (.cst (.int 18)))]) [.asg (.nam 2) (.loc 1)] [],
     .asg (.nam 3) (.bin 3 (.bf1 6 (.bin 0 (.bin 0 (.bin 2 (.loc 3) (.cst (.int 31))) (.loc 1)) (.cst (.int 7)))) (.cst (.int 2147483647)))]) [some (.kls ns), none, some (.int 0), some (.int 17)] h = .ret (.ok (.nx [some (.kls ns), x2, some (.int g2), some (.int s2)]) h) := by
    show M.bind ((evs ct (k + 11)).i (.seq (.loc 0)) [some (.kls ns), none, some (.int 0), some (.int 17)]) (fun st => forM st ((evs ct (k + 11)).g (.nam 1)) (evSs (evs ct (k + 11)) _) [some (.kls ns), none, some (.int 0), some (.int 17)]) h = _
    rw [Mbind_ok (y := stpL (ns.map .int)) (h' := h) (by
      show M.bind ((evs ct (k + 10)).e (.loc 0) [some (.kls ns), none, some (.int 0), some (.int 17)]) seqI h = _
      rw [Mbind_ok (y := .kls ns) (h' := h) rfl]
      rfl)]
    unfold forM
    rw [Mbind_ok (show loopF (stpL (ns.map .int)) _ _ turns 0 _ h = _ from e2)]
    rfl
  show M.bind _ _ h = _
  rw [Mbind_ok e3]
  simp [evSs, evs, stepS, stepE, evA, M.bind_eq, M.pure, bind_ret, mkLst, seqF]
end
end
end PV
set_option Elab.async false
set_option linter.all false
set_option maxRecDepth 100000
set_option maxHeartbeats 2000000
set_option autoImplicit false
namespace PV
noncomputable section
open PySem PySem.Spec PyProof.Rows L2
/-! ### the table of functions -/
section
variable {G : Gs} {K : PySem.W.Frag} {W : Wd}
theorem HR.as {ρ : Nat → Addr} {h h2 : VH} {H : Hp} {a : Nat} {o : O} (r : HR G K ρ h H) (hn : h2.n = h.n) (ha : h2.get a = some o) (hb : ∀ b, b ≠ a → h2.get b = h.get b) (ho : ORel G K ρ h.n H (ρ a) o) : HR G K ρ h2 H := by
  refine ⟨fun x y hx hy => r.inj x y (hn ▸ hx) (hn ▸ hy), fun b hb2 => ?_⟩
  rw [hn] at hb2 ⊢
  by_cases e : b = a
  · subst e; exact ⟨o, ha, ho⟩
  · obtain ⟨u, e2, q⟩ := r.obj b hb2
    exact ⟨u, (hb b e).trans e2, q⟩
theorem src_imp {deep : Nat} {ct ct2 : CT} {f : Nat} (hd : ∀ ds, ct2 f ds = runF 1 4 (evSs (evs ct (deep + 12)) srcB) ds) {tab : List Fn} {d : Nat} :
    ∀ vs H Q E, spD G K (callT tab (deep + 12) (d + 1)) 1 1 vs H Q E → spD G K ct2 f 1 vs H Q E := by
  rintro vs H Q E ⟨ρ, h, ds, hr, rs, hl, q⟩
  refine ⟨ρ, h, ds, hr, rs, hl, ?_⟩
  rw [hd]
  replace q : (prim2 ds h).all (PostE G K ρ h.n H Q) := q
  unfold prim2 at q
  split at q
  · rename_i ns
    obtain ⟨v1, rfl, r1⟩ := relDs_one.mp rs
    obtain ⟨p, rfl, hl2, hk⟩ := relD_kls.mp r1
    obtain ⟨g, s, e1, b1, b2⟩ := src_run (ct := ct) (k := deep) (h := h) hl2
    unfold runF
    rw [if_pos (show [D.kls ns].length = 1 from rfl)]
    have e2 : M.bind (evSs (evs ct (deep + 12)) srcB (startE 4 [.kls ns])) endF h = .ret (.ok (.ref h.n) (h.new (.lst [.int g, .int s, .int 0]))) := by
      show M.bind (evSs (evs ct (deep + 12)) srcB [some (.kls ns), none, none, none]) endF h = _
      rw [Mbind_ok e1]; rfl
    rw [e2]
    intro ρ2 H2 v l2 hr2 rv
    refine q ρ2 H2 v l2 (hr2.as (a := h.n) rfl (o := .src 0) (by rw [VH.get_new, if_pos rfl]) (fun b hb => by rw [VH.get_new, VH.get_new, if_neg hb, if_neg hb]) ?_) rv
    obtain ⟨ws, ew, rw2⟩ := hr2.lst (a := h.n) (xs := [.int g, .int s, .int 0]) (by rw [VH.get_new, if_pos rfl])
    have : ws = [.int g, .int s, .int 0] := by
      obtain ⟨v1, r1, rfl, x1, rw2⟩ := relDs_cons.mp rw2
      obtain ⟨v2, r2, rfl, x2, rw2⟩ := relDs_cons.mp rw2
      obtain ⟨v3, r3, rfl, x3, rw2⟩ := relDs_cons.mp rw2
      rw [relDs_nil.mp rw2, relD_int.mp x1, relD_int.mp x2, relD_int.mp x3]
    subst this
    exact ⟨g, s, ew, b1.1, b1.2, b2⟩
  · exact q.elim
theorem drw_lt {g s c m : Int} (hm : 0 < m) : 0 ≤ drw g s c m ∧ drw g s c m < m := by
  unfold drw
  split
  · exact ⟨Int.emod_nonneg _ (by omega), Int.emod_lt_of_pos _ hm⟩
  · exact ⟨Int.emod_nonneg _ (by omega), Int.emod_lt_of_pos _ hm⟩
theorem draw_imp {deep : Nat} {ct ct2 : CT} {f : Nat} (hd : ∀ ds, ct2 f ds = runF 2 4 (evSs (evs ct (deep + 12)) drawB) ds) {tab : List Fn} {d : Nat} :
    ∀ vs H Q E, spD G K (callT tab (deep + 12) (d + 1)) 0 2 vs H Q E → spD G K ct2 f 2 vs H Q E := by
  rintro vs H Q E ⟨ρ, h, ds, hr, rs, hl, q⟩
  replace q : (prim ds h).all (PostE G K ρ h.n H Q) := q
  unfold prim at q
  split at q
  · rename_i a m
    split at q
    · rename_i n ea
      by_cases c : 0 < m ∧ m < 1000000 ∧ n < 1000000
      · rw [if_pos c] at q
        have hlt := VH.get_lt ea
        obtain ⟨g, s, eH, s1, s2, g1⟩ := hr.at ea
        have hr1 : HR G K ρ (h.set a (.lst [.int g, .int s, .int n])) H := hr.as (a := a) rfl (set_get hlt) (fun b hb => by rw [VH.get_set hlt, if_neg hb])
          ⟨_, eH, relDs_cons.mpr ⟨_, _, rfl, relD_int.mpr rfl, relDs_cons.mpr ⟨_, _, rfl, relD_int.mpr rfl, relDs_cons.mpr ⟨_, _, rfl, relD_int.mpr rfl, relDs_nil.mpr rfl⟩⟩⟩⟩
        refine ⟨ρ, h.set a (.lst [.int g, .int s, .int n]), [.ref a, .int m], hr1, rs, hl, ?_⟩
        obtain ⟨h2, g2, e1, n2, hg2, p2⟩ := draw_run (ct := ct) (k := deep) (h := h.set a (.lst [.int g, .int s, .int n])) (a := a) (g := g) (s := s) (c := n) (m := m) (set_get hlt) ⟨c.1, c.2.1⟩ ⟨s1, s2⟩ ⟨by omega, by omega⟩
        rw [hd]
        unfold runF
        rw [if_pos (show [D.ref a, D.int m].length = 2 from rfl)]
        have e2 : M.bind (evSs (evs ct (deep + 12)) drawB (startE 4 [.ref a, .int m])) endF (h.set a (.lst [.int g, .int s, .int n])) = .ret (.ok (.int (drw g s (n + 1) m)) h2) := by
          show M.bind (evSs (evs ct (deep + 12)) drawB [some (.ref a), some (.int m), none, none]) endF _ = _
          rw [Mbind_ok e1]; rfl
        rw [e2]
        obtain ⟨l1, l2⟩ := drw_lt (g := g) (s := s) (c := n + 1) c.1
        have q2 := q (drw g s (n + 1) m).toNat (by omega)
        have ei : ((drw g s (n + 1) m).toNat : Int) = drw g s (n + 1) m := Int.toNat_of_nonneg l1
        intro ρ2 H2 v l2 hr2 rv
        refine q2 ρ2 H2 v ?_ (hr2.as (a := a) (show h.n = h2.n from n2.symm) (o := .src (n + 1)) (set_get hlt) (fun b hb => ?_) ?_) (by rw [ei]; rw [n2] at rv; exact rv)
        · rw [n2] at l2; exact l2
        · rw [hg2, VH.get_set hlt, if_neg hb, set_set hlt, VH.get_set hlt, if_neg hb]
        · obtain ⟨ws, ew, rw2⟩ := hr2.lst (a := a) (xs := [.int g2, .int s, .int (n + 1)]) (by rw [hg2, set_set hlt, set_get hlt])
          have : ws = [.int g2, .int s, .int (n + 1)] := by
            obtain ⟨v1, r1, rfl, x1, rw2⟩ := relDs_cons.mp rw2
            obtain ⟨v2, r2, rfl, x2, rw2⟩ := relDs_cons.mp rw2
            obtain ⟨v3, r3, rfl, x3, rw2⟩ := relDs_cons.mp rw2
            rw [relDs_nil.mp rw2, relD_int.mp x1, relD_int.mp x2, relD_int.mp x3]
          subst this
          exact ⟨g2, s, ew, s1, s2, p2 g1⟩
      · rw [if_neg c] at q; exact q.elim
    · exact q.elim
  · exact q.elim
/-- a def of the text: its name, its full name, its parameters, all its names, itself -/
structure Fnr where
  x : Str
  q : Str
  ps : List Str
  N : List Str
  st : Stmt
def Fnr.irs (gt : Ge) (dp : Nat) (r : Fnr) : List Sm := (defBody r.st).map (orBad ((cmps gt dp).s ⟨r.N, defScope r.st, none⟩))
def Fnr.fn (gt : Ge) (dp : Nat) (r : Fnr) : Fn := ⟨r.ps.length, r.N.length, r.irs gt dp⟩
/-- the def stands at a as written -/
structure FnrOk (K : PySem.W.Frag) (r : Fnr) (a : Addr) : Prop where
  ex : ∃ fd, FunD K r.x r.q (defArgs r.st) (defBody r.st) (defScope r.st) [] [] a fd ∧ Binds K fd r.ps []
  sc : FnScope r.N r.ps (defScope r.st)
theorem fnr_ok {r : Fnr} {a : Addr} {gt : Ge} {dp deep lev f : Nat} {ct ct2 : CT} (o : FnrOk K r a) (gk : GtOk G K W ct lev gt) (hc : ∀ ds, ct2 f ds = runF r.ps.length r.N.length (evSs (evs ct deep) (r.irs gt dp)) ds) : FAt G K W ct2 (lev + 1) f a r.ps.length := by
  obtain ⟨⟨fd, Fd, hb⟩, sc⟩ := o
  refine ⟨fun ds h hl => ?_, fd, r.ps, rfl, hb, fn_sound Fd sc (block_ok (snd_all gk dp deep) ⟨sc.nd, sc.kind⟩ _) hc⟩
  rw [hc]
  unfold runF
  rw [if_neg hl]
theorem fnr_bad {r : Fnr} {a : Addr} {lev f : Nat} {ct2 : CT} (o : FnrOk K r a) (hc : ∀ ds, ct2 f ds = M.bad) : FAt G K W ct2 (lev + 1) f a r.ps.length := by
  obtain ⟨⟨fd, Fd, hb⟩, sc⟩ := o
  have no : ∀ vs H Q E, ¬ spD G K ct2 f r.ps.length vs H Q E := by
    rintro vs H Q E ⟨ρ, hh, ds, _, r, hl, q⟩
    rw [hc] at q
    exact q
  refine ⟨fun ds h hl => by rw [hc]; rfl, fd, r.ps, rfl, hb, Fd.ok sc (fun vs H Q E h => (no _ _ _ _ h).elim) (fun cdv A outer s H vs Q E hr h => (no _ _ _ _ h).elim)⟩
def HasF (fns : List Fnr) (f n : Nat) : Prop := (f = 0 ∧ n = 2) ∨ (f = 1 ∧ n = 1) ∨ ∃ i r, f = i + 2 ∧ fns[i]? = some r ∧ r.ps.length = n
/-- what the table is -/
structure Tb (G : Gs) (K : PySem.W.Frag) (W : Wd) (gt : Ge) (tab : List Fn) (dp : Nat) (fns : List Fnr) (rd rs : Fnr) (ad : Nat → Addr) : Prop where
  pw : W.P = G.P ∧ W.w = G.w
  cst : ∀ x d, gt.g.lookup x = some (.cst d) → ∃ v u, W.mg x = some u ∧ RelV v u ∧ ∀ ρ n H, RelD K ρ n H d v
  free : ∀ x, x ∈ bltNames → gt.g.lookup x = none → W.mg x = none
  tab : tab = fns.map (Fnr.fn gt dp)
  fok : ∀ i r, fns[i]? = some r → FnrOk K r (ad (i + 2))
  dok : FnrOk K rd (ad 0)
  dps : rd.ps.length = 2
  dN : rd.N.length = 4
  sok : FnrOk K rs (ad 1)
  sps : rs.ps.length = 1
  sN : rs.N.length = 4
  dir : rd.irs gt dp = drawB
  sir : rs.irs gt dp = srcB
  fn : ∀ x f n, gt.g.lookup x = some (.fn f n) → W.mg x = some (.ref (ad f)) ∧ HasF fns f n
  cls : ∀ x c g n, gt.g.lookup x = some (.cls c g n) → c < G.nc ∧ W.mg x = some (.ref (G.cls c)) ∧ Mk K (G.cls c) (ad g) ∧ HasF fns g (n + 1)
  fld : ∀ x f, gt.a.lookup x = some (.fld f) → f < G.na ∧ G.att f = x ∧ ∀ c, c < G.nc → Cls K (G.cls c) ∧ NoAttr K (G.cls c) x
  prp : ∀ x c g, gt.a.lookup x = some (.prp c g) → Cls K (G.cls c) ∧ (∃ p, PropOf K (G.cls c) x p (ad g)) ∧ HasF fns g 1
  met : ∀ x c g n, gt.a.lookup x = some (.met c g n) → Cls K (G.cls c) ∧ (∀ i, i < G.na → G.att i ≠ x) ∧ Meth K (G.cls c) x (ad g) ∧ HasF fns g (n + 1)
  isi : ∀ x c g n, gt.g.lookup x = some (.cls c g n) → ICl G K c
section
variable {gt : Ge} {tab : List Fn} {dp deep : Nat} {fns : List Fnr} {rd rs : Fnr} {ad : Nat → Addr}
theorem Tb.kp (B : Tb G K W gt tab dp fns rd rs ad) {f n : Nat} (h : HasF fns f n) : PySem.W.keepIn K (.ref (ad f)) = true := by
  rcases h with ⟨rfl, rfl⟩ | ⟨rfl, rfl⟩ | ⟨i, r, rfl, hi, rfl⟩
  · obtain ⟨fd, F, _⟩ := B.dok.ex; exact F.kp
  · obtain ⟨fd, F, _⟩ := B.sok.ex; exact F.kp
  · obtain ⟨fd, F, _⟩ := (B.fok i r hi).ex; exact F.kp
theorem Tb.toGt (B : Tb G K W gt tab dp fns rd rs ad) {ct : CT} {lev : Nat} (h : ∀ f n, HasF fns f n → FAt G K W ct lev f (ad f) n) : GtOk G K W ct (lev + 1) gt :=
  ⟨B.cst, fun x f n e => let ⟨a, b⟩ := B.fn x f n e; ⟨lev, Nat.le_succ _, ⟨ad f, a, B.kp b, h f n b⟩⟩, B.free,
    fun x c g n e => let ⟨a, b, m, d⟩ := B.cls x c g n e; ⟨a, b, lev, ad g, Nat.le_refl _, m, h g _ d⟩, B.fld,
    fun x c g e => let ⟨a, ⟨p, b⟩, d⟩ := B.prp x c g e; ⟨a, lev, p, ad g, Nat.le_refl _, b, h g _ d⟩,
    fun x c g n e => let ⟨a, b, m, d⟩ := B.met x c g n e; ⟨a, b, lev, ad g, Nat.le_succ _, m, h g _ d⟩, B.isi, B.pw⟩
theorem tab_fn (B : Tb G K W gt tab dp fns rd rs ad) {d lev : Nat} (ih : GtOk G K W (callT tab (deep + 12) d) lev gt) {f n : Nat} (h : HasF fns f n) : FAt G K W (callT tab (deep + 12) (d + 1)) (lev + 1) f (ad f) n := by
  rcases h with ⟨rfl, rfl⟩ | ⟨rfl, rfl⟩ | ⟨i, r, rfl, hi, rfl⟩
  · have F := fnr_ok (G := G) (dp := dp) (deep := deep + 12) (f := 0) (ct2 := fun _ => runF 2 4 (evSs (evs (callT tab (deep + 12) d) (deep + 12)) drawB)) B.dok ih (fun ds => by rw [B.dps, B.dN, B.dir])
    rw [B.dps] at F
    obtain ⟨_, fd, ps, h3, h4, F⟩ := F
    refine ⟨fun ds h hl => ?_, fd, ps, h3, h4, F.imp (draw_imp (deep := deep) fun ds => rfl)⟩
    show prim ds h = _
    unfold prim
    split
    · exact absurd rfl hl
    · rfl
  · have F := fnr_ok (G := G) (dp := dp) (deep := deep + 12) (f := 1) (ct2 := fun _ => runF 1 4 (evSs (evs (callT tab (deep + 12) d) (deep + 12)) srcB)) B.sok ih (fun ds => by rw [B.sps, B.sN, B.sir])
    rw [B.sps] at F
    obtain ⟨_, fd, ps, h3, h4, F⟩ := F
    refine ⟨fun ds h hl => ?_, fd, ps, h3, h4, F.imp (src_imp (deep := deep) fun ds => rfl)⟩
    show prim2 ds h = _
    unfold prim2
    split
    · exact absurd rfl hl
    · rfl
  · refine fnr_ok (dp := dp) (deep := deep + 12) (B.fok i r hi) ih fun ds => ?_
    show (match tab[i]? with
      | some q => runF q.np q.nn (evSs (evs (callT tab (deep + 12) d) (deep + 12)) q.body) ds
      | none => M.bad) = _
    rw [B.tab, List.getElem?_map, hi]
    rfl
theorem tab_bad (B : Tb G K W gt tab dp fns rd rs ad) {f n : Nat} (h : HasF fns f n) : FAt G K W (callT tab (deep + 12) 0) 1 f (ad f) n := by
  rcases h with ⟨rfl, rfl⟩ | ⟨rfl, rfl⟩ | ⟨i, r, rfl, hi, rfl⟩
  · have e := fnr_bad (G := G) (W := W) (lev := 0) (f := 0) (ct2 := callT tab (deep + 12) 0) B.dok fun ds => rfl
    rw [B.dps] at e; exact e
  · have e := fnr_bad (G := G) (W := W) (lev := 0) (f := 1) (ct2 := callT tab (deep + 12) 0) B.sok fun ds => rfl
    rw [B.sps] at e; exact e
  · exact fnr_bad (B.fok i r hi) fun ds => rfl
theorem tab_all (B : Tb G K W gt tab dp fns rd rs ad) : ∀ d, GtOk G K W (callT tab (deep + 12) d) (2 * d + 2) gt
  | 0 => B.toGt fun f n h => tab_bad B h
  | d + 1 => B.toGt (lev := 2 * d + 2 + 1) fun f n h => tab_fn B (tab_all B d) h
end
end
end
end PV
set_option Elab.async false
set_option linter.all false
set_option maxRecDepth 100000
set_option maxHeartbeats 2000000
set_option autoImplicit false
namespace PV
noncomputable section
open PySem PySem.Spec PyProof.Rows L2
/-! ### the law -/
def isT (r : R D) : Prop := match r with
  | .ok (.bl true) _ => True
  | _ => False
theorem good_all : ∀ {p : P (R D)}, p.good = true → p.all isT
  | .ret r, h => by
    cases r with
    | bad => cases h
    | ok d _ =>
      cases d with
      | bl b => cases b with
        | true => trivial
        | false => cases h
      | _ => cases h
  | .draw m k, h => fun d hd => good_all (by
      unfold P.good at h
      rw [List.all_eq_true] at h
      exact h d (List.mem_range.mpr hd))
theorem law_sp {G : Gs} {K : PySem.W.Frag} {ct : CT} {f : Nat} (good : ∀ ns, (ct f [.kls ns] ⟨0, .nil⟩).all isT) (H : Hp) (a : Addr) (ns : List Int) (hl : ns.length ≤ 63) (hO : Only H) (hS : SqL K H a (ns.map V.int)) :
    spD G K ct f 1 [.ref a] H (fun v _ => v = .bl true) fun _ _ _ => False := by
  refine ⟨fun _ => 0, ⟨0, .nil⟩, [.kls ns], ⟨fun x y hx => absurd hx (Nat.not_lt_zero _), fun x hx => absurd hx (Nat.not_lt_zero _)⟩, relDs_one.mpr ⟨_, rfl, relD_kls.mpr ⟨a, rfl, by omega, ?_⟩⟩, rfl, ?_⟩
  · rcases hS with (h | ⟨o, h⟩) | h
    · rcases hO a with e | ⟨o, xs, e⟩
      · rw [e] at h; cases h
      · rw [e] at h; cases h
    · exact .inl ⟨o, h, fun b hb => absurd hb (Nat.not_lt_zero _)⟩
    · exact .inr h
  · refine P.all_mono (fun r z => ?_) (good ns)
    cases r with
    | bad => exact z.elim
    | ok d h =>
      cases d with
      | bl b => cases b with
        | true => exact fun ρ' H' v _ _ rd => relD_bl.mp rd
        | false => exact z.elim
      | _ => exact z.elim
/-- what is left of a law behind its head -/
theorem law_all {G : Gs} {Pg : Program} {w : World} {K : PySem.W.Frag} {mg : Str → Option Value} {gt : Ge} {tab : List Fn} {dp deep d i : Nat} {fns : List Fnr} {rd rs r : Fnr} {ad : Nat → Addr} {fa : Addr} {x : Str}
    (B : ∀ base, Tb G K ⟨Pg, w, mg, base⟩ gt tab dp fns rd rs ad) (hi : fns[i]? = some r) (hps : r.ps = [x]) (hfa : ad (i + 2) = fa)
    (hbd : ∀ fd, FunD K r.x r.q (defArgs r.st) (defBody r.st) (defScope r.st) [] [] fa fd → ∀ (s : Shared) (u : Value), BindsTo s fd ⟨[u], []⟩ [(x, u)])
    (good : ∀ ns, (callT tab (deep + 12) (d + 1) (i + 2) [.kls ns] ⟨0, .nil⟩).all isT) :
    ∃ (fd : FuncData) (sp : Sp), (∀ (s : Shared) (u : Value), BindsTo s fd ⟨[u], []⟩ [(x, u)]) ∧
        (∀ (H : Hp) (a : Addr) (ns : List Int), ns.length ≤ 63 → Only H → SqL K H a (ns.map V.int) → sp [.ref a] H (fun v _ => v = .bl true) fun _ _ _ => False) ∧
        ∀ base : Heap, FnOk Pg w K mg base CX0 (2 * d + 3) fa fd [x] sp := by
  obtain ⟨⟨fd, Fd, hb⟩, sc⟩ := (B default).fok i r hi
  rw [hfa] at Fd
  refine ⟨fd, spD G K (callT tab (deep + 12) (d + 1)) (i + 2) 1, hbd fd Fd, law_sp good, fun base => ?_⟩
  have F := fn_sound (G := G) (W := ⟨Pg, w, mg, base⟩) (ct := callT tab (deep + 12) (d + 1)) (f := i + 2) Fd sc (block_ok (snd_all (tab_all (deep := deep) (B base) d) dp (deep + 12)) ⟨sc.nd, sc.kind⟩ _) (fun ds => by
    show (match tab[i]? with
          | some q => runF q.np q.nn (evSs (evs (callT tab (deep + 12) d) (deep + 12)) q.body) ds
          | none => M.bad) = _
    rw [(B base).tab, List.getElem?_map, hi]
    rfl)
  rw [hps] at F
  exact F
end
end PV
set_option Elab.async false
set_option linter.all false
set_option maxRecDepth 100000
set_option maxHeartbeats 1000000
set_option autoImplicit false
namespace PV
noncomputable section
open PySem PySem.Spec PyProof.Rows L2
/-! ### the same evaluator, closed up: a program as a term of combinators -/
def nth {α : Type} (i : Nat) : List α → Option α := @Nat.rec (fun _ => List α → Option α) (fun xs => @List.rec α (fun _ => Option α) none (fun x _ _ => some x) xs) (fun _ ih xs => @List.rec α (fun _ => Option α) none (fun _ t _ => ih t) xs) i
theorem nth_eq {α : Type} : ∀ (i : Nat) (xs : List α), nth i xs = xs[i]?
  | 0, [] => rfl
  | 0, _ :: _ => rfl
  | i + 1, [] => rfl
  | i + 1, _ :: t => by
    show nth i t = _
    rw [nth_eq i t, List.getElem?_cons_succ]
def sth {α : Type} (v : α) (i : Nat) : List α → List α := @Nat.rec (fun _ => List α → List α) (fun xs => @List.rec α (fun _ => List α) [] (fun _ t _ => v :: t) xs) (fun _ ih xs => @List.rec α (fun _ => List α) [] (fun x t _ => x :: ih t) xs) i
theorem sth_eq {α : Type} (v : α) : ∀ (i : Nat) (xs : List α), sth v i xs = xs.set i v
  | 0, [] => rfl
  | 0, _ :: _ => rfl
  | i + 1, [] => rfl
  | i + 1, x :: t => by
    show x :: sth v i t = _
    rw [sth_eq v i t, List.set_cons_succ]
abbrev KE := Env → M D
abbrev KT := Env → M Bool
abbrev KI := Env → M Stp
abbrev KG := Env → D → M Env
abbrev KS := Env → M F
def mRet {α : Type} (a : α) : M α := fun h => .ret (.ok a h)
def bIf {α : Type} (b : Bool) (x y : α) : α := @Bool.rec (fun _ => α) y x b
theorem bIf_eq {α : Type} (b : Bool) (x y : α) : (if b then x else y) = bIf b x y := by cases b <;> rfl
/-! ### loops -/
def oo {α : Type} (o : Option (Option D)) (b e : α) (s : D → α) : α := @Option.rec (Option D) (fun _ => α) b (fun o => @Option.rec D (fun _ => α) e s o) o
def fF {α : Type} (nx bk ct : Env → α) (rt : D → α) (f : F) : α := @F.rec (fun _ => α) nx rt bk ct f
def loopK (go : Nat → VH → Option (Option D)) (g : KG) (body : KS) (f : Nat) : Nat → Env → M F := @Nat.rec (fun _ => Nat → Env → M F) (fun _ _ _ => .ret .bad)
  (fun _ ih i env h => oo (go i h) (.ret .bad) (.ret (.ok (.nx env) h)) fun d => M.bind (g env d) (fun e2 => M.bind (body e2) (fF (ih (i + 1)) (fun e => mRet (.nx e)) (ih (i + 1)) (fun d => mRet (.rt d)))) h) f
theorem loopK_eq (st : Stp) (g : KG) (body : KS) : ∀ f i env, loopF st g body f i env = loopK st.go g body f i env
  | 0, _, _ => rfl
  | f + 1, i, env => by
    funext h
    show loopF st g body (f + 1) i env h = oo (st.go i h) _ _ fun d => M.bind (g env d) (fun e2 => M.bind (body e2) (fF (loopK st.go g body f (i + 1)) (fun e => mRet (.nx e)) (loopK st.go g body f (i + 1)) (fun d => mRet (.rt d)))) h
    unfold loopF
    have e : turnF (loopF st g body f (i + 1)) = fF (loopK st.go g body f (i + 1)) (fun e => mRet (.nx e)) (loopK st.go g body f (i + 1)) (fun d => mRet (.rt d)) := by
      funext fl
      cases fl <;> first | exact loopK_eq st g body f (i + 1) _ | rfl
    rw [e]
    cases st.go i h with
    | none => rfl
    | some o => cases o <;> rfl
def whileK (c : KT) (body : KS) (f : Nat) : Env → M F := @Nat.rec (fun _ => Env → M F) (fun _ _ => .ret .bad)
  (fun _ ih env => M.bind (c env) fun k => bIf k (M.bind (body env) (fF ih (fun e => mRet (.nx e)) ih (fun d => mRet (.rt d)))) (mRet (.nx env))) f
theorem whileK_eq (c : KT) (body : KS) : ∀ f env, whileF c body f env = whileK c body f env
  | 0, _ => rfl
  | f + 1, env => by
    show whileF c body (f + 1) env = M.bind (c env) fun k => bIf k (M.bind (body env) (fF (whileK c body f) (fun e => mRet (.nx e)) (whileK c body f) (fun d => mRet (.rt d)))) (mRet (.nx env))
    unfold whileF
    have e : turnF (whileF c body f) = fF (whileK c body f) (fun e => mRet (.nx e)) (whileK c body f) (fun d => mRet (.rt d)) := by
      funext fl
      cases fl <;> first | exact whileK_eq c body f _ | rfl
    rw [e]
    congr 1
    funext k
    cases k <;> rfl
def lcK (go : Nat → VH → Option (Option D)) (g : KG) (tt : KT) (te : KE) (env : Env) (f : Nat) : Nat → List D → M (List D) := @Nat.rec (fun _ => Nat → List D → M (List D)) (fun _ _ _ => .ret .bad)
  (fun _ ih i acc h => oo (go i h) (.ret .bad) (.ret (.ok acc h)) fun d => M.bind (g env d) (fun e2 => M.bind (tt e2) fun b => bIf b (M.bind (te e2) fun y => ih (i + 1) (y :: acc)) (ih (i + 1) acc)) h) f
theorem lcK_eq (st : Stp) (g : KG) (tt : KT) (te : KE) (env : Env) : ∀ f i acc, lcF st g tt te env f i acc = lcK st.go g tt te env f i acc
  | 0, _, _ => rfl
  | f + 1, i, acc => by
    funext h
    show lcF st g tt te env (f + 1) i acc h = oo (st.go i h) _ _ fun d => M.bind (g env d) (fun e2 => M.bind (tt e2) fun b => bIf b (M.bind (te e2) fun y => lcK st.go g tt te env f (i + 1) (y :: acc)) (lcK st.go g tt te env f (i + 1) acc)) h
    unfold lcF
    have e : ∀ d : D, (fun e2 => M.bind (tt e2) fun b => if b then M.bind (te e2) (fun y => lcF st g tt te env f (i + 1) (y :: acc)) else lcF st g tt te env f (i + 1) acc) = (fun e2 => M.bind (tt e2) fun b => bIf b (M.bind (te e2) fun y => lcK st.go g tt te env f (i + 1) (y :: acc)) (lcK st.go g tt te env f (i + 1) acc)) := by
      intro d
      funext e2
      congr 1
      funext b
      rw [bIf_eq, lcK_eq st g tt te env f (i + 1) acc]
      congr 2
      funext y
      exact lcK_eq st g tt te env f (i + 1) (y :: acc)
    cases st.go i h with
    | none => rfl
    | some o =>
      cases o with
      | none => rfl
      | some d => show M.bind (g env d) _ h = M.bind (g env d) _ h; rw [e d]
def unlkK {α : Type} (l : Option Nat) (x : M α) : M α := @Option.rec Nat (fun _ => M α) x (fun a => M.bind (unlk (some a)) fun _ => x) l
theorem unlkK_eq {α : Type} (l : Option Nat) (x : M α) : (M.bind (unlk l) fun _ => x) = unlkK l x := by
  cases l with
  | none => funext h; rfl
  | some a => rfl
/-! ### the parts -/
def xLoc (i : Nat) : KE := fun env h => oo (nth i env) (.ret .bad) (.ret .bad) fun d => .ret (.ok d h)
def xCst (d : D) : KE := fun _ h => .ret (.ok d h)
def xA (es : List KE) : Env → M (List D) := @List.rec KE (fun _ => Env → M (List D)) (fun _ => mRet []) (fun x _ ih env => M.bind (x env) fun d => M.bind (ih env) fun ds => mRet (d :: ds)) es
def xAS (bs : List Bool) : List KE → Env → M (List D) := @List.rec Bool (fun _ => List KE → Env → M (List D)) (fun xs _ => @List.rec KE (fun _ => M (List D)) (mRet []) (fun _ _ _ => M.bad) xs)
  (fun b _ ih xs env => @List.rec KE (fun _ => M (List D)) M.bad (fun x t _ => bIf b (M.bind (x env) fun d => M.bind (starM d) fun ys => M.bind (ih t env) fun ds => mRet (ys ++ ds)) (M.bind (x env) fun d => M.bind (ih t env) fun ds => mRet (d :: ds))) xs) bs
def xP (ks : List KE) : List KE → Env → M (List (D × D)) := @List.rec KE (fun _ => List KE → Env → M (List (D × D))) (fun xs _ => @List.rec KE (fun _ => M (List (D × D))) (mRet []) (fun _ _ _ => M.bad) xs)
  (fun k _ ih xs env => @List.rec KE (fun _ => M (List (D × D))) M.bad (fun v t _ => M.bind (k env) fun x => M.bind (v env) fun y => M.bind (ih t env) fun kvs => mRet ((x, y) :: kvs)) xs) ks
def xU {α : Type} (f : D → M α) (a : KE) : Env → M α := fun env => M.bind (a env) f
def xB {α : Type} (f : D → D → M α) (a b : KE) : Env → M α := fun env => M.bind (a env) fun x => M.bind (b env) fun y => f x y
def xN {α : Type} (f : List D → M α) (es : List KE) : Env → M α := fun env => M.bind (xA es env) f
def xC0 (m : M D) : KE := fun _ => m
def xChn (f g : D → D → M D) (a b c : KE) : KE := fun env => M.bind (a env) fun x => M.bind (b env) fun y => M.bind (f x y) fun z => M.bind (asB z) fun k => bIf k (M.bind (c env) fun w => g y w) (mRet (.bl false))
def xAnd (es : List KE) : KE := @List.rec KE (fun _ => KE) (fun _ => M.bad) (fun a r ih env => @List.rec KE (fun _ => M D) (a env) (fun _ _ _ => M.bind (a env) fun x => M.bind (truM x) fun c => bIf c (ih env) (mRet x)) r) es
def xOr (es : List KE) : KE := @List.rec KE (fun _ => KE) (fun _ => M.bad) (fun a r ih env => @List.rec KE (fun _ => M D) (a env) (fun _ _ _ => M.bind (a env) fun x => M.bind (truM x) fun c => bIf c (mRet x) (ih env)) r) es
def xNot (a : KE) : KE := fun env => M.bind (a env) fun x => M.bind (truM x) fun b => mRet (.bl (!b))
def xIf {α : Type} (c : KT) (a b : Env → M α) : Env → M α := fun env => M.bind (c env) fun k => bIf k (a env) (b env)
def xO (o : Option KE) : Env → M (Option Int) := @Option.rec KE (fun _ => Env → M (Option Int)) (fun _ => mRet none) (fun x env => M.bind (x env) asI) o
def xSl (a : KE) (lo hi : Option KE) : KE := fun env => M.bind (a env) fun x => M.bind (xO lo env) fun l => M.bind (xO hi env) fun u => slM x l u
def xMth (f : M D → M (List D) → M D) (o : KE) (es : List KE) : KE := fun env => f (o env) (xA es env)
def xTt (o : Option KT) : KT := @Option.rec KT (fun _ => KT) (fun _ => mRet true) (fun x => x) o
def wipeK (env : Env) (vs : List Nat) : Env := @List.rec Nat (fun _ => Env) env (fun v _ ih => sth none v ih) vs
def xLc (it : KI) (tg : KG) (ifs : Option KT) (elt : KE) (vs : List Nat) : KE := fun env => M.bind (it env) fun st => M.bind (lcK st.go tg (xTt ifs) elt (wipeK env vs) turns 0 []) fun acc => unlkK st.lk (newLst acc.reverse)
def xPrp (c : Nat) (f : List D → M D) (o : KE) : KE := fun env => M.bind (o env) fun x => M.bind (insM c x) fun x => f [x]
def xMet (c : Nat) (f : List D → M D) (o : KE) (es : List KE) : KE := fun env => M.bind (o env) fun x => M.bind (insM c x) fun x => M.bind (xA es env) fun ds => f (x :: ds)
def xCmpT (f : D → D → M D) (a b : KE) : KT := fun env => M.bind (a env) fun x => M.bind (b env) fun y => M.bind (f x y) asB
def xChnT (f g : D → D → M D) (a b c : KE) : KT := fun env => M.bind (xChn f g a b c env) asB
def xAndT (es : List KT) : KT := @List.rec KT (fun _ => KT) (fun _ => M.bad) (fun a r ih env => @List.rec KT (fun _ => M Bool) (a env) (fun _ _ _ => M.bind (a env) fun c => bIf c (ih env) (mRet false)) r) es
def xOrT (es : List KT) : KT := @List.rec KT (fun _ => KT) (fun _ => M.bad) (fun a r ih env => @List.rec KT (fun _ => M Bool) (a env) (fun _ _ _ => M.bind (a env) fun c => bIf c (mRet true) (ih env)) r) es
def xNotT (a : KT) : KT := fun env => M.bind (a env) fun b => mRet (!b)
def xNam (i : Nat) : KG := fun env d => mRet (sth (some d) i env)
def xGs (ts : List KG) : Env → List D → M Env := @List.rec KG (fun _ => Env → List D → M Env) (fun env ds => @List.rec D (fun _ => M Env) (mRet env) (fun _ _ _ => M.bad) ds)
  (fun t _ ih env ds => @List.rec D (fun _ => M Env) M.bad (fun d q _ => M.bind (t env d) fun env' => ih env' q) ds) ts
def xGt (n : Nat) (ts : List KG) : KG := fun env d => gTupD n (xGs ts) env d
def xSub (o i : KE) : KG := fun env d => M.bind (o env) fun x => M.bind (i env) fun y => M.bind (setM x y d) fun _ => mRet env
def xSs (ss : List KS) : KS := @List.rec KS (fun _ => KS) (fun env => mRet (.nx env)) (fun s _ ih env => M.bind (s env) (fF ih (fun e => mRet (.bk e)) (fun e => mRet (.ct e)) (fun d => mRet (.rt d)))) ss
def xExpr (e : KE) : KS := fun env => M.bind (e env) fun _ => mRet (.nx env)
def xRet (e : KE) : KS := fun env => M.bind (e env) fun d => mRet (.rt d)
def xRetN : KS := fun _ => mRet (.rt .non)
def xPass : KS := fun env => mRet (.nx env)
def xBad : KS := fun _ => M.bad
def xAsg (tg : KG) (e : KE) : KS := fun env => M.bind (e env) fun d => M.bind (tg env d) fun env' => mRet (.nx env')
def xPar (i j : Nat) (es : List KE) : KS := fun env => M.bind (xA es env) fun ds => match ds with
    | [d, e] => mRet (.nx ((env.set i (some d)).set j (some e)))
    | _ => M.bad
def xSetE (k : Nat) (e : KE) : KS := fun env => M.bind (e env) fun d => mRet (.nx (sth (some d) k env))
def xFor (it : KI) (tg : KG) (body : KS) : KS := fun env => M.bind (it env) fun st => M.bind (loopK st.go tg body turns 0 env) fun f => unlkK st.lk (mRet f)
def xWhl (c : KT) (body : KS) : KS := whileK c body turns
def xSetF (f : Nat) (o e : KE) : KS := fun env => M.bind (e env) fun d => M.bind (o env) fun x => M.bind (setF f x d) fun _ => mRet (.nx env)
end
end PV
set_option Elab.async false
set_option linter.all false
set_option maxRecDepth 100000
set_option maxHeartbeats 1000000
set_option autoImplicit false
namespace PV
noncomputable section
open PySem PySem.Spec PyProof.Rows L2
/-! ### faster primitives -/
def ltI (i j : Int) : Bool := match i, j with
  | .ofNat a, .ofNat b => Nat.ble (a + 1) b
  | i, j => decide (i < j)
theorem ltI_eq (i j : Int) : decide (i < j) = ltI i j := by
  unfold ltI
  split
  · rename_i a b
    by_cases h : a < b
    · rw [decide_eq_true (by simp; omega), Nat.ble_eq_true_of_le h]
    · rw [decide_eq_false (by simp; omega)]
      cases e : Nat.ble (a + 1) b with
      | false => rfl
      | true => exact absurd (Nat.le_of_ble_eq_true e) h
  · rfl
def leI (i j : Int) : Bool := match i, j with
  | .ofNat a, .ofNat b => Nat.ble a b
  | i, j => decide (i ≤ j)
theorem leI_eq (i j : Int) : decide (i ≤ j) = leI i j := by
  unfold leI
  split
  · rename_i a b
    by_cases h : a ≤ b
    · rw [decide_eq_true (by simp; omega), Nat.ble_eq_true_of_le h]
    · rw [decide_eq_false (by simp; omega)]
      cases e : Nat.ble a b with
      | false => rfl
      | true => exact absurd (Nat.le_of_ble_eq_true e) h
  · rfl
def eqI (i j : Int) : Bool := match i, j with
  | .ofNat a, .ofNat b => Nat.beq a b
  | i, j => i == j
theorem eqI_eq (i j : Int) : (i == j) = eqI i j := by
  unfold eqI
  split
  · rename_i a b
    by_cases h : a = b
    · subst h; rw [Nat.beq_refl]; simp
    · rw [show Nat.beq a b = false by cases e : Nat.beq a b with | false => rfl | true => exact absurd (Nat.eq_of_beq_eq_true e) h]
      rw [beq_eq_false_iff_ne]
      intro z
      exact h (Int.ofNat.inj z)
  · rfl
def ordK (f : Int → Int → Bool) (g : List Nat → List Nat → Bool) : D → D → M D
  | .int i, .int j => mRet (.bl (f i j))
  | .str s, .str t => mRet (.bl (g s t))
  | x, y => ordD f g x y
theorem ordK_eq (f f' : Int → Int → Bool) (g : List Nat → List Nat → Bool) (e : ∀ i j, f i j = f' i j) : ordD f g = ordK f' g := by
  have : f = f' := by funext i j; exact e i j
  subst this
  funext x y
  cases x <;> cases y <;> rfl
def ltK : D → D → M D := ordK (fun i j => ltI i j) ltS
def leK : D → D → M D := ordK (fun i j => leI i j) (fun s t => !ltS t s)
def gtK : D → D → M D := ordK (fun i j => ltI j i) (fun s t => ltS t s)
def geK : D → D → M D := ordK (fun i j => leI j i) (fun s t => !ltS s t)
theorem ltK_eq : ltD = ltK := ordK_eq _ _ _ fun i j => ltI_eq i j
theorem leK_eq : leD = leK := ordK_eq _ _ _ fun i j => leI_eq i j
theorem gtK_eq : gtD = gtK := ordK_eq _ _ _ fun i j => ltI_eq j i
theorem geK_eq : geD = geK := ordK_eq _ _ _ fun i j => leI_eq j i
def eqQ (neg : Bool) (x y : D) : M D := match x, y with
  | .int i, .int j => mRet (.bl (bIf neg (!eqI i j) (eqI i j)))
  | .str s, .str t => mRet (.bl (bIf neg (!eqS s t) (eqS s t)))
  | x, y => eqM neg x y
theorem eqQ_eq (neg : Bool) : eqM neg = eqQ neg := by
  funext x y
  unfold eqQ
  split
  · rename_i i j
    funext h
    show (if isDt 64 h (.int i) && isDt 64 h (.int j) then P.ret (R.ok (D.bl (if neg then !(i == j) else (i == j))) h) else P.ret R.bad) = _
    rw [eqI_eq]
    simp only [bIf_eq]
    rfl
  · rename_i s t
    funext h
    show (if isDt 64 h (.str s) && isDt 64 h (.str t) then P.ret (R.ok (D.bl (if neg then !eqS s t else eqS s t)) h) else P.ret R.bad) = _
    simp only [bIf_eq]
    rfl
  · rfl
def cmpQ : Nat → D → D → M D
  | 0 => ltK
  | 1 => leK
  | 2 => gtK
  | 3 => geK
  | 4 => eqQ false
  | 5 => eqQ true
  | n => cmpD n
theorem cmpQ_eq : ∀ n, cmpD n = cmpQ n
  | 0 => ltK_eq
  | 1 => leK_eq
  | 2 => gtK_eq
  | 3 => geK_eq
  | 4 => eqQ_eq false
  | 5 => eqQ_eq true
  | _ + 6 => rfl
/-! ### iteration -/
def stpLK (xs : List D) : Stp := ⟨fun i _ => some (nth i xs), none⟩
theorem stpLK_eq (xs : List D) : stpL xs = stpLK xs := by
  unfold stpL stpLK
  simp only [nth_eq]
def stpAK (a : Nat) : Stp := ⟨fun i h => match h.get a with
  | some (.lst xs) => some (nth i xs)
  | _ => none, none⟩
theorem stpAK_eq (a : Nat) : stpA a = stpAK a := by
  unfold stpA stpAK
  simp only [nth_eq] <;> rfl
def goK (xs : List D) (i : Nat) : Option (Option D) := @Option.rec D (fun _ => Option (Option D)) (bIf (Nat.beq xs.length i) (some none) none) (fun d => some (some d)) (nth i xs)
theorem goK_eq (xs : List D) (i : Nat) : goN xs i = goK xs i := by
  unfold goN goK
  rw [nth_eq]
  cases xs[i]? with
  | some d => rfl
  | none =>
    show (if xs.length = i then _ else _) = bIf (Nat.beq xs.length i) (some none) none
    by_cases h : xs.length = i
    · rw [if_pos h, h, Nat.beq_refl]; rfl
    · rw [if_neg h, show Nat.beq xs.length i = false by cases e : Nat.beq xs.length i with | false => rfl | true => exact absurd (Nat.eq_of_beq_eq_true e) h]; rfl
def stpKK (kvs : List (D × D)) (lk : Option Nat) : Stp := ⟨fun i _ => goK (kvs.map (·.1)) i, lk⟩
def stpVK (kvs : List (D × D)) (lk : Option Nat) : Stp := ⟨fun i _ => goK (kvs.map (·.2)) i, lk⟩
def stpIK (kvs : List (D × D)) (lk : Option Nat) : Stp := ⟨fun i _ => goK (kvs.map fun q => .tup [q.1, q.2]) i, lk⟩
theorem stpKK_eq (kvs : List (D × D)) (lk : Option Nat) : stpK kvs lk = stpKK kvs lk := by unfold stpK stpKK; simp only [goK_eq]
theorem stpVK_eq (kvs : List (D × D)) (lk : Option Nat) : stpV kvs lk = stpVK kvs lk := by unfold stpV stpVK; simp only [goK_eq]
theorem stpIK_eq (kvs : List (D × D)) (lk : Option Nat) : stpI kvs lk = stpIK kvs lk := by unfold stpI stpIK; simp only [goK_eq]
def seqIK (d : D) : M Stp := fun h => match d with
  | .tup xs => .ret (.ok (stpLK xs) h)
  | .str s => .ret (.ok (stpLK (s.map fun c => .str [c])) h)
  | .kls ns => .ret (.ok (stpLK (ns.map .int)) h)
  | .ref a => match h.get a with
    | some (.lst _) => .ret (.ok (stpAK a) h)
    | _ => M.bind (lockD (.ref a)) (fun q => mRet (stpKK q.1 q.2)) h
  | _ => .ret .bad
theorem seqIK_eq : seqI = seqIK := by
  funext d h
  unfold seqI seqIK
  simp only [stpLK_eq, stpAK_eq, stpKK_eq]
  rfl
def valsK (d : D) : M Stp := M.bind (lockD d) fun q => mRet (stpVK q.1 q.2)
def itemsK (d : D) : M Stp := M.bind (lockD d) fun q => mRet (stpIK q.1 q.2)
theorem valsK_eq : valsI = valsK := by funext d; unfold valsI valsK; simp only [stpVK_eq]; rfl
theorem itemsK_eq : itemsI = itemsK := by funext d; unfold itemsI itemsK; simp only [stpIK_eq]; rfl
def stpEK (d : D) : Stp := ⟨fun i h => match itemsD h d with
  | some xs => @Option.rec D (fun _ => Option (Option D)) (bIf (Nat.beq xs.length i) (some none) none) (fun x => some (some (.tup [.int (.ofNat i), x]))) (nth i xs)
  | none => none, none⟩
theorem natbeq {a b : Nat} {α : Type} (x y : α) : (if a = b then x else y) = bIf (Nat.beq a b) x y := by
  by_cases h : a = b
  · subst h; rw [if_pos rfl, Nat.beq_refl]; rfl
  · rw [if_neg h, show Nat.beq a b = false by cases e : Nat.beq a b with | false => rfl | true => exact absurd (Nat.eq_of_beq_eq_true e) h]; rfl
theorem stpEK_eq (d : D) : stpE d = stpEK d := by
  unfold stpE stpEK
  congr 1
  funext i h
  cases itemsD h d with
  | none => rfl
  | some xs =>
    simp only [nth_eq, natbeq]
    cases xs[i]? <;> rfl
def stpZK (d e : D) : Stp := ⟨fun i h => match itemsD h d, itemsD h e with
  | some xs, some ys => match nth i xs, nth i ys with
    | some x, some y => some (some (.tup [x, y]))
    | _, _ => bIf (Nat.beq (min xs.length ys.length) i) (some none) none
  | _, _ => none, none⟩
theorem stpZK_eq (d e : D) : stpZ d e = stpZK d e := by
  unfold stpZ stpZK
  simp only [nth_eq, natbeq] <;> rfl
def enumK (d : D) : M Stp := fun h => match itemsD h d with
  | some _ => .ret (.ok (stpEK d) h)
  | none => .ret .bad
def zipK (d e : D) : M Stp := fun h => match itemsD h d, itemsD h e with
  | some _, some _ => .ret (.ok (stpZK d e) h)
  | _, _ => .ret .bad
theorem enumK_eq : enumI = enumK := by funext d h; unfold enumI enumK; rw [stpEK_eq] <;> rfl
theorem zipK_eq : zipI = zipK := by funext d e h; unfold zipI zipK; rw [stpZK_eq] <;> rfl
/-! ### the steps -/
section
variable (ct : CT)
def stepEK (E : Evs) : Ex → KE
  | .loc i => xLoc i
  | .cst d => xCst d
  | .tup es => xN mkTup (es.map E.e)
  | .lst es => xN mkLst (es.map E.e)
  | .bin o a b => xB (binD o) (E.e a) (E.e b)
  | .cmp o a b => xB (cmpQ o) (E.e a) (E.e b)
  | .chn o p a b c => xChn (cmpQ o) (cmpQ p) (E.e a) (E.e b) (E.e c)
  | .and es => xAnd (es.map E.e)
  | .or es => xOr (es.map E.e)
  | .not a => xNot (E.e a)
  | .ifx c a b => xIf (E.t c) (E.e a) (E.e b)
  | .ix a b => xB ixM (E.e a) (E.e b)
  | .sl a lo hi => xSl (E.e a) (lo.map E.e) (hi.map E.e)
  | .rev a => xU revM (E.e a)
  | .neg a => xU negM (E.e a)
  | .call f es => match es with
    | [] => xC0 (ct f [])
    | x :: r => xN (ct f) ((x :: r).map E.e)
  | .bf1 f a => xU (bf1D f) (E.e a)
  | .isi a ts => xU (isiM ts) (E.e a)
  | .mth m o es => xMth (mthD m) (E.e o) (es.map E.e)
  | .lc it tg ifs elt vs => xLc (E.i it) (E.g tg) (ifs.map E.t) (E.e elt) vs
  | .fld f o => xU (fldM f) (E.e o)
  | .prp c g o => xPrp c (ct g) (E.e o)
  | .met c g o es => match es with
    | [] => xPrp c (ct g) (E.e o)
    | x :: r => xMet c (ct g) (E.e o) ((x :: r).map E.e)
  | .mk c g es => xN (mkIns ct c g) (es.map E.e)
  | .dnew => xC0 newDic
  | .tupS bs es => fun env => M.bind (xAS bs (es.map E.e) env) mkTup
  | .lstS bs es => fun env => M.bind (xAS bs (es.map E.e) env) mkLst
  | .bfN f es => xN (bfND f) (es.map E.e)
  | .lenS a => xU lenSM (E.e a)
  | .srtS a => xU srtSM (E.e a)
  | .lrg a => xU lrgM (E.e a)
  | .dz a b => xB dzM (E.e a) (E.e b)
  | .isc c a => xU (iscM c) (E.e a)
  | .disp ks vs => fun env => M.bind (xP (ks.map E.e) (vs.map E.e) env) dispM
  | .dc it tg ifs k v vs => fun env => dcM (E.i it) (E.g tg) (xTt (ifs.map E.t)) (E.e k) (E.e v) vs env
  | .lc2 it tg ifs it1 tg1 ifs1 elt vs vs1 => fun env => lc2M (E.i it) (E.g tg) (xTt (ifs.map E.t)) (E.i it1) (E.g tg1) (xTt (ifs1.map E.t)) (E.e elt) vs vs1 env
def stepTK (E : Evs) : Tx → KT
  | .val e => xU truM (E.e e)
  | .cmp o a b => xCmpT (cmpQ o) (E.e a) (E.e b)
  | .chn o p a b c => xChnT (cmpQ o) (cmpQ p) (E.e a) (E.e b) (E.e c)
  | .and ts => xAndT (ts.map E.t)
  | .or ts => xOrT (ts.map E.t)
  | .not a => xNotT (E.t a)
def stepIK (E : Evs) : Ix → KI
  | .seq e => xU seqIK (E.e e)
  | .rng1 a => xU rngI1 (E.e a)
  | .rng2 a b => xB rngI2 (E.e a) (E.e b)
  | .itm a => xU itemsK (E.e a)
  | .vals a => xU valsK (E.e a)
  | .enm a => xU enumK (E.e a)
  | .zip a b => xB zipK (E.e a) (E.e b)
def stepGK (E : Evs) : Tg → KG
  | .nam i => xNam i
  | .tup ts => xGt ts.length (ts.map E.g)
  | .sub o i => xSub (E.e o) (E.e i)
def stepSK (E : Evs) : Sm → KS
  | .expr e => xExpr (E.e e)
  | .ret e => xRet (E.e e)
  | .retN => xRetN
  | .pass => xPass
  | .bad => xBad
  | .cnd c a b => xIf (E.t c) (xSs (a.map E.s)) (xSs (b.map E.s))
  | .asg tg e => xAsg (E.g tg) (E.e e)
  | .par i j es => xPar i j (es.map E.e)
  | .setLc k it tg ifs elt vs => xSetE k (xLc (E.i it) (E.g tg) (ifs.map E.t) (E.e elt) vs)
  | .setLc2 k it tg ifs it1 tg1 ifs1 elt vs vs1 => xSetE k fun env => lc2M (E.i it) (E.g tg) (xTt (ifs.map E.t)) (E.i it1) (E.g tg1) (xTt (ifs1.map E.t)) (E.e elt) vs vs1 env
  | .setDc k it tg ifs a b vs => xSetE k fun env => dcM (E.i it) (E.g tg) (xTt (ifs.map E.t)) (E.e a) (E.e b) vs env
  | .forr it tg body => xFor (E.i it) (E.g tg) (xSs (body.map E.s))
  | .whl c body => xWhl (E.t c) (xSs (body.map E.s))
  | .setF f o e => xSetF f (E.e o) (E.e e)
def evsK : Nat → Evs := @Nat.rec (fun _ => Evs) ⟨fun _ _ => M.bad, fun _ _ => M.bad, fun _ _ => M.bad, fun _ _ _ => M.bad, fun _ _ => M.bad⟩
  (fun _ E => ⟨stepEK ct E, stepTK E, stepIK E, stepGK E, stepSK E⟩)
end
section
variable {ct : CT} {E : Evs}
theorem xA_eq (env : Env) : ∀ es, evA E es env = xA (es.map E.e) env
  | [] => rfl
  | x :: r => by
    show M.bind (E.e x env) _ = M.bind (E.e x env) fun d => M.bind (xA (r.map E.e) env) fun ds => mRet (d :: ds)
    rw [xA_eq env r]
    rfl
theorem xAS_eq (env : Env) : ∀ bs es, evAS E bs es env = xAS bs (es.map E.e) env
  | [], [] => rfl
  | [], _ :: _ => rfl
  | b :: bs, [] => rfl
  | b :: bs, x :: r => by
    show (if b then M.bind (E.e x env) fun d => M.bind (starM d) fun ys => M.bind (evAS E bs r env) fun ds => M.pure (ys ++ ds) else M.bind (E.e x env) fun d => M.bind (evAS E bs r env) fun ds => M.pure (d :: ds)) = _
    rw [bIf_eq, xAS_eq env bs r]
    rfl
theorem xP_eq (env : Env) : ∀ ks es, evP E ks es env = xP (ks.map E.e) (es.map E.e) env
  | [], [] => rfl
  | [], _ :: _ => rfl
  | k :: ks, [] => rfl
  | k :: ks, x :: r => by
    show (M.bind (E.e k env) fun a => M.bind (E.e x env) fun y => M.bind (evP E ks r env) fun kvs => M.pure ((a, y) :: kvs)) = _
    rw [xP_eq env ks r]
    rfl
theorem xAnd_eq (env : Env) : ∀ es, evAnd E es env = xAnd (es.map E.e) env
  | [] => rfl
  | [a] => rfl
  | a :: b :: r => by
    show (M.bind (E.e a env) fun x => M.bind (truM x) fun c => if c then evAnd E (b :: r) env else M.pure x) = M.bind (E.e a env) fun x => M.bind (truM x) fun c => bIf c (xAnd ((b :: r).map E.e) env) (mRet x)
    rw [xAnd_eq env (b :: r)]
    congr 1; funext x; congr 1; funext c
    exact bIf_eq _ _ _
theorem xOr_eq (env : Env) : ∀ es, evOr E es env = xOr (es.map E.e) env
  | [] => rfl
  | [a] => rfl
  | a :: b :: r => by
    show (M.bind (E.e a env) fun x => M.bind (truM x) fun c => if c then M.pure x else evOr E (b :: r) env) = M.bind (E.e a env) fun x => M.bind (truM x) fun c => bIf c (mRet x) (xOr ((b :: r).map E.e) env)
    rw [xOr_eq env (b :: r)]
    congr 1; funext x; congr 1; funext c
    exact bIf_eq _ _ _
theorem xAndT_eq (env : Env) : ∀ es, evAndT E es env = xAndT (es.map E.t) env
  | [] => rfl
  | [a] => rfl
  | a :: b :: r => by
    show (M.bind (E.t a env) fun c => if c then evAndT E (b :: r) env else M.pure false) = M.bind (E.t a env) fun c => bIf c (xAndT ((b :: r).map E.t) env) (mRet false)
    rw [xAndT_eq env (b :: r)]
    congr 1; funext c
    exact bIf_eq _ _ _
theorem xOrT_eq (env : Env) : ∀ es, evOrT E es env = xOrT (es.map E.t) env
  | [] => rfl
  | [a] => rfl
  | a :: b :: r => by
    show (M.bind (E.t a env) fun c => if c then M.pure true else evOrT E (b :: r) env) = M.bind (E.t a env) fun c => bIf c (mRet true) (xOrT ((b :: r).map E.t) env)
    rw [xOrT_eq env (b :: r)]
    congr 1; funext c
    exact bIf_eq _ _ _
theorem xGs_eq : ∀ ts env ds, evGs E ts env ds = xGs (ts.map E.g) env ds
  | [], env, [] => rfl
  | [], env, _ :: _ => rfl
  | t :: r, env, [] => rfl
  | t :: r, env, d :: q => by
    show (M.bind (E.g t env d) fun env' => evGs E r env' q) = M.bind (E.g t env d) fun env' => xGs (r.map E.g) env' q
    congr 1; funext e
    exact xGs_eq r e q
theorem xSs_eq : ∀ ss env, evSs E ss env = xSs (ss.map E.s) env
  | [], env => rfl
  | s :: r, env => by
    show M.bind (E.s s env) (seqF (evSs E r)) = M.bind (E.s s env) (fF (xSs (r.map E.s)) (fun e => mRet (.bk e)) (fun e => mRet (.ct e)) (fun d => mRet (.rt d)))
    congr 1; funext f
    cases f with
    | nx e => exact xSs_eq r e
    | _ => rfl
theorem xO_eq (env : Env) (o : Option Ex) : evO E o env = xO (o.map E.e) env := by cases o <;> rfl
theorem xTt_eq (o : Option Tx) : evIf E o = xTt (o.map E.t) := by cases o <;> rfl
theorem wipeK_eq (env : Env) : ∀ vs, wipeE env vs = wipeK env vs
  | [] => rfl
  | v :: vs => by
    show (wipeE env vs).set v none = sth none v (wipeK env vs)
    rw [sth_eq, wipeK_eq env vs]
theorem xLc_eq (it : Ix) (tg : Tg) (ifs : Option Tx) (elt : Ex) (vs : List Nat) (env : Env) : lcM (E.i it) (E.g tg) (evIf E ifs) (E.e elt) vs env = xLc (E.i it) (E.g tg) (ifs.map E.t) (E.e elt) vs env := by
  unfold lcM xLc
  congr 1; funext st
  rw [lcK_eq, xTt_eq, wipeK_eq]
  congr 1; funext acc
  exact unlkK_eq _ _
theorem xFor_eq (it : Ix) (tg : Tg) (body : List Sm) (env : Env) : (M.bind (E.i it env) fun st => forM st (E.g tg) (evSs E body) env) = xFor (E.i it) (E.g tg) (xSs (body.map E.s)) env := by
  unfold xFor forM
  congr 1; funext st
  rw [loopK_eq, show evSs E body = xSs (body.map E.s) from funext (xSs_eq body)]
  congr 1; funext f
  exact unlkK_eq _ _
theorem xLoc_eq (i : Nat) (env : Env) : stepE ct E (.loc i) env = xLoc i env := by
  funext h
  show (match env[i]? with | some (some d) => P.ret (R.ok d h) | _ => P.ret R.bad) = oo (nth i env) (P.ret R.bad) (P.ret R.bad) (fun d => P.ret (R.ok d h))
  rw [nth_eq]
  cases env[i]? with
  | none => rfl
  | some o => cases o <;> rfl
theorem stepEK_eq : stepE ct E = stepEK ct E := by
  funext ex env
  cases ex with
  | loc i => exact xLoc_eq i env
  | tup es => show M.bind (evA E es env) mkTup = M.bind (xA (es.map E.e) env) mkTup; rw [xA_eq]
  | lst es => show M.bind (evA E es env) mkLst = M.bind (xA (es.map E.e) env) mkLst; rw [xA_eq]
  | cmp o a b => show (M.bind (E.e a env) fun x => M.bind (E.e b env) fun y => cmpD o x y) = _; rw [cmpQ_eq]; rfl
  | chn o p a b c =>
    show (M.bind (E.e a env) fun x => M.bind (E.e b env) fun y => M.bind (cmpD o x y) fun z => M.bind (asB z) fun k => if k then M.bind (E.e c env) fun w => cmpD p y w else M.pure (.bl false)) = _
    simp only [cmpQ_eq, bIf_eq]; rfl
  | and es => exact xAnd_eq env es
  | or es => exact xOr_eq env es
  | ifx c a b => show (M.bind (E.t c env) fun k => if k then E.e a env else E.e b env) = _; simp only [bIf_eq]; rfl
  | sl a lo hi => show (M.bind (E.e a env) fun x => M.bind (evO E lo env) fun l => M.bind (evO E hi env) fun u => slM x l u) = _; rw [xO_eq, xO_eq]; rfl
  | call f es => cases es with
    | nil => rfl
    | cons x r => show M.bind (evA E (x :: r) env) (ct f) = _; rw [xA_eq]; rfl
  | mth m o es => show mthD m (E.e o env) (evA E es env) = _; rw [xA_eq]; rfl
  | lc it tg ifs elt vs => exact xLc_eq it tg ifs elt vs env
  | met c g o es => cases es with
    | nil => rfl
    | cons x r => show (M.bind (E.e o env) fun a => M.bind (insM c a) fun a => M.bind (evA E (x :: r) env) fun ds => ct g (a :: ds)) = _; rw [xA_eq]; rfl
  | mk c g es => show M.bind (evA E es env) (mkIns ct c g) = _; rw [xA_eq]; rfl
  | tupS bs es => show M.bind (evAS E bs es env) mkTup = _; rw [xAS_eq]; rfl
  | lstS bs es => show M.bind (evAS E bs es env) mkLst = _; rw [xAS_eq]; rfl
  | bfN f es => show M.bind (evA E es env) (bfND f) = _; rw [xA_eq]; rfl
  | disp ks vs => show M.bind (evP E ks vs env) dispM = _; rw [xP_eq]; rfl
  | dc it tg ifs k v vs => show dcM (E.i it) (E.g tg) (evIf E ifs) (E.e k) (E.e v) vs env = _; rw [xTt_eq]; rfl
  | lc2 it tg ifs it1 tg1 ifs1 elt vs vs1 => show lc2M (E.i it) (E.g tg) (evIf E ifs) (E.i it1) (E.g tg1) (evIf E ifs1) (E.e elt) vs vs1 env = _; rw [xTt_eq, xTt_eq]; rfl
  | _ => rfl
theorem stepTK_eq : stepT E = stepTK E := by
  funext ex env
  cases ex with
  | cmp o a b => show (M.bind (E.e a env) fun x => M.bind (E.e b env) fun y => M.bind (cmpD o x y) asB) = _; rw [cmpQ_eq]; rfl
  | chn o p a b c =>
    show (M.bind (M.bind (E.e a env) fun x => M.bind (E.e b env) fun y => M.bind (cmpD o x y) fun z => M.bind (asB z) fun k => if k then M.bind (E.e c env) fun w => cmpD p y w else M.pure (.bl false)) asB) = _
    simp only [cmpQ_eq, bIf_eq]; rfl
  | and es => exact xAndT_eq env es
  | or es => exact xOrT_eq env es
  | _ => rfl
theorem stepIK_eq : stepI E = stepIK E := by
  funext ex env
  cases ex with
  | seq e => show M.bind (E.e e env) seqI = _; rw [seqIK_eq]; rfl
  | itm e => show M.bind (E.e e env) itemsI = _; rw [itemsK_eq]; rfl
  | vals e => show M.bind (E.e e env) valsI = _; rw [valsK_eq]; rfl
  | enm e => show M.bind (E.e e env) enumI = _; rw [enumK_eq]; rfl
  | zip a b => show (M.bind (E.e a env) fun x => M.bind (E.e b env) fun y => zipI x y) = _; rw [zipK_eq]; rfl
  | _ => rfl
theorem stepGK_eq : stepG E = stepGK E := by
  funext ex env d
  cases ex with
  | nam i => show M.pure (env.set i (some d)) = _; rw [← sth_eq]; rfl
  | tup ts => show gTupD ts.length (evGs E ts) env d = gTupD ts.length (xGs (ts.map E.g)) env d; rw [show evGs E ts = xGs (ts.map E.g) from funext fun e => funext (xGs_eq ts e)]
  | _ => rfl
theorem stepSK_eq : stepS E = stepSK E := by
  funext ex env
  cases ex with
  | cnd c a b => show (M.bind (E.t c env) fun k => if k then evSs E a env else evSs E b env) = _; simp only [bIf_eq, xSs_eq]; rfl
  | par i j es => show M.bind (evA E es env) _ = _; rw [xA_eq]; rfl
  | setLc k it tg ifs elt vs => show (M.bind (lcM (E.i it) (E.g tg) (evIf E ifs) (E.e elt) vs env) fun d => M.pure (F.nx (env.set k (some d)))) = _; rw [xLc_eq]; simp only [← sth_eq]; rfl
  | setLc2 k it tg ifs it1 tg1 ifs1 elt vs vs1 => show (M.bind (lc2M (E.i it) (E.g tg) (evIf E ifs) (E.i it1) (E.g tg1) (evIf E ifs1) (E.e elt) vs vs1 env) fun d => M.pure (F.nx (env.set k (some d)))) = _; rw [xTt_eq, xTt_eq]; simp only [← sth_eq]; rfl
  | setDc k it tg ifs a b vs => show (M.bind (dcM (E.i it) (E.g tg) (evIf E ifs) (E.e a) (E.e b) vs env) fun d => M.pure (F.nx (env.set k (some d)))) = _; rw [xTt_eq]; simp only [← sth_eq]; rfl
  | forr it tg body => exact xFor_eq it tg body env
  | whl c body => show whileF (E.t c) (evSs E body) turns env = _; rw [whileK_eq, show evSs E body = xSs (body.map E.s) from funext (xSs_eq body)]; rfl
  | _ => rfl
end
theorem evsK_eq (ct : CT) : ∀ n, evs ct n = evsK ct n
  | 0 => rfl
  | n + 1 => by
    show Evs.mk (stepE ct (evs ct n)) (stepT (evs ct n)) (stepI (evs ct n)) (stepG (evs ct n)) (stepS (evs ct n)) = Evs.mk (stepEK ct (evsK ct n)) (stepTK (evsK ct n)) (stepIK (evsK ct n)) (stepGK (evsK ct n)) (stepSK (evsK ct n))
    rw [evsK_eq ct n, stepEK_eq, stepTK_eq, stepIK_eq, stepGK_eq, stepSK_eq]
/-! ### functions -/
def stK (nn : Nat) : List D → Env := @Nat.rec (fun _ => List D → Env) (fun ds => ds.map some) (fun _ ih ds => @List.rec D (fun _ => Env) (none :: ih []) (fun d t _ => some d :: ih t) ds) nn
theorem stK_eq : ∀ nn ds, startE nn ds = stK nn ds
  | 0, ds => by
    show ds.map some ++ List.replicate (0 - ds.length) none = ds.map some
    simp
  | nn + 1, [] => by
    show startE (nn + 1) [] = none :: stK nn []
    rw [← stK_eq nn []]
    rfl
  | nn + 1, d :: t => by
    show startE (nn + 1) (d :: t) = some d :: stK nn t
    rw [← stK_eq nn t]
    unfold startE
    simp
def endK (f : F) : M D := @F.rec (fun _ => M D) (fun _ => mRet .non) mRet (fun _ => M.bad) (fun _ => M.bad) f
def runK (np nn : Nat) (m : KS) (ds : List D) : M D := fun h => bIf (Nat.beq ds.length np) (M.bind (m (stK nn ds)) endK h) (.ret .bad)
theorem runK_eq (np nn : Nat) (m : KS) (ds : List D) : runF np nn m ds = runK np nn m ds := by
  funext h
  unfold runF runK
  rw [natbeq, stK_eq, show endF = endK from funext fun f => by cases f <;> rfl]
structure Kf where
  np : Nat
  nn : Nat
  body : CT → KS
def callK (tab : List Kf) : Nat → CT := @Nat.rec (fun _ => CT) (fun _ _ => M.bad)
  (fun _ ct f ds => match f with
    | 0 => prim ds
    | 1 => prim2 ds
    | f + 2 => @Option.rec Kf (fun _ => M D) M.bad (fun q => runK q.np q.nn (q.body ct) ds) (nth f tab))
/-- the two tables say the same -/
def Same (deep : Nat) (q : Fn) (k : Kf) : Prop := q.np = k.np ∧ q.nn = k.nn ∧ ∀ ct, k.body ct = xSs (q.body.map (evsK ct deep).s)
inductive Sames (deep : Nat) : List Fn → List Kf → Prop
  | nil : Sames deep [] []
  | cons {q : Fn} {k : Kf} {qs : List Fn} {ks : List Kf} : Same deep q k → Sames deep qs ks → Sames deep (q :: qs) (k :: ks)
theorem Sames.get {deep : Nat} : ∀ {qs : List Fn} {ks : List Kf}, Sames deep qs ks → ∀ i : Nat, (qs[i]? = none ∧ nth i ks = none) ∨ ∃ q k, qs[i]? = some q ∧ nth i ks = some k ∧ Same deep q k
  | _, _, .nil, i => by cases i <;> exact .inl ⟨rfl, rfl⟩
  | _, _, .cons a r, 0 => .inr ⟨_, _, rfl, rfl, a⟩
  | _, _, .cons a r, i + 1 => by
    rw [List.getElem?_cons_succ]
    exact r.get i
theorem callK_eq {deep : Nat} {tab : List Fn} {ks : List Kf} (s : Sames deep tab ks) : ∀ n, callT tab deep n = callK ks n
  | 0 => rfl
  | n + 1 => by
    have ih := callK_eq s n
    funext f ds
    match f with
    | 0 => rfl
    | 1 => rfl
    | f + 2 =>
      show (match tab[f]? with | some q => runF q.np q.nn (evSs (evs (callT tab deep n) deep) q.body) ds | none => M.bad) = @Option.rec Kf (fun _ => M D) M.bad (fun q => runK q.np q.nn (q.body (callK ks n)) ds) (nth f ks)
      rcases s.get f with ⟨a, b⟩ | ⟨q, k, a, b, e1, e2, e3⟩
      · rw [a, b]
      · rw [a, b]
        show runF q.np q.nn _ ds = runK k.np k.nn (k.body (callK ks n)) ds
        rw [runK_eq, e1, e2, e3, evsK_eq, ih, show evSs (evsK (callK ks n) deep) q.body = xSs (q.body.map (evsK (callK ks n) deep).s) from funext (xSs_eq q.body)]
end
end PV
set_option Elab.async false
set_option linter.all false
set_option maxRecDepth 100000
set_option maxHeartbeats 1000000
set_option autoImplicit false
namespace PV
noncomputable section
open PySem PySem.Spec PyProof.Rows L2
/-! ### a block in segments: between two statements what is no longer asked may be dropped -/
section
variable {G : Gs} {K : PySem.W.Frag} {C : Cx → Prop}
/-- the second state is a part of the first -/
def Cut (G : Gs) (K : PySem.W.Frag) (e1 : Env) (h1 : VH) (e2 : Env) (h2 : VH) : Prop := ∀ ρ H σ, HR G K ρ h1 H → ER K ρ h1.n H e1 σ → ∃ ρ', HR G K ρ' h2 H ∧ ER K ρ' h2.n H e2 σ
theorem Cut.refl {e : Env} {h : VH} : Cut G K e h e h := fun ρ H σ a b => ⟨ρ, a, b⟩
/-- from here the block ends in True -/
def nxG (g : Env → VH → Prop) (r : R F) : Prop := match r with
  | .ok (.nx e) h => g e h
  | .ok (.rt (.bl true)) _ => True
  | _ => False
def SSz (G : Gs) (K : PySem.W.Frag) (C : Cx → Prop) (sts : List Stmt) (g : Env → VH → Prop) : Prop :=
  ∃ t, (∀ X, C X → X.K = K → PSs X sts t) ∧ ∀ ρ env h σ H Z, HR G K ρ h H → ER K ρ h.n H env σ → (∀ H', Z.rt (.bl true) H') → g env h → t Z σ H
theorem ssz_nil : SSz G K C [] (fun _ _ => False) := ⟨_, fun X hX eK => pss_nil, fun ρ env h σ H Z hr er hz hq => hq.elim⟩
theorem ssz_cons {st : Stmt} {sts : List Stmt} {m : Env → M F} {g : Env → VH → Prop} (h1 : SS G K C st m) (h2 : SSz G K C sts g) : SSz G K C (st :: sts) (fun env h => (m env h).all (nxG g)) := by
  obtain ⟨t, p, q⟩ := h1
  obtain ⟨u, pu, qu⟩ := h2
  refine ⟨_, fun X hX eK => pss_cons (p X hX eK) (pu X hX eK), fun ρ env h σ H Z hr er hz hq => ?_⟩
  refine q ρ env h σ H _ hr er (P.all_mono (fun r z => ?_) hq)
  cases r with
  | bad => exact z.elim
  | ok f h1 =>
    cases f with
    | nx env1 => exact fun ρ1 H1 σ1 l1 hr1 er1 => qu ρ1 env1 h1 σ1 H1 Z hr1 er1 hz z
    | rt d =>
      cases d with
      | bl b => cases b with
        | true => exact fun ρ1 H1 v l1 hr1 rv => by rw [relD_bl.mp rv]; exact hz H1
        | false => exact z.elim
      | _ => exact z.elim
    | bk e => exact z.elim
    | ct e => exact z.elim
theorem ssz_cut {sts : List Stmt} {g : Env → VH → Prop} (h : SSz G K C sts g) : SSz G K C sts (fun e1 h1 => ∃ e2 h2, Cut G K e1 h1 e2 h2 ∧ g e2 h2) := by
  obtain ⟨t, p, q⟩ := h
  refine ⟨t, p, fun ρ env h σ H Z hr er hz ⟨e2, h2, c, hg⟩ => ?_⟩
  obtain ⟨ρ', a, b⟩ := c ρ H σ hr er
  exact q ρ' e2 h2 σ H Z a b hz hg
theorem ssz_mono {sts : List Stmt} {g g' : Env → VH → Prop} (h : SSz G K C sts g) (i : ∀ e v, g' e v → g e v) : SSz G K C sts g' := by
  obtain ⟨t, p, q⟩ := h
  exact ⟨t, p, fun ρ env h σ H Z hr er hz hg => q ρ env h σ H Z hr er hz (i _ _ hg)⟩
end
/-- good from here on, cutting where we like -/
def Gd (G : Gs) (K : PySem.W.Frag) (E : Evs) : List Sm → Env → VH → Prop
  | [], _, _ => False
  | s :: r, env, h => (E.s s env h).all (nxG fun e1 h1 => ∃ e2 h2, Cut G K e1 h1 e2 h2 ∧ Gd G K E r e2 h2)
theorem nxG_mono {g g' : Env → VH → Prop} (i : ∀ e h, g e h → g' e h) {r : R F} (z : nxG g r) : nxG g' r := by
  cases r with
  | bad => exact z
  | ok f h =>
    cases f with
    | nx e => exact i e h z
    | rt d => cases d with
      | bl b => cases b <;> exact z
      | _ => exact z
    | bk e => exact z
    | ct e => exact z
theorem gd_block {G : Gs} {K : PySem.W.Frag} {W : Wd} {lev : Nat} {Mc : Cmp} {E : Evs} {S : Sx} (sn : Snd G K W lev Mc E) (nk : NOk S) : ∀ sts : List Stmt, SSz G K (GX W lev S) sts (Gd G K E (sts.map (orBad (Mc.s S))))
  | [] => ssz_nil
  | st :: r => by
    have h1 : SS G K (GX W lev S) st (E.s (orBad (Mc.s S) st)) := by
      unfold orBad
      cases e : Mc.s S st with
      | none => rw [sn.bd]; exact ss_never
      | some ir => exact sn.s S st ir nk e
    exact ssz_cons h1 (ssz_cut (gd_block sn nk r))
theorem gd_seg {G : Gs} {K : PySem.W.Frag} {E : Evs} {rest : List Sm} : ∀ (seg : List Sm) (env : Env) (h : VH), (evSs E seg env h).all (nxG fun e1 h1 => ∃ e2 h2, Cut G K e1 h1 e2 h2 ∧ Gd G K E rest e2 h2) → (seg ≠ []) → Gd G K E (seg ++ rest) env h
  | [], env, h, q, n => absurd rfl n
  | s :: r, env, h, q, _ => by
    show (E.s s env h).all _
    have q2 : (M.bind (E.s s env) (seqF (evSs E r)) h).all (nxG fun e1 h1 => ∃ e2 h2, Cut G K e1 h1 e2 h2 ∧ Gd G K E rest e2 h2) := q
    refine P.all_mono (fun x z => ?_) (all_M q2 (fun z => z))
    cases x with
    | bad => exact z.elim
    | ok f h1 =>
      cases f with
      | nx e =>
        cases r with
        | nil => exact z
        | cons s2 r2 => exact ⟨e, h1, .refl, gd_seg (s2 :: r2) e h1 z (by simp)⟩
      | rt d =>
        have z2 : nxG (fun e1 h1 => ∃ e2 h2, Cut G K e1 h1 e2 h2 ∧ Gd G K E rest e2 h2) (R.ok (F.rt d) h1) := z
        cases d with
        | bl b => cases b <;> exact z2
        | _ => exact z2
      | bk e => exact z
      | ct e => exact z
/-! ### cuts that keep the source and flat data -/
def eqDt : D → D → Bool
  | .int i, .int j => eqI i j
  | .str s, .str t => eqS s t
  | .bl a, .bl b => bIf a b (!b)
  | .non, .non => true
  | _, _ => false
theorem eqDt_ok {a b : D} (h : eqDt a b = true) : a = b ∧ ∀ (K : PySem.W.Frag) (ρ ρ' : Nat → Addr) (n n' : Nat) (H : Hp) (v : V), RelD K ρ n H a v → RelD K ρ' n' H a v := by
  unfold eqDt at h
  split at h
  · rename_i i j
    rw [← eqI_eq] at h
    exact ⟨by rw [eq_of_beq h], fun K ρ ρ' n n' H v r => relD_int.mpr (relD_int.mp r)⟩
  · rename_i s t
    exact ⟨by rw [(eqS_iff _ _).mp h], fun K ρ ρ' n n' H v r => relD_str.mpr (relD_str.mp r)⟩
  · rename_i x y
    refine ⟨?_, fun K ρ ρ' n n' H v r => relD_bl.mpr (relD_bl.mp r)⟩
    cases x with
    | true => cases y with
      | true => rfl
      | false => cases h
    | false => cases y with
      | true => cases h
      | false => rfl
  · exact ⟨rfl, fun K ρ ρ' n n' H v r => relD_non.mpr (relD_non.mp r)⟩
  · cases h
def mkH (n : Nat) : VH := ⟨1, .node .nil (some (.src n)) .nil⟩
def isR0 : D → Bool
  | .ref a => Nat.beq a 0
  | _ => false
def slotB (isSl : Bool) (x1 : Option D) (d2 : D) : Bool := bIf isSl (isR0 d2) (match x1 with
  | some d1 => eqDt d1 d2
  | none => false)
def slotsB (sl : Nat) : Nat → Env → Env → Bool
  | _, [], [] => true
  | i, x :: r, y :: t => (match y with
    | none => true
    | some d => slotB (Nat.beq i sl) x d) && slotsB sl (i + 1) r t
  | _, _, _ => false
def srcB1 (sl n : Nat) (e1 : Env) (h1 : VH) : Bool := match nth sl e1 with
  | some (some (.ref a)) => (match h1.get a with
    | some (.src m) => Nat.beq m n
    | _ => false)
  | _ => false
theorem slots_len {sl : Nat} : ∀ {i : Nat} {e1 e2 : Env}, slotsB sl i e1 e2 = true → e2.length = e1.length
  | _, [], [], _ => rfl
  | i, x :: r, y :: t, h => by
    unfold slotsB at h
    have := slots_len (Bool.and_eq_true_iff.mp h).2
    simp [this]
  | _, [], _ :: _, h => by cases h
  | _, _ :: _, [], h => by cases h
theorem slots_at {sl : Nat} : ∀ {i : Nat} {e1 e2 : Env}, slotsB sl i e1 e2 = true → ∀ (j : Nat) (d : D), e2[j]? = some (some d) → (i + j = sl ∧ d = .ref 0) ∨ (i + j ≠ sl ∧ e1[j]? = some (some d) ∧ ∀ (K : PySem.W.Frag) (ρ ρ' : Nat → Addr) (n n' : Nat) (H : Hp) (v : V), RelD K ρ n H d v → RelD K ρ' n' H d v)
  | _, [], [], _, j, d, e => by simp at e
  | i, x :: r, y :: t, h, 0, d, e => by
    unfold slotsB at h
    obtain ⟨h1, _⟩ := Bool.and_eq_true_iff.mp h
    simp at e
    subst e
    have h2 : slotB (Nat.beq i sl) x d = true := h1
    unfold slotB at h2
    cases q : Nat.beq i sl with
    | true =>
      rw [q] at h2
      have h3 : isR0 d = true := h2
      refine .inl ⟨Nat.eq_of_beq_eq_true q, ?_⟩
      cases d with
      | ref a => rw [Nat.eq_of_beq_eq_true (show Nat.beq a 0 = true from h3)]
      | _ => cases h3
    | false =>
      rw [q] at h2
      have ne : i ≠ sl := fun z => by rw [z, Nat.beq_refl] at q; cases q
      cases x with
      | none => cases (show false = true from h2)
      | some d1 =>
        obtain ⟨e1, e2⟩ := eqDt_ok (show eqDt d1 d = true from h2)
        subst e1
        exact .inr ⟨ne, rfl, e2⟩
  | i, x :: r, y :: t, h, j + 1, d, e => by
    unfold slotsB at h
    obtain ⟨_, h2⟩ := Bool.and_eq_true_iff.mp h
    rw [List.getElem?_cons_succ] at e
    rw [List.getElem?_cons_succ, show i + (j + 1) = i + 1 + j by omega]
    exact slots_at h2 j d e
  | _, [], _ :: _, h, _, _, _ => by cases h
  | _, _ :: _, [], h, _, _, _ => by cases h
theorem cut_of {G : Gs} {K : PySem.W.Frag} {sl n : Nat} {e1 e2 : Env} {h1 : VH} (hs : slotsB sl 0 e1 e2 = true) (hn : srcB1 sl n e1 h1 = true) : Cut G K e1 h1 e2 (mkH n) := by
  intro ρ H σ hr er
  unfold srcB1 at hn
  rw [nth_eq] at hn
  split at hn
  · rename_i a ea
    split at hn
    · rename_i m em
      have := Nat.eq_of_beq_eq_true hn
      subst this
      refine ⟨fun _ => ρ a, ⟨fun x y hx hy _ => ?_, fun x hx => ?_⟩, (slots_len hs).trans er.1, fun j d e => ?_⟩
      · have a1 : x < 1 := hx
        have a2 : y < 1 := hy
        omega
      · have a1 : x < 1 := hx
        have a2 : x = 0 := by omega
        subst a2
        refine ⟨.src m, rfl, ?_⟩
        have q := hr.at em
        exact q
      · rcases slots_at hs j d e with ⟨q1, q2⟩ | ⟨q1, q2, q3⟩
        · obtain ⟨v, w1, w2⟩ := er.2 sl _ ea
          rw [Nat.zero_add] at q1
          subst q1 q2
          refine ⟨v, w1, ?_⟩
          rw [relD_ref] at w2 ⊢
          exact ⟨Nat.one_pos, w2.2⟩
        · obtain ⟨v, w1, w2⟩ := er.2 j d q2
          exact ⟨v, w1, q3 _ _ _ _ _ _ _ w2⟩
    · cases hn
  · cases hn
/-! ### the check -/
def allN (f : Nat → Bool) (m : Nat) : Bool := @Nat.rec (fun _ => Bool) true (fun k r => bIf (f k) r false) m
theorem allN_ok {f : Nat → Bool} : ∀ {m : Nat}, allN f m = true → ∀ d, d < m → f d = true
  | 0, _, d, h => absurd h (Nat.not_lt_zero _)
  | m + 1, e, d, h => by
    have e2 : bIf (f m) (allN f m) false = true := e
    cases q : f m with
    | false => rw [q] at e2; cases e2
    | true =>
      rw [q] at e2
      by_cases z : d = m
      · subst z; exact q
      · exact allN_ok (show allN f m = true from e2) d (by omega)
def P.okB {α : Type} (p : α → Bool) (x : P α) : Bool := @P.rec α (fun _ => Bool) p (fun m _ ih => allN ih m) x
theorem P.okB_ok {α : Type} {p : α → Bool} {q : α → Prop} (i : ∀ a, p a = true → q a) : ∀ {x : P α}, x.okB p = true → x.all q
  | .ret a, h => i a h
  | .draw m k, h => fun d hd => P.okB_ok i (allN_ok (f := fun d => (k d).okB p) h d hd)
def anyB {α : Type} (f : α → Bool) (l : List α) : Bool := @List.rec α (fun _ => Bool) false (fun a _ r => bIf (f a) true r) l
theorem anyB_ok {α : Type} {f : α → Bool} : ∀ {l : List α}, anyB f l = true → ∃ a, a ∈ l ∧ f a = true
  | [], h => by cases h
  | a :: r, h => by
    have h2 : bIf (f a) true (anyB f r) = true := h
    cases q : f a with
    | true => exact ⟨a, List.mem_cons_self, q⟩
    | false =>
      rw [q] at h2
      obtain ⟨b, m, e⟩ := anyB_ok (show anyB f r = true from h2)
      exact ⟨b, List.mem_cons_of_mem _ m, e⟩
/-- the segment ends in one of these states, or returns True -/
def endsB (sl : Nat) (ends : List (Env × Nat)) (r : R F) : Bool := match r with
  | .ok (.nx e) h => anyB (fun c => srcB1 sl c.2 e h && slotsB sl 0 e c.1) ends
  | .ok (.rt (.bl b)) _ => b
  | _ => false
theorem ends_ok {G : Gs} {K : PySem.W.Frag} {sl : Nat} {ends : List (Env × Nat)} {g : Env → VH → Prop} (hg : ∀ c, c ∈ ends → g c.1 (mkH c.2)) (r : R F) (h : endsB sl ends r = true) : nxG (fun e1 h1 => ∃ e2 h2, Cut G K e1 h1 e2 h2 ∧ g e2 h2) r := by
  cases r with
  | bad => cases h
  | ok f h1 =>
    cases f with
    | nx e =>
      obtain ⟨c, m, q⟩ := anyB_ok (show anyB (fun c : Env × Nat => srcB1 sl c.2 e h1 && slotsB sl 0 e c.1) ends = true from h)
      obtain ⟨q1, q2⟩ := Bool.and_eq_true_iff.mp q
      exact ⟨c.1, mkH c.2, cut_of q2 q1, hg c m⟩
    | rt d => cases d with
      | bl b => cases b with
        | true => trivial
        | false => cases h
      | _ => cases h
    | bk e => cases h
    | ct e => cases h
/-- one segment by the combinators -/
theorem gd_step {G : Gs} {K : PySem.W.Frag} {ct : CT} {deep sl : Nat} {seg rest : List Sm} {ks : KS} {env : Env} {h : VH} {ends : List (Env × Nat)} (hn : seg ≠ []) (e : ks = xSs (seg.map (evsK ct deep).s)) (q : (ks env h).okB (endsB sl ends) = true)
    (r : ∀ c, c ∈ ends → Gd G K (evs ct deep) rest c.1 (mkH c.2)) : Gd G K (evs ct deep) (seg ++ rest) env h := by
  refine gd_seg seg env h ?_ hn
  rw [show evSs (evs ct deep) seg env = ks env by rw [e, evsK_eq]; exact xSs_eq seg env]
  exact P.okB_ok (ends_ok r) q
end
end PV
set_option Elab.async false
set_option linter.all false
set_option maxRecDepth 100000
set_option maxHeartbeats 2000000
set_option autoImplicit false
namespace PV
noncomputable section
open PySem PySem.Spec PyProof.Rows L2
/-! ### where the defs stand -/
inductive Pa where
  | glo (x : Str)
  | met (c m : Str)
  | prp (c m : Str)
def prpG (K : PySem.W.Frag) (p : Addr) : Addr := match PySem.W.recIn K p "property" with
  | some (.ref g :: _) => g
  | _ => 0
def Pa.at (K : PySem.W.Frag) : Pa → Addr
  | .glo x => He.ga K x
  | .met c m => He.ma K (He.ga K c) m
  | .prp c m => prpG K (He.ma K (He.ga K c) m)
def fnA (K : PySem.W.Frag) (a : Addr) : He.FnW := match K.lookup a with
  | some ⟨_, _, .func fd, _⟩ => some (fd.name, fd.qualname, fd.params, fd.body, fd.scope, fd.globals, fd.closure, fd.builtins)
  | _ => none
def isNoV : Value → Bool
  | .none => true
  | _ => false
theorem isNoV_ok {v : Value} (h : isNoV v = true) : v = .none := by
  cases v <;> first | rfl | cases h
def fnC (K : PySem.W.Frag) (a : Addr) (q : Str) : Bool := PySem.W.keepIn K (.ref a) && (match K.lookup a with
  | some ⟨_, _, .func fd, _⟩ => PySem.W.codeIn K fd.code q && isNoV fd.defaults
  | _ => false)
def Fnr.val (r : Fnr) : He.FnW := some (r.x, r.q, defArgs r.st, .stmts (defBody r.st), defScope r.st, mainGlobals, [], builtinsNs)
theorem funD_of {K : PySem.W.Frag} {r : Fnr} {a : Addr} (e : fnA K a = r.val) (c : fnC K a r.q = true) : ∃ fd, FunD K r.x r.q (defArgs r.st) (defBody r.st) (defScope r.st) [] [] a fd := by
  obtain ⟨kp, c2⟩ := He.ba c
  unfold fnA at e
  cases q : K.lookup a with
  | none => rw [q] at c2; cases c2
  | some o =>
    obtain ⟨oc, od, dt, osl⟩ := o
    rw [q] at c2 e
    cases dt with
    | func fd =>
      obtain ⟨n1, n2, n3, n4, n5, n6, n7, n8, n9, n10, n11, n12, n13, n14, n15⟩ := fd
      have e2 : (some (n1, n2, n3, n4, n5, n6, n7, n15) : He.FnW) = some (r.x, r.q, defArgs r.st, .stmts (defBody r.st), defScope r.st, mainGlobals, [], builtinsNs) := e
      simp only [Option.some.injEq, Prod.mk.injEq] at e2
      obtain ⟨h1, h2, h3, h4, h5, h6, h7, h8⟩ := e2
      subst h1 h2 h3 h4 h5 h6 h7 h8
      obtain ⟨k1, k2⟩ := He.ba (show (PySem.W.codeIn K n13 r.q && isNoV n8) = true from c2)
      exact ⟨_, ⟨oc, od, n8, n9, n10, n11, n12, n13, n14, osl, rfl, q, k1, .inl ⟨rfl, isNoV_ok k2⟩, .inl rfl⟩, kp⟩
    | _ => cases c2
/-! ### plain parameters -/
def plainA (p : Arguments) (ps : List Str) : Bool := p.posonlyargs.isEmpty && p.vararg.isNone && p.kwonlyargs.isEmpty && p.kwarg.isNone && decide (p.args.map (·.arg) = ps) && decide ps.Nodup
theorem fm_congr {α β : Type} {f g : α → Option β} : ∀ {l : List α}, (∀ x ∈ l, f x = g x) → l.filterMap f = l.filterMap g
  | [], _ => rfl
  | a :: r, h => by
    rw [List.filterMap_cons, List.filterMap_cons, h a List.mem_cons_self, fm_congr fun x hx => h x (List.mem_cons_of_mem _ hx)]
theorem zip_lookup : ∀ {ps : List Str} {us : List Value}, ps.Nodup → us.length = ps.length → ps.filterMap (fun n => ((ps.zip us).lookup n).map fun v => (n, v)) = ps.zip us
  | [], us, _, _ => rfl
  | p :: ps, [], _, h => by cases h
  | p :: ps, u :: us, hn, h => by
    have ih := zip_lookup (List.nodup_cons.mp hn).2 (by simpa using h)
    rw [List.zip_cons_cons, List.filterMap_cons]
    simp only [List.lookup_cons, beq_self_eq_true, Option.map_some]
    congr 1
    refine Eq.trans (fm_congr fun x hx => ?_) ih
    have : (x == p) = false := by
      rw [beq_eq_false_iff_ne]
      rintro rfl
      exact (List.nodup_cons.mp hn).1 hx
    rw [this]
theorem zip_some : ∀ {ps : List Str} {us : List Value}, us.length = ps.length → ∀ x ∈ ps, ((ps.zip us).lookup x).isNone = false
  | [], us, _, x, hx => by cases hx
  | p :: ps, [], h, x, hx => by cases h
  | p :: ps, u :: us, h, x, hx => by
    rw [List.zip_cons_cons, List.lookup_cons]
    by_cases e : x = p
    · subst e; simp
    · have : (x == p) = false := by rw [beq_eq_false_iff_ne]; exact e
      rw [this]
      have hx2 : x ∈ ps := by
        cases hx with
        | head => exact absurd rfl e
        | tail _ z => exact z
      exact zip_some (by simpa using h) x hx2
theorem bind_plain {x qual : Str} {params : Arguments} {body : List Stmt} {scope : Scope} {ps : List Str} (hp : plainA params ps = true) (kV doc pm : Value) (an : Option Addr) (cdv ct : Value) (us : List Value) (hl : us.length = ps.length) :
    bindArgs (PySem.W.fnOf x qual params body scope .none kV doc pm an cdv ct) ⟨us, []⟩ = pure (ps.zip us) := by
  unfold plainA at hp
  simp only [Bool.and_eq_true, decide_eq_true_eq, List.isEmpty_iff, Option.isNone_iff_eq_none] at hp
  obtain ⟨⟨⟨⟨⟨h1, h2⟩, h3⟩, h4⟩, h5⟩, h6⟩ := hp
  unfold bindArgs PySem.W.fnOf
  simp only [h1, h2, h3, h4, h5, List.map_nil, List.nil_append]
  have hs : seqItems? Value.none = pure none := rfl
  rw [hs]
  have hm : (ps.filter fun n => ((ps.zip us).lookup n).isNone) = [] := by
    rw [List.filter_eq_nil_iff]
    intro x hx
    rw [zip_some hl x hx]
    simp
  simp only [List.forIn_nil, pure_bind, Option.getD_none, Array.toList_empty, List.length_nil, Option.isNone_none, Option.isSome_none, Nat.sub_zero, List.take_length, Nat.zero_sub, List.drop_nil, hl, gt_iff_lt, Nat.lt_irrefl, decide_false, Bool.false_and, hm, List.isEmpty_nil, List.zip_nil_right, List.append_nil]
  rw [if_neg (by decide), if_neg (by decide), if_neg (by decide), zip_lookup h6 hl]
theorem fnr_of {K : PySem.W.Frag} {r : Fnr} {a : Addr} (e : fnA K a = r.val) (c : fnC K a r.q = true) (hp : plainA (defArgs r.st) r.ps = true) (hs : C8.scC r.N r.ps (defScope r.st) = true) : FnrOk K r a := by
  obtain ⟨fd, F⟩ := funD_of e c
  exact ⟨⟨fd, F, F.bindsN (bind_plain hp)⟩, C8.fnScope_by hs⟩
/-! ### the looks at the text's things -/
section
variable (K : PySem.W.Frag) (cn : List Str) (pas : List Pa)
def clA (c : Nat) : Addr := He.ga K (cn.getD c Str.empty)
def adA (f : Nat) : Addr := match pas[f]? with
  | some p => p.at K
  | none => 0
def gloB (x : Str) (a : Addr) : Bool := He.eqO (PySem.W.nsIn K mainGlobals x) (some (some (.ref a)))
def cstB (x : Str) (d : D) : Bool := match PySem.W.nsIn K mainGlobals x with
  | some (some (.int j _)) => (match d with
    | .int i => decide (j = i)
    | _ => false)
  | some (some (.str y _)) => (match d with
    | .str s => decide (y = ⟨s.toArray⟩) && s.all (fun c => Nat.blt c 1114112) && Nat.ble s.length 16777216
    | _ => false)
  | _ => false
def clsB (C : Addr) : Bool := PySem.W.plainGet K C Str.empty && (PySem.W.hasDictIn K C && (PySem.W.plainOver K C && He.eqO (PySem.W.findIn K (.ref C) "__setattr__") (some (some (.builtin "object.__setattr__")))))
def mkB (C f : Addr) : Bool := PySem.W.makesIn K C && (He.eqO (PySem.W.findIn K (.ref C) "__init__") (some (some (.ref f))) && (PySem.W.isFn K (.ref f) && PySem.W.keepIn K (.ref C)))
def metB (C : Addr) (m : Str) (f : Addr) : Bool := He.eqO (PySem.W.findIn K (.ref C) m) (some (some (.ref f))) && (PySem.W.isFn K (.ref f) && PySem.W.keepIn K (.ref f))
def prpB (C : Addr) (m : Str) (g : Addr) : Bool := match PySem.W.findIn K (.ref C) m with
  | some (some (.ref p)) => He.eqO (PySem.W.specialIn K (.ref p) "__get__") (some (some (.builtin "property.__get__"))) && (decide (PySem.W.takesIn K (.ref p) = some true) && (match PySem.W.recIn K p "property" with
    | some (.ref g' :: _) => decide (g' = g)
    | _ => false))
  | _ => false
def isiB1 (c : Addr) : Bool := clsB K c && (He.eqO (PySem.W.findIn K (.ref c) "__class__") (some (some (.builtin "object.__class__"))) && decide (PySem.W.mroIn K c (.type "object") = some true))
def isiB2 (c : Addr) (k : Nat) : Bool := (List.range cn.length).all (fun d => decide (PySem.W.kitOne K (.ref (clA K cn d)) (.ref c) = some (Nat.beq d k))) && (List.range 7).all (fun j => decide (PySem.W.kitOne K (.type (tyF j)) (.ref c) = some false))
def isiB0 : Bool := He.eqO (PySem.W.specialIn K (.builtin "object.__class__") "__get__") (some (some (.builtin "getset_descriptor.__get__"))) && decide (PySem.W.takesIn K (.builtin "object.__class__") = some true)
def gkB (q : Str × Gk) : Bool := match q.2 with
  | .fn f n => gloB K q.1 (adA K pas f)
  | .cst d => cstB K q.1 d
  | .cls c g n => gloB K q.1 (clA K cn c) && (mkB K (clA K cn c) (adA K pas g) && isiB2 K cn (clA K cn c) c)
def akB (q : Str × Ak) : Bool := match q.2 with
  | .fld f => (List.range cn.length).all (fun c => He.eqO (PySem.W.findIn K (.ref (clA K cn c)) q.1) (some none))
  | .prp c g => prpB K (clA K cn c) q.1 (adA K pas g)
  | .met c g n => metB K (clA K cn c) q.1 (adA K pas g)
def frB (gt : Ge) : Bool := bltNames.all fun x => (gt.g.lookup x).isSome || He.eqO (PySem.W.nsIn K mainGlobals x) (some none)
def lookB (gt : Ge) (qs : List (Pa × Str)) : Bool := (gt.g.all (gkB K cn pas) && (gt.a.all (akB K cn pas) && (frB K gt && (isiB0 K && ((List.range cn.length).all (fun c => isiB1 K (clA K cn c))))))) && qs.all fun q => fnC K (q.1.at K) q.2
end
/-- looks that hang on the text alone -/
def hasB (fns : List Fnr) (f n : Nat) : Bool := match f with
  | 0 => Nat.beq n 2
  | 1 => Nat.beq n 1
  | i + 2 => (match fns[i]? with
    | some r => Nat.beq r.ps.length n
    | none => false)
theorem hasB_ok {fns : List Fnr} {f n : Nat} (h : hasB fns f n = true) : HasF fns f n := by
  unfold hasB at h
  split at h
  · exact .inl ⟨rfl, Nat.eq_of_beq_eq_true h⟩
  · exact .inr (.inl ⟨rfl, Nat.eq_of_beq_eq_true h⟩)
  · rename_i i
    split at h
    · rename_i r e
      exact .inr (.inr ⟨i, r, rfl, e, Nat.eq_of_beq_eq_true h⟩)
    · cases h
def gsB (fns : List Fnr) (nc : Nat) (q : Str × Gk) : Bool := match q.2 with
  | .fn f n => hasB fns f n
  | .cst d => true
  | .cls c g n => Nat.blt c nc && hasB fns g (n + 1)
def asB' (fns : List Fnr) (nc : Nat) (an : List Str) (q : Str × Ak) : Bool := match q.2 with
  | .fld f => Nat.blt f an.length && decide (an.getD f Str.empty = q.1)
  | .prp c g => Nat.blt c nc && hasB fns g 1
  | .met c g n => Nat.blt c nc && (an.all (fun x => !decide (x = q.1)) && hasB fns g (n + 1))
def statB (gt : Ge) (fns : List Fnr) (rd rs : Fnr) (nc : Nat) (an : List Str) : Bool := gt.g.all (gsB fns nc) && (gt.a.all (asB' fns nc an) && ((rd :: rs :: fns).all (fun r => plainA (defArgs r.st) r.ps && C8.scC r.N r.ps (defScope r.st)) && decide an.Nodup))
theorem nd_inj : ∀ {l : List Str}, l.Nodup → ∀ {i j : Nat} (hi : i < l.length) (hj : j < l.length), l[i] = l[j] → i = j
  | [], _, i, _, hi, _, _ => absurd hi (Nat.not_lt_zero _)
  | a :: r, hn, 0, 0, _, _, _ => rfl
  | a :: r, hn, 0, j + 1, hi, hj, e => by
    have h2 : j < r.length := by simpa using hj
    exact absurd (show a ∈ r from (show a = r[j] from e) ▸ List.getElem_mem h2) (List.nodup_cons.mp hn).1
  | a :: r, hn, i + 1, 0, hi, hj, e => by
    have h2 : i < r.length := by simpa using hi
    exact absurd (show a ∈ r from (show a = r[i] from e.symm) ▸ List.getElem_mem h2) (List.nodup_cons.mp hn).1
  | a :: r, hn, i + 1, j + 1, hi, hj, e => congrArg (· + 1) (nd_inj (List.nodup_cons.mp hn).2 (by simpa using hi) (by simpa using hj) e)
def gsOf (P : Program) (w : World) (K : PySem.W.Frag) (cn an : List Str) (hn : an.Nodup) : Gs where
  P := P
  w := w
  nc := cn.length
  cls := clA K cn
  na := an.length
  att := fun i => an.getD i Str.empty
  inj := fun i j hi hj e => by
    rw [List.getD_eq_getElem?_getD, List.getD_eq_getElem?_getD, List.getElem?_eq_getElem hi, List.getElem?_eq_getElem hj] at e
    exact nd_inj hn hi hj e
theorem lookup_in {α : Type} {x : Str} {v : α} : ∀ {l : List (Str × α)}, l.lookup x = some v → (x, v) ∈ l
  | [], h => by cases h
  | (y, u) :: r, h => by
    rw [List.lookup_cons] at h
    cases e : x == y with
    | true =>
      rw [e] at h
      have e2 := eq_of_beq e
      cases h
      subst e2
      exact List.mem_cons_self
    | false =>
      rw [e] at h
      exact List.mem_cons_of_mem _ (lookup_in h)
theorem clsB_ok {K : PySem.W.Frag} {C : Addr} (c : clsB K C = true) : Cls K C := by
  obtain ⟨c1, c⟩ := He.ba c
  obtain ⟨c2, c⟩ := He.ba c
  obtain ⟨c3, c4⟩ := He.ba c
  exact ⟨c1, c2, c3, He.eqO_ok c4⟩
theorem prpB_ok {K : PySem.W.Frag} {C g : Addr} {m : Str} (c : prpB K C m g = true) : ∃ p, PropOf K C m p g := by
  unfold prpB at c
  split at c
  · rename_i p e
    obtain ⟨c1, c⟩ := He.ba c
    obtain ⟨c2, c3⟩ := He.ba c
    split at c3
    · rename_i g' rest e2
      have := of_decide_eq_true c3
      subst this
      exact ⟨p, e, He.eqO_ok c1, of_decide_eq_true c2, rest, e2⟩
    · cases c3
  · cases c
theorem cstB_ok {K : PySem.W.Frag} {h : Heap} {mg : Str → Option Value} (X : K.In h) (G : h.Ns mainGlobals mg) {x : Str} {d : D} (c : cstB K x d = true) : ∃ v u, mg x = some u ∧ RelV v u ∧ ∀ ρ n H, RelD K ρ n H d v := by
  unfold cstB at c
  split at c
  · rename_i j t e
    split at c
    · rename_i i
      have := of_decide_eq_true c
      subst this
      exact ⟨.int j, _, PySem.W.mg_of X G e, ⟨t, rfl⟩, fun ρ n H => relD_int.mpr rfl⟩
    · cases c
  · rename_i y t e
    split at c
    · rename_i s
      obtain ⟨c1, c3⟩ := He.ba c
      obtain ⟨c1, c2⟩ := He.ba c1
      have := of_decide_eq_true c1
      subst this
      exact ⟨.str ⟨s.toArray⟩, _, PySem.W.mg_of X G e, ⟨t, rfl⟩, fun ρ n H => relD_str.mpr ⟨rfl, fun z hz => Nat.le_of_ble_eq_true (List.all_eq_true.mp c2 z hz), Nat.le_of_ble_eq_true c3⟩⟩
    · cases c
  · cases c
theorem cls_lt {K : PySem.W.Frag} {cn : List Str} {p : Nat → Bool} (h : (List.range cn.length).all p = true) {c : Nat} (hc : c < cn.length) : p c = true := List.all_eq_true.mp h c (List.mem_range.mpr hc)
theorem blt_lt {a b : Nat} (h : Nat.blt a b = true) : a < b := Nat.le_of_ble_eq_true h
/-- the table's facts, from the looks -/
theorem tb_of {K : PySem.W.Frag} {h : Heap} {mg : Str → Option Value} {Pg : Program} {w : World} {base : Heap} {gt : Ge} {dp : Nat} {cn an : List Str} {pas : List Pa} {fns : List Fnr} {rd rs : Fnr} (hn : an.Nodup)
    (X : K.In h) (N : h.Ns mainGlobals mg) (st : statB gt fns rd rs cn.length an = true) (lk : lookB K cn pas gt (pas.zip ((rd :: rs :: fns).map (·.q))) = true) (hl : pas.length = fns.length + 2)
    (ob : pas.map (fun p => fnA K (p.at K)) = (rd :: rs :: fns).map Fnr.val)
    (dps : rd.ps.length = 2) (dN : rd.N.length = 4) (sps : rs.ps.length = 1) (sN : rs.N.length = 4) (dir : rd.irs gt dp = drawB) (sir : rs.irs gt dp = srcB) :
    Tb (gsOf Pg w K cn an hn) K ⟨Pg, w, mg, base⟩ gt (fns.map (Fnr.fn gt dp)) dp fns rd rs (adA K pas) := by
  obtain ⟨s1, st⟩ := He.ba st
  obtain ⟨s2, st⟩ := He.ba st
  obtain ⟨s3, s4⟩ := He.ba st
  obtain ⟨lk, l6⟩ := He.ba lk
  obtain ⟨l1, lk⟩ := He.ba lk
  obtain ⟨l2, lk⟩ := He.ba lk
  obtain ⟨l3, lk⟩ := He.ba lk
  obtain ⟨l4, l5⟩ := He.ba lk
  have fk : ∀ i r, (rd :: rs :: fns)[i]? = some r → FnrOk K r (adA K pas i) := by
    intro i r e
    have hi : i < (rd :: rs :: fns).length := (List.getElem?_eq_some_iff.mp e).1
    have hi2 : i < pas.length := by rw [hl]; simpa using hi
    have e2 : pas[i]? = some pas[i] := List.getElem?_eq_getElem hi2
    have a1 : adA K pas i = pas[i].at K := by unfold adA; rw [e2]
    rw [a1]
    have o1 : fnA K (pas[i].at K) = r.val := by
      have z := congrArg (fun l : List He.FnW => l[i]?) ob
      simp only [List.getElem?_map, e, e2, Option.map_some, Option.some.injEq] at z
      exact z
    have o2 : fnC K (pas[i].at K) r.q = true := by
      refine List.all_eq_true.mp l6 (pas[i], r.q) ?_
      refine List.mem_of_getElem? (i := i) ?_
      rw [List.getElem?_zip_eq_some]
      exact ⟨e2, by rw [List.getElem?_map, e]; rfl⟩
    obtain ⟨o3, o4⟩ := He.ba (List.all_eq_true.mp s3 r (List.mem_of_getElem? e))
    exact fnr_of o1 o2 o3 o4
  have gk : ∀ x v, gt.g.lookup x = some v → gkB K cn pas (x, v) = true ∧ gsB fns cn.length (x, v) = true := fun x v e => ⟨List.all_eq_true.mp l1 _ (lookup_in e), List.all_eq_true.mp s1 _ (lookup_in e)⟩
  have ak : ∀ x v, gt.a.lookup x = some v → akB K cn pas (x, v) = true ∧ asB' fns cn.length an (x, v) = true := fun x v e => ⟨List.all_eq_true.mp l2 _ (lookup_in e), List.all_eq_true.mp s2 _ (lookup_in e)⟩
  have cl : ∀ c, c < cn.length → Cls K (clA K cn c) := fun c hc => clsB_ok (He.ba (cls_lt (K := K) (cn := cn) l5 hc)).1
  have hi0 := He.ba l4
  refine ⟨⟨rfl, rfl⟩, fun x d e => cstB_ok X N (gk x _ e).1, fun x hx e => ?_, rfl, fun i r e => fk (i + 2) r e, fk 0 rd rfl, dps, dN, fk 1 rs rfl, sps, sN, dir, sir, fun x f n e => ?_, fun x c g n e => ?_, fun x f e => ?_, fun x c g e => ?_, fun x c g n e => ?_, fun x c g n e => ?_⟩
  · rcases Bool.or_eq_true_iff.mp (List.all_eq_true.mp l3 x hx) with z | z
    · rw [e] at z; cases z
    · exact PySem.W.mg_none_of X N (He.eqO_ok z)
  · obtain ⟨a, b⟩ := gk x _ e
    exact ⟨PySem.W.mg_of X N (He.eqO_ok a), hasB_ok b⟩
  · obtain ⟨a, b⟩ := gk x _ e
    obtain ⟨a1, a⟩ := He.ba a
    obtain ⟨a2, a3⟩ := He.ba a
    obtain ⟨b1, b2⟩ := He.ba b
    obtain ⟨c1, c⟩ := He.ba a2
    obtain ⟨c2, c⟩ := He.ba c
    obtain ⟨c3, c4⟩ := He.ba c
    exact ⟨blt_lt b1, PySem.W.mg_of X N (He.eqO_ok a1), ⟨c1, He.eqO_ok c2, c3, c4⟩, hasB_ok b2⟩
  · obtain ⟨a, b⟩ := ak x _ e
    obtain ⟨b1, b2⟩ := He.ba b
    exact ⟨blt_lt b1, of_decide_eq_true b2, fun c hc => ⟨cl c hc, He.eqO_ok (cls_lt (K := K) (cn := cn) a hc)⟩⟩
  · obtain ⟨a, b⟩ := ak x _ e
    obtain ⟨b1, b2⟩ := He.ba b
    exact ⟨cl c (blt_lt b1), prpB_ok a, hasB_ok b2⟩
  · obtain ⟨a, b⟩ := ak x _ e
    obtain ⟨b1, b⟩ := He.ba b
    obtain ⟨b2, b3⟩ := He.ba b
    obtain ⟨c1, c'⟩ := He.ba a
    obtain ⟨c2, c3⟩ := He.ba c'
    refine ⟨cl c (blt_lt b1), fun i hi z => ?_, ⟨He.eqO_ok c1, c2, c3⟩, hasB_ok b3⟩
    have hi2 : i < an.length := hi
    have q := List.all_eq_true.mp b2 (an.getD i Str.empty) (by
      rw [List.getD_eq_getElem?_getD, List.getElem?_eq_getElem hi2]
      exact List.getElem_mem hi2)
    rw [show an.getD i Str.empty = x from z] at q
    simp at q
  · obtain ⟨a, b⟩ := gk x _ e
    obtain ⟨a1, a⟩ := He.ba a
    obtain ⟨a2, a3⟩ := He.ba a
    obtain ⟨d1, d2⟩ := He.ba a3
    refine ⟨cl, fun d hd => He.eqO_ok (He.ba (He.ba (cls_lt (K := K) (cn := cn) l5 hd)).2).1, He.eqO_ok hi0.1, of_decide_eq_true hi0.2, fun d hd => of_decide_eq_true (He.ba (He.ba (cls_lt (K := K) (cn := cn) l5 hd)).2).2, fun d hd => of_decide_eq_true (cls_lt (K := K) (cn := cn) d1 hd), fun k hk => of_decide_eq_true (List.all_eq_true.mp d2 k (List.mem_range.mpr hk)), .own _⟩
end
end PV
set_option Elab.async false
set_option linter.all false
set_option maxRecDepth 100000
set_option maxHeartbeats 2000000
set_option autoImplicit false
namespace PV
noncomputable section
open PySem PySem.Spec PyProof.Rows L2
/-! ### the law's def, in segments -/
def spZ (G : Gs) (K : PySem.W.Frag) : Sp := fun vs H Q _ => ∃ ρ ns, HR G K ρ ⟨0, .nil⟩ H ∧ RelDs K ρ 0 H [.kls ns] vs ∧ ∀ H', Q (.bl true) H'
theorem law_gd {G : Gs} {Pg : Program} {w : World} {K : PySem.W.Frag} {mg : Str → Option Value} {gt : Ge} {tab : List Fn} {dp deep d i : Nat} {fns : List Fnr} {rd rs r : Fnr} {ad : Nat → Addr} {fa : Addr} {x : Str}
    (B : ∀ base, Tb G K ⟨Pg, w, mg, base⟩ gt tab dp fns rd rs ad) (hi : fns[i]? = some r) (hps : r.ps = [x]) (hfa : ad (i + 2) = fa)
    (hpl : plainA (defArgs r.st) r.ps = true)
    (good : ∀ ns, Gd G K (evs (callT tab (deep + 12) d) (deep + 12)) (r.irs gt dp) (startE r.N.length [.kls ns]) ⟨0, .nil⟩) :
    ∃ (fd : FuncData) (sp : Sp), (∀ (s : Shared) (u : Value), BindsTo s fd ⟨[u], []⟩ [(x, u)]) ∧
        (∀ (H : Hp) (a : Addr) (ns : List Int), ns.length ≤ 63 → Only H → SqL K H a (ns.map V.int) → sp [.ref a] H (fun v _ => v = .bl true) fun _ _ _ => False) ∧
        ∀ base : Heap, FnOk Pg w K mg base CX0 (2 * d + 3) fa fd [x] sp := by
  obtain ⟨⟨fd, Fd, hb⟩, sc⟩ := (B default).fok i r hi
  rw [hfa] at Fd
  refine ⟨fd, spZ G K, fun s u => ?_, fun H a ns hl hO hS => ?_, fun base => ?_⟩
  · have b := FunD.bindsA (ps := r.ps) Fd (bind_plain hpl) s [u] (by rw [hps]; rfl)
    rw [hps] at b
    exact b
  · refine ⟨fun _ => 0, ns, ⟨fun x y hx => absurd hx (Nat.not_lt_zero _), fun x hx => absurd hx (Nat.not_lt_zero _)⟩, relDs_one.mpr ⟨_, rfl, relD_kls.mpr ⟨a, rfl, by omega, ?_⟩⟩, fun H' => rfl⟩
    rcases hS with (h | ⟨o, h⟩) | h
    · rcases hO a with e | ⟨o, xs, e⟩
      · rw [e] at h; cases h
      · rw [e] at h; cases h
    · exact .inl ⟨o, h, fun b hb => absurd hb (Nat.not_lt_zero _)⟩
    · exact .inr h
  · have sz := gd_block (snd_all (tab_all (deep := deep) (B base) d) dp (deep + 12)) (S := ⟨r.N, defScope r.st, none⟩) ⟨sc.nd, sc.kind⟩ (defBody r.st)
    rw [← hps]
    refine Fd.ok sc (fun vs H Q E h => ?_) (fun cdv A outer s H vs Q E hr h => ?_)
    · obtain ⟨ρ, ns, _, rr, _⟩ := h
      rw [← relDs_len rr, hps]; rfl
    · obtain ⟨ρ, ns, h1, rr, hq⟩ := h
      obtain ⟨t, pt, qt⟩ := sz
      exact ⟨t, PSs.nox (pt _ ⟨rfl, rfl, rfl, rfl, rfl, rfl, rfl, rfl, hr, rfl⟩ rfl), qt ρ _ ⟨0, .nil⟩ _ H _ h1 (er_start rr) (fun H' => hq H') (good ns)⟩
/-! ### the Hook -/
section
variable (cn : List Str) (pas : List Pa)
def nsA (K : PySem.W.Frag) (C : Addr) : Addr := match K.lookup C with
  | some ⟨_, _, .cls cd, _⟩ => cd.ns
  | _ => 0
def prA (K : PySem.W.Frag) : Pa → Option Addr
  | .prp c m => some (He.ma K (He.ga K c) m)
  | _ => none
def cdA (K : PySem.W.Frag) (a : Addr) : Option Addr := match K.lookup a with
  | some ⟨_, _, .func fd, _⟩ => (match fd.code with
    | .ref c => some c
    | _ => none)
  | _ => none
def addrs (g : Addr → Option Obj) : List Addr :=
  let a0 := [mainGlobals]
  let a1 := a0 ++ cn.map (He.ga (He.frG g a0))
  let a2 := a1 ++ cn.map fun x => nsA (He.frG g a1) (He.ga (He.frG g a1) x)
  let a3 := a2 ++ pas.filterMap (prA (He.frG g a2))
  let fs := pas.map (Pa.at (He.frG g a3))
  let a4 := a3 ++ fs
  a4 ++ fs.filterMap (cdA (He.frG g a4))
def frP (g : Addr → Option Obj) : PySem.W.Frag := He.frG g (addrs cn pas g)
abbrev AlP : Type := Bool × List He.FnW
def obsP (gt : Ge) (qs : List (Pa × Str)) (g : Addr → Option Obj) : AlP := (lookB (frP cn pas g) cn pas gt qs, pas.map fun p => fnA (frP cn pas g) (p.at (frP cn pas g)))
def valP (rs : List Fnr) : AlP := (true, rs.map Fnr.val)
def hookP (gt : Ge) (qs : List (Pa × Str)) (rs : List Fnr) : PySem.W.Hook where
  α := AlP
  obs := fun s => obsP cn pas gt qs s.heap.get?
  val := fun _ => valP rs
  says := fun _ h => ∃ K : PySem.W.Frag, K.In h ∧ lookB K cn pas gt qs = true ∧ pas.map (fun p => fnA K (p.at K)) = rs.map Fnr.val
  of := fun _ s e => ⟨frP cn pas s.heap.get?, He.frG_in, congrArg (fun z : AlP => z.1) e, congrArg (fun z : AlP => z.2) e⟩
  keeps := fun _ _ _ ⟨K, hK, c⟩ k => ⟨K, PySem.W.Frag.In.keeps hK k, c⟩
theorem obsP_eq {gt : Ge} {qs : List (Pa × Str)} {rs : List Fnr} {g : Addr → Option Obj} {s : Shared} (h : ∀ a, g a = s.heap.get? a) : obsP cn pas gt qs g = (hookP cn pas gt qs rs).obs s := by
  have e : g = s.heap.get? := funext h
  rw [e] <;> rfl
end
end
end PV
set_option Elab.async false
set_option linter.all false
set_option maxRecDepth 100000
set_option maxHeartbeats 1000000
set_option autoImplicit false
namespace PV
noncomputable section
open PySem
/-! ### what holds behind every run -/
def wp {α : Type} (m : M α) (h : VH) (Q : α → VH → Prop) : Prop := (m h).all fun r => match r with
  | .ok a h' => Q a h'
  | .bad => False
section
variable {α β : Type} {h : VH}
theorem wp_mono {m : M α} {Q R : α → VH → Prop} (w : wp m h Q) (i : ∀ a h', Q a h' → R a h') : wp m h R := by
  refine P.all_mono (fun r z => ?_) w
  cases r with
  | ok a h' => exact i a h' z
  | bad => exact z
theorem w_bind {x : M α} {f : α → M β} {Q : β → VH → Prop} (w : wp x h fun a h1 => wp (f a) h1 Q) : wp (M.bind x f) h Q := by
  unfold wp
  try dsimp only
  rw [M.bind_eq]
  refine P.bind_all (P.all_mono (fun r z => ?_) w)
  cases r with
  | ok a h' => exact z
  | bad => exact z
theorem w_run {m : M α} {a : α} {h' : VH} {Q : α → VH → Prop} (e : m h = .ret (.ok a h')) (q : Q a h') : wp m h Q := by
  unfold wp
  try dsimp only
  rw [e]
  exact q
theorem w_ret {a : α} {Q : α → VH → Prop} (q : Q a h) : wp (mRet a) h Q := q
end
/-! ### the combinators -/
section
variable {α : Type} {h : VH} {env : Env}
theorem w_loc {i : Nat} {d : D} {Q : D → VH → Prop} (e : nth i env = some (some d)) (q : Q d h) : wp (xLoc i env) h Q := by
  refine w_run (a := d) (h' := h) ?_ q
  unfold xLoc
  rw [e]
  rfl
theorem w_cst {d : D} {Q : D → VH → Prop} (q : Q d h) : wp (xCst d env) h Q := q
theorem w_U {f : D → M α} {a : KE} {Q : α → VH → Prop} (w : wp (a env) h fun x h1 => wp (f x) h1 Q) : wp (xU f a env) h Q := w_bind w
theorem w_B {f : D → D → M α} {a b : KE} {Q : α → VH → Prop} (w : wp (a env) h fun x h1 => wp (b env) h1 fun y h2 => wp (f x y) h2 Q) : wp (xB f a b env) h Q :=
  w_bind (wp_mono w fun _ _ z => w_bind z)
theorem w_A0 {Q : List D → VH → Prop} (q : Q [] h) : wp (xA [] env) h Q := q
theorem w_A {e : KE} {es : List KE} {Q : List D → VH → Prop} (w : wp (e env) h fun d h1 => wp (xA es env) h1 fun ds h2 => Q (d :: ds) h2) : wp (xA (e :: es) env) h Q :=
  w_bind (wp_mono w fun _ _ z => w_bind z)
theorem w_N {f : List D → M α} {es : List KE} {Q : α → VH → Prop} (w : wp (xA es env) h fun ds h1 => wp (f ds) h1 Q) : wp (xN f es env) h Q := w_bind w
theorem w_and1 {a : KE} {Q : D → VH → Prop} (w : wp (a env) h Q) : wp (xAnd [a] env) h Q := w
theorem w_and {a b : KE} {r : List KE} {Q : D → VH → Prop} (w : wp (a env) h fun x h1 => wp (truM x) h1 fun c h2 => bIf c (wp (xAnd (b :: r) env) h2 Q) (Q x h2)) : wp (xAnd (a :: b :: r) env) h Q := by
  refine w_bind (wp_mono w fun x h1 z => w_bind (wp_mono z fun c h2 y => ?_))
  cases c <;> exact y
theorem w_or1 {a : KE} {Q : D → VH → Prop} (w : wp (a env) h Q) : wp (xOr [a] env) h Q := w
theorem w_or {a b : KE} {r : List KE} {Q : D → VH → Prop} (w : wp (a env) h fun x h1 => wp (truM x) h1 fun c h2 => bIf c (Q x h2) (wp (xOr (b :: r) env) h2 Q)) : wp (xOr (a :: b :: r) env) h Q := by
  refine w_bind (wp_mono w fun x h1 z => w_bind (wp_mono z fun c h2 y => ?_))
  cases c <;> exact y
theorem w_not {a : KE} {Q : D → VH → Prop} (w : wp (a env) h fun x h1 => wp (truM x) h1 fun b h2 => Q (.bl (!b)) h2) : wp (xNot a env) h Q := w_bind (wp_mono w fun _ _ z => w_bind z)
theorem w_chn {f g : D → D → M D} {a b c : KE} {Q : D → VH → Prop} (w : wp (a env) h fun x h1 => wp (b env) h1 fun y h2 => wp (f x y) h2 fun z h3 => wp (asB z) h3 fun k h4 => bIf k (wp (c env) h4 fun v h5 => wp (g y v) h5 Q) (Q (.bl false) h4)) : wp (xChn f g a b c env) h Q := by
  refine w_bind (wp_mono w fun _ _ z => w_bind (wp_mono z fun _ _ z => w_bind (wp_mono z fun _ _ z => w_bind (wp_mono z fun k _ z => ?_))))
  cases k with
  | true => exact w_bind z
  | false => exact z
theorem w_if {c : KT} {a b : Env → M α} {Q : α → VH → Prop} (w : wp (c env) h fun k h1 => bIf k (wp (a env) h1 Q) (wp (b env) h1 Q)) : wp (xIf c a b env) h Q := by
  refine w_bind (wp_mono w fun k h1 z => ?_)
  cases k <;> exact z
theorem w_sl {a : KE} {lo hi : Option KE} {Q : D → VH → Prop} (w : wp (a env) h fun x h1 => wp (xO lo env) h1 fun l h2 => wp (xO hi env) h2 fun u h3 => wp (slM x l u) h3 Q) : wp (xSl a lo hi env) h Q :=
  w_bind (wp_mono w fun _ _ z => w_bind (wp_mono z fun _ _ z => w_bind z))
theorem w_on {Q : Option Int → VH → Prop} (q : Q none h) : wp (xO none env) h Q := q
theorem w_os {e : KE} {Q : Option Int → VH → Prop} (w : wp (e env) h fun x h1 => wp (asI x) h1 Q) : wp (xO (some e) env) h Q := w_bind w
theorem w_mth {k1 k2 : Nat} {f1 f2 : D → List D → M D} {o : KE} {es : List KE} {Q : D → VH → Prop} (w : wp (o env) h fun x h1 => (mtC h1 x = some k1 ∧ wp (xA es env) h1 fun ds h2 => wp (f1 x ds) h2 Q) ∨ (mtC h1 x = some k2 ∧ k1 ≠ k2 ∧ wp (xA es env) h1 fun ds h2 => wp (f2 x ds) h2 Q)) : wp (xMth (mtM k1 k2 f1 f2) o es env) h Q := by
  refine w_bind (wp_mono w fun x h1 z => ?_)
  rcases z with ⟨e, z⟩ | ⟨e, ne, z⟩
  · show wp (fun h => match mtC h x with | some k => if k = k1 then M.bind (xA es env) (f1 x) h else if k = k2 then M.bind (xA es env) (f2 x) h else .ret .bad | none => .ret .bad) h1 Q
    unfold wp
    try dsimp only
    rw [e]
    simp only [if_true]
    exact w_bind z
  · show wp (fun h => match mtC h x with | some k => if k = k1 then M.bind (xA es env) (f1 x) h else if k = k2 then M.bind (xA es env) (f2 x) h else .ret .bad | none => .ret .bad) h1 Q
    unfold wp
    try dsimp only
    rw [e]
    simp only [if_true, if_neg (Ne.symm ne)]
    exact w_bind z
theorem w_prp {c : Nat} {f : List D → M D} {o : KE} {Q : D → VH → Prop} (w : wp (o env) h fun x h1 => wp (insM c x) h1 fun x h2 => wp (f [x]) h2 Q) : wp (xPrp c f o env) h Q := w_bind (wp_mono w fun _ _ z => w_bind z)
theorem w_met {c : Nat} {f : List D → M D} {o : KE} {es : List KE} {Q : D → VH → Prop} (w : wp (o env) h fun x h1 => wp (insM c x) h1 fun x h2 => wp (xA es env) h2 fun ds h3 => wp (f (x :: ds)) h3 Q) : wp (xMet c f o es env) h Q :=
  w_bind (wp_mono w fun _ _ z => w_bind (wp_mono z fun _ _ z => w_bind z))
theorem w_cmpT {f : D → D → M D} {a b : KE} {Q : Bool → VH → Prop} (w : wp (a env) h fun x h1 => wp (b env) h1 fun y h2 => wp (f x y) h2 fun z h3 => wp (asB z) h3 Q) : wp (xCmpT f a b env) h Q :=
  w_bind (wp_mono w fun _ _ z => w_bind (wp_mono z fun _ _ z => w_bind z))
theorem w_chnT {f g : D → D → M D} {a b c : KE} {Q : Bool → VH → Prop} (w : wp (xChn f g a b c env) h fun x h1 => wp (asB x) h1 Q) : wp (xChnT f g a b c env) h Q := w_bind w
theorem w_andT1 {a : KT} {Q : Bool → VH → Prop} (w : wp (a env) h Q) : wp (xAndT [a] env) h Q := w
theorem w_andT {a b : KT} {r : List KT} {Q : Bool → VH → Prop} (w : wp (a env) h fun c h2 => bIf c (wp (xAndT (b :: r) env) h2 Q) (Q false h2)) : wp (xAndT (a :: b :: r) env) h Q := by
  refine w_bind (wp_mono w fun c h2 y => ?_)
  cases c <;> exact y
theorem w_orT1 {a : KT} {Q : Bool → VH → Prop} (w : wp (a env) h Q) : wp (xOrT [a] env) h Q := w
theorem w_orT {a b : KT} {r : List KT} {Q : Bool → VH → Prop} (w : wp (a env) h fun c h2 => bIf c (Q true h2) (wp (xOrT (b :: r) env) h2 Q)) : wp (xOrT (a :: b :: r) env) h Q := by
  refine w_bind (wp_mono w fun c h2 y => ?_)
  cases c <;> exact y
theorem w_notT {a : KT} {Q : Bool → VH → Prop} (w : wp (a env) h fun b h2 => Q (!b) h2) : wp (xNotT a env) h Q := w_bind w
theorem w_nam {i : Nat} {d : D} {Q : Env → VH → Prop} (q : Q (sth (some d) i env) h) : wp (xNam i env d) h Q := q
theorem w_gt {n : Nat} {ts : List KG} {xs : List D} {Q : Env → VH → Prop} (e : xs.length = n) (w : wp (xGs ts env xs) h Q) : wp (xGt n ts env (.tup xs)) h Q := by
  show wp (fun h => if xs.length = n then xGs ts env xs h else .ret .bad) h Q
  unfold wp
  try dsimp only
  rw [if_pos e]
  exact w
theorem w_gs0 {Q : Env → VH → Prop} (q : Q env h) : wp (xGs [] env []) h Q := q
theorem w_gs {t : KG} {ts : List KG} {d : D} {ds : List D} {Q : Env → VH → Prop} (w : wp (t env d) h fun e1 h1 => wp (xGs ts e1 ds) h1 Q) : wp (xGs (t :: ts) env (d :: ds)) h Q := w_bind w
theorem w_sub {o i : KE} {d : D} {Q : Env → VH → Prop} (w : wp (o env) h fun x h1 => wp (i env) h1 fun y h2 => wp (setM x y d) h2 fun _ h3 => Q env h3) : wp (xSub o i env d) h Q :=
  w_bind (wp_mono w fun _ _ z => w_bind (wp_mono z fun _ _ z => w_bind z))
/-- a block: behind a statement the rest, or its end -/
def nxt (R : F → VH → Prop) (w : Env → VH → Prop) (f : F) (h : VH) : Prop := match f with
  | .nx e => w e h
  | f => R f h
theorem w_s0 {Q : F → VH → Prop} (q : Q (.nx env) h) : wp (xSs [] env) h Q := q
theorem w_s {s : KS} {ss : List KS} {Q : F → VH → Prop} (w : wp (s env) h (nxt Q fun e h1 => wp (xSs ss e) h1 Q)) : wp (xSs (s :: ss) env) h Q := by
  refine w_bind (wp_mono w fun f h1 z => ?_)
  cases f <;> exact z
theorem w_expr {e : KE} {Q : F → VH → Prop} (w : wp (e env) h fun _ h1 => Q (.nx env) h1) : wp (xExpr e env) h Q := w_bind w
theorem w_rt {e : KE} {Q : F → VH → Prop} (w : wp (e env) h fun d h1 => Q (.rt d) h1) : wp (xRet e env) h Q := w_bind w
theorem w_asg {tg : KG} {e : KE} {Q : F → VH → Prop} (w : wp (e env) h fun d h1 => wp (tg env d) h1 fun e2 h2 => Q (.nx e2) h2) : wp (xAsg tg e env) h Q := w_bind (wp_mono w fun _ _ z => w_bind z)
theorem w_setE {k : Nat} {e : KE} {Q : F → VH → Prop} (w : wp (e env) h fun d h1 => Q (.nx (sth (some d) k env)) h1) : wp (xSetE k e env) h Q := w_bind w
theorem w_setF {f : Nat} {o e : KE} {Q : F → VH → Prop} (w : wp (e env) h fun d h1 => wp (o env) h1 fun x h2 => wp (setF f x d) h2 fun _ h3 => Q (.nx env) h3) : wp (xSetF f o e env) h Q :=
  w_bind (wp_mono w fun _ _ z => w_bind (wp_mono z fun _ _ z => w_bind z))
theorem w_par {i j : Nat} {a b : KE} {Q : F → VH → Prop} (w : wp (a env) h fun x h1 => wp (b env) h1 fun y h2 => Q (.nx ((env.set i (some x)).set j (some y))) h2) : wp (xPar i j [a, b] env) h Q :=
  w_bind (w_A (wp_mono w fun _ _ z => w_A (wp_mono z fun _ _ z => z)))
end
/-! ### loops -/
section
variable {h : VH} {env : Env} {go : Nat → VH → Option (Option D)}
theorem w_lcK {g : KG} {tt : KT} {te : KE} {Q : List D → VH → Prop} (n : Nat) (I : Nat → List D → VH → Prop)
    (st : ∀ i acc h, i < n → I i acc h → ∃ d, go i h = some (some d) ∧ wp (g env d) h fun e2 h1 => wp (tt e2) h1 fun b h2 => bIf b (wp (te e2) h2 fun y h3 => I (i + 1) (y :: acc) h3) (I (i + 1) acc h2))
    (en : ∀ acc h, I n acc h → go n h = some none ∧ Q acc h) : ∀ (f i : Nat) (acc : List D) (h : VH), n < i + f → i ≤ n → I i acc h → wp (lcK go g tt te env f i acc) h Q
  | 0, i, acc, h, h1, h2, _ => absurd h1 (by omega)
  | f + 1, i, acc, h, h1, h2, hi => by
    show wp (fun h => oo (go i h) (.ret .bad) (.ret (.ok acc h)) fun d => M.bind (g env d) (fun e2 => M.bind (tt e2) fun b => bIf b (M.bind (te e2) fun y => lcK go g tt te env f (i + 1) (y :: acc)) (lcK go g tt te env f (i + 1) acc)) h) h Q
    by_cases e : i < n
    · obtain ⟨d, e1, w⟩ := st i acc h e hi
      unfold wp
      try dsimp only
      rw [e1]
      refine w_bind (wp_mono w fun e2 h1 z => w_bind (wp_mono z fun b h2 z => ?_))
      cases b with
      | true => exact w_bind (wp_mono z fun y h3 z => w_lcK n I st en f (i + 1) (y :: acc) h3 (by omega) (by omega) z)
      | false => exact w_lcK n I st en f (i + 1) acc h2 (by omega) (by omega) z
    · have e2 : i = n := by omega
      subst e2
      obtain ⟨e3, q⟩ := en acc h hi
      unfold wp
      try dsimp only
      rw [e3]
      exact q
theorem w_loopK {g : KG} {body : KS} {Q : F → VH → Prop} (n : Nat) (I : Nat → Env → VH → Prop)
    (st : ∀ i env h, i < n → I i env h → ∃ d, go i h = some (some d) ∧ wp (g env d) h fun e2 h1 => wp (body e2) h1 fun f h2 => match f with
      | .nx e => I (i + 1) e h2
      | .ct e => I (i + 1) e h2
      | .bk e => Q (.nx e) h2
      | .rt d => Q (.rt d) h2)
    (en : ∀ env h, I n env h → go n h = some none ∧ Q (.nx env) h) : ∀ (f i : Nat) (env : Env) (h : VH), n < i + f → i ≤ n → I i env h → wp (loopK go g body f i env) h Q
  | 0, i, env, h, h1, h2, _ => absurd h1 (by omega)
  | f + 1, i, env, h, h1, h2, hi => by
    show wp (fun h => oo (go i h) (.ret .bad) (.ret (.ok (.nx env) h)) fun d => M.bind (g env d) (fun e2 => M.bind (body e2) (fF (loopK go g body f (i + 1)) (fun e => mRet (.nx e)) (loopK go g body f (i + 1)) (fun d => mRet (.rt d)))) h) h Q
    by_cases e : i < n
    · obtain ⟨d, e1, w⟩ := st i env h e hi
      unfold wp
      try dsimp only
      rw [e1]
      refine w_bind (wp_mono w fun e2 h1 z => w_bind (wp_mono z fun fl h2 z => ?_))
      cases fl with
      | nx e3 => exact w_loopK n I st en f (i + 1) e3 h2 (by omega) (by omega) z
      | ct e3 => exact w_loopK n I st en f (i + 1) e3 h2 (by omega) (by omega) z
      | bk e3 => exact z
      | rt d => exact z
    · have e2 : i = n := by omega
      subst e2
      obtain ⟨e3, q⟩ := en env h hi
      unfold wp
      try dsimp only
      rw [e3]
      exact q
/-- for, over steps that lock nothing -/
theorem w_for {it : KI} {tg : KG} {body : KS} {Q : F → VH → Prop} (w : wp (it env) h fun st h1 => st.lk = none ∧ wp (loopK st.go tg body turns 0 env) h1 Q) : wp (xFor it tg body env) h Q := by
  refine w_bind (wp_mono w fun st h1 ⟨e, z⟩ => w_bind (wp_mono z fun f h2 y => ?_))
  rw [e]
  exact y
theorem w_lc {it : KI} {tg : KG} {ifs : Option KT} {elt : KE} {vs : List Nat} {Q : D → VH → Prop} (w : wp (it env) h fun st h1 => st.lk = none ∧ wp (lcK st.go tg (xTt ifs) elt (wipeK env vs) turns 0 []) h1 fun acc h2 => Q (.ref h2.n) (h2.new (.lst acc.reverse))) : wp (xLc it tg ifs elt vs env) h Q := by
  refine w_bind (wp_mono w fun st h1 ⟨e, z⟩ => w_bind (wp_mono z fun f h2 y => ?_))
  rw [e]
  exact y
end
/-! ### calls -/
theorem w_call {np nn : Nat} {m : KS} {ds : List D} {h : VH} {Q : D → VH → Prop} (e : ds.length = np) (w : wp (m (stK nn ds)) h fun f h1 => wp (endK f) h1 Q) : wp (runK np nn m ds) h Q := by
  show wp (fun h => bIf (Nat.beq ds.length np) (M.bind (m (stK nn ds)) endK h) (.ret .bad)) h Q
  unfold wp
  try dsimp only
  rw [e, Nat.beq_refl]
  exact w_bind w
/-! ### the source -/
/-- so many draws are still to be had -/
def Bud (h : VH) (s k : Nat) : Prop := ∃ n, h.get s = some (.src n) ∧ n + k ≤ 1000000
/-- what stood stays but for these -/
def Fr (S : List Nat) (h h' : VH) : Prop := h.n ≤ h'.n ∧ ∀ a, a < h.n → a ∉ S → h'.get a = h.get a
theorem Fr.refl {S : List Nat} {h : VH} : Fr S h h := ⟨Nat.le_refl _, fun _ _ _ => rfl⟩
theorem Fr.trans {S : List Nat} {h h1 h2 : VH} (a : Fr S h h1) (b : Fr S h1 h2) : Fr S h h2 := ⟨Nat.le_trans a.1 b.1, fun x hx hs => (b.2 x (Nat.lt_of_lt_of_le hx a.1) hs).trans (a.2 x hx hs)⟩
theorem Fr.new {S : List Nat} {h : VH} {o : O} : Fr S h (h.new o) := ⟨Nat.le_succ _, fun a ha _ => by rw [VH.get_new, if_neg (Nat.ne_of_lt ha)]⟩
theorem Fr.set {S : List Nat} {h : VH} {o : O} {a : Nat} (ha : a < h.n) (hs : a ∈ S) : Fr S h (h.set a o) := ⟨Nat.le_refl _, fun b hb hn => by rw [VH.get_set ha, if_neg (fun e : b = a => hn (by rw [e]; exact hs))]⟩
theorem Fr.mono {S T : List Nat} {h h' : VH} (a : Fr S h h') (i : ∀ x, x ∈ S → x ∈ T) : Fr T h h' := ⟨a.1, fun x hx hs => a.2 x hx fun z => hs (i x z)⟩
theorem Fr.get {S : List Nat} {h h' : VH} (f : Fr S h h') {a : Nat} {o : O} (e : h.get a = some o) (hs : a ∉ S) : h'.get a = some o := (f.2 a (VH.get_lt e) hs).trans e
/-- a list made later may change -/
theorem Fr.cut {S : List Nat} {a : Nat} {h h' : VH} (f : Fr (a :: S) h h') (ha : h.n ≤ a) : Fr S h h' := ⟨f.1, fun x hx hs => f.2 x hx fun z => by
  rcases List.mem_cons.mp z with z | z
  · omega
  · exact hs z⟩
theorem w_draw {s k : Nat} {m : Int} {h : VH} {Q : D → VH → Prop} (b : Bud h s (k + 1)) (hm : 0 < m ∧ m < 1000000) (w : ∀ d : Nat, (d : Int) < m → ∀ h1, Bud h1 s k → Fr [s] h h1 → h1.n = h.n → Q (.int d) h1) : wp (prim [.ref s, .int m]) h Q := by
  obtain ⟨n, e, hn⟩ := b
  have hs := VH.get_lt e
  show wp (fun h => match h.get s with
    | some (.src n) => if 0 < m ∧ m < 1000000 ∧ n < 1000000 then .draw m.toNat fun d => .ret (.ok (.int d) (h.set s (.src (n + 1)))) else .ret .bad
    | _ => .ret .bad) h Q
  unfold wp
  try dsimp only
  rw [e]
  simp only
  rw [if_pos ⟨hm.1, hm.2, by omega⟩]
  intro d hd
  exact w d (by omega) _ ⟨n + 1, set_get hs, by omega⟩ (Fr.set hs List.mem_cons_self) rfl
end
end PV
set_option Elab.async false
set_option linter.all false
set_option maxRecDepth 100000
set_option autoImplicit false
namespace PV
noncomputable section
/-! ### the functions as combinators; ct (I g): the function g -/
def kf_is_name (I : Nat → Nat) (ct : CT) : KS := xSs [(xRet (xAnd [(xU (isiM [0]) (xLoc 0)), (xChn leK leK (xCst (.int (Int.ofNat 1))) (xU lenM (xLoc 0)) (xCst (.int (Int.ofNat 8)))), (xU allM (xLc (xU seqIK (xLoc 0)) (xNam 1) none (xB (inM false) (xLoc 1) (xCst (.str [97, 98, 99, 100, 101, 102, 103, 104, 105, 106, 107, 108, 109, 110, 111, 112, 113, 114, 115, 116, 117, 118, 119, 120, 121, 122]))) [1]))]))]
def kf_is_list (I : Nat → Nat) (ct : CT) : KS := xSs [(xRet (xU (isiM [1, 2]) (xLoc 0)))]
def kf_are_names (I : Nat → Nat) (ct : CT) : KS := xSs [(xRet (xAnd [(xN (ct (I 2)) [(xLoc 0)]), (xU allM (xLc (xU seqIK (xLoc 0)) (xNam 1) none (xN (ct (I 1)) [(xLoc 1)]) [1])), (xB (eqQ false) (xU lenSM (xLoc 0)) (xU lenM (xLoc 0)))]))]
def kf_is_number (I : Nat → Nat) (ct : CT) : KS := xSs [(xRet (xAnd [(xU (isiM [3]) (xLoc 0)), (xNot (xU (isiM [4]) (xLoc 0))), (xChn leK leK (xCst (.int (Int.ofNat 0))) (xLoc 0) (xCst (.int (Int.ofNat 9))))]))]
def kf_is_condition (I : Nat → Nat) (ct : CT) : KS := xSs [(xIf (xOrT [(xNotT (xU truM (xN (ct (I 2)) [(xLoc 0)]))), (xCmpT (eqQ true) (xU lenM (xLoc 0)) (xCst (.int (Int.ofNat 3)))), (xNotT (xU truM (xN (ct (I 4)) [(xB ixM (xLoc 0) (xCst (.int (Int.ofNat 0))))])))]) (xSs [(xRet (xCst (.bl false)))]) (xSs [])), (xRet (xAnd [(xOr [(xB (isM false) (xB ixM (xLoc 0) (xCst (.int (Int.ofNat 1)))) (xCst .non)), (xN (ct (I 4)) [(xB ixM (xLoc 0) (xCst (.int (Int.ofNat 1))))])]), (xN (ct (I 3)) [(xB ixM (xLoc 0) (xCst (.int (Int.ofNat 2))))]), (xB gtK (xU lenM (xB ixM (xLoc 0) (xCst (.int (Int.ofNat 2))))) (xCst (.int (Int.ofNat 0))))]))]
def kf_is_clause (I : Nat → Nat) (ct : CT) : KS := xSs [(xIf (xOrT [(xNotT (xU truM (xN (ct (I 2)) [(xLoc 0)]))), (xCmpT (eqQ true) (xU lenM (xLoc 0)) (xCst (.int (Int.ofNat 2)))), (xNotT (xU truM (xN (ct (I 1)) [(xB ixM (xLoc 0) (xCst (.int (Int.ofNat 0))))])))]) (xSs [(xRet (xCst (.bl false)))]) (xSs [])), (xRet (xAnd [(xN (ct (I 2)) [(xB ixM (xLoc 0) (xCst (.int (Int.ofNat 1))))]), (xB leK (xU lenM (xB ixM (xLoc 0) (xCst (.int (Int.ofNat 1))))) (xCst (.int (Int.ofNat 4)))), (xU allM (xLc (xU seqIK (xB ixM (xLoc 0) (xCst (.int (Int.ofNat 1))))) (xNam 1) none (xN (ct (I 5)) [(xLoc 1)]) [1]))]))]
def kf_are_clauses (I : Nat → Nat) (ct : CT) : KS := xSs [(xRet (xAnd [(xN (ct (I 2)) [(xLoc 0)]), (xB leK (xU lenM (xLoc 0)) (xCst (.int (Int.ofNat 6)))), (xU allM (xLc (xU seqIK (xLoc 0)) (xNam 1) none (xN (ct (I 6)) [(xLoc 1)]) [1]))]))]
def kf_holds (I : Nat → Nat) (ct : CT) : KS := xSs [(xAsg (xGt 3 [(xNam 3), (xNam 4), (xNam 5)]) (xLoc 0)), (xAsg (xNam 2) (xU sumM (xLc (xU seqIK (xLoc 5)) (xNam 6) none (xMth (mtM 5 5 getM getM) (xLoc 1) [(xLoc 6), (xCst (.int (Int.ofNat 0)))]) [6]))), (xRet (xAnd [(xB leK (xLoc 3) (xLoc 2)), (xOr [(xB (isM false) (xLoc 4) (xCst .non)), (xB leK (xLoc 2) (xLoc 4))])]))]
def kf_counts_of (I : Nat → Nat) (ct : CT) : KS := xSs [(xAsg (xNam 1) (xC0 newDic)), (xFor (xU seqIK (xLoc 0)) (xNam 2) (xSs [(xAsg (xSub (xLoc 1) (xLoc 2)) (xB addD (xMth (mtM 5 5 getM getM) (xLoc 1) [(xLoc 2), (xCst (.int (Int.ofNat 0)))]) (xCst (.int (Int.ofNat 1)))))])), (xRet (xLoc 1))]
def kf_KindU_initU (I : Nat → Nat) (ct : CT) : KS := xSs [(xIf (xNotT (xU truM (xN (ct (I 3)) [(xLoc 1)]))) (xSs [xBad]) (xSs [])), (xIf (xOrT [(xNotT (xU truM (xN (ct (I 3)) [(xLoc 2)]))), (xCmpT (eqQ false) (xB addD (xU lenM (xLoc 1)) (xU lenM (xLoc 2))) (xCst (.int (Int.ofNat 0))))]) (xSs [xBad]) (xSs [])), (xIf (xNotT (xU truM (xN (ct (I 7)) [(xLoc 3)]))) (xSs [xBad]) (xSs [])), (xIf (xNotT (xU truM (xN (ct (I 1)) [(xLoc 4)]))) (xSs [xBad]) (xSs [])), (xSetF 0 (xLoc 0) (xU tupX (xU sortM (xLc (xU seqIK (xLoc 1)) (xNam 6) none (xU strM (xLoc 6)) [6])))), (xSetF 1 (xLoc 0) (xU tupX (xU sortM (xLc (xU seqIK (xLoc 2)) (xNam 9) none (xU strM (xLoc 9)) [9])))), (xAsg (xNam 5) (xN mkLst [])), (xFor (xU seqIK (xLoc 3)) (xGt 2 [(xNam 6), (xNam 7)]) (xSs [(xSetE 8 (xLc (xU seqIK (xLoc 7)) (xGt 3 [(xNam 10), (xNam 11), (xNam 12)]) none (xN mkTup [(xLoc 10), (xLoc 11), (xU tupX (xU sortM (xLc (xU seqIK (xLoc 12)) (xNam 13) none (xU strM (xLoc 13)) [13])))]) [10, 11, 12])), (xExpr (xMth (mtM 1 1 appM appM) (xLoc 5) [(xN mkTup [(xLoc 6), (xU tupX (xLoc 8))])]))])), (xSetF 2 (xLoc 0) (xU tupX (xLoc 5))), (xSetF 3 (xLoc 0) (xLoc 4))]
def kf_Kind_hand (I : Nat → Nat) (ct : CT) : KS := xSs [(xRet (xU (fldM 0) (xLoc 0)))]
def kf_Kind_parts (I : Nat → Nat) (ct : CT) : KS := xSs [(xRet (xU (fldM 1) (xLoc 0)))]
def kf_Kind_clauses (I : Nat → Nat) (ct : CT) : KS := xSs [(xRet (xU (fldM 2) (xLoc 0)))]
def kf_Kind_last (I : Nat → Nat) (ct : CT) : KS := xSs [(xRet (xU (fldM 3) (xLoc 0)))]
def kf_KindU_eqU (I : Nat → Nat) (ct : CT) : KS := xSs [(xIf (xOrT [(xNotT (xU truM (xU (iscM (I 1000)) (xLoc 1)))), (xCmpT (eqQ true) (xU (fldM 0) (xLoc 0)) (xU (fldM 0) (xLoc 1))), (xCmpT (eqQ true) (xU (fldM 1) (xLoc 0)) (xU (fldM 1) (xLoc 1)))]) (xSs [(xRet (xCst (.bl false)))]) (xSs [])), (xRet (xAnd [(xB (eqQ false) (xU (fldM 2) (xLoc 0)) (xU (fldM 2) (xLoc 1))), (xB (eqQ false) (xU (fldM 3) (xLoc 0)) (xU (fldM 3) (xLoc 1)))]))]
def kf_Kind_index_by (I : Nat → Nat) (ct : CT) : KS := xSs [(xFor (xU enumK (xU (fldM 2) (xLoc 0))) (xGt 2 [(xNam 2), (xGt 2 [(xNam 3), (xNam 4)])]) (xSs [(xIf (xU truM (xU allM (xLc (xU seqIK (xLoc 4)) (xNam 5) none (xN (ct (I 8)) [(xLoc 5), (xLoc 1)]) [5]))) (xSs [(xRet (xLoc 2))]) (xSs []))])), (xRet (xU lenM (xU (fldM 2) (xLoc 0))))]
def kf_Kind_told_by (I : Nat → Nat) (ct : CT) : KS := xSs [(xAsg (xNam 2) (xMet (I 1000) (ct (I 16)) (xLoc 0) [(xLoc 1)])), (xRet (xIf (xCmpT (eqQ false) (xLoc 2) (xU lenM (xU (fldM 2) (xLoc 0)))) (xU (fldM 3) (xLoc 0)) (xB ixM (xB ixM (xU (fldM 2) (xLoc 0)) (xLoc 2)) (xCst (.int (Int.ofNat 0))))))]
def kf_Kind_told (I : Nat → Nat) (ct : CT) : KS := xSs [(xRet (xMet (I 1000) (ct (I 17)) (xLoc 0) [(xN (ct (I 9)) [(xLoc 1)])]))]
def kf_Kind_counting (I : Nat → Nat) (ct : CT) : KS := xSs [(xRet (xMet (I 1000) (ct (I 16)) (xLoc 0) [(xN (ct (I 9)) [(xLoc 1)])]))]
def kf_Kind_cap (I : Nat → Nat) (ct : CT) : KS := xSs [(xExpr (xN (ct (I 0)) [(xCst (.int (Int.ofNat 0)))]))]
def kf_Kind_all_states (I : Nat → Nat) (ct : CT) : KS := xSs [(xExpr (xN (ct (I 0)) [(xCst (.int (Int.ofNat 1)))]))]
def kf__law_pick (I : Nat → Nat) (ct : CT) : KS := xSs [(xRet (xB ixM (xLoc 1) (xN (ct 0) [(xLoc 0), (xU lenM (xLoc 1))])))]
def kf__law_order (I : Nat → Nat) (ct : CT) : KS := xSs [(xAsg (xNam 2) (xU lrgM (xLoc 1))), (xRet (xLc (xU rngI1 (xLoc 1)) (xNam 3) none (xMth (mtM 1 5 popM popDM) (xLoc 2) [(xN (ct 0) [(xLoc 0), (xU lenM (xLoc 2))])]) [3]))]
def kf__law_subset (I : Nat → Nat) (ct : CT) : KS := xSs [(xRet (xLc (xU seqIK (xLoc 1)) (xNam 2) (some (xCmpT (eqQ false) (xN (ct 0) [(xLoc 0), (xCst (.int (Int.ofNat 2)))]) (xCst (.int (Int.ofNat 1))))) (xLoc 2) [2]))]
def kf__law_name (I : Nat → Nat) (ct : CT) : KS := xSs [(xAsg (xNam 2) (xB ixM (xN mkLst [(xCst (.int (Int.ofNat 8))), (xCst (.int (Int.ofNat 4))), (xCst (.int (Int.ofNat 5))), (xCst (.int (Int.ofNat 6))), (xCst (.int (Int.ofNat 7))), (xCst (.int (Int.ofNat 1))), (xCst (.int (Int.ofNat 2))), (xCst (.int (Int.ofNat 3))), (xCst (.int (Int.ofNat 1))), (xCst (.int (Int.ofNat 2))), (xCst (.int (Int.ofNat 3))), (xCst (.int (Int.ofNat 1))), (xCst (.int (Int.ofNat 2)))]) (xN (ct 0) [(xLoc 0), (xCst (.int (Int.ofNat 13)))]))), (xAsg (xNam 3) (xMth (mtM 0 0 joinM joinM) (xCst (.str [])) [(xLc (xU rngI1 (xLoc 2)) (xNam 4) none (xB ixM (xCst (.str [97, 98, 99, 100, 101, 102, 103, 104, 105, 106, 107, 108, 109, 110, 111, 112, 113, 114, 115, 116, 117, 118, 119, 120, 121, 122])) (xN (ct 0) [(xLoc 0), (xCst (.int (Int.ofNat 26)))])) [4])])), (xIf (xChnT ltK ltK (xCst (.int (Int.ofNat 3))) (xLoc 2) (xCst (.int (Int.ofNat 8)))) (xSs [(xAsg (xNam 3) (xB ixM (xN mkLst [(xCst (.str [107, 105, 110, 100])), (xCst (.str [104, 97, 110, 100])), (xCst (.str [112, 97, 114, 116, 115])), (xCst (.str [101, 108, 115, 101])), (xCst (.str [115, 111, 102, 116])), (xCst (.str [104, 101, 108, 100])), (xB addD (xCst (.str [113])) (xSl (xLoc 3) (some (xCst (.int (Int.ofNat 1)))) none))]) (xN (ct 0) [(xLoc 0), (xCst (.int (Int.ofNat 7)))])))]) (xSs [])), (xIf (xCmpT (inM true) (xLoc 3) (xLoc 1)) (xSs [(xRet (xLoc 3))]) (xSs [])), (xRet (xB ixM (xLc (xU seqIK (xLc (xU seqIK (xCst (.str [97, 98, 99, 100, 101, 102, 103, 104, 105, 106, 107, 108, 109, 110, 111, 112, 113, 114, 115, 116, 117, 118, 119, 120, 121, 122]))) (xNam 6) none (xB addD (xCst (.str [122])) (xLoc 6)) [6])) (xNam 5) (some (xCmpT (inM true) (xLoc 5) (xLoc 1))) (xLoc 5) [5]) (xCst (.int (Int.ofNat 0)))))]
def kf__law_names (I : Nat → Nat) (ct : CT) : KS := xSs [(xAsg (xNam 2) (xN mkLst [])), (xFor (xU rngI1 (xLoc 1)) (xNam 3) (xSs [(xExpr (xMth (mtM 1 1 appM appM) (xLoc 2) [(xN (ct (I 25)) [(xLoc 0), (xLoc 2)])]))])), (xRet (xLoc 2))]
def kf__law_some (I : Nat → Nat) (ct : CT) : KS := xSs [(xSetE 2 (xLc (xU seqIK (xN (ct (I 23)) [(xLoc 0), (xU lenM (xLoc 1))])) (xNam 3) none (xB ixM (xLoc 1) (xLoc 3)) [3])), (xRet (xSl (xLoc 2) none (some (xB addD (xCst (.int (Int.ofNat 1))) (xN (ct 0) [(xLoc 0), (xU lenM (xLoc 2))])))))]
def kf__law_condition (I : Nat → Nat) (ct : CT) : KS := xSs [(xAsg (xNam 2) (xN (ct 0) [(xLoc 0), (xCst (.int (Int.ofNat 3)))])), (xAsg (xNam 3) (xIf (xCmpT (eqQ false) (xN (ct 0) [(xLoc 0), (xCst (.int (Int.ofNat 2)))]) (xCst (.int (Int.ofNat 0)))) (xCst .non) (xB addD (xLoc 2) (xN (ct 0) [(xLoc 0), (xCst (.int (Int.ofNat 2)))])))), (xIf (xCmpT (eqQ false) (xN (ct 0) [(xLoc 0), (xCst (.int (Int.ofNat 4)))]) (xCst (.int (Int.ofNat 0)))) (xSs [(xAsg (xGt 2 [(xNam 2), (xNam 3)]) (xN mkTup [(xCst (.int (Int.ofNat 0))), (xCst (.int (Int.ofNat 0)))]))]) (xSs [])), (xRet (xN mkTup [(xLoc 2), (xLoc 3), (xU tupX (xN (ct (I 27)) [(xLoc 0), (xLoc 1)]))]))]
def kf__law_rules (I : Nat → Nat) (ct : CT) : KS := xSs [(xPar 5 6 [(xN (ct (I 24)) [(xLoc 0), (xLoc 1)]), (xN (ct (I 24)) [(xLoc 0), (xLoc 2)])]), (xIf (xAndT [(xCmpT (eqQ false) (xLoc 5) (xN mkLst [])), (xOrT [(xCmpT (eqQ false) (xLoc 6) (xN mkLst [])), (xCmpT gtK (xN (ct 0) [(xLoc 0), (xCst (.int (Int.ofNat 3)))]) (xCst (.int (Int.ofNat 0))))])]) (xSs [(xAsg (xNam 5) (xN mkLst [(xN (ct (I 22)) [(xLoc 0), (xLoc 1)])]))]) (xSs [])), (xAsg (xNam 3) (xN mkLst [])), (xFor (xU rngI1 (xN (ct 0) [(xLoc 0), (xCst (.int (Int.ofNat 4)))])) (xNam 4) (xSs [(xSetE 7 (xLc (xU rngI1 (xN (ct 0) [(xLoc 0), (xCst (.int (Int.ofNat 3)))])) (xNam 8) none (xN (ct (I 28)) [(xLoc 0), (xLoc 1)]) [8])), (xExpr (xMth (mtM 1 1 appM appM) (xLoc 3) [(xN mkTup [(xN (ct (I 22)) [(xLoc 0), (xLoc 1)]), (xU tupX (xLoc 7))])]))])), (xRet (xN mkTup [(xLoc 5), (xLoc 6), (xLoc 3), (xN (ct (I 22)) [(xLoc 0), (xLoc 1)])]))]
def kf__law_index (I : Nat → Nat) (ct : CT) : KS := xSs [(xFor (xU enumK (xB ixM (xLoc 0) (xCst (.int (Int.ofNat 2))))) (xGt 2 [(xNam 2), (xGt 2 [(xNam 4), (xNam 5)])]) (xSs [(xAsg (xNam 3) (xN mkLst [])), (xFor (xU seqIK (xLoc 5)) (xGt 3 [(xNam 6), (xNam 7), (xNam 8)]) (xSs [(xAsg (xNam 9) (xU lenM (xLc (xU seqIK (xLoc 1)) (xNam 10) (some (xCmpT (inM false) (xLoc 10) (xLoc 8))) (xLoc 10) [10]))), (xExpr (xMth (mtM 1 1 appM appM) (xLoc 3) [(xAnd [(xB leK (xLoc 6) (xLoc 9)), (xOr [(xB (isM false) (xLoc 7) (xCst .non)), (xB leK (xLoc 9) (xLoc 7))])])]))])), (xIf (xU truM (xU allM (xLoc 3))) (xSs [(xRet (xLoc 2))]) (xSs []))])), (xRet (xU lenM (xB ixM (xLoc 0) (xCst (.int (Int.ofNat 2))))))]
def kf__law_told (I : Nat → Nat) (ct : CT) : KS := xSs [(xAsg (xNam 2) (xN (ct (I 30)) [(xLoc 0), (xLoc 1)])), (xRet (xIf (xCmpT (eqQ false) (xLoc 2) (xU lenM (xB ixM (xLoc 0) (xCst (.int (Int.ofNat 2)))))) (xB ixM (xLoc 0) (xCst (.int (Int.ofNat 3)))) (xB ixM (xB ixM (xB ixM (xLoc 0) (xCst (.int (Int.ofNat 2)))) (xLoc 2)) (xCst (.int (Int.ofNat 0))))))]
def kf__law_lists (I : Nat → Nat) (ct : CT) : KS := xSs [(xPar 3 4 [(xN mkLst []), (xN mkLst [(xN mkLst [])])]), (xFor (xU rngI1 (xLoc 1)) (xNam 2) (xSs [(xAsg (xNam 5) (xN mkLst [])), (xFor (xU seqIK (xLoc 4)) (xNam 6) (xSs [(xExpr (xMth (mtM 1 1 extM extM) (xLoc 5) [(xLc (xU seqIK (xLoc 0)) (xNam 7) (some (xOrT [(xCmpT (eqQ false) (xLoc 6) (xN mkLst [])), (xCmpT leK (xB ixM (xLoc 6) (xU negM (xCst (.int (Int.ofNat 1))))) (xLoc 7))])) (xB addD (xLoc 6) (xN mkLst [(xLoc 7)])) [7])]))])), (xPar 3 4 [(xB addD (xLoc 3) (xLoc 5)), (xLoc 5)])])), (xRet (xLoc 3))]
end
end PV
set_option Elab.async false
set_option linter.all false
set_option maxRecDepth 100000
set_option maxHeartbeats 1000000
set_option autoImplicit false
namespace PV
noncomputable section
open PySem
theorem w_nx {R : F → VH → Prop} {w : Env → VH → Prop} {e : Env} {h : VH} (z : w e h) : nxt R w (.nx e) h := z
theorem w_rtn {R : F → VH → Prop} {w : Env → VH → Prop} {d : D} {h : VH} (z : R (.rt d) h) : nxt R w (.rt d) h := z
theorem w_endR {d : D} {h : VH} {Q : D → VH → Prop} (q : Q d h) : wp (endK (.rt d)) h Q := q
theorem w_endN {e : Env} {h : VH} {Q : D → VH → Prop} (q : Q .non h) : wp (endK (.nx e)) h Q := q
theorem w_bt {p q : Prop} (z : p) : bIf true p q := z
theorem w_bf {p q : Prop} (z : q) : bIf false p q := z
theorem w_bif {c : Bool} {p q : Prop} (a : c = true → p) (b : c = false → q) : bIf c p q := by cases c with | true => exact a rfl | false => exact b rfl
theorem w_tru {b : Bool} {h : VH} {Q : Bool → VH → Prop} (q : Q b h) : wp (truM (.bl b)) h Q := q
theorem w_asB {b : Bool} {h : VH} {Q : Bool → VH → Prop} (q : Q b h) : wp (asB (.bl b)) h Q := q
theorem p_le {a b : Int} {h : VH} {Q : D → VH → Prop} (q : Q (.bl (leI a b)) h) : wp (leK (.int a) (.int b)) h Q := q
theorem p_lt {a b : Int} {h : VH} {Q : D → VH → Prop} (q : Q (.bl (ltI a b)) h) : wp (ltK (.int a) (.int b)) h Q := q
theorem p_gt {a b : Int} {h : VH} {Q : D → VH → Prop} (q : Q (.bl (ltI b a)) h) : wp (gtK (.int a) (.int b)) h Q := q
theorem p_ge {a b : Int} {h : VH} {Q : D → VH → Prop} (q : Q (.bl (leI b a)) h) : wp (geK (.int a) (.int b)) h Q := q
theorem p_eqI {a b : Int} {h : VH} {Q : D → VH → Prop} (q : Q (.bl (eqI a b)) h) : wp (eqQ false (.int a) (.int b)) h Q := q
theorem p_neI {a b : Int} {h : VH} {Q : D → VH → Prop} (q : Q (.bl (!eqI a b)) h) : wp (eqQ true (.int a) (.int b)) h Q := q
theorem p_eqS {a b : List Nat} {h : VH} {Q : D → VH → Prop} (q : Q (.bl (eqS a b)) h) : wp (eqQ false (.str a) (.str b)) h Q := q
theorem p_neS {a b : List Nat} {h : VH} {Q : D → VH → Prop} (q : Q (.bl (!eqS a b)) h) : wp (eqQ true (.str a) (.str b)) h Q := q
theorem p_is {x : D} {h : VH} {Q : D → VH → Prop} (q : Q (.bl (isNon x)) h) : wp (isM false x .non) h Q := q
theorem p_isnt {x : D} {h : VH} {Q : D → VH → Prop} (q : Q (.bl (!isNon x)) h) : wp (isM true x .non) h Q := q
theorem p_add {a b : Int} {h : VH} {Q : D → VH → Prop} (q : Q (.int (a + b)) h) : wp (addD (.int a) (.int b)) h Q := q
theorem p_asI {a : Int} {h : VH} {Q : Option Int → VH → Prop} (q : Q (some a) h) : wp (asI (.int a)) h Q := q
theorem p_lenT {xs : List D} {h : VH} {Q : D → VH → Prop} (q : Q (.int xs.length) h) : wp (lenM (.tup xs)) h Q := q
theorem p_lenS {s : List Nat} {h : VH} {Q : D → VH → Prop} (q : Q (.int s.length) h) : wp (lenM (.str s)) h Q := q
/-- one step -/
local macro_rules | `(tactic| walk_at "w") => `(tactic| first
  | with_reducible refine w_s ?_ | with_reducible refine w_s0 ?_ | with_reducible refine w_nx ?_ | with_reducible refine w_rtn ?_ | with_reducible refine w_endR ?_ | with_reducible refine w_endN ?_
  | with_reducible refine w_asg ?_ | with_reducible refine w_rt ?_ | with_reducible refine w_expr ?_ | with_reducible refine w_setE ?_ | with_reducible refine w_setF ?_ | with_reducible refine w_par ?_
  | with_reducible refine w_U ?_ | with_reducible refine w_B ?_ | with_reducible refine w_N ?_ | with_reducible refine w_A ?_ | with_reducible refine w_A0 ?_ | with_reducible refine w_cst ?_
  | ((with_reducible show wp (xLoc _ _) _ _); refine w_loc rfl ?_)
  | with_reducible refine w_and ?_ | with_reducible refine w_and1 ?_ | with_reducible refine w_or ?_ | with_reducible refine w_or1 ?_ | with_reducible refine w_not ?_ | with_reducible refine w_chn ?_ | with_reducible refine w_if ?_
  | with_reducible refine w_sl ?_ | with_reducible refine w_on ?_ | with_reducible refine w_os ?_ | with_reducible refine w_prp ?_ | with_reducible refine w_met ?_ | with_reducible refine w_cmpT ?_ | with_reducible refine w_chnT ?_
  | with_reducible refine w_andT ?_ | with_reducible refine w_andT1 ?_ | with_reducible refine w_orT ?_ | with_reducible refine w_orT1 ?_ | with_reducible refine w_notT ?_
  | with_reducible refine w_nam ?_ | ((with_reducible refine w_gt ?wl ?_); (case wl => exact rfl)) | with_reducible refine w_gs ?_ | with_reducible refine w_gs0 ?_ | with_reducible refine w_sub ?_
  | with_reducible refine w_bt ?_ | with_reducible refine w_bf ?_ | with_reducible refine w_tru ?_ | with_reducible refine w_asB ?_ | with_reducible refine w_ret ?_
  | with_reducible refine p_le ?_ | with_reducible refine p_lt ?_ | with_reducible refine p_gt ?_ | with_reducible refine p_ge ?_ | with_reducible refine p_eqI ?_ | with_reducible refine p_neI ?_ | with_reducible refine p_eqS ?_ | with_reducible refine p_neS ?_
  | with_reducible refine p_is ?_ | with_reducible refine p_isnt ?_ | with_reducible refine p_add ?_ | with_reducible refine p_asI ?_ | with_reducible refine p_lenT ?_ | with_reducible refine p_lenS ?_)
/-- a primitive that reckons -/
local macro_rules | `(tactic| walk_at "r") => `(tactic| refine w_run rfl ?_)
/-! ### lists of a comprehension -/
theorem new_get {h : VH} {o : O} : (h.new o).get h.n = some o := by rw [VH.get_new, if_pos rfl]
section
variable {h : VH} {S : List Nat} {env : Env}
theorem w_lcfm {go : Nat → VH → Option (Option D)} {g : KG} {tt : KT} {te : KE} {Q : List D → VH → Prop} (xs : List D) (f : D → Option D) (hl : xs.length < 1000000) (hgo : ∀ i h', Fr S h h' → go i h' = some (nth i xs))
    (he : ∀ x, x ∈ xs → ∀ h1, Fr S h h1 → ∀ R : Option D → VH → Prop, (∀ h2, Fr S h1 h2 → R (f x) h2) → wp (g env x) h1 fun e2 h' => wp (tt e2) h' fun b h'' => bIf b (wp (te e2) h'' fun y h3 => R (some y) h3) (R none h''))
    (q : ∀ h2, Fr S h h2 → Q (xs.filterMap f).reverse h2) : wp (lcK go g tt te env turns 0 []) h Q := by
  refine w_lcK xs.length (fun i acc h' => acc = ((xs.take i).filterMap f).reverse ∧ Fr S h h') (fun i acc h1 hi hI => ?_) (fun acc h1 hI => ?_) turns 0 [] h (by show _ < 0 + 1000000; omega) (Nat.zero_le _) ⟨by simp, .refl⟩
  · obtain ⟨rfl, fr⟩ := hI
    have e : xs[i]? = some xs[i] := List.getElem?_eq_getElem hi
    refine ⟨xs[i], by rw [hgo i h1 fr, nth_eq, e], ?_⟩
    have ht : (xs.take (i + 1)).filterMap f = (xs.take i).filterMap f ++ (match f xs[i] with | some y => [y] | none => []) := by
      rw [List.take_succ, e, List.filterMap_append]
      cases ef : f xs[i] <;> simp [ef]
    refine wp_mono (he xs[i] (List.getElem_mem hi) h1 fr (fun o h2 => o = f xs[i] ∧ Fr S h h2) fun h2 fr2 => ⟨rfl, fr.trans fr2⟩) fun e2 h' z => wp_mono z fun b h'' z => ?_
    cases b with
    | true =>
      refine wp_mono z fun y h3 ⟨z1, z2⟩ => ⟨?_, z2⟩
      rw [ht, ← z1]; simp
    | false =>
      obtain ⟨z1, z2⟩ := z
      refine ⟨?_, z2⟩
      rw [ht, ← z1]; simp
  · obtain ⟨rfl, fr⟩ := hI
    rw [List.take_length]
    exact ⟨by rw [hgo _ h1 fr, nth_eq, List.getElem?_eq_none (Nat.le_refl _)], q h1 fr⟩
theorem w_lcm {go : Nat → VH → Option (Option D)} {g : KG} {te : KE} {Q : List D → VH → Prop} (xs : List D) (f : D → D) (hl : xs.length < 1000000) (hgo : ∀ i h', Fr S h h' → go i h' = some (nth i xs))
    (he : ∀ x, x ∈ xs → ∀ h1, Fr S h h1 → ∀ R : D → VH → Prop, (∀ h2, Fr S h1 h2 → R (f x) h2) → wp (g env x) h1 fun e2 h' => wp (te e2) h' R)
    (q : ∀ h2, Fr S h h2 → Q (xs.map f).reverse h2) : wp (lcK go g (xTt none) te env turns 0 []) h Q := by
  refine w_lcfm xs (fun x => some (f x)) hl hgo (fun x hx h1 fr R hR => ?_) fun h2 fr => ?_
  · refine wp_mono (he x hx h1 fr (fun y h3 => R (some y) h3) hR) fun e2 h' z => ?_
    exact z
  · rw [show xs.filterMap (fun x => some (f x)) = xs.map f by induction xs with | nil => rfl | cons a r ih => simp]
    exact q h2 fr
end
/-! ### primitives -/
section
variable {h : VH} {a : Nat}
theorem ints_map : ∀ is : List Int, intsD (is.map .int) = some is
  | [] => rfl
  | i :: r => by rw [List.map_cons]; unfold intsD; rw [ints_map r]; rfl
theorem bls_map : ∀ bs : List Bool, blsD (bs.map .bl) = some bs
  | [] => rfl
  | i :: r => by rw [List.map_cons]; unfold blsD; rw [bls_map r]; rfl
theorem p_sum {is : List Int} {Q : D → VH → Prop} (e : h.get a = some (.lst (is.map .int))) (q : Q (.int is.sum) h) : wp (sumM (.ref a)) h Q := by
  refine w_run (a := .int is.sum) (h' := h) ?_ q
  unfold sumM onInts; simp only [e, ints_map]
theorem p_all {bs : List Bool} {Q : D → VH → Prop} (e : h.get a = some (.lst (bs.map .bl))) (q : Q (.bl (bs.all id)) h) : wp (allM (.ref a)) h Q := by
  refine w_run (a := .bl (bs.all id)) (h' := h) ?_ q
  unfold allM onBls; simp only [e, bls_map]
theorem p_get {kvs : List (D × D)} {s : List Nat} {z : D} {Q : D → VH → Prop} (e : h.get a = some (.dic kvs)) (q : Q ((lookD kvs (.str s)).getD z) h) : wp (getM (.ref a) [.str s, z]) h Q := by
  refine w_run (a := (lookD kvs (.str s)).getD z) (h' := h) ?_ q
  unfold getM; simp only [e, isKey, if_true, dfl]
theorem p_lenL {xs : List D} {Q : D → VH → Prop} (e : h.get a = some (.lst xs)) (q : Q (.int xs.length) h) : wp (lenM (.ref a)) h Q := by
  refine w_run (a := .int xs.length) (h' := h) ?_ q
  unfold lenM; simp only [e]
theorem p_fld {c f : Nat} {fs : List (Nat × D)} {d : D} {Q : D → VH → Prop} (e : h.get a = some (.ins c fs)) (el : lookF f fs = some d) (q : Q d h) : wp (fldM f (.ref a)) h Q := by
  refine w_run (a := d) (h' := h) ?_ q
  unfold fldM; simp only [e, el]
theorem p_ins {c : Nat} {fs : List (Nat × D)} {Q : D → VH → Prop} (e : h.get a = some (.ins c fs)) (q : Q (.ref a) h) : wp (insM c (.ref a)) h Q := by
  refine w_run (a := .ref a) (h' := h) ?_ q
  unfold insM; simp only [e, Nat.beq_refl, if_true]
theorem mt_dic {kvs : List (D × D)} (e : h.get a = some (.dic kvs)) : mtC h (.ref a) = some 5 := by unfold mtC; simp only [e]
theorem mt_lst {xs : List D} (e : h.get a = some (.lst xs)) : mtC h (.ref a) = some 1 := by unfold mtC; simp only [e]
end
/-! ### conditions -/
abbrev Tx' := List Nat
structure Cd where
  lo : Int
  mo : Option Int
  ss : List (List Nat)
def moD : Option Int → D
  | none => .non
  | some k => .int k
def Cd.d (c : Cd) : D := .tup [.int c.lo, moD c.mo, .tup (c.ss.map .str)]
/-- the number of a state in a dict of counts -/
def cnt (kvs : List (D × D)) (s : List Nat) : Int := match lookD kvs (.str s) with
  | some (.int i) => i
  | _ => 0
def IntVals (kvs : List (D × D)) : Prop := ∀ q, q ∈ kvs → ∃ i, q.2 = .int i
def moB (n : Int) : Option Int → Bool
  | none => true
  | some k => leI n k
def Cd.holds (c : Cd) (f : List Nat → Int) : Bool := leI c.lo (c.ss.map f).sum && moB (c.ss.map f).sum c.mo
theorem look_int {kvs : List (D × D)} (iv : IntVals kvs) (s : List Nat) : (lookD kvs (.str s)).getD (.int (Int.ofNat 0)) = .int (cnt kvs s) := by
  unfold cnt
  have : ∀ kvs : List (D × D), IntVals kvs → ∀ d, lookD kvs (.str s) = some d → ∃ i, d = .int i := by
    intro kvs
    induction kvs with
    | nil => intro _ d e; cases e
    | cons q r ih =>
      intro iv d e
      unfold lookD at e
      by_cases c : eqK q.1 (.str s) = true
      · rw [if_pos c] at e
        cases e
        exact iv q List.mem_cons_self
      · rw [if_neg c] at e
        exact ih (fun x hx => iv x (List.mem_cons_of_mem _ hx)) d e
  cases e : lookD kvs (.str s) with
  | none => rfl
  | some d =>
    obtain ⟨i, rfl⟩ := this kvs iv d e
    rfl
def HoldsSp (f : List D → M D) : Prop := ∀ (h : VH) (a : Nat) (kvs : List (D × D)) (c : Cd) (Q : D → VH → Prop), h.get a = some (.dic kvs) → IntVals kvs → c.ss.length < 1000000 → (∀ h', Fr [] h h' → Q (.bl (c.holds (cnt kvs))) h') → wp (f [c.d, .ref a]) h Q
theorem holds_sp {I : Nat → Nat} {ct : CT} : HoldsSp (runK 2 7 (kf_holds I ct)) := by
  intro h a kvs c Q ha iv hl q
  refine w_call rfl ?_
  unfold kf_holds Cd.d
  repeat walk_at "w"
  refine w_lc ?_
  repeat walk_at "w"
  walk_at "r"
  refine ⟨rfl, w_lcm (S := []) (c.ss.map .str) (fun x => (lookD kvs x).getD (.int (Int.ofNat 0))) (by rw [List.length_map]; exact hl) (fun _ _ _ => rfl) (fun x hx h1 fr R hR => ?_) (fun h2 fr => ?_)⟩
  · obtain ⟨s, _, rfl⟩ := List.mem_map.mp hx
    have ha1 := fr.get ha (by simp)
    repeat walk_at "w"
    refine w_mth ?_
    repeat walk_at "w"
    refine .inl ⟨mt_dic ha1, ?_⟩
    repeat walk_at "w"
    exact p_get ha1 (hR _ .refl)
  · refine p_sum (is := c.ss.map (cnt kvs)) (by rw [new_get, List.reverse_reverse, List.map_map, List.map_map]; congr 2; exact List.map_congr_left fun s _ => look_int iv s) ?_
    have fr2 : Fr [] h (h2.new (.lst ((c.ss.map D.str).map (fun x => (lookD kvs x).getD (.int (Int.ofNat 0)))).reverse.reverse)) := fr.trans .new
    have z := q _ fr2
    unfold Cd.holds at z
    repeat walk_at "w"
    refine w_bif (fun e1 => ?_) (fun e1 => ?_)
    · rw [e1] at z
      repeat walk_at "w"
      cases em : c.mo with
      | none =>
        rw [em] at z
        exact z
      | some k =>
        rw [em] at z
        refine w_bf ?_
        repeat walk_at "w"
        exact z
    · rw [e1] at z ⊢
      repeat walk_at "w"
      exact z
end
end PV
set_option Elab.async false
set_option linter.all false
set_option maxRecDepth 100000
set_option maxHeartbeats 1000000
set_option autoImplicit false
namespace PV
noncomputable section
open PySem
/-- one step -/
local macro_rules | `(tactic| walk_at "w") => `(tactic| first
  | with_reducible refine w_s ?_ | with_reducible refine w_s0 ?_ | with_reducible refine w_nx ?_ | with_reducible refine w_rtn ?_ | with_reducible refine w_endR ?_ | with_reducible refine w_endN ?_
  | with_reducible refine w_asg ?_ | with_reducible refine w_rt ?_ | with_reducible refine w_expr ?_ | with_reducible refine w_setE ?_ | with_reducible refine w_setF ?_ | with_reducible refine w_par ?_
  | with_reducible refine w_U ?_ | with_reducible refine w_B ?_ | with_reducible refine w_N ?_ | with_reducible refine w_A ?_ | with_reducible refine w_A0 ?_ | with_reducible refine w_cst ?_
  | ((with_reducible show wp (xLoc _ _) _ _); refine w_loc rfl ?_)
  | with_reducible refine w_and ?_ | with_reducible refine w_and1 ?_ | with_reducible refine w_or ?_ | with_reducible refine w_or1 ?_ | with_reducible refine w_not ?_ | with_reducible refine w_chn ?_ | with_reducible refine w_if ?_
  | with_reducible refine w_sl ?_ | with_reducible refine w_on ?_ | with_reducible refine w_os ?_ | with_reducible refine w_prp ?_ | with_reducible refine w_met ?_ | with_reducible refine w_cmpT ?_ | with_reducible refine w_chnT ?_
  | with_reducible refine w_andT ?_ | with_reducible refine w_andT1 ?_ | with_reducible refine w_orT ?_ | with_reducible refine w_orT1 ?_ | with_reducible refine w_notT ?_
  | with_reducible refine w_nam ?_ | ((with_reducible refine w_gt ?wl ?_); (case wl => exact rfl)) | with_reducible refine w_gs ?_ | with_reducible refine w_gs0 ?_ | with_reducible refine w_sub ?_
  | with_reducible refine w_bt ?_ | with_reducible refine w_bf ?_ | with_reducible refine w_tru ?_ | with_reducible refine w_asB ?_ | with_reducible refine w_ret ?_
  | with_reducible refine p_le ?_ | with_reducible refine p_lt ?_ | with_reducible refine p_gt ?_ | with_reducible refine p_ge ?_ | with_reducible refine p_eqI ?_ | with_reducible refine p_neI ?_ | with_reducible refine p_eqS ?_ | with_reducible refine p_neS ?_
  | with_reducible refine p_is ?_ | with_reducible refine p_isnt ?_ | with_reducible refine p_add ?_ | with_reducible refine p_asI ?_ | with_reducible refine p_lenT ?_ | with_reducible refine p_lenS ?_)
/-- a primitive that reckons -/
local macro_rules | `(tactic| walk_at "r") => `(tactic| refine w_run rfl ?_)
/-! ### sequences -/
def SeqAt (h : VH) (d : D) (xs : List D) : Prop := d = .tup xs ∨ ∃ a, d = .ref a ∧ h.get a = some (.lst xs)
theorem SeqAt.fr {S : List Nat} {h h' : VH} {d : D} {xs : List D} (f : Fr S h h') (hs : ∀ a, d = .ref a → a ∉ S) (s : SeqAt h d xs) : SeqAt h' d xs := by
  rcases s with rfl | ⟨a, rfl, e⟩
  · exact .inl rfl
  · exact .inr ⟨a, rfl, f.get e (hs a rfl)⟩
theorem SeqAt.fr0 {h h' : VH} {d : D} {xs : List D} (f : Fr [] h h') (s : SeqAt h d xs) : SeqAt h' d xs := s.fr f fun _ _ z => by cases z
theorem w_seqI {h : VH} {d : D} {xs : List D} {Q : Stp → VH → Prop} (s : SeqAt h d xs) (q : ∀ st : Stp, st.lk = none → (∀ i h', SeqAt h' d xs → st.go i h' = some (nth i xs)) → Q st h) : wp (seqIK d) h Q := by
  rcases s with rfl | ⟨a, rfl, e⟩
  · exact w_run (a := stpLK xs) (h' := h) rfl (q _ rfl fun _ _ _ => rfl)
  · refine w_run (a := stpAK a) (h' := h) ?_ (q _ rfl fun i h' s => ?_)
    · unfold seqIK; simp only [e]
    · rcases s with z | ⟨b, z, e2⟩
      · cases z
      · cases z
        unfold stpAK; simp only [e2]
section
variable {β : Type} {h : VH} {S : List Nat} {env : Env} {go : Nat → VH → Option (Option D)} {g : KG}
theorem w_lcfT {tt : KT} {te : KE} {Q : List D → VH → Prop} (xs : List β) (enc : β → D) (f : β → Option D) (hl : xs.length < 1000000) (hgo : ∀ i h', Fr S h h' → go i h' = some (nth i (xs.map enc)))
    (he : ∀ x, x ∈ xs → ∀ h1, Fr S h h1 → ∀ R : Option D → VH → Prop, (∀ h2, Fr S h1 h2 → R (f x) h2) → wp (g env (enc x)) h1 fun e2 h' => wp (tt e2) h' fun b h'' => bIf b (wp (te e2) h'' fun y h3 => R (some y) h3) (R none h''))
    (q : ∀ h2, Fr S h h2 → Q (xs.filterMap f).reverse h2) : wp (lcK go g tt te env turns 0 []) h Q := by
  refine w_lcK xs.length (fun i acc h' => acc = ((xs.take i).filterMap f).reverse ∧ Fr S h h') (fun i acc h1 hi hI => ?_) (fun acc h1 hI => ?_) turns 0 [] h (by show _ < 0 + 1000000; omega) (Nat.zero_le _) ⟨by simp, .refl⟩
  · obtain ⟨rfl, fr⟩ := hI
    have e : xs[i]? = some xs[i] := List.getElem?_eq_getElem hi
    refine ⟨enc xs[i], by rw [hgo i h1 fr, nth_eq, List.getElem?_map, e]; rfl, ?_⟩
    have ht : (xs.take (i + 1)).filterMap f = (xs.take i).filterMap f ++ (match f xs[i] with | some y => [y] | none => []) := by
      rw [List.take_succ, e, List.filterMap_append]
      cases ef : f xs[i] <;> simp [ef]
    refine wp_mono (he xs[i] (List.getElem_mem hi) h1 fr (fun o h2 => o = f xs[i] ∧ Fr S h h2) fun h2 fr2 => ⟨rfl, fr.trans fr2⟩) fun e2 h' z => wp_mono z fun b h'' z => ?_
    cases b with
    | true =>
      refine wp_mono z fun y h3 ⟨z1, z2⟩ => ⟨?_, z2⟩
      rw [ht, ← z1]; simp
    | false =>
      obtain ⟨z1, z2⟩ := z
      refine ⟨?_, z2⟩
      rw [ht, ← z1]; simp
  · obtain ⟨rfl, fr⟩ := hI
    rw [List.take_length]
    exact ⟨by rw [hgo _ h1 fr, nth_eq, List.getElem?_eq_none (by simp)], q h1 fr⟩
theorem w_lcmT {te : KE} {Q : List D → VH → Prop} (xs : List β) (enc : β → D) (f : β → D) (hl : xs.length < 1000000) (hgo : ∀ i h', Fr S h h' → go i h' = some (nth i (xs.map enc)))
    (he : ∀ x, x ∈ xs → ∀ h1, Fr S h h1 → ∀ R : D → VH → Prop, (∀ h2, Fr S h1 h2 → R (f x) h2) → wp (g env (enc x)) h1 fun e2 h' => wp (te e2) h' R)
    (q : ∀ h2, Fr S h h2 → Q (xs.map f).reverse h2) : wp (lcK go g (xTt none) te env turns 0 []) h Q := by
  refine w_lcfT xs enc (fun x => some (f x)) hl hgo (fun x hx h1 fr R hR => ?_) fun h2 fr => ?_
  · refine wp_mono (he x hx h1 fr (fun y h3 => R (some y) h3) hR) fun e2 h' z => ?_
    exact z
  · rw [show xs.filterMap (fun x => some (f x)) = xs.map f by induction xs with | nil => rfl | cons a r ih => simp]
    exact q h2 fr
end
/-! ### counts -/
theorem eqK_str {s t : List Nat} : eqK (.str s) (.str t) = true ↔ s = t := eqS_iff s t
theorem cnt_put {kvs : List (D × D)} {s t : List Nat} {v : Int} : cnt (putD kvs (.str s) (.int v)) t = if t = s then v else cnt kvs t := by
  induction kvs with
  | nil =>
    unfold putD cnt lookD
    by_cases e : t = s
    · subst e; rw [if_pos (eqK_str.mpr rfl), if_pos rfl]
    · rw [if_neg (fun z => e (eqK_str.mp z).symm), if_neg e]; rfl
  | cons q r ih =>
    unfold putD
    by_cases e : eqK q.1 (.str s) = true
    · rw [if_pos e]
      have hq : q.1 = .str s := by
        cases hq : q.1 with
        | str u => rw [hq] at e; rw [eqK_str.mp e]
        | _ => rw [hq] at e; cases e
      unfold cnt lookD
      rw [hq]
      by_cases e2 : t = s
      · subst e2; rw [if_pos (eqK_str.mpr rfl), if_pos rfl]
      · rw [if_neg (fun z => e2 (eqK_str.mp z).symm), if_neg e2, if_neg (fun z => e2 (eqK_str.mp z).symm)]
    · rw [if_neg e]
      unfold cnt lookD
      by_cases e2 : eqK q.1 (.str t) = true
      · rw [if_pos e2, if_pos e2]
        have : t ≠ s := by rintro rfl; exact e e2
        rw [if_neg this]
      · rw [if_neg e2, if_neg e2]
        exact ih
theorem int_put {kvs : List (D × D)} {k : D} {v : Int} (iv : IntVals kvs) : IntVals (putD kvs k (.int v)) := by
  induction kvs with
  | nil => intro q hq; cases hq with | head => exact ⟨v, rfl⟩ | tail _ z => cases z
  | cons p r ih =>
    unfold putD
    by_cases e : eqK p.1 k = true
    · rw [if_pos e]
      intro q hq
      cases hq with
      | head => exact ⟨v, rfl⟩
      | tail _ z => exact iv q (List.mem_cons_of_mem _ z)
    · rw [if_neg e]
      intro q hq
      cases hq with
      | head => exact iv p List.mem_cons_self
      | tail _ z => exact ih (fun x hx => iv x (List.mem_cons_of_mem _ hx)) q z
theorem len_put {kvs : List (D × D)} {k v : D} : (putD kvs k v).length ≤ kvs.length + 1 := by
  induction kvs with
  | nil => simp [putD]
  | cons p r ih =>
    unfold putD
    split
    · simp
    · simp; omega
theorem p_setD {h : VH} {a : Nat} {kvs : List (D × D)} {s : List Nat} {d : D} {Q : Unit → VH → Prop} (e : h.get a = some (.dic kvs)) (hl : kvs.length < 16777216) (q : Q () (h.set a (.dic (putD kvs (.str s) d)))) : wp (setM (.ref a) (.str s) d) h Q := by
  refine w_run (a := ()) (h' := h.set a (.dic (putD kvs (.str s) d))) ?_ q
  unfold setM; simp only [e, isKey, hl]; simp
def CountsSp (f : List D → M D) : Prop := ∀ (h : VH) (st : D) (xs : List (List Nat)) (Q : D → VH → Prop), SeqAt h st (xs.map .str) → xs.length < 1000000 →
  (∀ h' a kvs, Fr [] h h' → h'.get a = some (.dic kvs) → IntVals kvs → (∀ s, cnt kvs s = (xs.count s : Int)) → Q (.ref a) h') → wp (f [st]) h Q
theorem counts_sp {I : Nat → Nat} {ct : CT} : CountsSp (runK 1 3 (kf_counts_of I ct)) := by
  intro h st xs Q hs hl q
  refine w_call rfl ?_
  unfold kf_counts_of
  repeat walk_at "w"
  refine w_run (m := newDic) (a := .ref h.n) (h' := h.new (.dic [])) rfl ?_
  repeat walk_at "w"
  refine w_for ?_
  repeat walk_at "w"
  have f0 : Fr [] h (h.new (.dic [])) := .new
  refine w_seqI (hs.fr0 f0) fun stp hlk hgo => ⟨hlk, ?_⟩
  refine w_loopK (xs.map D.str).length (fun i env h' => (∃ x, env = [some st, some (.ref h.n), x]) ∧ Fr [h.n] (h.new (.dic [])) h' ∧ ∃ kvs, h'.get h.n = some (.dic kvs) ∧ IntVals kvs ∧ kvs.length ≤ i ∧ ∀ s, cnt kvs s = ((xs.take i).count s : Int)) (fun i env h1 hi hI => ?_) (fun env h1 hI => ?_) turns 0 _ _ (by show _ < 0 + 1000000; simpa using hl) (Nat.zero_le _) ⟨⟨none, rfl⟩, .refl, [], new_get, (fun q z => by cases z), Nat.le_refl _, fun s => rfl⟩
  · obtain ⟨⟨x, rfl⟩, fr, kvs, e1, iv, l1, c1⟩ := hI
    have hi2 : i < xs.length := by simpa using hi
    have hst : ∀ b, st = .ref b → b ∉ [h.n] := fun b eb z => by
      rcases hs with z2 | ⟨a, z2, e⟩
      · rw [eb] at z2; cases z2
      · rw [eb] at z2; cases z2
        have := VH.get_lt e
        simp at z; omega
    refine ⟨.str xs[i], ?_, ?_⟩
    · rw [hgo i h1 ((hs.fr0 f0).fr fr hst), nth_eq, List.getElem?_map, List.getElem?_eq_getElem hi2]; rfl
    · repeat walk_at "w"
      refine w_mth ?_
      repeat walk_at "w"
      refine .inl ⟨mt_dic e1, ?_⟩
      repeat walk_at "w"
      refine p_get e1 ?_
      rw [look_int iv]
      repeat walk_at "w"
      refine p_setD e1 (by omega) ?_
      refine w_nx ?_
      repeat walk_at "w"
      refine ⟨⟨_, rfl⟩, fr.trans (Fr.set (VH.get_lt e1) List.mem_cons_self), _, set_get (VH.get_lt e1), int_put iv, Nat.le_trans len_put (by omega), fun s => ?_⟩
      rw [cnt_put, c1, List.take_succ, List.getElem?_eq_getElem hi2]
      simp only [Option.toList_some, List.count_append, List.count_cons, List.count_nil, Nat.zero_add]
      by_cases e : s = xs[i]
      · subst e
        rw [if_pos rfl]
        simp
      · rw [if_neg e]
        have : (xs[i] == s) = false := by rw [beq_eq_false_iff_ne]; exact fun z => e z.symm
        rw [this, c1]; simp
  · obtain ⟨⟨x, rfl⟩, fr, kvs, e1, iv, l1, c1⟩ := hI
    have hst : ∀ b, st = .ref b → b ∉ [h.n] := fun b eb z => by
      rcases hs with z2 | ⟨a, z2, e⟩
      · rw [eb] at z2; cases z2
      · rw [eb] at z2; cases z2
        have := VH.get_lt e
        simp at z; omega
    refine ⟨by rw [hgo _ h1 ((hs.fr0 f0).fr fr hst), nth_eq, List.getElem?_eq_none (Nat.le_refl _)], ?_⟩
    repeat walk_at "w"
    refine q h1 h.n kvs (((f0.mono fun _ z => by cases z).trans fr).cut (Nat.le_refl _)) e1 iv fun s => ?_
    rw [c1, List.length_map, List.take_length]
/-! ### kinds -/
structure Cl where
  st : List Nat
  cs : List Cd
def Cl.d (c : Cl) : D := .tup [.str c.st, .tup (c.cs.map Cd.d)]
structure KD where
  hand : List (List Nat)
  parts : List (List Nat)
  cls : List Cl
  last : List Nat
structure KD.Ok (k : KD) : Prop where
  l : k.cls.length < 1000000
  c : ∀ c, c ∈ k.cls → c.cs.length < 1000000 ∧ ∀ d, d ∈ c.cs → d.ss.length < 1000000
def KD.fs (k : KD) : List (Nat × D) := [(0, .tup (k.hand.map .str)), (1, .tup (k.parts.map .str)), (2, .tup (k.cls.map Cl.d)), (3, .str k.last)]
def KAt (kc : Nat) (h : VH) (a : Nat) (k : KD) : Prop := h.get a = some (.ins kc k.fs)
def Cl.fits (f : List Nat → Int) (c : Cl) : Bool := c.cs.all fun d => d.holds f
def idxM (f : List Nat → Int) : List Cl → Nat
  | [] => 0
  | c :: r => if c.fits f then 0 else idxM f r + 1
theorem idx_at {f : List Nat → Int} : ∀ {cs : List Cl} {i : Nat} (hi : i < cs.length), (∀ j (hj : j < cs.length), j < i → cs[j].fits f = false) → cs[i].fits f = true → idxM f cs = i
  | [], i, hi, _, _ => absurd hi (Nat.not_lt_zero _)
  | c :: r, 0, hi, _, e => by unfold idxM; rw [if_pos (show c.fits f = true from e)]
  | c :: r, i + 1, hi, hj, e => by
    unfold idxM
    have e0 : c.fits f = false := hj 0 (by simp) (by omega)
    rw [if_neg (by rw [e0]; decide), idx_at (by simpa using hi) (fun j hj2 hji => hj (j + 1) (by simpa using hj2) (by omega)) e]
theorem idx_end {f : List Nat → Int} : ∀ {cs : List Cl}, (∀ j (hj : j < cs.length), cs[j].fits f = false) → idxM f cs = cs.length
  | [], _ => rfl
  | c :: r, hj => by
    unfold idxM
    have e0 : c.fits f = false := hj 0 (by simp)
    rw [if_neg (by rw [e0]; decide), idx_end (fun j hj2 => hj (j + 1) (by simpa using hj2))]
    rfl
theorem w_enT {h : VH} {xs : List D} {Q : Stp → VH → Prop} (q : ∀ st : Stp, st.lk = none → (∀ i h' (hi : i < xs.length), st.go i h' = some (some (.tup [.int i, xs[i]]))) → (∀ h', st.go xs.length h' = some none) → Q st h) : wp (enumK (.tup xs)) h Q := by
  refine w_run (a := stpEK (.tup xs)) (h' := h) rfl (q _ rfl (fun i h' hi => ?_) fun h' => ?_)
  · show @Option.rec D (fun _ => Option (Option D)) _ (fun x => some (some (.tup [.int (.ofNat i), x]))) (nth i xs) = _
    rw [nth_eq, List.getElem?_eq_getElem hi]
    rfl
  · show @Option.rec D (fun _ => Option (Option D)) (bIf (Nat.beq xs.length xs.length) (some none) none) _ (nth xs.length xs) = _
    rw [nth_eq, List.getElem?_eq_none (Nat.le_refl _), Nat.beq_refl]
    rfl
def IndexSp (kc : Nat) (f : List D → M D) : Prop := ∀ (h : VH) (k a : Nat) (kd : KD) (kvs : List (D × D)) (Q : D → VH → Prop), KAt kc h k kd → kd.Ok → h.get a = some (.dic kvs) → IntVals kvs → (∀ h', Fr [] h h' → Q (.int (idxM (cnt kvs) kd.cls)) h') → wp (f [.ref k, .ref a]) h Q
theorem index_sp {I : Nat → Nat} {ct : CT} {kc : Nat} (hH : HoldsSp (ct (I 8))) : IndexSp kc (runK 2 6 (kf_Kind_index_by I ct)) := by
  intro h k a kd kvs Q hk ok ha iv q
  refine w_call rfl ?_
  unfold kf_Kind_index_by
  repeat walk_at "w"
  refine w_for ?_
  repeat walk_at "w"
  refine p_fld hk rfl ?_
  refine w_enT fun st hlk hgo hen => ⟨hlk, ?_⟩
  refine w_loopK (kd.cls.map Cl.d).length (fun i env h' => (∃ x y z u, env = [some (.ref k), some (.ref a), x, y, z, u]) ∧ Fr [] h h' ∧ ∀ j (hj : j < kd.cls.length), j < i → kd.cls[j].fits (cnt kvs) = false) (fun i env h1 hi hI => ?_) (fun env h1 hI => ?_) turns 0 _ _ (by have := ok.l; show _ < 0 + 1000000; simpa using this) (Nat.zero_le _) ⟨⟨_, _, _, _, rfl⟩, .refl, fun j hj z => absurd z (Nat.not_lt_zero _)⟩
  · obtain ⟨⟨x, y, z, u, rfl⟩, fr, hj⟩ := hI
    have hi2 : i < kd.cls.length := by simpa using hi
    obtain ⟨b1, b2⟩ := ok.c kd.cls[i] (List.getElem_mem hi2)
    refine ⟨_, hgo i h1 hi, ?_⟩
    rw [show (kd.cls.map Cl.d)[i] = .tup [.str kd.cls[i].st, .tup (kd.cls[i].cs.map Cd.d)] by rw [List.getElem_map]; rfl]
    repeat walk_at "w"
    refine w_lc ?_
    repeat walk_at "w"
    walk_at "r"
    refine ⟨rfl, w_lcmT (S := []) kd.cls[i].cs Cd.d (fun c => .bl (c.holds (cnt kvs))) b1 (fun _ _ _ => rfl) (fun c hc h2 fr2 R hR => ?_) (fun h2 fr2 => ?_)⟩
    · repeat walk_at "w"
      exact hH h2 a kvs c _ ((fr.trans fr2).get ha (by simp)) iv (b2 c hc) hR
    · refine p_all (bs := kd.cls[i].cs.map fun c => c.holds (cnt kvs)) (by rw [new_get, List.reverse_reverse, List.map_map]; rfl) ?_
      have hf : (kd.cls[i].cs.map fun c => c.holds (cnt kvs)).all id = kd.cls[i].fits (cnt kvs) := by
        unfold Cl.fits; rw [List.all_map]; rfl
      rw [hf]
      repeat walk_at "w"
      refine w_bif (fun e1 => ?_) (fun e1 => ?_)
      · repeat walk_at "w"
        rw [idx_at hi2 hj e1] at q
        exact q _ ((fr.trans fr2).trans .new)
      · repeat walk_at "w"
        refine ⟨⟨_, _, _, _, rfl⟩, (fr.trans fr2).trans .new, fun j hj2 hji => ?_⟩
        by_cases e : j = i
        · subst e; exact e1
        · exact hj j hj2 (by omega)
  · obtain ⟨⟨x, y, z, u, rfl⟩, fr, hj⟩ := hI
    refine ⟨hen h1, ?_⟩
    repeat walk_at "w"
    refine p_fld (fr.get hk (by simp)) rfl ?_
    repeat walk_at "w"
    have z := q h1 fr
    rw [idx_end fun j hj2 => hj j hj2 (by simpa using hj2)] at z
    rw [List.length_map]
    exact z
theorem p_ixT {h : VH} {xs : List D} {k : Nat} {d : D} {Q : D → VH → Prop} (e : xs[k]? = some d) (q : Q d h) : wp (ixM (.tup xs) (.int k)) h Q := by
  refine w_run (a := d) (h' := h) ?_ q
  show (match ixD xs (Int.ofNat k) with | some d => P.ret (R.ok d h) | none => .ret .bad) = _
  unfold ixD
  simp only [e]
theorem p_ixL {h : VH} {a : Nat} {xs : List D} {k : Nat} {d : D} {Q : D → VH → Prop} (ha : h.get a = some (.lst xs)) (e : xs[k]? = some d) (q : Q d h) : wp (ixM (.ref a) (.int k)) h Q := by
  refine w_run (a := d) (h' := h) ?_ q
  unfold ixM
  simp only [ha]
  show (match ixD xs (Int.ofNat k) with | some d => P.ret (R.ok d h) | none => .ret .bad) = _
  unfold ixD
  simp only [e]
theorem eqI_nat (a b : Nat) : eqI (a : Int) (b : Int) = decide (a = b) := by
  show Nat.beq a b = _
  by_cases e : a = b
  · subst e; rw [Nat.beq_refl]; simp
  · rw [show Nat.beq a b = false by cases q : Nat.beq a b with | false => rfl | true => exact absurd (Nat.eq_of_beq_eq_true q) e]; simp [e]
theorem idx_le {f : List Nat → Int} : ∀ cs : List Cl, idxM f cs ≤ cs.length
  | [] => Nat.le_refl _
  | c :: r => by
    unfold idxM
    have := idx_le (f := f) r
    split <;> simp <;> omega
def toldM (f : List Nat → Int) (kd : KD) : List Nat := match kd.cls[idxM f kd.cls]? with
  | some c => c.st
  | none => kd.last
def TellSp (kc : Nat) (f : List D → M D) : Prop := ∀ (h : VH) (k a : Nat) (kd : KD) (kvs : List (D × D)) (Q : D → VH → Prop), KAt kc h k kd → kd.Ok → h.get a = some (.dic kvs) → IntVals kvs → (∀ h', Fr [] h h' → Q (.str (toldM (cnt kvs) kd)) h') → wp (f [.ref k, .ref a]) h Q
theorem told_by_sp {I : Nat → Nat} {ct : CT} (hI : IndexSp (I 1000) (ct (I 16))) : TellSp (I 1000) (runK 2 3 (kf_Kind_told_by I ct)) := by
  intro h k a kd kvs Q hk ok ha iv q
  refine w_call rfl ?_
  unfold kf_Kind_told_by
  repeat walk_at "w"
  refine p_ins hk ?_
  repeat walk_at "w"
  refine hI h k a kd kvs _ hk ok ha iv fun h1 fr => ?_
  have hk1 : KAt (I 1000) h1 k kd := fr.get hk (by simp)
  repeat walk_at "w"
  refine p_fld hk1 rfl ?_
  repeat walk_at "w"
  rw [eqI_nat, List.length_map]
  have z := q h1 fr
  unfold toldM at z
  refine w_bif (fun e1 => ?_) (fun e1 => ?_)
  · have e2 := of_decide_eq_true e1
    rw [e2, List.getElem?_eq_none (Nat.le_refl _)] at z
    refine p_fld hk1 rfl ?_
    repeat walk_at "w"
    exact z
  · have e2 : idxM (cnt kvs) kd.cls < kd.cls.length := by
      have a1 := of_decide_eq_false e1
      have a2 := idx_le (f := cnt kvs) kd.cls
      omega
    rw [List.getElem?_eq_getElem e2] at z
    repeat walk_at "w"
    refine p_fld hk1 rfl ?_
    repeat walk_at "w"
    refine p_ixT (d := (kd.cls[idxM (cnt kvs) kd.cls]).d) (by rw [List.getElem?_map, List.getElem?_eq_getElem e2]; rfl) ?_
    repeat walk_at "w"
    refine p_ixT (k := 0) rfl ?_
    repeat walk_at "w"
    exact z
/-- how often each state stands in a list -/
def occ (xs : List (List Nat)) (s : List Nat) : Int := xs.count s
def ToldSp (kc : Nat) (f : List D → M D) : Prop := ∀ (h : VH) (k : Nat) (st : D) (kd : KD) (xs : List (List Nat)) (Q : D → VH → Prop), KAt kc h k kd → kd.Ok → SeqAt h st (xs.map .str) → xs.length < 1000000 → (∀ h', Fr [] h h' → Q (.str (toldM (occ xs) kd)) h') → wp (f [.ref k, st]) h Q
def CountingSp (kc : Nat) (f : List D → M D) : Prop := ∀ (h : VH) (k : Nat) (st : D) (kd : KD) (xs : List (List Nat)) (Q : D → VH → Prop), KAt kc h k kd → kd.Ok → SeqAt h st (xs.map .str) → xs.length < 1000000 → (∀ h', Fr [] h h' → Q (.int (idxM (occ xs) kd.cls)) h') → wp (f [.ref k, st]) h Q
theorem told_sp {I : Nat → Nat} {ct : CT} (hC : CountsSp (ct (I 9))) (hT : TellSp (I 1000) (ct (I 17))) : ToldSp (I 1000) (runK 2 2 (kf_Kind_told I ct)) := by
  intro h k st kd xs Q hk ok hs hl q
  refine w_call rfl ?_
  unfold kf_Kind_told
  repeat walk_at "w"
  refine p_ins hk ?_
  repeat walk_at "w"
  refine hC h st xs _ hs hl fun h1 a kvs fr ha iv c => ?_
  repeat walk_at "w"
  refine hT h1 k a kd kvs _ (fr.get hk (by simp)) ok ha iv fun h2 fr2 => ?_
  have e : cnt kvs = occ xs := funext c
  rw [e]
  repeat walk_at "w"
  exact q h2 (fr.trans fr2)
theorem counting_sp {I : Nat → Nat} {ct : CT} (hC : CountsSp (ct (I 9))) (hT : IndexSp (I 1000) (ct (I 16))) : CountingSp (I 1000) (runK 2 2 (kf_Kind_counting I ct)) := by
  intro h k st kd xs Q hk ok hs hl q
  refine w_call rfl ?_
  unfold kf_Kind_counting
  repeat walk_at "w"
  refine p_ins hk ?_
  repeat walk_at "w"
  refine hC h st xs _ hs hl fun h1 a kvs fr ha iv c => ?_
  repeat walk_at "w"
  refine hT h1 k a kd kvs _ (fr.get hk (by simp)) ok ha iv fun h2 fr2 => ?_
  have e : cnt kvs = occ xs := funext c
  rw [e]
  repeat walk_at "w"
  exact q h2 (fr.trans fr2)
end
end PV
set_option Elab.async false
set_option linter.all false
set_option maxRecDepth 100000
set_option maxHeartbeats 1000000
set_option autoImplicit false
namespace PV
noncomputable section
open PySem
/-- one step -/
local macro_rules | `(tactic| walk_at "w") => `(tactic| first
  | with_reducible refine w_s ?_ | with_reducible refine w_s0 ?_ | with_reducible refine w_nx ?_ | with_reducible refine w_rtn ?_ | with_reducible refine w_endR ?_ | with_reducible refine w_endN ?_
  | with_reducible refine w_asg ?_ | with_reducible refine w_rt ?_ | with_reducible refine w_expr ?_ | with_reducible refine w_setE ?_ | with_reducible refine w_setF ?_ | with_reducible refine w_par ?_
  | with_reducible refine w_U ?_ | with_reducible refine w_B ?_ | with_reducible refine w_N ?_ | with_reducible refine w_A ?_ | with_reducible refine w_A0 ?_ | with_reducible refine w_cst ?_
  | ((with_reducible show wp (xLoc _ _) _ _); refine w_loc rfl ?_)
  | with_reducible refine w_and ?_ | with_reducible refine w_and1 ?_ | with_reducible refine w_or ?_ | with_reducible refine w_or1 ?_ | with_reducible refine w_not ?_ | with_reducible refine w_chn ?_ | with_reducible refine w_if ?_
  | with_reducible refine w_sl ?_ | with_reducible refine w_on ?_ | with_reducible refine w_os ?_ | with_reducible refine w_prp ?_ | with_reducible refine w_met ?_ | with_reducible refine w_cmpT ?_ | with_reducible refine w_chnT ?_
  | with_reducible refine w_andT ?_ | with_reducible refine w_andT1 ?_ | with_reducible refine w_orT ?_ | with_reducible refine w_orT1 ?_ | with_reducible refine w_notT ?_
  | with_reducible refine w_nam ?_ | ((with_reducible refine w_gt ?wl ?_); (case wl => exact rfl)) | with_reducible refine w_gs ?_ | with_reducible refine w_gs0 ?_ | with_reducible refine w_sub ?_
  | with_reducible refine w_bt ?_ | with_reducible refine w_bf ?_ | with_reducible refine w_tru ?_ | with_reducible refine w_asB ?_ | with_reducible refine w_ret ?_
  | with_reducible refine p_le ?_ | with_reducible refine p_lt ?_ | with_reducible refine p_gt ?_ | with_reducible refine p_ge ?_ | with_reducible refine p_eqI ?_ | with_reducible refine p_neI ?_ | with_reducible refine p_eqS ?_ | with_reducible refine p_neS ?_
  | with_reducible refine p_is ?_ | with_reducible refine p_isnt ?_ | with_reducible refine p_add ?_ | with_reducible refine p_asI ?_ | with_reducible refine p_lenT ?_ | with_reducible refine p_lenS ?_)
/-- a primitive that reckons -/
local macro_rules | `(tactic| walk_at "r") => `(tactic| refine w_run rfl ?_)
/-! ### names -/
structure Nm (s : List Nat) : Prop where
  lo : 1 ≤ s.length
  hi : s.length ≤ 8
  c : ∀ c, c ∈ s → 97 ≤ c ∧ c ≤ 122
def az : List Nat := [97, 98, 99, 100, 101, 102, 103, 104, 105, 106, 107, 108, 109, 110, 111, 112, 113, 114, 115, 116, 117, 118, 119, 120, 121, 122]
theorem az_any {c : Nat} (h : 97 ≤ c ∧ c ≤ 122) : az.any (Nat.beq c) = true := by
  rw [List.any_eq_true]
  refine ⟨c, ?_, Nat.beq_refl c⟩
  have : c = 97 ∨ c = 98 ∨ c = 99 ∨ c = 100 ∨ c = 101 ∨ c = 102 ∨ c = 103 ∨ c = 104 ∨ c = 105 ∨ c = 106 ∨ c = 107 ∨ c = 108 ∨ c = 109 ∨ c = 110 ∨ c = 111 ∨ c = 112 ∨ c = 113 ∨ c = 114 ∨ c = 115 ∨ c = 116 ∨ c = 117 ∨ c = 118 ∨ c = 119 ∨ c = 120 ∨ c = 121 ∨ c = 122 := by omega
  unfold az
  simp only [List.mem_cons, List.not_mem_nil, or_false]
  exact this
theorem leI_nat (a b : Nat) : leI (a : Int) (b : Int) = decide (a ≤ b) := by
  rw [← leI_eq]
  simp
theorem ltI_nat (a b : Nat) : ltI (a : Int) (b : Int) = decide (a < b) := by
  rw [← ltI_eq]
  simp
def NameSp (f : List D → M D) : Prop := ∀ (h : VH) (s : List Nat) (Q : D → VH → Prop), Nm s → (∀ h', Fr [] h h' → Q (.bl true) h') → wp (f [.str s]) h Q
theorem name_sp {I : Nat → Nat} {ct : CT} : NameSp (runK 1 2 (kf_is_name I ct)) := by
  intro h s Q n q
  refine w_call rfl ?_
  unfold kf_is_name
  repeat walk_at "w"
  walk_at "r"
  repeat walk_at "w"
  refine w_bt ?_
  repeat walk_at "w"
  rw [show leI (Int.ofNat 1) (s.length : Int) = true from by rw [show (Int.ofNat 1 : Int) = ((1 : Nat) : Int) from rfl, leI_nat]; exact decide_eq_true n.lo]
  repeat walk_at "w"
  rw [show leI (s.length : Int) (Int.ofNat 8) = true from by rw [show (Int.ofNat 8 : Int) = ((8 : Nat) : Int) from rfl, leI_nat]; exact decide_eq_true n.hi]
  repeat walk_at "w"
  refine w_lc ?_
  repeat walk_at "w"
  walk_at "r"
  refine ⟨rfl, w_lcmT (S := []) s (fun c => .str [c]) (fun c => .bl true) (by have := n.hi; omega) (fun _ _ _ => rfl) (fun c hc h2 fr2 R hR => ?_) (fun h2 fr2 => ?_)⟩
  · repeat walk_at "w"
    refine w_run (a := .bl true) (h' := h2) ?_ (hR _ .refl)
    show P.ret (PV.R.ok (bln false (az.any (Nat.beq c))) h2) = _
    rw [az_any (n.c c hc)]
    rfl
  · refine p_all (bs := s.map fun _ => true) (by rw [new_get, List.reverse_reverse, List.map_map]; rfl) ?_
    repeat walk_at "w"
    rw [show (s.map fun _ => true).all id = true by simp]
    exact q _ (fr2.trans .new)
theorem p_isi {h : VH} {d : D} {k : Nat} {ts : List Nat} {Q : D → VH → Prop} (e : tyC h d = some k) (q : Q (.bl (ts.any (subT k))) h) : wp (isiM ts d) h Q := by
  refine w_run (a := .bl (ts.any (subT k))) (h' := h) ?_ q
  unfold isiM; rw [e]
def ListSp (f : List D → M D) : Prop := ∀ (h : VH) (d : D) (xs : List D) (Q : D → VH → Prop), SeqAt h d xs → Q (.bl true) h → wp (f [d]) h Q
theorem list_sp {I : Nat → Nat} {ct : CT} : ListSp (runK 1 1 (kf_is_list I ct)) := by
  intro h d xs Q s q
  refine w_call rfl ?_
  unfold kf_is_list
  repeat walk_at "w"
  rcases s with rfl | ⟨a, rfl, e⟩
  · refine p_isi (k := 2) rfl ?_
    repeat walk_at "w"
    exact q
  · refine p_isi (k := 1) (by unfold tyC; simp only [e]) ?_
    repeat walk_at "w"
    exact q
theorem strs_map : ∀ ss : List (List Nat), strsOf (ss.map .str) = some ss
  | [] => rfl
  | s :: r => by rw [List.map_cons]; unfold strsOf; rw [strs_map r]
theorem inS_mem {x : List Nat} : ∀ {L : List (List Nat)}, inS x L = true → x ∈ L
  | [], h => by cases h
  | y :: r, h => by
    unfold inS at h
    by_cases e : eqS x y = true
    · rw [(eqS_iff _ _).mp e]; exact List.mem_cons_self
    · rw [if_neg e] at h
      exact List.mem_cons_of_mem _ (inS_mem h)
theorem met_len : ∀ (ss L : List (List Nat)), ss.Nodup → (∀ x, x ∈ ss → x ∉ L) → (metN L ss).length = L.length + ss.length
  | [], L, _, _ => rfl
  | x :: r, L, hn, hd => by
    unfold metN
    rw [if_neg (fun z => hd x List.mem_cons_self (inS_mem z))]
    rw [met_len r (x :: L) (List.nodup_cons.mp hn).2 (fun y hy z => by
      rcases List.mem_cons.mp z with rfl | z
      · exact (List.nodup_cons.mp hn).1 hy
      · exact hd y (List.mem_cons_of_mem _ hy) z)]
    simp; omega
theorem SeqAt.texts {h : VH} {d : D} {ss : List (List Nat)} (s : SeqAt h d (ss.map .str)) : textsOf h d = some ss := by
  rcases s with rfl | ⟨a, rfl, e⟩
  · exact strs_map ss
  · unfold textsOf; simp only [e]; exact strs_map ss
theorem p_lenSq {h : VH} {d : D} {xs : List D} {Q : D → VH → Prop} (s : SeqAt h d xs) (q : Q (.int xs.length) h) : wp (lenM d) h Q := by
  rcases s with rfl | ⟨a, rfl, e⟩
  · exact q
  · exact p_lenL e q
structure Nms (ss : List (List Nat)) : Prop where
  n : ∀ s, s ∈ ss → Nm s
  nd : ss.Nodup
  l : ss.length ≤ 60
def NamesSp (f : List D → M D) : Prop := ∀ (h : VH) (d : D) (ss : List (List Nat)) (Q : D → VH → Prop), SeqAt h d (ss.map .str) → Nms ss → (∀ h', Fr [] h h' → Q (.bl true) h') → wp (f [d]) h Q
theorem names_sp {I : Nat → Nat} {ct : CT} (hL : ListSp (ct (I 2))) (hN : NameSp (ct (I 1))) : NamesSp (runK 1 2 (kf_are_names I ct)) := by
  intro h d ss Q s n q
  refine w_call rfl ?_
  unfold kf_are_names
  repeat walk_at "w"
  refine hL h d _ _ s ?_
  repeat walk_at "w"
  refine w_lc ?_
  repeat walk_at "w"
  refine w_seqI s fun st hlk hgo => ⟨hlk, w_lcmT (S := []) ss .str (fun c => .bl true) (by have := n.l; omega) (fun i h' fr => hgo i h' (s.fr0 fr)) (fun c hc h2 fr2 R hR => ?_) (fun h2 fr2 => ?_)⟩
  · repeat walk_at "w"
    exact hN h2 c _ (n.n c hc) hR
  · refine p_all (bs := ss.map fun _ => true) (by rw [new_get, List.reverse_reverse, List.map_map]; rfl) ?_
    repeat walk_at "w"
    rw [show (ss.map fun _ => true).all id = true by simp]
    repeat walk_at "w"
    have s3 := s.fr0 (fr2.trans (Fr.new (o := .lst ((ss.map fun _ => D.bl true).reverse.reverse))))
    refine w_run (a := .int ss.length) (h' := h2.new (.lst ((ss.map fun _ => D.bl true).reverse.reverse))) ?_ ?_
    · unfold lenSM
      rw [s3.texts]
      simp only
      rw [if_pos (Nat.ble_eq_true_of_le (by have := n.l; omega)), met_len ss [] n.nd (by simp)]
      simp
    · repeat walk_at "w"
      refine p_lenSq s3 ?_
      repeat walk_at "w"
      rw [eqI_nat, List.length_map, decide_eq_true rfl]
      exact q _ (fr2.trans .new)
/-! ### numbers, conditions, clauses -/
def NumSp (f : List D → M D) : Prop := ∀ (h : VH) (i : Int) (Q : D → VH → Prop), 0 ≤ i → i ≤ 9 → Q (.bl true) h → wp (f [.int i]) h Q
theorem num_sp {I : Nat → Nat} {ct : CT} : NumSp (runK 1 1 (kf_is_number I ct)) := by
  intro h i Q h0 h9 q
  refine w_call rfl ?_
  unfold kf_is_number
  repeat walk_at "w"
  walk_at "r"
  repeat walk_at "w"
  refine w_bt ?_
  repeat walk_at "w"
  walk_at "r"
  repeat walk_at "w"
  refine w_bt ?_
  repeat walk_at "w"
  rw [show leI (Int.ofNat 0) i = true from by rw [← leI_eq]; exact decide_eq_true h0]
  repeat walk_at "w"
  rw [show leI i (Int.ofNat 9) = true from by rw [← leI_eq]; exact decide_eq_true h9]
  exact q
structure CdOk (c : Cd) : Prop where
  lo : 0 ≤ c.lo ∧ c.lo ≤ 9
  mo : ∀ k, c.mo = some k → 0 ≤ k ∧ k ≤ 9
  ss : Nms c.ss
  ne : 0 < c.ss.length
structure ClOk (c : Cl) : Prop where
  st : Nm c.st
  l : c.cs.length ≤ 4
  cs : ∀ d, d ∈ c.cs → CdOk d
inductive All2 {α β : Type} (r : α → β → Prop) : List α → List β → Prop
  | nil : All2 r [] []
  | cons {a : α} {b : β} {as : List α} {bs : List β} : r a b → All2 r as bs → All2 r (a :: as) (b :: bs)
theorem All2.len {α β : Type} {r : α → β → Prop} : ∀ {as : List α} {bs : List β}, All2 r as bs → as.length = bs.length
  | _, _, .nil => rfl
  | _, _, .cons _ t => by simp [t.len]
theorem All2.at {α β : Type} {r : α → β → Prop} : ∀ {as : List α} {bs : List β}, All2 r as bs → ∀ {i : Nat} (hi : i < as.length) (hj : i < bs.length), r as[i] bs[i]
  | _, _, .cons a t, 0, _, _ => a
  | _, _, .cons a t, i + 1, hi, hj => t.at (by simpa using hi) (by simpa using hj)
theorem All2.mono {α β : Type} {r s : α → β → Prop} (i : ∀ a b, r a b → s a b) : ∀ {as : List α} {bs : List β}, All2 r as bs → All2 s as bs
  | _, _, .nil => .nil
  | _, _, .cons a t => .cons (i _ _ a) (t.mono i)
def CdArg (h : VH) (d : D) (c : Cd) : Prop := ∃ st, d = .tup [.int c.lo, moD c.mo, st] ∧ SeqAt h st (c.ss.map .str)
def ClArg (h : VH) (d : D) (c : Cl) : Prop := ∃ t xs, d = .tup [.str c.st, t] ∧ SeqAt h t xs ∧ All2 (CdArg h) xs c.cs
def NoRef (S : List Nat) (h : VH) : Prop := ∀ a, a ∈ S → ∀ xs, h.get a ≠ some (.lst xs)
theorem SeqAt.frN {S : List Nat} {h h' : VH} {d : D} {xs : List D} (f : Fr S h h') (n : NoRef S h) (s : SeqAt h d xs) : SeqAt h' d xs := by
  rcases s with rfl | ⟨a, rfl, e⟩
  · exact .inl rfl
  · exact .inr ⟨a, rfl, f.get e fun z => n a z _ e⟩
theorem CdArg.fr {S : List Nat} {h h' : VH} (f : Fr S h h') (n : NoRef S h) {d : D} {c : Cd} (a : CdArg h d c) : CdArg h' d c := let ⟨st, e, s⟩ := a; ⟨st, e, s.frN f n⟩
theorem ClArg.fr {S : List Nat} {h h' : VH} (f : Fr S h h') (n : NoRef S h) {d : D} {c : Cl} (a : ClArg h d c) : ClArg h' d c := let ⟨t, xs, e, s, l⟩ := a; ⟨t, xs, e, s.frN f n, l.mono fun _ _ z => z.fr f n⟩
theorem noRef0 {h : VH} : NoRef [] h := fun _ z => by cases z
def CondSp (f : List D → M D) : Prop := ∀ (h : VH) (d : D) (c : Cd) (Q : D → VH → Prop), CdArg h d c → CdOk c → (∀ h', Fr [] h h' → Q (.bl true) h') → wp (f [d]) h Q
theorem isNon_mo {m : Option Int} : isNon (moD m) = m.isNone := by cases m <;> rfl
theorem p_ix3 {h : VH} {a b c : D} {Q : D → VH → Prop} : (Q a h → wp (ixM (.tup [a, b, c]) (.int (Int.ofNat 0))) h Q) ∧ (Q b h → wp (ixM (.tup [a, b, c]) (.int (Int.ofNat 1))) h Q) ∧ (Q c h → wp (ixM (.tup [a, b, c]) (.int (Int.ofNat 2))) h Q) := ⟨fun q => q, fun q => q, fun q => q⟩
theorem p_ix2 {h : VH} {a b : D} {Q : D → VH → Prop} : (Q a h → wp (ixM (.tup [a, b]) (.int (Int.ofNat 0))) h Q) ∧ (Q b h → wp (ixM (.tup [a, b]) (.int (Int.ofNat 1))) h Q) := ⟨fun q => q, fun q => q⟩
theorem cond_sp {I : Nat → Nat} {ct : CT} (hL : ListSp (ct (I 2))) (hM : NumSp (ct (I 4))) (hN : NamesSp (ct (I 3))) : CondSp (runK 1 1 (kf_is_condition I ct)) := by
  intro h d c Q ⟨st, e, s⟩ ok q
  subst e
  refine w_call rfl ?_
  unfold kf_is_condition
  repeat walk_at "w"
  refine hL h _ _ _ (.inl rfl) ?_
  repeat walk_at "w"
  refine w_bf ?_
  repeat walk_at "w"
  refine w_bf ?_
  repeat walk_at "w"
  refine p_ix3.1 ?_
  repeat walk_at "w"
  refine hM h _ _ ok.lo.1 ok.lo.2 ?_
  repeat walk_at "w"
  refine w_bf ?_
  repeat walk_at "w"
  refine p_ix3.2.1 ?_
  repeat walk_at "w"
  have rest : ∀ Q2 : D → VH → Prop, (∀ h', Fr [] h h' → Q2 (.bl true) h') → wp (xAnd [(xN (ct (I 3)) [(xB ixM (xLoc 0) (xCst (.int (Int.ofNat 2))))]), (xB gtK (xU lenM (xB ixM (xLoc 0) (xCst (.int (Int.ofNat 2))))) (xCst (.int (Int.ofNat 0))))] (stK 1 [.tup [.int c.lo, moD c.mo, st]])) h Q2 := by
    intro Q2 q2
    repeat walk_at "w"
    refine p_ix3.2.2 ?_
    repeat walk_at "w"
    refine hN h _ _ _ s ok.ss fun h1 fr => ?_
    repeat walk_at "w"
    refine p_ix3.2.2 ?_
    repeat walk_at "w"
    refine p_lenSq (s.fr0 fr) ?_
    repeat walk_at "w"
    rw [show ltI (Int.ofNat 0) ((c.ss.map D.str).length : Int) = true from by rw [show (Int.ofNat 0 : Int) = ((0 : Nat) : Int) from rfl, ltI_nat, List.length_map]; exact decide_eq_true ok.ne]
    exact q2 h1 fr
  cases em : c.mo with
  | none =>
    rw [em] at rest
    refine w_bt (w_tru (w_bt ?_))
    exact rest _ fun h' fr => q h' fr
  | some k =>
    rw [em] at rest
    refine w_bf ?_
    repeat walk_at "w"
    refine p_ix3.2.1 ?_
    repeat walk_at "w"
    refine hM h k _ (ok.mo k em).1 (ok.mo k em).2 ?_
    refine w_tru (w_bt ?_)
    exact rest _ fun h' fr => q h' fr
def ClauseSp (f : List D → M D) : Prop := ∀ (h : VH) (d : D) (c : Cl) (Q : D → VH → Prop), ClArg h d c → ClOk c → (∀ h', Fr [] h h' → Q (.bl true) h') → wp (f [d]) h Q
theorem clause_sp {I : Nat → Nat} {ct : CT} (hL : ListSp (ct (I 2))) (hN : NameSp (ct (I 1))) (hC : CondSp (ct (I 5))) : ClauseSp (runK 1 2 (kf_is_clause I ct)) := by
  intro h d c Q ⟨t, xs, e, s, l⟩ ok q
  subst e
  refine w_call rfl ?_
  unfold kf_is_clause
  repeat walk_at "w"
  refine hL h _ _ _ (.inl rfl) ?_
  repeat walk_at "w"
  refine w_bf ?_
  repeat walk_at "w"
  refine w_bf ?_
  repeat walk_at "w"
  refine p_ix2.1 ?_
  repeat walk_at "w"
  refine hN h _ _ ok.st fun h1 fr1 => ?_
  repeat walk_at "w"
  refine w_bf ?_
  repeat walk_at "w"
  refine p_ix2.2 ?_
  repeat walk_at "w"
  refine hL h1 _ _ _ (s.fr0 fr1) ?_
  repeat walk_at "w"
  refine p_ix2.2 ?_
  repeat walk_at "w"
  refine p_lenSq (s.fr0 fr1) ?_
  repeat walk_at "w"
  have hlen := l.len
  rw [show leI (xs.length : Int) (Int.ofNat 4) = true from by rw [show (Int.ofNat 4 : Int) = ((4 : Nat) : Int) from rfl, leI_nat, hlen]; exact decide_eq_true ok.l]
  repeat walk_at "w"
  refine w_lc ?_
  repeat walk_at "w"
  refine p_ix2.2 ?_
  refine w_seqI (s.fr0 fr1) fun st hlk hgo => ⟨hlk, ?_⟩
  refine w_lcmT (S := []) (List.range xs.length) (fun i => xs.getD i .non) (fun _ => .bl true) (by have := ok.l; rw [List.length_range]; omega) (fun i h' fr => ?_) (fun i hi h2 fr2 R hR => ?_) (fun h2 fr2 => ?_)
  · rw [hgo i h' ((s.fr0 fr1).fr0 fr)]
    congr 2
    refine List.ext_getElem (by simp) fun j h1 h2 => ?_
    simp only [List.getElem_map, List.getElem_range, List.getD_eq_getElem?_getD]
    rw [List.getElem?_eq_getElem h1]; rfl
  · have hi2 := List.mem_range.mp hi
    repeat walk_at "w"
    have hd : xs.getD i .non = xs[i] := by rw [List.getD_eq_getElem?_getD, List.getElem?_eq_getElem hi2]; rfl
    rw [hd]
    refine hC h2 _ (c.cs[i]'(by omega)) _ ((l.at hi2 (by omega)).fr (fr1.trans fr2) noRef0) (ok.cs _ (List.getElem_mem _)) hR
  · refine p_all (bs := (List.range xs.length).map fun _ => true) (by rw [new_get, List.reverse_reverse, List.map_map]; rfl) ?_
    repeat walk_at "w"
    rw [show ((List.range xs.length).map fun _ => true).all id = true by simp]
    exact q _ ((fr1.trans fr2).trans .new)
def ClausesSp (f : List D → M D) : Prop := ∀ (h : VH) (d : D) (xs : List D) (cs : List Cl) (Q : D → VH → Prop), SeqAt h d xs → All2 (ClArg h) xs cs → cs.length ≤ 6 → (∀ c, c ∈ cs → ClOk c) → (∀ h', Fr [] h h' → Q (.bl true) h') → wp (f [d]) h Q
/-- a comprehension over a sequence whose parts stand for others -/
theorem w_lcA {β : Type} {h : VH} {env : Env} {g : KG} {te : KE} {st : Stp} {d : D} {Q : List D → VH → Prop} {r : VH → D → β → Prop} {xs : List D} {bs : List β} (f : β → D) (s : SeqAt h d xs) (hgo : ∀ i h', SeqAt h' d xs → st.go i h' = some (nth i xs)) (l : All2 (r h) xs bs) (hl : bs.length < 1000000)
    (he : ∀ x b, b ∈ bs → r h x b → ∀ h1, Fr [] h h1 → ∀ R : D → VH → Prop, (∀ h2, Fr [] h1 h2 → R (f b) h2) → wp (g env x) h1 fun e2 h' => wp (te e2) h' R)
    (q : ∀ h2, Fr [] h h2 → Q (bs.map f).reverse h2) : wp (lcK st.go g (xTt none) te env turns 0 []) h Q := by
  have hlen := l.len
  refine w_lcK xs.length (fun i acc h' => acc = ((bs.take i).map f).reverse ∧ Fr [] h h') (fun i acc h1 hi hI => ?_) (fun acc h1 hI => ?_) turns 0 [] h (by show _ < 0 + 1000000; omega) (Nat.zero_le _) ⟨by simp, .refl⟩
  · obtain ⟨rfl, fr⟩ := hI
    have hb : i < bs.length := by omega
    refine ⟨xs[i], by rw [hgo i h1 (s.fr0 fr), nth_eq, List.getElem?_eq_getElem hi], ?_⟩
    refine wp_mono (he xs[i] bs[i] (List.getElem_mem hb) (l.at hi hb) h1 fr (fun y h3 => y = f bs[i] ∧ Fr [] h h3) fun h2 fr2 => ⟨rfl, fr.trans fr2⟩) fun e2 h' z => ?_
    have w : wp (te e2) h' fun y h3 => y :: ((bs.take i).map f).reverse = ((bs.take (i + 1)).map f).reverse ∧ Fr [] h h3 := wp_mono z fun y h3 z => ⟨by
      rw [z.1, List.take_succ, List.getElem?_eq_getElem hb]
      simp only [Option.toList_some, List.map_append, List.map_cons, List.map_nil, List.reverse_append, List.reverse_cons, List.reverse_nil, List.nil_append, List.singleton_append], z.2⟩
    exact w
  · obtain ⟨rfl, fr⟩ := hI
    refine ⟨by rw [hgo _ h1 (s.fr0 fr), nth_eq, List.getElem?_eq_none (Nat.le_refl _)], ?_⟩
    rw [hlen, List.take_length]
    exact q h1 fr
theorem clauses_sp {I : Nat → Nat} {ct : CT} (hL : ListSp (ct (I 2))) (hC : ClauseSp (ct (I 6))) : ClausesSp (runK 1 2 (kf_are_clauses I ct)) := by
  intro h d xs cs Q s l h6 ok q
  have hlen := l.len
  refine w_call rfl ?_
  unfold kf_are_clauses
  repeat walk_at "w"
  refine hL h d _ _ s ?_
  repeat walk_at "w"
  refine p_lenSq s ?_
  repeat walk_at "w"
  rw [show leI (xs.length : Int) (Int.ofNat 6) = true from by rw [show (Int.ofNat 6 : Int) = ((6 : Nat) : Int) from rfl, leI_nat, hlen]; exact decide_eq_true h6]
  repeat walk_at "w"
  refine w_lc ?_
  repeat walk_at "w"
  refine w_seqI s fun st hlk hgo => ⟨hlk, ?_⟩
  refine w_lcA (r := ClArg) (fun _ => .bl true) s hgo l (by omega) (fun x b hb ha h1 fr R hR => ?_) (fun h2 fr2 => ?_)
  · repeat walk_at "w"
    exact hC h1 x b _ (ha.fr fr noRef0) (ok b hb) hR
  · refine p_all (bs := cs.map fun _ => true) (by rw [new_get, List.reverse_reverse, List.map_map]; rfl) ?_
    repeat walk_at "w"
    rw [show (cs.map fun _ => true).all id = true by simp]
    exact q _ (fr2.trans .new)
end
end PV
set_option Elab.async false
set_option linter.all false
set_option maxRecDepth 100000
set_option maxHeartbeats 2000000
set_option autoImplicit false
namespace PV
noncomputable section
open PySem
/-- one step -/
local macro_rules | `(tactic| walk_at "w") => `(tactic| first
  | with_reducible refine w_s ?_ | with_reducible refine w_s0 ?_ | with_reducible refine w_nx ?_ | with_reducible refine w_rtn ?_ | with_reducible refine w_endR ?_ | with_reducible refine w_endN ?_
  | with_reducible refine w_asg ?_ | with_reducible refine w_rt ?_ | with_reducible refine w_expr ?_ | with_reducible refine w_setE ?_ | with_reducible refine w_setF ?_ | with_reducible refine w_par ?_
  | with_reducible refine w_U ?_ | with_reducible refine w_B ?_ | with_reducible refine w_N ?_ | with_reducible refine w_A ?_ | with_reducible refine w_A0 ?_ | with_reducible refine w_cst ?_
  | ((with_reducible show wp (xLoc _ _) _ _); refine w_loc rfl ?_)
  | with_reducible refine w_and ?_ | with_reducible refine w_and1 ?_ | with_reducible refine w_or ?_ | with_reducible refine w_or1 ?_ | with_reducible refine w_not ?_ | with_reducible refine w_chn ?_ | with_reducible refine w_if ?_
  | with_reducible refine w_sl ?_ | with_reducible refine w_on ?_ | with_reducible refine w_os ?_ | with_reducible refine w_prp ?_ | with_reducible refine w_met ?_ | with_reducible refine w_cmpT ?_ | with_reducible refine w_chnT ?_
  | with_reducible refine w_andT ?_ | with_reducible refine w_andT1 ?_ | with_reducible refine w_orT ?_ | with_reducible refine w_orT1 ?_ | with_reducible refine w_notT ?_
  | with_reducible refine w_nam ?_ | ((with_reducible refine w_gt ?wl ?_); (case wl => exact rfl)) | with_reducible refine w_gs ?_ | with_reducible refine w_gs0 ?_ | with_reducible refine w_sub ?_
  | with_reducible refine w_bt ?_ | with_reducible refine w_bf ?_ | with_reducible refine w_tru ?_ | with_reducible refine w_asB ?_ | with_reducible refine w_ret ?_
  | with_reducible refine p_le ?_ | with_reducible refine p_lt ?_ | with_reducible refine p_gt ?_ | with_reducible refine p_ge ?_ | with_reducible refine p_eqI ?_ | with_reducible refine p_neI ?_ | with_reducible refine p_eqS ?_ | with_reducible refine p_neS ?_
  | with_reducible refine p_is ?_ | with_reducible refine p_isnt ?_ | with_reducible refine p_add ?_ | with_reducible refine p_asI ?_ | with_reducible refine p_lenT ?_ | with_reducible refine p_lenS ?_)
/-- a primitive that reckons -/
local macro_rules | `(tactic| walk_at "r") => `(tactic| refine w_run rfl ?_)
/-! ### a kind is made -/
def Cd.srt (c : Cd) : Cd := ⟨c.lo, c.mo, sortB ltS c.ss⟩
def Cl.srt (c : Cl) : Cl := ⟨c.st, c.cs.map Cd.srt⟩
def mkKD (hand parts : List (List Nat)) (cls : List Cl) (last : List Nat) : KD := ⟨sortB ltS hand, sortB ltS parts, cls.map Cl.srt, last⟩
section
variable {h : VH} {a : Nat}
theorem p_sortL {ss : List (List Nat)} {Q : D → VH → Prop} (e : h.get a = some (.lst (ss.map .str))) (hl : ss.length ≤ 63) (q : Q (.ref h.n) (h.new (.lst ((sortB ltS ss).map .str)))) : wp (sortM (.ref a)) h Q := by
  refine w_run (a := .ref h.n) (h' := h.new (.lst ((sortB ltS ss).map .str))) ?_ q
  unfold sortM; simp only [e]
  unfold srtL; rw [strs_map]
  simp only
  rw [if_pos (Nat.ble_eq_true_of_le hl)]
theorem p_tupL {xs : List D} {Q : D → VH → Prop} (e : h.get a = some (.lst xs)) (q : Q (.tup xs) h) : wp (tupX (.ref a)) h Q := by
  refine w_run (a := .tup xs) (h' := h) ?_ q
  show tupleM (.ref a) h = _
  unfold tupleM; simp only [e]
theorem p_setF {c f : Nat} {d : D} {fs : List (Nat × D)} {Q : Unit → VH → Prop} (e : h.get a = some (.ins c fs)) (hl : fs.length < 1000) (q : Q () (h.set a (.ins c (putFd f d fs)))) : wp (setF f (.ref a) d) h Q := by
  refine w_run (a := ()) (h' := h.set a (.ins c (putFd f d fs))) ?_ q
  unfold setF; simp only [e]
  rw [if_pos hl]
theorem p_app {xs : List D} {d : D} {Q : D → VH → Prop} (e : h.get a = some (.lst xs)) (hl : xs.length < 16777216) (q : Q .non (h.set a (.lst (xs ++ [d])))) : wp (appM (.ref a) [d]) h Q := by
  refine w_run (a := .non) (h' := h.set a (.lst (xs ++ [d]))) ?_ q
  unfold appM; simp only [e]
  rw [if_pos hl]
theorem p_mkTup {xs : List D} {Q : D → VH → Prop} (hl : xs.length ≤ 16777216) (q : Q (.tup xs) h) : wp (mkTup xs) h Q := by
  refine w_run (a := .tup xs) (h' := h) ?_ q
  unfold mkTup; rw [if_pos hl]
theorem p_mkLst {xs : List D} {Q : D → VH → Prop} (hl : xs.length ≤ 16777216) (q : Q (.ref h.n) (h.new (.lst xs))) : wp (mkLst xs) h Q := by
  refine w_run (a := .ref h.n) (h' := h.new (.lst xs)) ?_ q
  unfold mkLst; rw [if_pos hl]
end
/-- tuple(sorted([str(x) for x in d])) -/
theorem w_srt {h : VH} {env : Env} {i j : Nat} {d : D} {ss : List (List Nat)} {Q : D → VH → Prop} (hi : nth i env = some (some d)) (hj : ∀ x, nth j (sth (some x) j (wipeK env [j])) = some (some x)) (s : SeqAt h d (ss.map .str)) (hl : ss.length ≤ 63)
    (q : ∀ h', Fr [] h h' → Q (.tup ((sortB ltS ss).map .str)) h') : wp (xU tupX (xU sortM (xLc (xU seqIK (xLoc i)) (xNam j) none (xU strM (xLoc j)) [j])) env) h Q := by
  refine w_U (w_U (w_lc (w_U (w_loc hi ?_))))
  refine w_seqI s fun st hlk hgo => ⟨hlk, ?_⟩
  refine w_lcmT (S := []) ss .str .str (by omega) (fun i h' fr => hgo i h' (s.fr0 fr)) (fun c hc h2 fr2 R hR => ?_) (fun h2 fr2 => ?_)
  · exact w_nam (w_U (w_loc (hj _) (hR h2 .refl)))
  · refine p_sortL (by rw [new_get, List.reverse_reverse]) hl ?_
    exact p_tupL new_get (q _ ((fr2.trans .new).trans .new))
def KindSp (kc : Nat) (f : List D → M D) : Prop := ∀ (h : VH) (a : Nat) (hd pd cd : D) (xs : List D) (hand parts : List (List Nat)) (cls : List Cl) (last : List Nat) (Q : D → VH → Prop), h.get a = some (.ins kc []) →
  SeqAt h hd (hand.map .str) → Nms hand → SeqAt h pd (parts.map .str) → Nms parts → 0 < hand.length + parts.length → SeqAt h cd xs → All2 (ClArg h) xs cls → cls.length ≤ 6 → (∀ c, c ∈ cls → ClOk c) → Nm last →
  (∀ h', Fr [a] h h' → KAt kc h' a (mkKD hand parts cls last) → Q .non h') → wp (f [.ref a, hd, pd, cd, .str last]) h Q
theorem kind_sp {I : Nat → Nat} {ct : CT} {kc : Nat} (hN : NameSp (ct (I 1))) (hNs : NamesSp (ct (I 3))) (hC : ClausesSp (ct (I 7))) : KindSp kc (runK 5 14 (kf_KindU_initU I ct)) := by
  intro h a hd pd cd xs hand parts cls last Q ha s1 n1 s2 n2 hp s3 l3 h6 ok nl q
  refine w_call rfl ?_
  unfold kf_KindU_initU
  repeat walk_at "w"
  refine hNs h hd hand _ s1 n1 fun h1 f1 => ?_
  repeat walk_at "w"
  refine w_bf ?_
  repeat walk_at "w"
  refine hNs h1 pd parts _ (s2.fr0 f1) n2 fun h2 f2 => ?_
  have f12 := f1.trans f2
  repeat walk_at "w"
  refine w_bf ?_
  repeat walk_at "w"
  refine p_lenSq (s1.fr0 f12) ?_
  repeat walk_at "w"
  refine p_lenSq (s2.fr0 f12) ?_
  repeat walk_at "w"
  rw [List.length_map, List.length_map, show ((hand.length : Int) + (parts.length : Int)) = ((hand.length + parts.length : Nat) : Int) by simp, show (Int.ofNat 0 : Int) = ((0 : Nat) : Int) from rfl, eqI_nat, decide_eq_false (by omega)]
  repeat walk_at "w"
  refine hC h2 cd xs cls _ (s3.fr0 f12) (l3.mono fun _ _ z => z.fr f12 noRef0) h6 ok fun h3 f3 => ?_
  have f123 := f12.trans f3
  repeat walk_at "w"
  refine w_bf ?_
  repeat walk_at "w"
  refine hN h3 last _ nl fun h4 f4 => ?_
  have f4' := f123.trans f4
  repeat walk_at "w"
  refine w_bf ?_
  repeat (first | refine w_s0 ?_ | refine w_nx ?_)
  refine w_s (w_setF ?_)
  refine w_srt (d := hd) rfl (fun _ => rfl) (s1.fr0 f4') (by have := n1.l; omega) fun h5 f5 => ?_
  have f5' := f4'.trans f5
  have a5 := f5'.get ha (by simp)
  refine w_loc rfl ?_
  refine p_setF a5 (by simp) ?_
  have no : NoRef [a] h := fun b hb ys e => by
    rcases List.mem_cons.mp hb with rfl | z
    · rw [ha] at e; cases e
    · cases z
  have g5 : Fr [a] h (h5.set a (.ins kc (putFd 0 (.tup ((sortB ltS hand).map .str)) []))) := (f5'.mono fun _ z => by cases z).trans (Fr.set (VH.get_lt a5) List.mem_cons_self)
  refine w_nx (w_s (w_setF ?_))
  refine w_srt (d := pd) rfl (fun _ => rfl) (s2.frN g5 no) (by have := n2.l; omega) fun h6 f6 => ?_
  have a6 := f6.get (set_get (VH.get_lt a5)) (by simp)
  refine w_loc rfl ?_
  refine p_setF a6 (by show 1 < 1000; decide) ?_
  have g6 : Fr [a] h (h6.set a (.ins kc (putFd 1 (.tup ((sortB ltS parts).map .str)) (putFd 0 (.tup ((sortB ltS hand).map .str)) [])))) := (g5.trans (f6.mono fun _ z => by cases z)).trans (Fr.set (VH.get_lt a6) List.mem_cons_self)
  generalize hh6 : h6.set a (.ins kc (putFd 1 (.tup ((sortB ltS parts).map .str)) (putFd 0 (.tup ((sortB ltS hand).map .str)) []))) = h6' at g6
  have a6' : h6'.get a = some (.ins kc [(0, .tup ((sortB ltS hand).map .str)), (1, .tup ((sortB ltS parts).map .str))]) := by rw [← hh6, set_get (VH.get_lt a6)]; rfl
  refine w_nx (w_s (w_asg (w_N (w_A0 (p_mkLst (by simp) (w_nam (w_nx ?_)))))))
  generalize hfl : h6'.n = fl
  have flt : a < fl := by rw [← hfl]; exact VH.get_lt a6'
  have e7 : (h6'.new (.lst [])).get fl = some (.lst []) := by rw [← hfl]; exact new_get
  have g7 : Fr [a] h (h6'.new (.lst [])) := g6.trans .new
  have a7 := (Fr.new (S := []) (o := .lst [])).get a6' (by simp)
  have hnl : h.n ≤ fl := by rw [← hfl]; exact g6.1
  generalize h6'.new (.lst []) = h7 at e7 g7 a7
  refine w_s (w_for (w_U (w_loc rfl ?_)))
  have s37 := s3.frN g7 no
  have hlen := l3.len
  refine w_seqI s37 fun st hlk hgo => ⟨hlk, ?_⟩
  have hcd : ∀ b, cd = .ref b → b ∉ [fl] := fun b eb z => by
    rcases s3 with z2 | ⟨c, z2, e⟩
    · rw [eb] at z2; cases z2
    · rw [eb] at z2; cases z2
      have := VH.get_lt e
      simp at z; omega
  refine w_loopK xs.length (fun i env h' => (∃ x6 x7 x8 x9 x10 x11 x12 x13, env = [some (.ref a), some hd, some pd, some cd, some (.str last), some (.ref fl), x6, x7, x8, x9, x10, x11, x12, x13]) ∧ Fr [fl] h7 h' ∧ h'.get fl = some (.lst ((cls.take i).map fun c => c.srt.d))) (fun i env h8 hi hI => ?_) (fun env h8 hI => ?_) turns 0 _ _ (by show _ < 0 + 1000000; omega) (Nat.zero_le _) ⟨⟨_, _, _, _, _, _, _, _, rfl⟩, .refl, e7⟩
  · obtain ⟨⟨x6, x7, x8, x9, x10, x11, x12, x13, rfl⟩, f8, e8⟩ := hI
    have hb : i < cls.length := by omega
    refine ⟨xs[i], by rw [hgo i h8 (s37.fr f8 hcd), nth_eq, List.getElem?_eq_getElem hi], ?_⟩
    have g8 : Fr [a, fl] h h8 := (g7.mono fun x z => by simp at z; simp [z]).trans (f8.mono fun x z => by simp at z; simp [z])
    have no8 : NoRef [a, fl] h := fun b hb ys e => by
      rcases List.mem_cons.mp hb with rfl | z
      · rw [ha] at e; cases e
      · have := VH.get_lt e
        simp at z; omega
    obtain ⟨t, ys, et, st8, l8⟩ := (l3.at hi hb).fr g8 no8
    rw [et]
    have okc := ok cls[i] (List.getElem_mem hb)
    repeat walk_at "w"
    refine w_lc (w_U (w_loc rfl ?_))
    refine w_seqI st8 fun st2 hlk2 hgo2 => ⟨hlk2, ?_⟩
    refine w_lcA (r := CdArg) (fun c : Cd => c.srt.d) st8 hgo2 l8 (by have := okc.l; omega) (fun x b hbm hr h9 f9 R hR => ?_) (fun h9 f9 => ?_)
    · obtain ⟨sd, ex, s9⟩ := hr.fr f9 noRef0
      rw [ex]
      refine w_gt rfl (w_gs (w_nam (w_gs (w_nam (w_gs (w_nam (w_gs0 ?_)))))))
      refine w_N (w_A (w_loc rfl (w_A (w_loc rfl (w_A ?_)))))
      refine w_srt (d := sd) rfl (fun _ => rfl) s9 (by have := (okc.cs b hbm).ss.l; omega) fun h10 f10 => ?_
      refine w_A0 ?_
      refine p_mkTup (by simp) ?_
      exact hR h10 f10
    · have e9 := f9.get e8 (by simp)
      repeat walk_at "w"
      refine w_mth (w_loc rfl (.inl ⟨mt_lst ((Fr.new (S := [])).get e9 (by simp)), ?_⟩))
      repeat walk_at "w"
      refine p_tupL new_get ?_
      repeat walk_at "w"
      refine p_mkTup (by simp) ?_
      repeat walk_at "w"
      have e10 := (Fr.new (S := []) (o := .lst ((cls[i].cs.map fun c : Cd => c.srt.d).reverse.reverse))).get e9 (by simp)
      refine p_app e10 (by simp; omega) ?_
      repeat walk_at "w"
      refine ⟨⟨_, _, _, _, _, _, _, _, rfl⟩, ?_, ?_⟩
      · exact (f8.trans ((f9.mono fun _ z => by cases z).trans .new)).trans (Fr.set (VH.get_lt e10) List.mem_cons_self)
      · rw [set_get (VH.get_lt e10), List.take_succ, List.getElem?_eq_getElem hb, List.map_append, List.reverse_reverse]
        simp only [Option.toList_some, List.map_cons, List.map_nil]
        unfold Cl.srt Cl.d
        simp only [List.map_map]
        rfl
  · obtain ⟨⟨x6, x7, x8, x9, x10, x11, x12, x13, rfl⟩, f8, e8⟩ := hI
    refine ⟨by rw [hgo _ h8 (s37.fr f8 hcd), nth_eq, List.getElem?_eq_none (Nat.le_refl _)], ?_⟩
    rw [hlen, List.take_length] at e8
    have a8 := f8.get a7 (by simp; omega)
    have la : a < h8.n := VH.get_lt a8
    refine w_nx (w_s (w_setF (w_U (w_loc rfl (p_tupL e8 (w_loc rfl ?_))))))
    refine p_setF a8 (by show 2 < 1000; decide) ?_
    refine w_nx (w_s (w_setF (w_loc rfl (w_loc rfl ?_))))
    refine p_setF (set_get (VH.get_lt a8)) (by show 3 < 1000; decide) ?_
    refine w_nx (w_s0 (w_endN (q _ ?_ ?_)))
    · have g8 : Fr [fl, a] h h8 := (g7.mono fun x z => by simp at z; simp [z]).trans (f8.mono fun x z => by simp at z; simp [z])
      have g9 : Fr [a] h h8 := g8.cut hnl
      exact (g9.trans (Fr.set (VH.get_lt a8) List.mem_cons_self)).trans (Fr.set (h := h8.set a _) la List.mem_cons_self)
    · unfold KAt
      rw [set_get (h := h8.set a _) la]
      unfold KD.fs mkKD
      simp only [List.map_map]
      rfl
end
end PV
set_option Elab.async false
set_option linter.all false
set_option maxRecDepth 100000
set_option maxHeartbeats 2000000
set_option autoImplicit false
namespace PV
noncomputable section
open PySem
/-- one step -/
local macro_rules | `(tactic| walk_at "w") => `(tactic| first
  | with_reducible refine w_s ?_ | with_reducible refine w_s0 ?_ | with_reducible refine w_nx ?_ | with_reducible refine w_rtn ?_ | with_reducible refine w_endR ?_ | with_reducible refine w_endN ?_
  | with_reducible refine w_asg ?_ | with_reducible refine w_rt ?_ | with_reducible refine w_expr ?_ | with_reducible refine w_setE ?_ | with_reducible refine w_setF ?_ | with_reducible refine w_par ?_
  | with_reducible refine w_U ?_ | with_reducible refine w_B ?_ | with_reducible refine w_N ?_ | with_reducible refine w_A ?_ | with_reducible refine w_A0 ?_ | with_reducible refine w_cst ?_
  | ((with_reducible show wp (xLoc _ _) _ _); refine w_loc rfl ?_)
  | with_reducible refine w_and ?_ | with_reducible refine w_and1 ?_ | with_reducible refine w_or ?_ | with_reducible refine w_or1 ?_ | with_reducible refine w_not ?_ | with_reducible refine w_chn ?_ | with_reducible refine w_if ?_
  | with_reducible refine w_sl ?_ | with_reducible refine w_on ?_ | with_reducible refine w_os ?_ | with_reducible refine w_prp ?_ | with_reducible refine w_met ?_ | with_reducible refine w_cmpT ?_ | with_reducible refine w_chnT ?_
  | with_reducible refine w_andT ?_ | with_reducible refine w_andT1 ?_ | with_reducible refine w_orT ?_ | with_reducible refine w_orT1 ?_ | with_reducible refine w_notT ?_
  | with_reducible refine w_nam ?_ | ((with_reducible refine w_gt ?wl ?_); (case wl => exact rfl)) | with_reducible refine w_gs ?_ | with_reducible refine w_gs0 ?_ | with_reducible refine w_sub ?_
  | with_reducible refine w_bt ?_ | with_reducible refine w_bf ?_ | with_reducible refine w_tru ?_ | with_reducible refine w_asB ?_ | with_reducible refine w_ret ?_
  | with_reducible refine p_le ?_ | with_reducible refine p_lt ?_ | with_reducible refine p_gt ?_ | with_reducible refine p_ge ?_ | with_reducible refine p_eqI ?_ | with_reducible refine p_neI ?_ | with_reducible refine p_eqS ?_ | with_reducible refine p_neS ?_
  | with_reducible refine p_is ?_ | with_reducible refine p_isnt ?_ | with_reducible refine p_add ?_ | with_reducible refine p_asI ?_ | with_reducible refine p_lenT ?_ | with_reducible refine p_lenS ?_)
/-- a primitive that reckons -/
local macro_rules | `(tactic| walk_at "r") => `(tactic| refine w_run rfl ?_)
/-! ### what is drawn -/
theorem w_tn {env : Env} {h : VH} {Q : Bool → VH → Prop} (q : Q true h) : wp (xTt none env) h Q := q
theorem w_ts {t : KT} {env : Env} {h : VH} {Q : Bool → VH → Prop} (w : wp (t env) h Q) : wp (xTt (some t) env) h Q := w
theorem Bud.le {h : VH} {s j k : Nat} (b : Bud h s k) (l : j ≤ k) : Bud h s j := let ⟨n, e, z⟩ := b; ⟨n, e, by omega⟩
theorem Bud.no {h : VH} {s k : Nat} (b : Bud h s k) : NoRef [s] h := fun a ha xs e => by
  obtain ⟨n, e2, _⟩ := b
  rcases List.mem_cons.mp ha with rfl | z
  · rw [e2] at e; cases e
  · cases z
theorem Bud.lt {h : VH} {s k : Nat} (b : Bud h s k) : s < h.n := let ⟨n, e, _⟩ := b; VH.get_lt e
theorem Bud.fr {S : List Nat} {h h' : VH} {s k : Nat} (b : Bud h s k) (f : Fr S h h') (hs : s ∉ S) : Bud h' s k := let ⟨n, e, z⟩ := b; ⟨n, f.get e hs, z⟩
theorem Bud.new {h : VH} {s k : Nat} {o : O} (b : Bud h s k) : Bud (h.new o) s k := b.fr (S := []) .new (by simp)
abbrev IsDraw (ct : CT) : Prop := ct 0 = prim
/-- a draw as it stands in the texts -/
theorem w_drw {ct : CT} (hd : IsDraw ct) {env : Env} {h : VH} {i s k : Nat} {m : KE} {Q : D → VH → Prop} (hs : nth i env = some (some (.ref s))) (w : wp (m env) h fun x h1 => ∃ n : Nat, x = .int n ∧ 0 < n ∧ n < 1000000 ∧ Bud h1 s (k + 1) ∧ ∀ d : Nat, d < n → ∀ h2, Bud h2 s k → Fr [s] h1 h2 → h2.n = h1.n → Q (.int d) h2) : wp (xN (ct 0) [xLoc i, m] env) h Q := by
  refine w_N (w_A (w_loc hs (w_A (wp_mono w fun x h1 ⟨n, e, h0, hm, b, q⟩ => w_A0 ?_))))
  subst e
  rw [hd]
  exact w_draw b ⟨by omega, by omega⟩ fun d hd h2 b2 f2 e2 => q d (by omega) h2 b2 f2 e2
theorem w_drc {ct : CT} (hd : IsDraw ct) {env : Env} {h : VH} {i s k : Nat} (n : Nat) {c : Nat} {Q : D → VH → Prop} (hs : nth i env = some (some (.ref s))) (hc : c = n) (hn : 0 < n ∧ n < 1000000) (b : Bud h s (k + 1)) (q : ∀ d : Nat, d < n → ∀ h2, Bud h2 s k → Fr [s] h h2 → h2.n = h.n → Q (.int d) h2) : wp (xN (ct 0) [xLoc i, xCst (.int (Int.ofNat c))] env) h Q :=
  w_drw hd hs (w_cst ⟨n, by rw [hc]; rfl, hn.1, hn.2, b, q⟩)
def PickSp (f : List D → M D) : Prop := ∀ (h : VH) (s k : Nat) (d : D) (xs : List D) (Q : D → VH → Prop), Bud h s (k + 1) → SeqAt h d xs → 0 < xs.length → xs.length < 1000000 → (∀ x, x ∈ xs → ∀ h', Bud h' s k → Fr [s] h h' → Q x h') → wp (f [.ref s, d]) h Q
theorem p_ixSq {h : VH} {d : D} {xs : List D} {k : Nat} {x : D} {Q : D → VH → Prop} (s : SeqAt h d xs) (e : xs[k]? = some x) (q : Q x h) : wp (ixM d (.int k)) h Q := by
  rcases s with rfl | ⟨a, rfl, ha⟩
  · exact p_ixT e q
  · exact p_ixL ha e q
theorem pick_sp {I : Nat → Nat} {ct : CT} (hd : IsDraw ct) : PickSp (runK 2 2 (kf__law_pick I ct)) := by
  intro h s k d xs Q b sq h0 hm q
  refine w_call rfl ?_
  unfold kf__law_pick
  refine w_s (w_rt (w_B (w_loc rfl ?_)))
  refine w_drw hd rfl (w_U (w_loc rfl (p_lenSq sq ⟨xs.length, rfl, h0, hm, b, fun j hj h2 b2 f2 _ => ?_⟩)))
  refine p_ixSq (sq.frN f2 b.no) (List.getElem?_eq_getElem hj) ?_
  exact q _ (List.getElem_mem hj) h2 b2 f2
theorem w_rng {h : VH} {n : Nat} {Q : Stp → VH → Prop} (hn : n < 1000000000) (q : ∀ st : Stp, st.lk = none → (∀ i h', i < n → st.go i h' = some (some (.int i))) → (∀ h', st.go n h' = some none) → Q st h) : wp (rngI1 (.int n)) h Q := by
  have e : rngI1 (.int n) h = .ret (.ok (stpR 0 n) h) := by
    unfold rngI1
    simp only
    rw [if_pos ⟨by omega, by omega⟩, Int.toNat_natCast]
  have q2 := q (stpR 0 n) rfl (fun i h' hi => by
    show some (if i < n then some (D.int (0 + (i : Int))) else none) = _
    rw [if_pos hi, Int.zero_add]) (fun h' => by
    show some (if n < n then some (D.int (0 + (n : Int))) else none) = _
    rw [if_neg (Nat.lt_irrefl _)])
  unfold wp
  rw [e]
  exact q2
def natsD (p : List Nat) : List D := p.map fun (i : Nat) => D.int (i : Int)
theorem rgD_eq : ∀ n i, rgD n i = natsD (List.range' i n)
  | 0, i => rfl
  | n + 1, i => by unfold rgD; rw [rgD_eq n (i + 1)]; rfl
def OrderSp (f : List D → M D) : Prop := ∀ (h : VH) (s k m : Nat) (Q : D → VH → Prop), Bud h s (k + m) → m ≤ 100000 → (∀ p : List Nat, p.Perm (List.range m) → ∀ h' a, Bud h' s k → Fr [s] h h' → h.n ≤ a → h'.get a = some (.lst (natsD p)) → Q (.ref a) h') → wp (f [.ref s, .int m]) h Q
theorem p_pop {h : VH} {a k : Nat} {xs : List D} {d : D} {Q : D → VH → Prop} (e : h.get a = some (.lst xs)) (hk : xs[k]? = some d) (hl : k < 1000000) (q : Q d (h.set a (.lst (xs.eraseIdx k)))) : wp (popM (.ref a) [.int k]) h Q := by
  refine w_run (a := d) (h' := h.set a (.lst (xs.eraseIdx k))) ?_ q
  unfold popM; simp only [e]
  rw [if_pos ⟨by omega, by omega⟩]
  simp only [Int.toNat_natCast, hk]
theorem er_map {α β : Type} {f : α → β} : ∀ (l : List α) (j : Nat), (l.map f).eraseIdx j = (l.eraseIdx j).map f
  | [], j => rfl
  | a :: r, 0 => rfl
  | a :: r, j + 1 => by
    show f a :: (r.map f).eraseIdx j = f a :: (r.eraseIdx j).map f
    rw [er_map r j]
theorem perm_er : ∀ (l : List Nat) (j : Nat) (hj : j < l.length), (l[j] :: l.eraseIdx j).Perm l
  | a :: r, 0, _ => .refl _
  | a :: r, j + 1, hj => by
    have hj2 : j < r.length := by simpa using hj
    have ih := perm_er r j hj2
    show (r[j] :: a :: r.eraseIdx j).Perm (a :: r)
    exact (List.Perm.swap a r[j] _).trans (ih.cons a)
theorem perm_erase {p l : List Nat} {j : Nat} (hj : j < l.length) : (p ++ [l[j]] ++ l.eraseIdx j).Perm (p ++ l) := by
  rw [List.append_assoc]
  refine List.Perm.append_left p ?_
  show (l[j] :: l.eraseIdx j).Perm l
  exact perm_er l j hj
theorem order_sp {I : Nat → Nat} {ct : CT} (hd : IsDraw ct) : OrderSp (runK 2 4 (kf__law_order I ct)) := by
  intro h s k m Q b hm q
  refine w_call rfl ?_
  unfold kf__law_order
  refine w_s (w_asg (w_U (w_loc rfl ?_)))
  refine w_run (m := lrgM (.int m)) (a := .ref h.n) (h' := h.new (.lst (rgD m 0))) ?_ ?_
  · unfold lrgM
    simp only
    rw [if_pos ⟨by omega, by omega⟩, Int.toNat_natCast]
  rw [rgD_eq]
  repeat walk_at "w"
  with_reducible refine w_lc ?_
  repeat walk_at "w"
  refine w_rng (n := m) ?_ ?_
  · omega
  intro st hlk hgo hen
  refine ⟨hlk, ?_⟩
  have hsn : s < h.n := b.lt
  refine w_lcK m (fun i acc h' => ∃ ps left : List Nat, acc = (natsD ps).reverse ∧ h'.get h.n = some (.lst (natsD left)) ∧ (ps ++ left).Perm (List.range m) ∧ ps.length = i ∧ Bud h' s (k + (m - i)) ∧ Fr [h.n, s] (h.new (.lst (natsD (List.range' 0 m)))) h') (fun i acc h1 hi hI => ?_) (fun acc h1 hI => ?_) turns 0 [] _ (by show _ < 0 + 1000000; omega) (Nat.zero_le _) ⟨[], List.range' 0 m, rfl, new_get, by rw [List.range_eq_range']; exact .refl _, rfl, b.new, .refl⟩
  · obtain ⟨ps, left, rfl, e1, pm, hp, b1, f1⟩ := hI
    have hlen : left.length = m - i := by
      have := pm.length_eq
      simp at this; omega
    refine ⟨_, hgo i h1 hi, ?_⟩
    refine w_nam (w_tn (w_bt ?_))
    refine w_mth (w_loc rfl (.inl ⟨mt_lst e1, ?_⟩))
    refine w_A (w_drw (k := k + (m - (i + 1))) hd rfl (w_U (w_loc rfl (p_lenL e1 ⟨left.length, by simp [natsD], by omega, by omega, b1.le (by omega), fun j hj h2 b2 f2 _ => w_A0 ?_⟩))))
    have e2 : h2.get h.n = some (.lst (natsD left)) := f2.get e1 (by simp; omega)
    refine p_pop (d := .int (left[j] : Nat)) e2 (by unfold natsD; rw [List.getElem?_map, List.getElem?_eq_getElem hj]; rfl) (by omega) ?_
    refine ⟨ps ++ [left[j]], left.eraseIdx j, by unfold natsD; simp, ?_, (perm_erase hj).trans pm, by simp [hp], ?_, ?_⟩
    · rw [set_get (VH.get_lt e2)]
      unfold natsD
      rw [er_map]
    · exact b2.fr (Fr.set (S := [h.n]) (VH.get_lt e2) List.mem_cons_self) (by simp; omega)
    · exact (f1.trans (f2.mono fun x z => List.mem_cons_of_mem _ z)).trans (Fr.set (VH.get_lt e2) List.mem_cons_self)
  · obtain ⟨ps, left, rfl, e1, pm, hp, b1, f1⟩ := hI
    refine ⟨hen h1, ?_⟩
    have hlen : left = [] := by
      have := pm.length_eq
      simp at this
      exact List.length_eq_zero_iff.mp (by omega)
    subst hlen
    rw [List.append_nil] at pm
    rw [List.reverse_reverse]
    refine w_rtn (w_endR (q ps pm _ _ (b1.le (by omega)).new ?_ ?_ new_get))
    · have f2 : Fr [h.n, s] h h1 := (Fr.new).trans f1
      exact (f2.cut (Nat.le_refl _)).trans .new
    · exact Nat.le_trans (Nat.le_succ _) f1.1
def SubsetSp (f : List D → M D) : Prop := ∀ (h : VH) (s k : Nat) (d : D) (xs : List D) (Q : D → VH → Prop), Bud h s (k + xs.length) → SeqAt h d xs → xs.length < 1000000 → (∀ ys : List D, ys.Sublist xs → ∀ h' a, Bud h' s k → Fr [s] h h' → h.n ≤ a → h'.get a = some (.lst ys) → Q (.ref a) h') → wp (f [.ref s, d]) h Q
theorem sub_snoc {α : Type} {ys xs : List α} {i : Nat} (s : ys.Sublist (xs.take i)) (hi : i < xs.length) : (ys ++ [xs[i]]).Sublist (xs.take (i + 1)) ∧ ys.Sublist (xs.take (i + 1)) := by
  rw [List.take_succ, List.getElem?_eq_getElem hi]
  exact ⟨s.append (.refl _), s.trans (List.sublist_append_left _ _)⟩
theorem subset_sp {I : Nat → Nat} {ct : CT} (hd : IsDraw ct) : SubsetSp (runK 2 3 (kf__law_subset I ct)) := by
  intro h s k d xs Q b sq hl q
  refine w_call rfl ?_
  unfold kf__law_subset
  refine w_s (w_rt (w_lc (w_U (w_loc rfl ?_))))
  refine w_seqI sq fun st hlk hgo => ⟨hlk, ?_⟩
  refine w_lcK xs.length (fun i acc h' => acc.reverse.Sublist (xs.take i) ∧ Bud h' s (k + (xs.length - i)) ∧ Fr [s] h h') (fun i acc h1 hi hI => ?_) (fun acc h1 hI => ?_) turns 0 [] _ (by show _ < 0 + 1000000; omega) (Nat.zero_le _) ⟨by simp, b, .refl⟩
  · obtain ⟨s1, b1, f1⟩ := hI
    refine ⟨xs[i], by rw [hgo i h1 (sq.frN f1 b.no), nth_eq, List.getElem?_eq_getElem hi], ?_⟩
    refine w_nam (w_ts <| w_cmpT (w_drc (k := k + (xs.length - (i + 1))) hd 2 rfl rfl (by omega) (b1.le (by omega)) fun j hj h2 b2 f2 _ => w_cst (p_eqI (w_asB (w_bif (fun e => ?_) (fun e => ?_))))))
    · refine w_loc rfl ⟨?_, b2, f1.trans f2⟩
      rw [List.reverse_cons]
      exact (sub_snoc s1 hi).1
    · exact ⟨(sub_snoc s1 hi).2, b2, f1.trans f2⟩
  · obtain ⟨s1, b1, f1⟩ := hI
    refine ⟨by rw [hgo _ h1 (sq.frN f1 b.no), nth_eq, List.getElem?_eq_none (Nat.le_refl _)], ?_⟩
    rw [List.take_length] at s1
    exact w_rtn (w_endR (q _ s1 _ _ (b1.le (by omega)).new (f1.trans .new) f1.1 new_get))
end
end PV
set_option Elab.async false
set_option linter.all false
set_option maxRecDepth 100000
set_option maxHeartbeats 2000000
set_option autoImplicit false
namespace PV
noncomputable section
open PySem
/-- one step -/
local macro_rules | `(tactic| walk_at "w") => `(tactic| first
  | with_reducible refine w_s ?_ | with_reducible refine w_s0 ?_ | with_reducible refine w_nx ?_ | with_reducible refine w_rtn ?_ | with_reducible refine w_endR ?_ | with_reducible refine w_endN ?_
  | with_reducible refine w_asg ?_ | with_reducible refine w_rt ?_ | with_reducible refine w_expr ?_ | with_reducible refine w_setE ?_ | with_reducible refine w_setF ?_ | with_reducible refine w_par ?_
  | with_reducible refine w_U ?_ | with_reducible refine w_B ?_ | with_reducible refine w_N ?_ | with_reducible refine w_A ?_ | with_reducible refine w_A0 ?_ | with_reducible refine w_cst ?_
  | ((with_reducible show wp (xLoc _ _) _ _); refine w_loc rfl ?_)
  | with_reducible refine w_and ?_ | with_reducible refine w_and1 ?_ | with_reducible refine w_or ?_ | with_reducible refine w_or1 ?_ | with_reducible refine w_not ?_ | with_reducible refine w_chn ?_ | with_reducible refine w_if ?_
  | with_reducible refine w_sl ?_ | with_reducible refine w_on ?_ | with_reducible refine w_os ?_ | with_reducible refine w_prp ?_ | with_reducible refine w_met ?_ | with_reducible refine w_cmpT ?_ | with_reducible refine w_chnT ?_
  | with_reducible refine w_andT ?_ | with_reducible refine w_andT1 ?_ | with_reducible refine w_orT ?_ | with_reducible refine w_orT1 ?_ | with_reducible refine w_notT ?_
  | with_reducible refine w_nam ?_ | ((with_reducible refine w_gt ?wl ?_); (case wl => exact rfl)) | with_reducible refine w_gs ?_ | with_reducible refine w_gs0 ?_ | with_reducible refine w_sub ?_
  | with_reducible refine w_bt ?_ | with_reducible refine w_bf ?_ | with_reducible refine w_tru ?_ | with_reducible refine w_asB ?_ | with_reducible refine w_ret ?_
  | with_reducible refine p_le ?_ | with_reducible refine p_lt ?_ | with_reducible refine p_gt ?_ | with_reducible refine p_ge ?_ | with_reducible refine p_eqI ?_ | with_reducible refine p_neI ?_ | with_reducible refine p_eqS ?_ | with_reducible refine p_neS ?_
  | with_reducible refine p_is ?_ | with_reducible refine p_isnt ?_ | with_reducible refine p_add ?_ | with_reducible refine p_asI ?_ | with_reducible refine p_lenT ?_ | with_reducible refine p_lenS ?_)
/-- a primitive that reckons -/
local macro_rules | `(tactic| walk_at "r") => `(tactic| refine w_run rfl ?_)
/-! ### in -/
theorem any_eqF {h : VH} {f : Nat} {s : List Nat} : ∀ ts : List (List Nat), ((ts.map D.str).any fun z => eqF f h z (.str s)) = decide (s ∈ ts)
  | [] => by simp
  | t :: r => by
    rw [List.map_cons, List.any_cons, any_eqF r]
    have e : eqF f h (.str t) (.str s) = eqS t s := by unfold eqF; rfl
    rw [e]
    by_cases z : t = s
    · subst z; rw [(eqS_iff t t).mpr rfl]; simp
    · have : eqS t s = false := by cases q : eqS t s with | false => rfl | true => exact absurd ((eqS_iff _ _).mp q) z
      rw [this]
      have : (s ∈ t :: r) ↔ s ∈ r := by
        constructor
        · intro q
          rcases List.mem_cons.mp q with q | q
          · exact absurd q.symm z
          · exact q
        · exact List.mem_cons_of_mem _
      simp [this]
theorem all_isDt {h : VH} {f : Nat} : ∀ ts : List (List Nat), (ts.map D.str).all (isDt f h) = true
  | [] => rfl
  | t :: r => by rw [List.map_cons, List.all_cons, all_isDt r]; cases f <;> rfl
theorem all_flat : ∀ ts : List (List Nat), (ts.map D.str).all flatD = true
  | [] => rfl
  | t :: r => by rw [List.map_cons, List.all_cons, all_flat r]; rfl
theorem p_in {h : VH} {d : D} {neg : Bool} {s : List Nat} {ts : List (List Nat)} {Q : D → VH → Prop} (sq : SeqAt h d (ts.map .str)) (q : Q (bln neg (decide (s ∈ ts))) h) : wp (inM neg (.str s) d) h Q := by
  refine w_run (a := bln neg (decide (s ∈ ts))) (h' := h) ?_ q
  rcases sq with rfl | ⟨a, rfl, e⟩
  · unfold inM
    simp only [all_flat, any_eqF]
    rfl
  · unfold inM
    simp only [e, all_isDt, any_eqF]
    rfl
/-! ### a name is drawn -/
def hefts : List Nat := [8, 4, 5, 6, 7, 1, 2, 3, 1, 2, 3, 1, 2]
theorem join_one : ∀ cs : List Nat, joinS [] (cs.map fun c => [c]) = cs
  | [] => rfl
  | [c] => rfl
  | c :: d :: r => by
    have ih := join_one (d :: r)
    rw [List.map_cons] at ih ⊢
    unfold joinS
    simp only [List.map_cons] at ih ⊢
    rw [ih]
    simp
theorem sum_one (cs : List Nat) : ((cs.map fun c => [c]).map List.length).sum = cs.length := by
  induction cs with
  | nil => rfl
  | cons c r ih => simp at ih ⊢; omega
theorem p_join {h : VH} {a : Nat} {cs : List Nat} {Q : D → VH → Prop} (e : h.get a = some (.lst (cs.map fun c => .str [c]))) (hl : cs.length ≤ 1000) (q : Q (.str cs) h) : wp (joinM (.str []) [.ref a]) h Q := by
  refine w_run (a := .str cs) (h' := h) ?_ q
  unfold joinM
  simp only [e]
  unfold joinX
  rw [show (cs.map fun c => D.str [c]) = (cs.map fun c => [c]).map D.str by rw [List.map_map]; rfl, strs_map]
  simp only
  rw [if_pos (by rw [sum_one]; simp; omega), join_one]
theorem az_at {j : Nat} (hj : j < 26) : ∃ c, az[j]? = some c ∧ 97 ≤ c ∧ c ≤ 122 := by
  have : j < az.length := hj
  refine ⟨az[j], List.getElem?_eq_getElem this, ?_⟩
  have h1 : ∀ c, c ∈ az → 97 ≤ c ∧ c ≤ 122 := by decide
  exact h1 _ (List.getElem_mem this)
theorem p_ixS {h : VH} {s : List Nat} {k c : Nat} {Q : D → VH → Prop} (e : s[k]? = some c) (q : Q (.str [c]) h) : wp (ixM (.str s) (.int k)) h Q := by
  refine w_run (a := .str [c]) (h' := h) ?_ q
  show (match ixD s (Int.ofNat k) with | some c => P.ret (PV.R.ok (D.str [c]) h) | none => P.ret PV.R.bad) = _
  unfold ixD
  simp only [e]
/-- a text of drawn letters -/
theorem w_letters {ct : CT} (hd : IsDraw ct) {env : Env} {h : VH} {s k n : Nat} {Q : D → VH → Prop} (hs : ∀ x, nth 0 (sth (some x) 4 (wipeK env [4])) = some (some (.ref s))) (hn : nth 2 env = some (some (.int (n : Int)))) (hl : n ≤ 8) (b : Bud h s (k + n))
    (q : ∀ cs : List Nat, cs.length = n → (∀ c, c ∈ cs → 97 ≤ c ∧ c ≤ 122) → ∀ h', Bud h' s k → Fr [s] h h' → Q (.str cs) h') :
    wp (xMth (mtM 0 0 joinM joinM) (xCst (.str [])) [(xLc (xU rngI1 (xLoc 2)) (xNam 4) none (xB ixM (xCst (.str [97, 98, 99, 100, 101, 102, 103, 104, 105, 106, 107, 108, 109, 110, 111, 112, 113, 114, 115, 116, 117, 118, 119, 120, 121, 122])) (xN (ct 0) [(xLoc 0), (xCst (.int (Int.ofNat 26)))])) [4])] env) h Q := by
  refine w_mth (w_cst (.inl ⟨rfl, w_A (w_lc (w_U (w_loc hn ?_)))⟩))
  refine w_rng (by omega) fun st hlk hgo hen => ⟨hlk, ?_⟩
  refine w_lcK n (fun i acc h' => ∃ cs : List Nat, acc = (cs.map fun c => D.str [c]).reverse ∧ cs.length = i ∧ (∀ c, c ∈ cs → 97 ≤ c ∧ c ≤ 122) ∧ Bud h' s (k + (n - i)) ∧ Fr [s] h h') (fun i acc h1 hi hI => ?_) (fun acc h1 hI => ?_) turns 0 [] _ (by show _ < 0 + 1000000; omega) (Nat.zero_le _) ⟨[], rfl, rfl, (fun c z => by cases z), b, .refl⟩
  · obtain ⟨cs, rfl, hc, hcs, b1, f1⟩ := hI
    refine ⟨_, hgo i h1 hi, ?_⟩
    refine w_nam (w_tn (w_bt ?_))
    refine w_B (w_cst (w_drc (k := k + (n - (i + 1))) hd 26 (hs _) rfl (by omega) (b1.le (by omega)) fun j hj h2 b2 f2 _ => ?_))
    obtain ⟨c, e, hc1⟩ := az_at hj
    refine p_ixS e ⟨cs ++ [c], by simp, by simp [hc], fun x hx => ?_, b2, f1.trans f2⟩
    rcases List.mem_append.mp hx with z | z
    · exact hcs x z
    · simp at z; rw [z]; exact hc1
  · obtain ⟨cs, rfl, hc, hcs, b1, f1⟩ := hI
    refine ⟨hen h1, w_A0 ?_⟩
    refine p_join (cs := cs) (by rw [new_get, List.reverse_reverse]) (by omega) (q cs hc hcs _ (b1.le (by omega)).new (f1.trans .new))
def DNameSp (f : List D → M D) : Prop := ∀ (h : VH) (s k : Nat) (d : D) (ts : List (List Nat)) (Q : D → VH → Prop), Bud h s (k + 10) → SeqAt h d (ts.map .str) → ts.length < 26 → (∀ nm : List Nat, Nm nm → nm ∉ ts → ∀ h', Bud h' s k → Fr [s] h h' → Q (.str nm) h') → wp (f [.ref s, d]) h Q
theorem nodup_le {α : Type} [DecidableEq α] : ∀ {l m : List α}, l.Nodup → (∀ x, x ∈ l → x ∈ m) → l.length ≤ m.length
  | [], m, _, _ => Nat.zero_le _
  | a :: r, m, hn, hs => by
    have h1 : a ∈ m := hs a List.mem_cons_self
    have h2 := nodup_le (m := m.erase a) (List.nodup_cons.mp hn).2 fun x hx => (List.mem_erase_of_ne (fun e => by subst e; exact (List.nodup_cons.mp hn).1 hx)).mpr (hs x (List.mem_cons_of_mem _ hx))
    rw [List.length_erase_of_mem h1] at h2
    have h3 : 0 < m.length := List.length_pos_of_mem h1
    simp only [List.length_cons]
    omega
theorem zs_left (ts : List (List Nat)) (hl : ts.length < 26) : ((az.map fun c => [122, c]).filter fun x => !decide (x ∈ ts)) ≠ [] := by
  intro e
  have h1 : ∀ x, x ∈ (az.map fun c => [122, c]) → x ∈ ts := fun x hx => by
    by_cases z : x ∈ ts
    · exact z
    · have : x ∈ ((az.map fun c => [122, c]).filter fun x => !decide (x ∈ ts)) := List.mem_filter.mpr ⟨hx, by simp [z]⟩
      rw [e] at this
      cases this
  have nd : (az.map fun c => [122, c]).Nodup := by decide
  have := nodup_le nd h1
  have e2 : (az.map fun c => [122, c]).length = 26 := rfl
  omega
theorem p_ni {h : VH} {d : D} {s : List Nat} {ts : List (List Nat)} {Q : D → VH → Prop} (sq : SeqAt h d (ts.map .str)) (q : Q (.bl (!decide (s ∈ ts))) h) : wp (inM true (.str s) d) h Q := p_in sq q
theorem p_inT {h : VH} {d : D} {s : List Nat} {ts : List (List Nat)} {Q : D → VH → Prop} (sq : SeqAt h d (ts.map .str)) (q : Q (.bl (decide (s ∈ ts))) h) : wp (inM false (.str s) d) h Q := p_in sq q
theorem p_addS {h : VH} {a b : List Nat} {Q : D → VH → Prop} (hl : a.length + b.length ≤ 16777216) (q : Q (.str (a ++ b)) h) : wp (addD (.str a) (.str b)) h Q := by
  refine w_run (a := .str (a ++ b)) (h' := h) ?_ q
  unfold addD
  simp only
  rw [if_pos hl]
theorem hefts_at {j : Nat} (hj : j < 13) : ∃ n, hefts[j]? = some n ∧ 1 ≤ n ∧ n ≤ 8 := by
  have : j < hefts.length := hj
  refine ⟨hefts[j], List.getElem?_eq_getElem this, ?_⟩
  have h1 : ∀ c, c ∈ hefts → 1 ≤ c ∧ c ≤ 8 := by decide
  exact h1 _ (List.getElem_mem this)
theorem cut_sub {α : Type} {xs : List α} {lo hi : Option Int} : (cutD xs lo hi).Sublist xs := (List.take_sublist _ _).trans (List.drop_sublist _ _)
def words7 (w : List Nat) : List (List Nat) := [[107, 105, 110, 100], [104, 97, 110, 100], [112, 97, 114, 116, 115], [101, 108, 115, 101], [115, 111, 102, 116], [104, 101, 108, 100], w]
theorem words7_nm {w : List Nat} (hw : Nm w) : ∀ x, x ∈ words7 w → Nm x := by
  intro x hx
  unfold words7 at hx
  simp only [List.mem_cons, List.not_mem_nil, or_false] at hx
  rcases hx with rfl | rfl | rfl | rfl | rfl | rfl | rfl
  · exact ⟨by decide, by decide, by decide⟩
  · exact ⟨by decide, by decide, by decide⟩
  · exact ⟨by decide, by decide, by decide⟩
  · exact ⟨by decide, by decide, by decide⟩
  · exact ⟨by decide, by decide, by decide⟩
  · exact ⟨by decide, by decide, by decide⟩
  · exact hw
theorem dname_sp {I : Nat → Nat} {ct : CT} (hd : IsDraw ct) : DNameSp (runK 2 7 (kf__law_name I ct)) := by
  intro h s k d ts Q b sq hl q
  have hno := b.no
  refine w_call rfl ?_
  unfold kf__law_name
  have tail : ∀ (n : Nat) (nm : List Nat) (h4 : VH), Nm nm → Bud h4 s k → Fr [s] h h4 → wp (xSs [(xIf (xCmpT (inM true) (xLoc 3) (xLoc 1)) (xSs [(xRet (xLoc 3))]) (xSs [])), (xRet (xB ixM (xLc (xU seqIK (xLc (xU seqIK (xCst (.str [97, 98, 99, 100, 101, 102, 103, 104, 105, 106, 107, 108, 109, 110, 111, 112, 113, 114, 115, 116, 117, 118, 119, 120, 121, 122]))) (xNam 6) none (xB addD (xCst (.str [122])) (xLoc 6)) [6])) (xNam 5) (some (xCmpT (inM true) (xLoc 5) (xLoc 1))) (xLoc 5) [5]) (xCst (.int (Int.ofNat 0)))))] [some (.ref s), some d, some (.int (n : Int)), some (.str nm), none, none, none]) h4 fun f h1 => wp (endK f) h1 Q := by
    intro n nm h4 nnm b4 f4
    have sq4 := sq.frN f4 hno
    refine w_s (w_if (w_cmpT (w_loc rfl (w_loc rfl (p_ni sq4 (w_asB (w_bif (fun e => ?_) (fun e => ?_))))))))
    · refine w_s (w_rt (w_loc rfl (w_rtn ?_)))
      exact w_rtn (w_endR (q nm nnm (by simpa using e) h4 b4 f4))
    · refine w_s0 (w_nx (w_s (w_rt (w_B (w_lc (w_U (w_lc (w_U (w_cst ?_)))))))))
      refine w_run (a := stpLK (az.map fun c => .str [c])) (h' := h4) rfl ⟨rfl, ?_⟩
      refine w_lcmT (S := []) az (fun c => .str [c]) (fun c => .str [122, c]) (by decide) (fun _ _ _ => rfl) (fun c hc h5 f5 R hR => ?_) (fun h5 f5 => ?_)
      · exact w_nam (w_B (w_cst (w_loc rfl (p_addS (by simp) (hR h5 .refl)))))
      · have sq5 : SeqAt (h5.new (.lst ((az.map fun c => D.str [122, c]).reverse.reverse))) (.ref h5.n) ((az.map fun c => [122, c]).map D.str) := .inr ⟨_, rfl, by rw [new_get, List.reverse_reverse, List.map_map]; rfl⟩
        have f6 : Fr [s] h (h5.new (.lst ((az.map fun c => D.str [122, c]).reverse.reverse))) := (f4.trans (f5.mono fun _ z => by cases z)).trans .new
        have b6 : Bud (h5.new (.lst ((az.map fun c => D.str [122, c]).reverse.reverse))) s k := (b4.fr f5 (by simp)).new
        generalize h5.new (.lst ((az.map fun c => D.str [122, c]).reverse.reverse)) = h6 at sq5 f6 b6
        refine w_seqI sq5 fun st hlk hgo => ⟨hlk, ?_⟩
        refine w_lcfT (S := []) (az.map fun c => [122, c]) .str (fun x => if decide (x ∈ ts) then none else some (.str x)) (by decide) (fun i h' fr => hgo i h' (sq5.fr0 fr)) (fun x hx h7 f7 R hR => ?_) (fun h7 f7 => ?_)
        · refine w_nam (w_ts <| w_cmpT (w_loc rfl (w_loc rfl (p_ni ((sq.frN f6 hno).fr0 f7) (w_asB ?_)))))
          have z := hR h7 .refl
          by_cases e2 : x ∈ ts
          · rw [decide_eq_true e2] at z ⊢
            exact z
          · rw [decide_eq_false e2] at z ⊢
            exact w_loc rfl z
        · have e3 : (az.map fun c => [122, c]).filterMap (fun x => if decide (x ∈ ts) then none else some (D.str x)) = ((az.map fun c => [122, c]).filter fun x => !decide (x ∈ ts)).map D.str := by
            generalize (az.map fun c => [122, c]) = zs
            induction zs with
            | nil => rfl
            | cons z r ih =>
              rw [List.filterMap_cons, List.filter_cons]
              by_cases e4 : z ∈ ts <;> simpa [e4] using ih
          rw [e3, List.reverse_reverse]
          cases e5 : ((az.map fun c => [122, c]).filter fun x => !decide (x ∈ ts)) with
          | nil => exact absurd e5 (zs_left ts hl)
          | cons x r =>
            have hx : x ∈ ((az.map fun c => [122, c]).filter fun x => !decide (x ∈ ts)) := by rw [e5]; exact List.mem_cons_self
            obtain ⟨hx1, hx2⟩ := List.mem_filter.mp hx
            obtain ⟨c, hc, rfl⟩ := List.mem_map.mp hx1
            refine w_cst (p_ixL (k := 0) new_get rfl (w_rtn (w_endR (q [122, c] ⟨by simp, by simp, fun y hy => ?_⟩ (by simpa using hx2) _ (b6.fr f7 (by simp)).new ((f6.trans (f7.mono fun _ z => by cases z)).trans .new)))))
            have haz : ∀ c, c ∈ az → 97 ≤ c ∧ c ≤ 122 := by decide
            simp at hy
            rcases hy with rfl | rfl
            · decide
            · exact haz _ hc
  refine w_s (w_asg (w_B (w_N ?_)))
  repeat walk_at "w"
  refine p_mkLst (by simp) ?_
  refine w_drc (k := k + 9) hd 13 rfl rfl (by omega) (b.new.le (by omega)) fun j hj h1 b1 f1 _ => ?_
  have f1' : Fr [s] h h1 := Fr.trans .new f1
  obtain ⟨n, en, hn1, hn8⟩ := hefts_at hj
  refine p_ixL (d := .int (n : Int)) (f1.get new_get (by have := b.lt; simp; omega)) (by
    show (hefts.map fun n : Nat => D.int (n : Int))[j]? = _
    rw [List.getElem?_map, en]; rfl) ?_
  refine w_nam (w_nx (w_s (w_asg ?_)))
  refine w_letters (k := k + 1) hd (n := n) (fun _ => rfl) rfl hn8 (b1.le (by omega)) fun cs hcl hcs h2 b2 f2 => ?_
  have f2' := f1'.trans f2
  have ncs : Nm cs := ⟨by omega, by omega, hcs⟩
  refine w_nam (w_nx (w_s (w_if (w_chnT (w_chn (w_cst (w_loc rfl (p_lt (w_asB (w_bif (fun e1 => ?_) (fun e1 => ?_)))))))))))
  · refine w_cst (p_lt (w_asB (w_bif (fun e2 => ?_) (fun e2 => ?_))))
    · rw [show (Int.ofNat 8 : Int) = ((8 : Nat) : Int) from rfl, ltI_nat] at e2
      have h8 := of_decide_eq_true e2
      refine w_s (w_asg (w_B (w_N ?_)))
      repeat walk_at "w"
      walk_at "r"
      refine p_addS (by
        have hh := (cut_sub (xs := cs) (lo := some (Int.ofNat 1)) (hi := none)).length_le
        show 1 + (cutD cs (some (Int.ofNat 1)) none).length ≤ 16777216
        omega) ?_
      repeat walk_at "w"
      refine p_mkLst (by simp) ?_
      refine w_drc (k := k) hd 7 rfl rfl (by omega) b2.new fun j2 hj2 h3 b3 f3 _ => ?_
      have f3' : Fr [s] h h3 := f2'.trans (Fr.trans .new f3)
      have nw : Nm ([113] ++ cutD cs (some (Int.ofNat 1)) none) := by
        have hsub := cut_sub (xs := cs) (lo := some (Int.ofNat 1)) (hi := none)
        have := hsub.length_le
        refine ⟨by simp, by rw [List.length_append]; show 1 + (cutD cs (some (Int.ofNat 1)) none).length ≤ 8; omega, fun c hc => ?_⟩
        rcases List.mem_append.mp hc with z | z
        · simp at z; omega
        · exact hcs c (hsub.subset z)
      have hj3 : j2 < (words7 ([113] ++ cutD cs (some (Int.ofNat 1)) none)).length := hj2
      refine p_ixL (d := .str (words7 ([113] ++ cutD cs (some (Int.ofNat 1)) none))[j2]) (f3.get new_get (by have := b2.lt; simp; omega)) (by
        show ((words7 ([113] ++ cutD cs (some (Int.ofNat 1)) none)).map D.str)[j2]? = _
        rw [List.getElem?_map, List.getElem?_eq_getElem hj3]; rfl) ?_
      refine w_nam (w_nx (w_s0 (w_nx ?_)))
      exact tail n _ h3 (words7_nm nw _ (List.getElem_mem hj3)) b3 f3'
    · exact w_s0 (w_nx (tail n cs h2 ncs (b2.le (by omega)) f2'))
  · exact w_asB (w_bf (w_s0 (w_nx (tail n cs h2 ncs (b2.le (by omega)) f2'))))
end
end PV
set_option Elab.async false
set_option linter.all false
set_option maxRecDepth 100000
set_option maxHeartbeats 2000000
set_option autoImplicit false
namespace PV
noncomputable section
open PySem
/-- one step -/
local macro_rules | `(tactic| walk_at "w") => `(tactic| first
  | with_reducible refine w_s ?_ | with_reducible refine w_s0 ?_ | with_reducible refine w_nx ?_ | with_reducible refine w_rtn ?_ | with_reducible refine w_endR ?_ | with_reducible refine w_endN ?_
  | with_reducible refine w_asg ?_ | with_reducible refine w_rt ?_ | with_reducible refine w_expr ?_ | with_reducible refine w_setE ?_ | with_reducible refine w_setF ?_ | with_reducible refine w_par ?_
  | with_reducible refine w_U ?_ | with_reducible refine w_B ?_ | with_reducible refine w_N ?_ | with_reducible refine w_A ?_ | with_reducible refine w_A0 ?_ | with_reducible refine w_cst ?_
  | ((with_reducible show wp (xLoc _ _) _ _); refine w_loc rfl ?_)
  | with_reducible refine w_and ?_ | with_reducible refine w_and1 ?_ | with_reducible refine w_or ?_ | with_reducible refine w_or1 ?_ | with_reducible refine w_not ?_ | with_reducible refine w_chn ?_ | with_reducible refine w_if ?_
  | with_reducible refine w_sl ?_ | with_reducible refine w_on ?_ | with_reducible refine w_os ?_ | with_reducible refine w_prp ?_ | with_reducible refine w_met ?_ | with_reducible refine w_cmpT ?_ | with_reducible refine w_chnT ?_
  | with_reducible refine w_andT ?_ | with_reducible refine w_andT1 ?_ | with_reducible refine w_orT ?_ | with_reducible refine w_orT1 ?_ | with_reducible refine w_notT ?_
  | with_reducible refine w_nam ?_ | ((with_reducible refine w_gt ?wl ?_); (case wl => exact rfl)) | with_reducible refine w_gs ?_ | with_reducible refine w_gs0 ?_ | with_reducible refine w_sub ?_
  | with_reducible refine w_bt ?_ | with_reducible refine w_bf ?_ | with_reducible refine w_tru ?_ | with_reducible refine w_asB ?_ | with_reducible refine w_ret ?_
  | with_reducible refine p_le ?_ | with_reducible refine p_lt ?_ | with_reducible refine p_gt ?_ | with_reducible refine p_ge ?_ | with_reducible refine p_eqI ?_ | with_reducible refine p_neI ?_ | with_reducible refine p_eqS ?_ | with_reducible refine p_neS ?_
  | with_reducible refine p_is ?_ | with_reducible refine p_isnt ?_ | with_reducible refine p_add ?_ | with_reducible refine p_asI ?_ | with_reducible refine p_lenT ?_ | with_reducible refine p_lenS ?_)
/-- a primitive that reckons -/
local macro_rules | `(tactic| walk_at "r") => `(tactic| refine w_run rfl ?_)
/-! ### names, some of them, conditions -/
def DNamesSp (f : List D → M D) : Prop := ∀ (h : VH) (s k m : Nat) (Q : D → VH → Prop), Bud h s (k + 10 * m) → m ≤ 20 → (∀ ns : List (List Nat), ns.length = m → (∀ x, x ∈ ns → Nm x) → ns.Nodup → ∀ h' a, Bud h' s k → Fr [s] h h' → h.n ≤ a → h'.get a = some (.lst (ns.map .str)) → Q (.ref a) h') → wp (f [.ref s, .int m]) h Q
theorem dnames_sp {I : Nat → Nat} {ct : CT} (hN : DNameSp (ct (I 25))) : DNamesSp (runK 2 4 (kf__law_names I ct)) := by
  intro h s k m Q b hm q
  refine w_call rfl ?_
  unfold kf__law_names
  refine w_s (w_asg (w_N (w_A0 (p_mkLst (by simp) (w_nam (w_nx ?_))))))
  refine w_s (w_for (w_U (w_loc rfl ?_)))
  refine w_rng (by omega) fun st hlk hgo hen => ⟨hlk, ?_⟩
  have hsn := b.lt
  refine w_loopK m (fun i env h' => (∃ x, env = [some (.ref s), some (.int m), some (.ref h.n), x]) ∧ ∃ ns : List (List Nat), ns.length = i ∧ (∀ x, x ∈ ns → Nm x) ∧ ns.Nodup ∧ h'.get h.n = some (.lst (ns.map .str)) ∧ Bud h' s (k + 10 * (m - i)) ∧ Fr [h.n, s] (h.new (.lst [])) h') (fun i env h1 hi hI => ?_) (fun env h1 hI => ?_) turns 0 _ _ (by show _ < 0 + 1000000; omega) (Nat.zero_le _) ⟨⟨none, rfl⟩, [], rfl, (fun x z => by cases z), .nil, new_get, b.new, .refl⟩
  · obtain ⟨⟨x, rfl⟩, ns, hl, hn, nd, e1, b1, f1⟩ := hI
    refine ⟨_, hgo i h1 hi, ?_⟩
    refine w_nam (w_s (w_expr (w_mth (w_loc rfl (.inl ⟨mt_lst e1, w_A (w_N (w_A (w_loc rfl (w_A (w_loc rfl (w_A0 ?_))))))⟩)))))
    refine hN h1 s (k + 10 * (m - (i + 1))) (.ref h.n) ns _ (b1.le (by omega)) (.inr ⟨_, rfl, e1⟩) (by omega) fun nm hnm hni h2 b2 f2 => w_A0 ?_
    have e2 : h2.get h.n = some (.lst (ns.map .str)) := f2.get e1 (by simp; omega)
    refine p_app e2 (by simp; omega) ?_
    refine w_nx (w_s0 ⟨⟨_, rfl⟩, ns ++ [nm], by simp [hl], fun y hy => ?_, ?_, ?_, ?_, ?_⟩)
    · rcases List.mem_append.mp hy with z | z
      · exact hn y z
      · simp at z; rw [z]; exact hnm
    · rw [List.nodup_append]
      exact ⟨nd, by simp, fun a ha b hb => by simp at hb; subst hb; rintro rfl; exact hni ha⟩
    · rw [set_get (VH.get_lt e2)]; simp
    · exact b2.fr (Fr.set (S := [h.n]) (VH.get_lt e2) List.mem_cons_self) (by simp; omega)
    · exact (f1.trans (f2.mono fun x z => List.mem_cons_of_mem _ z)).trans (Fr.set (VH.get_lt e2) List.mem_cons_self)
  · obtain ⟨⟨x, rfl⟩, ns, hl, hn, nd, e1, b1, f1⟩ := hI
    refine ⟨hen h1, w_nx (w_s (w_rt (w_loc rfl (w_rtn (w_endR (q ns hl hn nd h1 h.n (b1.le (by omega)) ?_ (Nat.le_refl _) e1))))))⟩
    have f2 : Fr [h.n, s] h h1 := (Fr.new).trans f1
    exact f2.cut (Nat.le_refl _)
theorem cut_take {α : Type} {xs : List α} {j : Nat} : cutD xs none (some (j : Int)) = xs.take j := by
  unfold cutD
  rw [HT.sIx_none, HT.sIx_nat, List.drop_zero, Nat.sub_zero]
  by_cases h : j ≤ xs.length
  · rw [Nat.min_eq_left h]
  · rw [Nat.min_eq_right (by omega), List.take_length, List.take_of_length_le (by omega)]
def DSomeSp (f : List D → M D) : Prop := ∀ (h : VH) (s k : Nat) (d : D) (ss : List (List Nat)) (Q : D → VH → Prop), Bud h s (k + ss.length + 1) → SeqAt h d (ss.map .str) → 0 < ss.length → ss.length ≤ 1000 →
  (∀ ys : List (List Nat), ys ≠ [] → (∀ x, x ∈ ys → x ∈ ss) → (ss.Nodup → ys.Nodup) → ys.length ≤ ss.length → ∀ h' a, Bud h' s k → Fr [s] h h' → h.n ≤ a → h'.get a = some (.lst (ys.map .str)) → Q (.ref a) h') → wp (f [.ref s, d]) h Q
theorem perm_nodup {ss : List (List Nat)} (hn : ss.Nodup) {p : List Nat} (hp : p.Perm (List.range ss.length)) : (p.map fun i => ss.getD i []).Nodup := by
  have h1 : (p.map fun i => ss.getD i []).Perm ((List.range ss.length).map fun i => ss.getD i []) := hp.map _
  have h2 : (List.range ss.length).map (fun i => ss.getD i []) = ss := by
    refine List.ext_getElem (by simp) fun j h1 h2 => ?_
    simp only [List.getElem_map, List.getElem_range, List.getD_eq_getElem?_getD]
    rw [List.getElem?_eq_getElem h2]; rfl
  rw [h2] at h1
  exact h1.nodup_iff.mpr hn
theorem p_slL {h : VH} {a j : Nat} {xs : List D} {Q : D → VH → Prop} (e : h.get a = some (.lst xs)) (q : Q (.ref h.n) (h.new (.lst (xs.take j)))) : wp (slM (.ref a) none (some (j : Int))) h Q := by
  refine w_run (a := .ref h.n) (h' := h.new (.lst (xs.take j))) ?_ q
  unfold slM
  simp only [e, cut_take]
theorem dsome_sp {I : Nat → Nat} {ct : CT} (hd : IsDraw ct) (hO : OrderSp (ct (I 23))) : DSomeSp (runK 2 4 (kf__law_some I ct)) := by
  intro h s k d ss Q b sq h0 hm q
  have hno := b.no
  refine w_call rfl ?_
  unfold kf__law_some
  refine w_s (w_setE (w_lc (w_U (w_N (w_A (w_loc rfl (w_A (w_U (w_loc rfl (p_lenSq sq (w_A0 ?_)))))))))))
  rw [List.length_map]
  refine hO h s (k + 1) ss.length _ (b.le (by omega)) (by omega) fun p hp h1 a1 b1 f1 ha1 e1 => ?_
  have sq1 : SeqAt h1 (.ref a1) (natsD p) := .inr ⟨_, rfl, e1⟩
  refine w_seqI sq1 fun st hlk hgo => ⟨hlk, ?_⟩
  have hpl : p.length = ss.length := by have := hp.length_eq; simpa using this
  refine w_lcmT (S := []) p (fun (i : Nat) => D.int (i : Int)) (fun i => .str (ss.getD i [])) (by omega) (fun i h' fr => hgo i h' (sq1.fr0 fr)) (fun i hi h2 f2 R hR => ?_) (fun h2 f2 => ?_)
  · have hi2 : i < ss.length := List.mem_range.mp (hp.mem_iff.mp hi)
    refine w_nam (w_B (w_loc rfl (w_loc rfl ?_)))
    refine p_ixSq (x := .str (ss.getD i [])) ((sq.frN f1 hno).fr0 f2) (by rw [List.getElem?_map, List.getD_eq_getElem?_getD, List.getElem?_eq_getElem hi2]; rfl) (hR h2 .refl)
  · rw [List.reverse_reverse]
    have e3 : (h2.new (.lst (p.map fun i => D.str (ss.getD i [])))).get h2.n = some (.lst ((p.map fun i => ss.getD i []).map D.str)) := by rw [new_get, List.map_map]; rfl
    have b3 : Bud (h2.new (.lst (p.map fun i => D.str (ss.getD i [])))) s (k + 1) := (b1.fr f2 (by simp)).new
    have f3 : Fr [s] h (h2.new (.lst (p.map fun i => D.str (ss.getD i [])))) := (f1.trans (f2.mono fun _ z => by cases z)).trans .new
    have n3 : h.n ≤ h2.n := Nat.le_trans f1.1 f2.1
    generalize h2.new (.lst (p.map fun i => D.str (ss.getD i []))) = h3 at e3 b3 f3
    generalize h2.n = a3 at e3 n3
    refine w_nx (w_s (w_rt (w_sl (w_loc rfl (w_on (w_os (w_B (w_cst ?_))))))))
    refine w_drw (k := k) hd rfl (w_U (w_loc rfl (p_lenL e3 ⟨p.length, by simp, by omega, by omega, b3, fun j hj h4 b4 f4 _ => p_add (p_asI ?_)⟩)))
    have e4 := f4.get e3 (by have := b.lt; simp; omega)
    rw [show (Int.ofNat 1 + (j : Int)) = ((1 + j : Nat) : Int) by simp]
    refine p_slL e4 ?_
    rw [← List.map_take]
    refine w_rtn (w_endR (q ((p.map fun i => ss.getD i []).take (1 + j)) ?_ ?_ ?_ ?_ _ _ b4.new ((f3.trans f4).trans .new) (f3.trans f4).1 new_get))
    · intro z
      have := congrArg List.length z
      rw [List.length_take, List.length_map, List.length_nil] at this
      omega
    · intro x hx
      obtain ⟨i, hi, rfl⟩ := List.mem_map.mp (List.mem_of_mem_take hx)
      have hi2 : i < ss.length := List.mem_range.mp (hp.mem_iff.mp hi)
      rw [List.getD_eq_getElem?_getD, List.getElem?_eq_getElem hi2]
      exact List.getElem_mem hi2
    · exact fun hn => (perm_nodup hn hp).sublist (List.take_sublist _ _)
    · have := (List.take_sublist (1 + j) (p.map fun i => ss.getD i [])).length_le
      simp at this ⊢; omega
def DCondSp (f : List D → M D) : Prop := ∀ (h : VH) (s k : Nat) (d : D) (ss : List (List Nat)) (Q : D → VH → Prop), Bud h s (k + ss.length + 5) → SeqAt h d (ss.map .str) → Nms ss → 0 < ss.length →
  (∀ c : Cd, CdOk c → (∀ x, x ∈ c.ss → x ∈ ss) → ∀ h', Bud h' s k → Fr [s] h h' → Q c.d h') → wp (f [.ref s, d]) h Q
theorem dcond_sp {I : Nat → Nat} {ct : CT} (hd : IsDraw ct) (hS : DSomeSp (ct (I 27))) : DCondSp (runK 2 4 (kf__law_condition I ct)) := by
  intro h s k d ss Q b sq ns h0 q
  have hno := b.no
  have hl := ns.l
  refine w_call rfl ?_
  unfold kf__law_condition
  have tail : ∀ (lo : Int) (mo : Option Int) (h4 : VH), 0 ≤ lo → lo ≤ 9 → (∀ k, mo = some k → 0 ≤ k ∧ k ≤ 9) → Bud h4 s (k + ss.length + 1) → Fr [s] h h4 → wp (xSs [(xRet (xN mkTup [(xLoc 2), (xLoc 3), (xU tupX (xN (ct (I 27)) [(xLoc 0), (xLoc 1)]))]))] [some (.ref s), some d, some (.int lo), some (moD mo)]) h4 fun f h1 => wp (endK f) h1 Q := by
    intro lo mo h4 l0 l9 hmo b4 f4
    refine w_s (w_rt (w_N (w_A (w_loc rfl (w_A (w_loc rfl (w_A (w_U (w_N (w_A (w_loc rfl (w_A (w_loc rfl (w_A0 ?_))))))))))))))
    refine hS h4 s k d ss _ b4 (sq.frN f4 hno) h0 (by omega) fun ys hy hs hn hle h5 a5 b5 f5 _ e5 => ?_
    refine p_tupL e5 (w_A0 (p_mkTup (by simp) ?_))
    exact w_rtn (w_endR (q ⟨lo, mo, ys⟩ ⟨⟨l0, l9⟩, hmo, ⟨fun x hx => ns.n x (hs x hx), hn ns.nd, show ys.length ≤ 60 by omega⟩, List.length_pos_iff.mpr hy⟩ hs h5 b5 (f4.trans f5)))
  refine w_s (w_asg ?_)
  refine w_drc (k := k + ss.length + 4) hd 3 rfl rfl (by omega) (b.le (by omega)) fun j1 hj1 h1 b1 f1 _ => w_nam (w_nx (w_s (w_asg (w_if (w_cmpT ?_)))))
  refine w_drc (k := k + ss.length + 3) hd 2 rfl rfl (by omega) b1 fun j2 hj2 h2 b2 f2 _ => w_cst (p_eqI (w_asB ?_))
  have mid : ∀ (mo : Option Int) (h3 : VH), (∀ k, mo = some k → 0 ≤ k ∧ k ≤ 9) → Bud h3 s (k + ss.length + 2) → Fr [s] h h3 → wp (xSs [(xIf (xCmpT (eqQ false) (xN (ct 0) [(xLoc 0), (xCst (.int (Int.ofNat 4)))]) (xCst (.int (Int.ofNat 0)))) (xSs [(xAsg (xGt 2 [(xNam 2), (xNam 3)]) (xN mkTup [(xCst (.int (Int.ofNat 0))), (xCst (.int (Int.ofNat 0)))]))]) (xSs [])), (xRet (xN mkTup [(xLoc 2), (xLoc 3), (xU tupX (xN (ct (I 27)) [(xLoc 0), (xLoc 1)]))]))] [some (.ref s), some d, some (.int (j1 : Int)), some (moD mo)]) h3 fun f h1 => wp (endK f) h1 Q := by
    intro mo h3 hmo b3 f3
    refine w_s (w_if (w_cmpT ?_))
    refine w_drc (k := k + ss.length + 1) hd 4 rfl rfl (by omega) b3 fun j3 hj3 h4 b4 f4 _ => w_cst (p_eqI (w_asB (w_bif (fun e => ?_) (fun e => ?_))))
    · refine w_s (w_asg (w_N (w_A (w_cst (w_A (w_cst (w_A0 (p_mkTup (by simp) ?_))))))))
      refine w_gt rfl (w_gs (w_nam (w_gs (w_nam (w_gs0 (w_nx (w_s0 (w_nx ?_))))))))
      exact tail 0 (some 0) h4 (by omega) (by omega) (fun k hk => by cases hk; omega) b4 (f3.trans f4)
    · exact w_s0 (w_nx (tail j1 mo h4 (by omega) (by omega) hmo b4 (f3.trans f4)))
  refine w_bif (fun e => ?_) (fun e => ?_)
  · exact w_cst (w_nam (w_nx (mid none h2 (fun k hk => by cases hk) (b2.le (by omega)) (f1.trans f2))))
  · refine w_B (w_loc rfl (w_drc (k := k + ss.length + 2) hd 2 rfl rfl (by omega) b2 fun j3 hj3 h3 b3 f3 _ => p_add (w_nam (w_nx ?_))))
    exact mid (some ((j1 : Int) + (j3 : Int))) h3 (fun k hk => by cases hk; omega) b3 ((f1.trans f2).trans f3)
end
end PV
set_option Elab.async false
set_option linter.all false
set_option maxRecDepth 100000
set_option maxHeartbeats 2000000
set_option autoImplicit false
namespace PV
noncomputable section
open PySem
/-- one step -/
local macro_rules | `(tactic| walk_at "w") => `(tactic| first
  | with_reducible refine w_s ?_ | with_reducible refine w_s0 ?_ | with_reducible refine w_nx ?_ | with_reducible refine w_rtn ?_ | with_reducible refine w_endR ?_ | with_reducible refine w_endN ?_
  | with_reducible refine w_asg ?_ | with_reducible refine w_rt ?_ | with_reducible refine w_expr ?_ | with_reducible refine w_setE ?_ | with_reducible refine w_setF ?_ | with_reducible refine w_par ?_
  | with_reducible refine w_U ?_ | with_reducible refine w_B ?_ | with_reducible refine w_N ?_ | with_reducible refine w_A ?_ | with_reducible refine w_A0 ?_ | with_reducible refine w_cst ?_
  | ((with_reducible show wp (xLoc _ _) _ _); refine w_loc rfl ?_)
  | with_reducible refine w_and ?_ | with_reducible refine w_and1 ?_ | with_reducible refine w_or ?_ | with_reducible refine w_or1 ?_ | with_reducible refine w_not ?_ | with_reducible refine w_chn ?_ | with_reducible refine w_if ?_
  | with_reducible refine w_sl ?_ | with_reducible refine w_on ?_ | with_reducible refine w_os ?_ | with_reducible refine w_prp ?_ | with_reducible refine w_met ?_ | with_reducible refine w_cmpT ?_ | with_reducible refine w_chnT ?_
  | with_reducible refine w_andT ?_ | with_reducible refine w_andT1 ?_ | with_reducible refine w_orT ?_ | with_reducible refine w_orT1 ?_ | with_reducible refine w_notT ?_
  | with_reducible refine w_nam ?_ | ((with_reducible refine w_gt ?wl ?_); (case wl => exact rfl)) | with_reducible refine w_gs ?_ | with_reducible refine w_gs0 ?_ | with_reducible refine w_sub ?_
  | with_reducible refine w_bt ?_ | with_reducible refine w_bf ?_ | with_reducible refine w_tru ?_ | with_reducible refine w_asB ?_ | with_reducible refine w_ret ?_
  | with_reducible refine p_le ?_ | with_reducible refine p_lt ?_ | with_reducible refine p_gt ?_ | with_reducible refine p_ge ?_ | with_reducible refine p_eqI ?_ | with_reducible refine p_neI ?_ | with_reducible refine p_eqS ?_ | with_reducible refine p_neS ?_
  | with_reducible refine p_is ?_ | with_reducible refine p_isnt ?_ | with_reducible refine p_add ?_ | with_reducible refine p_asI ?_ | with_reducible refine p_lenT ?_ | with_reducible refine p_lenS ?_)
/-- a primitive that reckons -/
local macro_rules | `(tactic| walk_at "r") => `(tactic| refine w_run rfl ?_)
/-! ### the rules of a kind are drawn -/
theorem p_eqL {h : VH} {a b : Nat} {xs ys : List (List Nat)} {Q : D → VH → Prop} (ea : h.get a = some (.lst (xs.map .str))) (eb : h.get b = some (.lst (ys.map .str))) (q : Q (.bl (decide (xs = ys))) h) : wp (eqQ false (.ref a) (.ref b)) h Q := by
  refine w_run (a := .bl (decide (xs = ys))) (h' := h) ?_ q
  show eqM false (.ref a) (.ref b) h = _
  unfold eqM
  have d1 : isDt 64 h (.ref a) = true := by unfold isDt; simp only [ea]; exact all_isDt xs
  have d2 : isDt 64 h (.ref b) = true := by unfold isDt; simp only [eb]; exact all_isDt ys
  have e : eqF 64 h (.ref a) (.ref b) = decide (xs = ys) := by
    unfold eqF
    simp only [ea, eb]
    clear d1 d2 ea eb q
    induction xs generalizing ys with
    | nil => cases ys with
      | nil => rfl
      | cons y r => rfl
    | cons x r ih => cases ys with
      | nil => rfl
      | cons y t =>
        rw [List.map_cons, List.map_cons]
        unfold eqL
        rw [ih]
        have e2 : eqF 63 h (.str x) (.str y) = eqS x y := by unfold eqF; rfl
        rw [e2]
        by_cases z : x = y
        · subst z; rw [(eqS_iff x x).mpr rfl]; simp
        · have : eqS x y = false := by cases q : eqS x y with | false => rfl | true => exact absurd ((eqS_iff _ _).mp q) z
          rw [this]; simp [z]
  rw [d1, d2, e]
  rfl
structure RulesOk (ss ks hand parts : List (List Nat)) (cls : List Cl) (last : List Nat) : Prop where
  hs : ∀ x, x ∈ hand → x ∈ ss
  hn : hand.Nodup
  hl : hand.length ≤ ss.length
  ps : parts.Sublist ks
  ne : 0 < hand.length + parts.length
  cl : cls.length ≤ 3
  cs : ∀ c, c ∈ cls → ClOk c ∧ c.st ∈ ss ∧ ∀ d, d ∈ c.cs → ∀ x, x ∈ d.ss → x ∈ ss
  la : last ∈ ss
def DRulesSp (f : List D → M D) : Prop := ∀ (h : VH) (s k : Nat) (d1 d2 : D) (ss ks : List (List Nat)) (Q : D → VH → Prop), Bud h s (k + 200) → SeqAt h d1 (ss.map .str) → SeqAt h d2 (ks.map .str) → Nms ss → 0 < ss.length → ss.length ≤ 8 → ks.length ≤ 8 →
  (∀ hand parts cls last, RulesOk ss ks hand parts cls last → ∀ h' a1 a2 a3, Bud h' s k → Fr [s] h h' → h.n ≤ a1 → h.n ≤ a2 → h.n ≤ a3 → h'.get a1 = some (.lst (hand.map .str)) → h'.get a2 = some (.lst (parts.map .str)) → h'.get a3 = some (.lst (cls.map Cl.d)) → Q (.tup [.ref a1, .ref a2, .ref a3, .str last]) h') → wp (f [.ref s, d1, d2]) h Q
theorem sub_map {ys : List D} {ss : List (List Nat)} (s : ys.Sublist (ss.map D.str)) : ∃ zs : List (List Nat), zs.Sublist ss ∧ ys = zs.map D.str := by
  obtain ⟨zs, h1, h2⟩ := List.sublist_map_iff.mp s
  exact ⟨zs, h1, h2⟩
theorem drules_sp {I : Nat → Nat} {ct : CT} (hd : IsDraw ct) (hP : PickSp (ct (I 22))) (hS : SubsetSp (ct (I 24))) (hC : DCondSp (ct (I 28))) : DRulesSp (runK 3 9 (kf__law_rules I ct)) := by
  intro h s k d1 d2 ss ks Q b sq1 sq2 ns h0 h8 hk8 q
  have hno := b.no
  have hsn := b.lt
  refine w_call rfl ?_
  unfold kf__law_rules
  -- the clauses and the rest
  have tail : ∀ (a1 a2 : Nat) (hand parts : List (List Nat)) (h3 : VH), (∀ x, x ∈ hand → x ∈ ss) → hand.Nodup → hand.length ≤ ss.length → parts.Sublist ks → 0 < hand.length + parts.length → Bud h3 s (k + 150) → Fr [s] h h3 → h.n ≤ a1 → h.n ≤ a2 → h3.get a1 = some (.lst (hand.map .str)) → h3.get a2 = some (.lst (parts.map .str)) →
      wp (xSs [(xAsg (xNam 3) (xN mkLst [])), (xFor (xU rngI1 (xN (ct 0) [(xLoc 0), (xCst (.int (Int.ofNat 4)))])) (xNam 4) (xSs [(xSetE 7 (xLc (xU rngI1 (xN (ct 0) [(xLoc 0), (xCst (.int (Int.ofNat 3)))])) (xNam 8) none (xN (ct (I 28)) [(xLoc 0), (xLoc 1)]) [8])), (xExpr (xMth (mtM 1 1 appM appM) (xLoc 3) [(xN mkTup [(xN (ct (I 22)) [(xLoc 0), (xLoc 1)]), (xU tupX (xLoc 7))])]))])), (xRet (xN mkTup [(xLoc 5), (xLoc 6), (xLoc 3), (xN (ct (I 22)) [(xLoc 0), (xLoc 1)])]))]
        [some (.ref s), some d1, some d2, none, none, some (.ref a1), some (.ref a2), none, none]) h3 fun f h1 => wp (endK f) h1 Q := by
    intro a1 a2 hand parts h3 g1 g2 g3 g4 g5 b3 f3 n1 n2 e1 e2
    refine w_s (w_asg (w_N (w_A0 (p_mkLst (by simp) (w_nam (w_nx ?_))))))
    have sn3 : s < h3.n := b3.lt
    have e4 : (h3.new (.lst [])).get h3.n = some (.lst []) := new_get
    have b4 : Bud (h3.new (.lst [])) s (k + 150) := b3.new
    have f4 : Fr [s] h (h3.new (.lst [])) := f3.trans .new
    have e14 := (Fr.new (S := []) (o := .lst [])).get e1 (by simp)
    have e24 := (Fr.new (S := []) (o := .lst [])).get e2 (by simp)
    have na1 : a1 ≠ h3.n := Nat.ne_of_lt (VH.get_lt e1)
    have na2 : a2 ≠ h3.n := Nat.ne_of_lt (VH.get_lt e2)
    have n3 : h.n ≤ h3.n := f3.1
    generalize h3.new (.lst []) = h4 at e4 b4 f4 e14 e24
    generalize h3.n = fl at e4 na1 na2 n3 sn3
    refine w_s (w_for (w_U ?_))
    refine w_drc (k := k + 149) hd 4 rfl rfl (by omega) b4 fun m hm h5 b5 f5 _ => ?_
    refine w_rng (by omega) fun st hlk hgo hen => ⟨hlk, ?_⟩
    have hs1 : ∀ a, h.n ≤ a → a ∉ [s] := fun a ha z => by simp at z; omega
    refine w_loopK m (fun i env h' => (∃ x4 x7 x8, env = [some (.ref s), some d1, some d2, some (.ref fl), x4, some (.ref a1), some (.ref a2), x7, x8]) ∧ ∃ cls : List Cl, cls.length = i ∧ (∀ c, c ∈ cls → ClOk c ∧ c.st ∈ ss ∧ ∀ d, d ∈ c.cs → ∀ x, x ∈ d.ss → x ∈ ss) ∧ h'.get fl = some (.lst (cls.map Cl.d)) ∧ Bud h' s (k + 149 - 40 * i) ∧ Fr [fl, s] h4 h') (fun i env h6 hi hI => ?_) (fun env h6 hI => ?_) turns 0 _ _ (by show _ < 0 + 1000000; omega) (Nat.zero_le _) ⟨⟨none, none, none, rfl⟩, [], rfl, (fun c z => by cases z), f5.get e4 (hs1 fl n3), b5, f5.mono fun x z => List.mem_cons_of_mem _ z⟩
    · obtain ⟨⟨x4, x7, x8, rfl⟩, cls, hcl, hcs, e6, b6, f6⟩ := hI
      have f6' : Fr [fl, s] h h6 := (f4.mono fun x z => List.mem_cons_of_mem _ z).trans f6
      have f6s : Fr [s] h h6 := f6'.cut n3
      refine ⟨_, hgo i h6 hi, ?_⟩
      refine w_nam (w_s (w_setE (w_lc (w_U ?_))))
      refine w_drc (k := k + 148 - 40 * i) hd 3 rfl rfl (by omega) (b6.le (by omega)) fun n hn h7 b7 f7 _ => ?_
      refine w_rng (by omega) fun st2 hlk2 hgo2 hen2 => ⟨hlk2, ?_⟩
      refine w_lcK n (fun j acc h' => ∃ cs : List Cd, acc = (cs.map Cd.d).reverse ∧ cs.length = j ∧ (∀ c, c ∈ cs → CdOk c ∧ ∀ x, x ∈ c.ss → x ∈ ss) ∧ Bud h' s (k + 148 - 40 * i - 13 * j) ∧ Fr [s] h7 h') (fun j acc h8 hj hJ => ?_) (fun acc h8 hJ => ?_) turns 0 [] _ (by show _ < 0 + 1000000; omega) (Nat.zero_le _) ⟨[], rfl, rfl, (fun c z => by cases z), b7, .refl⟩
      · obtain ⟨cs, rfl, hc1, hc2, b8, f8⟩ := hJ
        refine ⟨_, hgo2 j h8 hj, ?_⟩
        refine w_nam (w_tn (w_bt (w_N (w_A (w_loc rfl (w_A (w_loc rfl (w_A0 ?_))))))))
        refine hC h8 s (k + 148 - 40 * i - 13 * (j + 1)) d1 ss _ (b8.le (by omega)) (sq1.frN ((f6s.trans f7).trans f8) hno) ns h0 fun c okc hcx h9 b9 f9 => ?_
        refine ⟨cs ++ [c], by simp, by simp [hc1], fun y hy => ?_, b9, f8.trans f9⟩
        rcases List.mem_append.mp hy with z | z
        · exact hc2 y z
        · simp at z; rw [z]; exact ⟨okc, hcx⟩
      · obtain ⟨cs, rfl, hc1, hc2, b8, f8⟩ := hJ
        refine ⟨hen2 h8, ?_⟩
        rw [List.reverse_reverse]
        have f8' : Fr [s] h6 h8 := f7.trans f8
        have e8 := f8'.get e6 (hs1 fl n3)
        have e9 := (Fr.new (S := []) (o := .lst (cs.map Cd.d))).get e8 (by simp)
        have b9 : Bud (h8.new (.lst (cs.map Cd.d))) s (k + 148 - 40 * i - 13 * n) := b8.new
        have f9 : Fr [s] h6 (h8.new (.lst (cs.map Cd.d))) := f8'.trans .new
        have ecs : (h8.new (.lst (cs.map Cd.d))).get h8.n = some (.lst (cs.map Cd.d)) := new_get
        have nfl : h.n ≤ h8.n := (f6s.trans f8').1
        generalize h8.new (.lst (cs.map Cd.d)) = h9 at e9 b9 f9 ecs
        generalize h8.n = l8 at ecs nfl
        refine w_nx (w_s (w_expr (w_mth (w_loc rfl (.inl ⟨mt_lst e9, w_A (w_N (w_A (w_N (w_A (w_loc rfl (w_A (w_loc rfl (w_A0 ?_))))))))⟩)))))
        refine hP h9 s (k + 147 - 40 * i - 13 * n) d1 _ _ (b9.le (by omega)) (sq1.frN (f6s.trans f9) hno) (by simpa using h0) (by simp; omega) fun x hx h10 b10 f10 => ?_
        obtain ⟨y, hy, rfl⟩ := List.mem_map.mp hx
        refine w_A (w_U (w_loc rfl (p_tupL (f10.get ecs (hs1 l8 nfl)) (w_A0 (p_mkTup (by simp) (w_A0 ?_))))))
        have e10 := f10.get e9 (hs1 fl n3)
        refine p_app e10 (by simp; omega) ?_
        refine w_nx (w_s0 ⟨⟨_, _, _, rfl⟩, cls ++ [⟨y, cs⟩], by simp [hcl], fun c hc => ?_, ?_, ?_, ?_⟩)
        · rcases List.mem_append.mp hc with z | z
          · exact hcs c z
          · simp at z
            subst z
            exact ⟨⟨ns.n y hy, show cs.length ≤ 4 by omega, fun d hd => (hc2 d hd).1⟩, hy, fun d hd => (hc2 d hd).2⟩
        · rw [set_get (VH.get_lt e10), List.map_append]
          rfl
        · exact (b10.le (by omega)).fr (Fr.set (S := [fl]) (VH.get_lt e10) List.mem_cons_self) (by simp; omega)
        · exact (f6.trans ((f9.trans f10).mono fun x z => List.mem_cons_of_mem _ z)).trans (Fr.set (VH.get_lt e10) List.mem_cons_self)
    · obtain ⟨⟨x4, x7, x8, rfl⟩, cls, hcl, hcs, e6, b6, f6⟩ := hI
      have f6' : Fr [fl, s] h h6 := (f4.mono fun x z => List.mem_cons_of_mem _ z).trans f6
      have f6s : Fr [s] h h6 := f6'.cut n3
      refine ⟨hen h6, ?_⟩
      refine w_nx (w_s (w_rt (w_N (w_A (w_loc rfl (w_A (w_loc rfl (w_A (w_loc rfl (w_A (w_N (w_A (w_loc rfl (w_A (w_loc rfl (w_A0 ?_))))))))))))))))
      refine hP h6 s (k + 148 - 40 * m) d1 _ _ (b6.le (by omega)) (sq1.frN f6s hno) (by simpa using h0) (by simp; omega) fun x hx h10 b10 f10 => ?_
      obtain ⟨y, hy, rfl⟩ := List.mem_map.mp hx
      refine w_A0 (p_mkTup (by simp) (w_rtn (w_endR ?_)))
      refine q hand parts cls y ⟨g1, g2, g3, g4, g5, by omega, hcs, hy⟩ h10 a1 a2 fl (b10.le (by omega)) (f6s.trans f10) n1 n2 n3 ?_ ?_ ?_
      · exact f10.get (f6.get e14 (by simp; exact ⟨na1, by omega⟩)) (hs1 a1 n1)
      · exact f10.get (f6.get e24 (by simp; exact ⟨na2, by omega⟩)) (hs1 a2 n2)
      · exact f10.get e6 (hs1 fl n3)
  refine w_s (w_par (w_N (w_A (w_loc rfl (w_A (w_loc rfl (w_A0 ?_)))))))
  refine hS h s (k + 180) d1 _ _ (b.le (by simp; omega)) sq1 (by simp; omega) fun ys1 sub1 h1 a1 b1 f1 n1 e1 => ?_
  refine w_N (w_A (w_loc rfl (w_A (w_loc rfl (w_A0 ?_)))))
  refine hS h1 s (k + 160) d2 _ _ (b1.le (by simp; omega)) (sq2.frN f1 hno) (by simp; omega) fun ys2 sub2 h2 a2 b2 f2 n2 e2 => ?_
  obtain ⟨hand, hs1, rfl⟩ := sub_map sub1
  obtain ⟨parts, hs2, rfl⟩ := sub_map sub2
  have n2' : h.n ≤ a2 := Nat.le_trans f1.1 n2
  have na : ∀ a, h.n ≤ a → a ∉ [s] := fun a ha z => by simp at z; omega
  have e12 := f2.get e1 (na a1 n1)
  have f12 := f1.trans f2
  have hnd : hand.Nodup := ns.nd.sublist hs1
  -- hand states are drawn
  have one : ∀ h5 : VH, Bud h5 s (k + 155) → Fr [s] h h5 → h5.get a2 = some (.lst (parts.map .str)) → wp (xSs [(xAsg (xNam 5) (xN mkLst [(xN (ct (I 22)) [(xLoc 0), (xLoc 1)])]))] [some (.ref s), some d1, some d2, none, none, some (.ref a1), some (.ref a2), none, none]) h5 (nxt (fun f h1 => wp (endK f) h1 Q) fun e h1 => wp (xSs [(xAsg (xNam 3) (xN mkLst [])), (xFor (xU rngI1 (xN (ct 0) [(xLoc 0), (xCst (.int (Int.ofNat 4)))])) (xNam 4) (xSs [(xSetE 7 (xLc (xU rngI1 (xN (ct 0) [(xLoc 0), (xCst (.int (Int.ofNat 3)))])) (xNam 8) none (xN (ct (I 28)) [(xLoc 0), (xLoc 1)]) [8])), (xExpr (xMth (mtM 1 1 appM appM) (xLoc 3) [(xN mkTup [(xN (ct (I 22)) [(xLoc 0), (xLoc 1)]), (xU tupX (xLoc 7))])]))])), (xRet (xN mkTup [(xLoc 5), (xLoc 6), (xLoc 3), (xN (ct (I 22)) [(xLoc 0), (xLoc 1)])]))] e) h1 fun f h1 => wp (endK f) h1 Q) := by
    intro h5 b5 f5 e5
    refine w_s (w_asg (w_N (w_A (w_N (w_A (w_loc rfl (w_A (w_loc rfl (w_A0 ?_)))))))))
    refine hP h5 s (k + 154) d1 _ _ b5 (sq1.frN f5 hno) (by simpa using h0) (by simp; omega) fun x hx h6 b6 f6 => ?_
    obtain ⟨y, hy, rfl⟩ := List.mem_map.mp hx
    refine w_A0 (p_mkLst (by simp) (w_nam (w_nx (w_s0 (w_nx ?_)))))
    refine tail h6.n a2 [y] parts _ (fun x hx => by simp at hx; rw [hx]; exact hy) (by simp) (by show 1 ≤ ss.length; omega) hs2 (by simp; omega) (b6.le (by omega)).new ((f5.trans f6).trans .new) (f5.trans f6).1 n2' new_get ?_
    exact (Fr.new (S := [])).get (f6.get e5 (na a2 n2')) (by simp)
  refine w_nx (w_s (w_if (w_andT (w_cmpT (w_loc rfl (w_N (w_A0 (p_mkLst (by simp) ?_))))))))
  have e13 := (Fr.new (S := []) (o := .lst [])).get e12 (by simp)
  have e23 := (Fr.new (S := []) (o := .lst [])).get e2 (by simp)
  have b3 : Bud (h2.new (.lst [])) s (k + 160) := b2.new
  have f3 : Fr [s] h (h2.new (.lst [])) := f12.trans .new
  have ez : (h2.new (.lst [])).get h2.n = some (.lst (([] : List (List Nat)).map .str)) := new_get
  generalize h2.new (.lst []) = h3 at e13 e23 b3 f3 ez
  generalize h2.n = z2 at ez
  refine p_eqL e13 ez (w_asB (w_bif (fun c1 => ?_) (fun c1 => ?_)))
  · have c1' : hand = [] := of_decide_eq_true c1
    subst c1'
    refine w_andT1 (w_orT (w_cmpT (w_loc rfl (w_N (w_A0 (p_mkLst (by simp) ?_))))))
    have e24 := (Fr.new (S := []) (o := .lst [])).get e23 (by simp)
    have e14 := (Fr.new (S := []) (o := .lst [])).get e13 (by simp)
    have b4 : Bud (h3.new (.lst [])) s (k + 160) := b3.new
    have f4 : Fr [s] h (h3.new (.lst [])) := f3.trans .new
    have ey : (h3.new (.lst [])).get h3.n = some (.lst (([] : List (List Nat)).map .str)) := new_get
    generalize h3.new (.lst []) = h4 at e24 e14 b4 f4 ey
    generalize h3.n = z3 at ey
    refine p_eqL e24 ey (w_asB (w_bif (fun c2 => ?_) (fun c2 => ?_)))
    · exact w_bt (one h4 (b4.le (by omega)) f4 e24)
    · refine w_orT1 (w_cmpT (w_drc (k := k + 159) hd 3 rfl rfl (by omega) b4 fun j hj h5 b5 f5 _ => w_cst (p_gt (w_asB (w_bif (fun c3 => ?_) (fun c3 => ?_))))))
      · exact one h5 (b5.le (by omega)) (f4.trans f5) (f5.get e24 (na a2 n2'))
      · refine w_s0 (w_nx (tail a1 a2 [] parts h5 (fun x z => by cases z) .nil (Nat.zero_le _) hs2 ?_ (b5.le (by omega)) (f4.trans f5) n1 n2' (f5.get e14 (na a1 n1)) (f5.get e24 (na a2 n2'))))
        have := of_decide_eq_false c2
        cases parts with
        | nil => exact absurd rfl this
        | cons x r => simp
  · refine w_bf (w_s0 (w_nx (tail a1 a2 hand parts h3 (fun x hx => hs1.subset hx) hnd hs1.length_le hs2 ?_ (b3.le (by omega)) f3 n1 n2' e13 e23)))
    have := of_decide_eq_false c1
    cases hand with
    | nil => exact absurd rfl this
    | cons x r => simp; omega
end
end PV
set_option Elab.async false
set_option linter.all false
set_option maxRecDepth 100000
set_option maxHeartbeats 2000000
set_option autoImplicit false
namespace PV
noncomputable section
open PySem
/-- one step -/
local macro_rules | `(tactic| walk_at "w") => `(tactic| first
  | with_reducible refine w_s ?_ | with_reducible refine w_s0 ?_ | with_reducible refine w_nx ?_ | with_reducible refine w_rtn ?_ | with_reducible refine w_endR ?_ | with_reducible refine w_endN ?_
  | with_reducible refine w_asg ?_ | with_reducible refine w_rt ?_ | with_reducible refine w_expr ?_ | with_reducible refine w_setE ?_ | with_reducible refine w_setF ?_ | with_reducible refine w_par ?_
  | with_reducible refine w_U ?_ | with_reducible refine w_B ?_ | with_reducible refine w_N ?_ | with_reducible refine w_A ?_ | with_reducible refine w_A0 ?_ | with_reducible refine w_cst ?_
  | ((with_reducible show wp (xLoc _ _) _ _); refine w_loc rfl ?_)
  | with_reducible refine w_and ?_ | with_reducible refine w_and1 ?_ | with_reducible refine w_or ?_ | with_reducible refine w_or1 ?_ | with_reducible refine w_not ?_ | with_reducible refine w_chn ?_ | with_reducible refine w_if ?_
  | with_reducible refine w_sl ?_ | with_reducible refine w_on ?_ | with_reducible refine w_os ?_ | with_reducible refine w_prp ?_ | with_reducible refine w_met ?_ | with_reducible refine w_cmpT ?_ | with_reducible refine w_chnT ?_
  | with_reducible refine w_andT ?_ | with_reducible refine w_andT1 ?_ | with_reducible refine w_orT ?_ | with_reducible refine w_orT1 ?_ | with_reducible refine w_notT ?_
  | with_reducible refine w_nam ?_ | ((with_reducible refine w_gt ?wl ?_); (case wl => exact rfl)) | with_reducible refine w_gs ?_ | with_reducible refine w_gs0 ?_ | with_reducible refine w_sub ?_
  | with_reducible refine w_bt ?_ | with_reducible refine w_bf ?_ | with_reducible refine w_tru ?_ | with_reducible refine w_asB ?_ | with_reducible refine w_ret ?_
  | with_reducible refine p_le ?_ | with_reducible refine p_lt ?_ | with_reducible refine p_gt ?_ | with_reducible refine p_ge ?_ | with_reducible refine p_eqI ?_ | with_reducible refine p_neI ?_ | with_reducible refine p_eqS ?_ | with_reducible refine p_neS ?_
  | with_reducible refine p_is ?_ | with_reducible refine p_isnt ?_ | with_reducible refine p_add ?_ | with_reducible refine p_asI ?_ | with_reducible refine p_lenT ?_ | with_reducible refine p_lenS ?_)
/-- a primitive that reckons -/
local macro_rules | `(tactic| walk_at "r") => `(tactic| refine w_run rfl ?_)
/-! ### the law's own counting -/
theorem w_enL {h : VH} {a : Nat} {xs : List D} {Q : Stp → VH → Prop} (e : h.get a = some (.lst xs)) (q : ∀ st : Stp, st.lk = none → (∀ i h' (hi : i < xs.length), h'.get a = some (.lst xs) → st.go i h' = some (some (.tup [.int i, xs[i]]))) → (∀ h', h'.get a = some (.lst xs) → st.go xs.length h' = some none) → Q st h) : wp (enumK (.ref a)) h Q := by
  refine w_run (a := stpEK (.ref a)) (h' := h) ?_ (q _ rfl (fun i h' hi e2 => ?_) fun h' e2 => ?_)
  · unfold enumK itemsD
    simp only [e]
  · unfold stpEK itemsD
    simp only [e2]
    rw [nth_eq, List.getElem?_eq_getElem hi]
    rfl
  · unfold stpEK itemsD
    simp only [e2]
    rw [nth_eq, List.getElem?_eq_none (Nat.le_refl _), Nat.beq_refl]
    rfl
theorem count_split (x : List Nat) : ∀ (xs ss : List (List Nat)), x ∉ ss → (xs.filter fun y => decide (y ∈ x :: ss)).length = xs.count x + (xs.filter fun y => decide (y ∈ ss)).length
  | [], ss, _ => rfl
  | y :: r, ss, hx => by
    have ih := count_split x r ss hx
    rw [List.filter_cons, List.filter_cons, List.count_cons]
    by_cases e : y = x
    · subst e
      simp only [List.mem_cons, true_or, decide_true, if_true, beq_self_eq_true, List.length_cons, decide_eq_false hx]
      simp only [List.mem_cons] at ih
      rw [ih]
      simp; omega
    · have e1 : (y == x) = false := by rw [beq_eq_false_iff_ne]; exact e
      simp only [List.mem_cons] at ih ⊢
      rw [e1]
      by_cases e2 : y ∈ ss
      · simp [e, e2] at ih ⊢; omega
      · simp [e, e2] at ih ⊢; omega
theorem sum_occ {xs : List (List Nat)} : ∀ {ss : List (List Nat)}, ss.Nodup → ((xs.filter fun y => decide (y ∈ ss)).length : Int) = (ss.map (occ xs)).sum
  | [], _ => by simp
  | x :: r, hn => by
    rw [count_split x xs r (List.nodup_cons.mp hn).1, List.map_cons, List.sum_cons, ← sum_occ (List.nodup_cons.mp hn).2]
    unfold occ
    simp
theorem fm_filter (p : List Nat → Bool) : ∀ xs : List (List Nat), xs.filterMap (fun t => if p t then some (D.str t) else none) = (xs.filter p).map D.str
  | [] => rfl
  | t :: r => by
    rw [List.filterMap_cons, List.filter_cons]
    have ih := fm_filter p r
    cases e : p t with
    | true => simp [ih]
    | false => simp [ih]
def LIndexSp (f : List D → M D) : Prop := ∀ (h : VH) (x y z st : D) (a : Nat) (cls : List Cl) (xs : List (List Nat)) (Q : D → VH → Prop), h.get a = some (.lst (cls.map Cl.d)) → (∀ c, c ∈ cls → ClOk c) → cls.length ≤ 100 → SeqAt h st (xs.map .str) → xs.length < 1000 → (∀ h', Fr [] h h' → Q (.int (idxM (occ xs) cls)) h') → wp (f [.tup [x, y, .ref a, z], st]) h Q
theorem p_ix4 {h : VH} {a b c d : D} {Q : D → VH → Prop} : (Q c h → wp (ixM (.tup [a, b, c, d]) (.int (Int.ofNat 2))) h Q) ∧ (Q d h → wp (ixM (.tup [a, b, c, d]) (.int (Int.ofNat 3))) h Q) := ⟨fun q => q, fun q => q⟩
theorem lindex_sp {I : Nat → Nat} {ct : CT} : LIndexSp (runK 2 11 (kf__law_index I ct)) := by
  intro h x y z st a cls xs Q ha ok hl sq hx q
  refine w_call rfl ?_
  unfold kf__law_index
  refine w_s (w_for (w_U (w_B (w_loc rfl (w_cst (p_ix4.1 ?_))))))
  refine w_enL ha fun stp hlk hgo hen => ⟨hlk, ?_⟩
  have lenD : (cls.map Cl.d).length = cls.length := List.length_map _
  refine w_loopK (cls.map Cl.d).length (fun i env h' => (∃ x2 x3 x4 x5 x6 x7 x8 x9 x10, env = [some (.tup [x, y, .ref a, z]), some st, x2, x3, x4, x5, x6, x7, x8, x9, x10]) ∧ Fr [] h h' ∧ ∀ j (hj : j < cls.length), j < i → cls[j].fits (occ xs) = false) (fun i env h1 hi hI => ?_) (fun env h1 hI => ?_) turns 0 _ _ (by show _ < 0 + 1000000; omega) (Nat.zero_le _) ⟨⟨_, _, _, _, _, _, _, _, _, rfl⟩, .refl, fun j hj z => absurd z (Nat.not_lt_zero _)⟩
  · obtain ⟨⟨x2, x3, x4, x5, x6, x7, x8, x9, x10, rfl⟩, f1, hj⟩ := hI
    have hi2 : i < cls.length := by omega
    have okc := ok cls[i] (List.getElem_mem hi2)
    refine ⟨_, hgo i h1 hi (f1.get ha (by simp)), ?_⟩
    rw [show (cls.map Cl.d)[i] = .tup [.str cls[i].st, .tup (cls[i].cs.map Cd.d)] by rw [List.getElem_map]; rfl]
    generalize hcs : cls[i].cs = cs
    refine w_gt rfl (w_gs (w_nam (w_gs (w_gt rfl (w_gs (w_nam (w_gs (w_nam (w_gs0 (w_gs0 ?_))))))))))
    refine w_s (w_asg (w_N (w_A0 (p_mkLst (by simp) (w_nam (w_nx ?_))))))
    have e2 : (h1.new (.lst [])).get h1.n = some (.lst []) := new_get
    have f2 : Fr [] h (h1.new (.lst [])) := f1.trans .new
    have n2 : h.n ≤ h1.n := f1.1
    generalize h1.new (.lst []) = h2 at e2 f2
    generalize h1.n = fl at e2 n2
    refine w_s (w_for (w_U (w_loc rfl ?_)))
    refine w_run (a := stpLK (cs.map Cd.d)) (h' := h2) rfl ⟨rfl, ?_⟩
    have okcs : ∀ c, c ∈ cs → CdOk c := fun c hc => okc.cs c (by rw [hcs]; exact hc)
    have lcs : cs.length ≤ 4 := by rw [← hcs]; exact okc.l
    refine w_loopK cs.length (fun j env h' => (∃ x6 x7 x8 x9 x10, env = [some (.tup [x, y, .ref a, z]), some st, some (.int i), some (.ref fl), some (.str cls[i].st), some (.tup (cs.map Cd.d)), x6, x7, x8, x9, x10]) ∧ Fr [fl] h2 h' ∧ h'.get fl = some (.lst ((cs.take j).map fun c => .bl (c.holds (occ xs))))) (fun j env h3 hj3 hJ => ?_) (fun env h3 hJ => ?_) turns 0 _ _ (by show _ < 0 + 1000000; omega) (Nat.zero_le _) ⟨⟨_, _, _, _, _, rfl⟩, .refl, e2⟩
    · obtain ⟨⟨y6, y7, y8, y9, y10, rfl⟩, f3, e3⟩ := hJ
      have hcd : ∀ b, st = .ref b → b ∉ [fl] := fun b eb z2 => by
        rcases sq with w | ⟨c, w, e⟩
        · rw [eb] at w; cases w
        · rw [eb] at w; cases w
          have := VH.get_lt e
          simp at z2; omega
      have sq3 : SeqAt h3 st (xs.map .str) := (sq.fr0 f2).fr f3 hcd
      have okd := okcs cs[j] (List.getElem_mem hj3)
      refine ⟨cs[j].d, by show some (nth j (cs.map Cd.d)) = _; rw [nth_eq, List.getElem?_map, List.getElem?_eq_getElem hj3]; rfl, ?_⟩
      rw [show cs[j].d = .tup [.int cs[j].lo, moD cs[j].mo, .tup (cs[j].ss.map .str)] from rfl]
      refine w_gt rfl (w_gs (w_nam (w_gs (w_nam (w_gs (w_nam (w_gs0 ?_)))))))
      refine w_s (w_asg (w_U (w_lc (w_U (w_loc rfl ?_)))))
      refine w_seqI sq3 fun st2 hlk2 hgo2 => ⟨hlk2, ?_⟩
      refine w_lcfT (S := []) xs .str (fun t => if decide (t ∈ cs[j].ss) then some (.str t) else none) (by omega) (fun i h' fr => hgo2 i h' (sq3.fr0 fr)) (fun t ht h4 f4 R hR => ?_) (fun h4 f4 => ?_)
      · refine w_nam (w_ts (w_cmpT (w_loc rfl (w_loc rfl (p_inT (.inl rfl) (w_asB ?_))))))
        have zz := hR h4 .refl
        by_cases e5 : t ∈ cs[j].ss
        · rw [decide_eq_true e5] at zz ⊢
          exact w_loc rfl zz
        · rw [decide_eq_false e5] at zz ⊢
          exact zz
      · have efm := fm_filter (fun t => decide (t ∈ cs[j].ss)) xs
        rw [efm, List.reverse_reverse]
        have e5 := (f4.trans (Fr.new (o := .lst ((xs.filter fun t => decide (t ∈ cs[j].ss)).map D.str)))).get e3 (by simp)
        have f5 : Fr [fl] h2 (h4.new (.lst ((xs.filter fun t => decide (t ∈ cs[j].ss)).map D.str))) := f3.trans ((f4.mono fun _ z => by cases z).trans .new)
        have el : (h4.new (.lst ((xs.filter fun t => decide (t ∈ cs[j].ss)).map D.str))).get h4.n = some (.lst ((xs.filter fun t => decide (t ∈ cs[j].ss)).map D.str)) := new_get
        generalize h4.new (.lst ((xs.filter fun t => decide (t ∈ cs[j].ss)).map D.str)) = h5 at e5 f5 el
        refine p_lenL el (w_nam (w_nx ?_))
        rw [List.length_map, sum_occ okd.ss.nd]
        have fin : ∀ bv : Bool, bv = cs[j].holds (occ xs) → wp (appM (.ref fl) [.bl bv]) h5 (fun a h' => a = .non ∧ Fr [fl] h2 h' ∧ h'.get fl = some (.lst ((cs.take (j + 1)).map fun c => .bl (c.holds (occ xs))))) := by
          intro bv hbv
          refine p_app e5 (by simp; omega) ⟨rfl, f5.trans (Fr.set (VH.get_lt e5) List.mem_cons_self), ?_⟩
          rw [set_get (VH.get_lt e5), hbv, List.take_succ, List.getElem?_eq_getElem hj3, List.map_append]
          rfl
        refine w_s (w_expr (w_mth (w_loc rfl (.inl ⟨mt_lst e5, w_A (w_and (w_B (w_loc rfl (w_loc rfl (p_le (w_tru (w_bif (fun c1 => ?_) (fun c1 => ?_))))))))⟩))))
        · refine w_and1 (w_or (w_B (w_loc rfl (w_cst (p_is (w_tru ?_))))))
          rw [isNon_mo]
          cases em : cs[j].mo with
          | none =>
            refine w_bt (w_A0 (wp_mono (fin true ?_) fun a h' w => ?_))
            · unfold Cd.holds moB; rw [em, c1]; rfl
            · exact w_nx (w_s0 ⟨⟨_, _, _, _, _, rfl⟩, w.2.1, w.2.2⟩)
          | some k =>
            refine w_bf (w_or1 (w_B (w_loc rfl (w_loc rfl (p_le (w_A0 (wp_mono (fin _ ?_) fun a h' w => ?_)))))))
            · unfold Cd.holds moB; rw [em, c1]; rfl
            · exact w_nx (w_s0 ⟨⟨_, _, _, _, _, rfl⟩, w.2.1, w.2.2⟩)
        · refine w_A0 (wp_mono (fin _ ?_) fun a h' w => ?_)
          · unfold Cd.holds; rw [c1]; rfl
          · exact w_nx (w_s0 ⟨⟨_, _, _, _, _, rfl⟩, w.2.1, w.2.2⟩)
    · obtain ⟨⟨y6, y7, y8, y9, y10, rfl⟩, f3, e3⟩ := hJ
      refine ⟨by show some (nth cs.length (cs.map Cd.d)) = _; rw [nth_eq, List.getElem?_eq_none (by simp)], ?_⟩
      rw [List.take_length] at e3
      refine w_nx (w_s (w_if (w_U (w_U (w_loc rfl (p_all (bs := cs.map fun c => c.holds (occ xs)) (by rw [e3, List.map_map]; rfl) (w_tru ?_)))))))
      have hf : (cs.map fun c => c.holds (occ xs)).all id = cls[i].fits (occ xs) := by
        unfold Cl.fits; rw [hcs, List.all_map]; rfl
      rw [hf]
      have f4 : Fr [] h h3 := ((f2.mono fun _ z => by cases z).trans f3).cut n2
      refine w_bif (fun c1 => ?_) (fun c1 => ?_)
      · refine w_s (w_rt (w_loc rfl (w_rtn (w_rtn ?_))))
        rw [idx_at hi2 hj c1] at q
        exact w_endR (q _ f4)
      · refine w_s0 (w_nx (w_s0 ⟨⟨_, _, _, _, _, _, _, _, _, rfl⟩, f4, fun j2 hj2 hji => ?_⟩))
        by_cases e : j2 = i
        · subst e; exact c1
        · exact hj j2 hj2 (by omega)
  · obtain ⟨⟨x2, x3, x4, x5, x6, x7, x8, x9, x10, rfl⟩, f1, hj⟩ := hI
    refine ⟨hen h1 (f1.get ha (by simp)), ?_⟩
    refine w_nx (w_s (w_rt (w_U (w_B (w_loc rfl (w_cst (p_ix4.1 (p_lenL (f1.get ha (by simp)) (w_rtn (w_endR ?_))))))))))
    rw [lenD]
    have z := q h1 f1
    rw [idx_end fun j hj2 => hj j hj2 (by omega)] at z
    exact z
def LToldSp (f : List D → M D) : Prop := ∀ (h : VH) (x y st : D) (a : Nat) (kd : KD) (xs : List (List Nat)) (Q : D → VH → Prop), h.get a = some (.lst (kd.cls.map Cl.d)) → (∀ c, c ∈ kd.cls → ClOk c) → kd.cls.length ≤ 100 → SeqAt h st (xs.map .str) → xs.length < 1000 → (∀ h', Fr [] h h' → Q (.str (toldM (occ xs) kd)) h') → wp (f [.tup [x, y, .ref a, .str kd.last], st]) h Q
theorem ltold_sp {I : Nat → Nat} {ct : CT} (hX : LIndexSp (ct (I 30))) : LToldSp (runK 2 3 (kf__law_told I ct)) := by
  intro h x y st a kd xs Q ha ok hl sq hx q
  refine w_call rfl ?_
  unfold kf__law_told
  refine w_s (w_asg (w_N (w_A (w_loc rfl (w_A (w_loc rfl (w_A0 ?_)))))))
  refine hX h x y _ st a kd.cls xs _ ha ok hl sq hx fun h1 f1 => w_nam (w_nx ?_)
  have ha1 := f1.get ha (by simp)
  refine w_s (w_rt (w_if (w_cmpT (w_loc rfl (w_U (w_B (w_loc rfl (w_cst (p_ix4.1 (p_lenL ha1 (p_eqI (w_asB ?_))))))))))))
  rw [eqI_nat, List.length_map]
  have z := q h1 f1
  unfold toldM at z
  refine w_bif (fun e1 => ?_) (fun e1 => ?_)
  · have e2 := of_decide_eq_true e1
    rw [e2, List.getElem?_eq_none (Nat.le_refl _)] at z
    exact w_B (w_loc rfl (w_cst (p_ix4.2 (w_rtn (w_endR z)))))
  · have e2 : idxM (occ xs) kd.cls < kd.cls.length := by
      have a1 := of_decide_eq_false e1
      have a2 := idx_le (f := occ xs) kd.cls
      omega
    rw [List.getElem?_eq_getElem e2] at z
    refine w_B (w_B (w_B (w_loc rfl (w_cst (p_ix4.1 (w_loc rfl ?_))))))
    refine p_ixL (d := (kd.cls[idxM (occ xs) kd.cls]).d) ha1 (by rw [List.getElem?_map, List.getElem?_eq_getElem e2]; rfl) (w_cst ?_)
    refine p_ixT (k := 0) rfl (w_rtn (w_endR z))
end
end PV
set_option Elab.async false
set_option linter.all false
set_option maxRecDepth 100000
set_option maxHeartbeats 2000000
set_option autoImplicit false
namespace PV
noncomputable section
open PySem
/-- one step -/
local macro_rules | `(tactic| walk_at "w") => `(tactic| first
  | with_reducible refine w_s ?_ | with_reducible refine w_s0 ?_ | with_reducible refine w_nx ?_ | with_reducible refine w_rtn ?_ | with_reducible refine w_endR ?_ | with_reducible refine w_endN ?_
  | with_reducible refine w_asg ?_ | with_reducible refine w_rt ?_ | with_reducible refine w_expr ?_ | with_reducible refine w_setE ?_ | with_reducible refine w_setF ?_ | with_reducible refine w_par ?_
  | with_reducible refine w_U ?_ | with_reducible refine w_B ?_ | with_reducible refine w_N ?_ | with_reducible refine w_A ?_ | with_reducible refine w_A0 ?_ | with_reducible refine w_cst ?_
  | ((with_reducible show wp (xLoc _ _) _ _); refine w_loc rfl ?_)
  | with_reducible refine w_and ?_ | with_reducible refine w_and1 ?_ | with_reducible refine w_or ?_ | with_reducible refine w_or1 ?_ | with_reducible refine w_not ?_ | with_reducible refine w_chn ?_ | with_reducible refine w_if ?_
  | with_reducible refine w_sl ?_ | with_reducible refine w_on ?_ | with_reducible refine w_os ?_ | with_reducible refine w_prp ?_ | with_reducible refine w_met ?_ | with_reducible refine w_cmpT ?_ | with_reducible refine w_chnT ?_
  | with_reducible refine w_andT ?_ | with_reducible refine w_andT1 ?_ | with_reducible refine w_orT ?_ | with_reducible refine w_orT1 ?_ | with_reducible refine w_notT ?_
  | with_reducible refine w_nam ?_ | ((with_reducible refine w_gt ?wl ?_); (case wl => exact rfl)) | with_reducible refine w_gs ?_ | with_reducible refine w_gs0 ?_ | with_reducible refine w_sub ?_
  | with_reducible refine w_bt ?_ | with_reducible refine w_bf ?_ | with_reducible refine w_tru ?_ | with_reducible refine w_asB ?_ | with_reducible refine w_ret ?_
  | with_reducible refine p_le ?_ | with_reducible refine p_lt ?_ | with_reducible refine p_gt ?_ | with_reducible refine p_ge ?_ | with_reducible refine p_eqI ?_ | with_reducible refine p_neI ?_ | with_reducible refine p_eqS ?_ | with_reducible refine p_neS ?_
  | with_reducible refine p_is ?_ | with_reducible refine p_isnt ?_ | with_reducible refine p_add ?_ | with_reducible refine p_asI ?_ | with_reducible refine p_lenT ?_ | with_reducible refine p_lenS ?_)
/-- a primitive that reckons -/
local macro_rules | `(tactic| walk_at "r") => `(tactic| refine w_run rfl ?_)
/-! ### lists of states -/
def RowAt (L : Nat) (h : VH) (d : D) (r : List (List Nat)) : Prop := ∃ b, d = .ref b ∧ b ≠ L ∧ h.get b = some (.lst (r.map .str))
theorem RowAt.fr {L : Nat} {S : List Nat} {h h' : VH} (f : Fr S h h') (hs : ∀ x, x ∈ S → x = L) {d : D} {r : List (List Nat)} (a : RowAt L h d r) : RowAt L h' d r := let ⟨b, e, n, g⟩ := a; ⟨b, e, n, f.get g fun z => n (hs b z)⟩
theorem All2.append {α β : Type} {r : α → β → Prop} : ∀ {as cs : List α} {bs ds : List β}, All2 r as bs → All2 r cs ds → All2 r (as ++ cs) (bs ++ ds)
  | _, _, _, _, .nil, y => y
  | _, _, _, _, .cons a t, y => .cons a (t.append y)
theorem p_ext {h : VH} {a b : Nat} {xs ys : List D} {Q : D → VH → Prop} (ea : h.get a = some (.lst xs)) (eb : h.get b = some (.lst ys)) (hl : xs.length + ys.length ≤ 16777216) (q : Q .non (h.set a (.lst (xs ++ ys)))) : wp (extM (.ref a) [.ref b]) h Q := by
  refine w_run (a := .non) (h' := h.set a (.lst (xs ++ ys))) ?_ q
  unfold extM
  simp only [ea, eb]
  rw [if_pos hl]
theorem p_addL {h : VH} {a b : Nat} {xs ys : List D} {Q : D → VH → Prop} (ea : h.get a = some (.lst xs)) (eb : h.get b = some (.lst ys)) (hl : xs.length + ys.length ≤ 16777216) (q : Q (.ref h.n) (h.new (.lst (xs ++ ys)))) : wp (addD (.ref a) (.ref b)) h Q := by
  refine w_run (a := .ref h.n) (h' := h.new (.lst (xs ++ ys))) ?_ q
  unfold addD
  simp only [ea, eb]
  rw [if_pos hl]
def LListsSp (f : List D → M D) : Prop := ∀ (h : VH) (d : D) (ss : List (List Nat)) (m : Nat) (Q : D → VH → Prop), SeqAt h d (ss.map .str) → ss.length ≤ 8 → m ≤ 4 →
  (∀ (rows : List (List (List Nat))) (ds : List D) (h' : VH) (a : Nat), Fr [] h h' → h.n ≤ a → h'.get a = some (.lst ds) → All2 (RowAt a h') ds rows → (∀ r, r ∈ rows → r.length ≤ 4) → rows.length ≤ 20000 → Q (.ref a) h') → wp (f [d, .int m]) h Q
theorem pow8 (n : Nat) (h : n ≤ 4) : 8 ^ n ≤ 4096 := by
  have : n = 0 ∨ n = 1 ∨ n = 2 ∨ n = 3 ∨ n = 4 := by omega
  rcases this with rfl | rfl | rfl | rfl | rfl <;> decide
theorem lists_sp {I : Nat → Nat} {ct : CT} : LListsSp (runK 2 8 (kf__law_lists I ct)) := by
  intro h d ss m Q sq h8 hm q
  refine w_call rfl ?_
  unfold kf__law_lists
  refine w_s (w_par (w_N (w_A0 (p_mkLst (by simp) ?_))))
  refine w_N (w_A (w_N (w_A0 (p_mkLst (by simp) (w_A0 (p_mkLst (by simp) (w_nx ?_)))))))
  have e1 : (((h.new (.lst [])).new (.lst [])).new (.lst [.ref (h.new (.lst [])).n])).get h.n = some (.lst []) := (Fr.trans (S := []) .new .new).get new_get (by simp)
  have e2 : (((h.new (.lst [])).new (.lst [])).new (.lst [.ref (h.new (.lst [])).n])).get ((h.new (.lst [])).new (.lst [])).n = some (.lst [.ref (h.new (.lst [])).n]) := new_get
  have e3 : (((h.new (.lst [])).new (.lst [])).new (.lst [.ref (h.new (.lst [])).n])).get (h.new (.lst [])).n = some (.lst (([] : List (List Nat)).map .str)) := (Fr.new (S := [])).get new_get (by simp)
  have f1 : Fr [] h (((h.new (.lst [])).new (.lst [])).new (.lst [.ref (h.new (.lst [])).n])) := (Fr.new.trans .new).trans .new
  have n1 : (h.new (.lst [])).n = h.n + 1 := rfl
  have n2 : ((h.new (.lst [])).new (.lst [])).n = h.n + 2 := rfl
  rw [n1] at e1 e2 e3 f1
  rw [n2] at e2
  rw [n1, n2]
  generalize (((h.new (.lst [])).new (.lst [])).new (.lst [.ref (h.n + 1)])) = h1 at e1 e2 e3 f1
  refine w_s (w_for (w_U (w_loc rfl ?_)))
  refine w_rng (by omega) fun st hlk hgo hen => ⟨hlk, ?_⟩
  have hd : ∀ (L : Nat) (h' : VH), h.n ≤ L → Fr [L] h h' → SeqAt h' d (ss.map .str) := fun L h' hL f => sq.fr f fun a ea z => by
    rcases sq with w | ⟨c, w, e⟩
    · rw [ea] at w; cases w
    · rw [ea] at w; cases w
      have := VH.get_lt e
      simp at z; omega
  refine w_loopK m (fun i env h' => ∃ (x2 x5 x6 x7 : Option D) (fo le : Nat) (ds1 ds2 : List D) (rows1 rows2 : List (List (List Nat))), env = [some d, some (.int m), x2, some (.ref fo), some (.ref le), x5, x6, x7] ∧ Fr [] h h' ∧ h.n ≤ fo ∧ h.n ≤ le ∧ h'.get fo = some (.lst ds1) ∧ h'.get le = some (.lst ds2) ∧ All2 (RowAt fo h') ds1 rows1 ∧ All2 (RowAt le h') ds2 rows2 ∧ (∀ r, r ∈ rows1 → r.length ≤ i) ∧ (∀ r, r ∈ rows2 → r.length ≤ i) ∧ rows2.length ≤ 8 ^ i ∧ rows1.length ≤ i * 8 ^ i) (fun i env h2 hi hI => ?_) (fun env h2 hI => ?_) turns 0 _ _ (by show _ < 0 + 1000000; omega) (Nat.zero_le _) ⟨_, _, _, _, h.n, h.n + 2, [], [.ref (h.n + 1)], [], [[]], rfl, f1, Nat.le_refl _, by omega, e1, e2, .nil, .cons ⟨_, rfl, by omega, e3⟩ .nil, (fun r z => by cases z), (fun r z => by simp at z; rw [z]; exact Nat.zero_le _), by simp, by simp⟩
  · obtain ⟨x2, x5, x6, x7, fo, le, ds1, ds2, rows1, rows2, rfl, f2, no1, no2, g1, g2, l1, l2, b1, b2, c2, c1⟩ := hI
    refine ⟨_, hgo i h2 hi, ?_⟩
    refine w_nam (w_s (w_asg (w_N (w_A0 (p_mkLst (by simp) (w_nam (w_nx ?_)))))))
    have gl : (h2.new (.lst [])).get h2.n = some (.lst []) := new_get
    have f3 : Fr [] h2 (h2.new (.lst [])) := .new
    have nlo : h.n ≤ h2.n := f2.1
    have hfo : fo < h2.n := VH.get_lt g1
    have hle : le < h2.n := VH.get_lt g2
    have hlt : ∀ x r, RowAt le h2 x r → RowAt h2.n h2 x r := fun x r ⟨b, e, n, g⟩ => ⟨b, e, Nat.ne_of_lt (VH.get_lt g), g⟩
    have hlt1 : ∀ x r, RowAt fo h2 x r → RowAt h2.n h2 x r := fun x r ⟨b, e, n, g⟩ => ⟨b, e, Nat.ne_of_lt (VH.get_lt g), g⟩
    have l2' := (l2.mono hlt).mono fun x r (w : RowAt h2.n h2 x r) => w.fr f3 fun _ z => by cases z
    have l1' := (l1.mono hlt1).mono fun x r (w : RowAt h2.n h2 x r) => w.fr f3 fun _ z => by cases z
    have g1' := f3.get g1 (by simp)
    have g2' := f3.get g2 (by simp)
    have f23 := f2.trans f3
    generalize h2.new (.lst []) = h3 at gl f3 l2' l1' g1' g2' f23
    generalize h2.n = lo at gl nlo hfo hle l2' l1' hlt hlt1
    refine w_s (w_for (w_U (w_loc rfl ?_)))
    refine w_seqI (.inr ⟨le, rfl, g2'⟩) fun st2 hlk2 hgo2 => ⟨hlk2, ?_⟩
    have hlen := l2.len
    have p8 := pow8 i (by omega)
    refine w_loopK ds2.length (fun j env h' => ∃ (x2 x6 x7 : Option D) (ds3 : List D) (rows3 : List (List (List Nat))), env = [some d, some (.int m), x2, some (.ref fo), some (.ref le), some (.ref lo), x6, x7] ∧ Fr [lo] h3 h' ∧ h'.get lo = some (.lst ds3) ∧ All2 (RowAt lo h') ds3 rows3 ∧ (∀ r, r ∈ rows3 → r.length ≤ i + 1) ∧ rows3.length ≤ j * 8) (fun j env h4 hj hJ => ?_) (fun env h4 hJ => ?_) turns 0 _ _ (by show _ < 0 + 1000000; omega) (Nat.zero_le _) ⟨_, _, _, [], [], rfl, .refl, gl, .nil, (fun r z => by cases z), Nat.zero_le _⟩
    · obtain ⟨y2, y6, y7, ds3, rows3, rfl, f4, g3, l3, b3, c3⟩ := hJ
      have g2'' := f4.get g2' (by simp; omega)
      have hj2 : j < rows2.length := by omega
      obtain ⟨rb, er, nr, gr⟩ := (l2'.at hj hj2).fr f4 (fun x z => by simpa using z)
      refine ⟨_, by rw [hgo2 j h4 (.inr ⟨le, rfl, g2''⟩), nth_eq, List.getElem?_eq_getElem hj], ?_⟩
      rw [er]
      have f04 : Fr [lo] h h4 := (f23.mono fun _ z => by cases z).trans f4
      have sq4 := hd lo h4 nlo f04
      refine w_nam (w_s (w_expr (w_mth (w_loc rfl (.inl ⟨mt_lst g3, w_A (w_lc (w_U (w_loc rfl ?_)))⟩)))))
      refine w_seqI sq4 fun st3 hlk3 hgo3 => ⟨hlk3, ?_⟩
      generalize hrow : rows2[j] = row at gr
      have hrl : row.length ≤ i := b2 row (by rw [← hrow]; exact List.getElem_mem hj2)
      have ll := List.length_map (as := ss) D.str
      refine w_lcK (ss.map D.str).length (fun t acc h' => ∃ rs : List (List (List Nat)), All2 (RowAt lo h') acc.reverse rs ∧ rs.length ≤ t ∧ (∀ r, r ∈ rs → r.length ≤ i + 1) ∧ Fr [] h4 h') (fun t acc h5 ht hT => ?_) (fun acc h5 hT => ?_) turns 0 [] _ (by show _ < 0 + 1000000; omega) (Nat.zero_le _) ⟨[], .nil, Nat.le_refl _, (fun r z => by cases z), .refl⟩
      · obtain ⟨rs, lr, cr, br, f5⟩ := hT
        have ht2 : t < ss.length := by omega
        have sq5 := sq4.fr0 f5
        refine ⟨.str ss[t], by rw [hgo3 t h5 sq5, nth_eq, List.getElem?_map, List.getElem?_eq_getElem ht2]; rfl, ?_⟩
        have elt : ∀ h6 : VH, Fr [] h4 h6 → All2 (RowAt lo h6) acc.reverse rs → wp (xB addD (xLoc 6) (xN mkLst [(xLoc 7)]) [some d, some (.int m), y2, some (.ref fo), some (.ref le), some (.ref lo), some (.ref rb), some (.str ss[t])]) h6 fun y h7 => ∃ rs : List (List (List Nat)), All2 (RowAt lo h7) (y :: acc).reverse rs ∧ rs.length ≤ t + 1 ∧ (∀ r, r ∈ rs → r.length ≤ i + 1) ∧ Fr [] h4 h7 := by
          intro h6 f6 lr6
          refine w_B (w_loc rfl (w_N (w_A (w_loc rfl (w_A0 (p_mkLst (by simp) ?_))))))
          have gr7 := (f6.trans (Fr.new (o := .lst [.str ss[t]]))).get gr (by simp)
          refine p_addL gr7 new_get (by simp; omega) ?_
          have f7 : Fr [] h6 ((h6.new (.lst [.str ss[t]])).new (.lst (row.map D.str ++ [.str ss[t]]))) := Fr.new.trans .new
          refine ⟨rs ++ [row ++ [ss[t]]], ?_, by simp; omega, fun r hr => ?_, f6.trans f7⟩
          · rw [List.reverse_cons]
            refine (lr6.mono fun x r w => w.fr f7 fun _ z => by cases z).append (.cons ⟨_, rfl, ?_, by rw [new_get, List.map_append]; rfl⟩ .nil)
            have : lo < h4.n := VH.get_lt g3
            have := f6.1
            show h6.n + 1 ≠ lo
            omega
          · rcases List.mem_append.mp hr with w | w
            · exact br r w
            · simp at w; rw [w]; simp; omega
        refine w_nam (w_ts (w_orT (w_cmpT (w_loc rfl (w_N (w_A0 (p_mkLst (by simp) ?_)))))))
        have gr6 := (f5.trans (Fr.new (o := .lst []))).get gr (by simp)
        refine p_eqL (ys := []) gr6 new_get (w_asB (w_bif (fun c => ?_) (fun c => ?_)))
        · exact w_bt (elt _ (f5.trans .new) (lr.mono fun x r w => w.fr (Fr.new (S := [])) fun _ z => by cases z))
        · have hne : row ≠ [] := of_decide_eq_false c
          refine w_orT1 (w_cmpT (w_B (w_loc rfl (w_U (w_cst ?_)))))
          refine w_run (m := negM (.int (Int.ofNat 1))) (a := .int (Int.negSucc 0)) (h' := h5.new (.lst [])) rfl ?_
          have hlast : (row.map D.str)[(row.map D.str).length - 1]? = some (.str (row.getLast hne)) := by
            rw [List.length_map, List.getElem?_map, List.getLast_eq_getElem, List.getElem?_eq_getElem (by have := List.length_pos_iff.mpr hne; omega)]
            rfl
          refine w_run (m := ixM (.ref rb) (.int (Int.negSucc 0))) (a := .str (row.getLast hne)) (h' := h5.new (.lst [])) ?_ ?_
          · unfold ixM
            simp only [gr6]
            show (match ixD (row.map D.str) (Int.negSucc 0) with | some d => P.ret (PV.R.ok d (h5.new (.lst []))) | none => P.ret PV.R.bad) = _
            unfold ixD
            simp only
            rw [if_pos (by have := List.length_pos_iff.mpr hne; rw [List.length_map]; omega), hlast]
          refine w_loc rfl ?_
          refine w_run (m := leK (.str (row.getLast hne)) (.str ss[t])) (a := .bl (!ltS ss[t] (row.getLast hne))) (h' := h5.new (.lst [])) rfl (w_asB ?_)
          have lr6 := lr.mono fun x r (w : RowAt lo h5 x r) => w.fr (Fr.new (S := []) (o := .lst [])) fun _ z => by cases z
          refine w_bif (fun c2 => ?_) (fun c2 => ?_)
          · exact elt _ (f5.trans .new) lr6
          · exact ⟨rs, lr6, by omega, br, f5.trans .new⟩
      · obtain ⟨rs, lr, cr, br, f5⟩ := hT
        have sq5 := sq4.fr0 f5
        refine ⟨by rw [hgo3 _ h5 sq5, nth_eq, List.getElem?_eq_none (Nat.le_refl _)], w_A0 ?_⟩
        have g35 := (f5.trans (Fr.new (o := .lst acc.reverse))).get g3 (by simp)
        have hl3 := l3.len
        have hlr := lr.len
        refine p_ext g35 new_get (by omega) ?_
        have f6 : Fr [lo] h4 ((h5.new (.lst acc.reverse)).set lo (.lst (ds3 ++ acc.reverse))) := ((f5.mono fun _ z => by cases z).trans .new).trans (Fr.set (VH.get_lt g35) List.mem_cons_self)
        have f65 : Fr [lo] h5 ((h5.new (.lst acc.reverse)).set lo (.lst (ds3 ++ acc.reverse))) := (Fr.new).trans (Fr.set (VH.get_lt g35) List.mem_cons_self)
        refine w_nx (w_s0 ⟨_, _, _, ds3 ++ acc.reverse, rows3 ++ rs, rfl, f4.trans f6, set_get (VH.get_lt g35), ?_, fun r hr => ?_, ?_⟩)
        · exact (l3.mono fun x r w => w.fr f6 fun x z => by simpa using z).append (lr.mono fun x r w => w.fr f65 fun x z => by simpa using z)
        · rcases List.mem_append.mp hr with w | w
          · exact b3 r w
          · exact br r w
        · simp; omega
    · obtain ⟨y2, y6, y7, ds3, rows3, rfl, f4, g3, l3, b3, c3⟩ := hJ
      have g2'' := f4.get g2' (by simp; omega)
      refine ⟨by rw [hgo2 _ h4 (.inr ⟨le, rfl, g2''⟩), nth_eq, List.getElem?_eq_none (Nat.le_refl _)], ?_⟩
      have g1'' := f4.get g1' (by simp; omega)
      have l1'' := l1'.mono fun x r (w : RowAt lo h3 x r) => w.fr f4 fun x z => by simpa using z
      have hl1 := l1.len
      have hl3 := l3.len
      have f04 : Fr [lo] h h4 := (f23.mono fun _ z => by cases z).trans f4
      have f04' : Fr [] h h4 := f04.cut nlo
      have hi4 : i * 8 ^ i ≤ 4 * 4096 := Nat.mul_le_mul (by omega) p8
      refine w_nx (w_s (w_par (w_B (w_loc rfl (w_loc rfl ?_)))))
      refine p_addL g1'' g3 (by omega) ?_
      refine w_loc rfl (w_nx (w_s0 ⟨_, _, _, _, h4.n, lo, ds1 ++ ds3, ds3, rows1 ++ rows3, rows3, rfl, f04'.trans .new, f04'.1, nlo, new_get, (Fr.new (S := [])).get g3 (by simp), ?_, ?_, fun r hr => ?_, b3, ?_, ?_⟩))
      · refine (l1''.append l3).mono fun x r w => ?_
        obtain ⟨b, e, n, g⟩ := w.fr (Fr.new (S := []) (o := .lst (ds1 ++ ds3))) fun _ z => by cases z
        obtain ⟨b', e', n', g'⟩ := w
        rw [e] at e'
        cases e'
        exact ⟨b, e, Nat.ne_of_lt (VH.get_lt g'), g⟩
      · exact l3.mono fun x r w => w.fr (Fr.new (S := [])) fun _ z => by cases z
      · rcases List.mem_append.mp hr with w | w
        · exact Nat.le_succ_of_le (b1 r w)
        · exact b3 r w
      · rw [Nat.pow_succ]
        have : ds2.length * 8 ≤ 8 ^ i * 8 := Nat.mul_le_mul_right 8 (by omega)
        omega
      · rw [List.length_append, Nat.pow_succ, Nat.succ_mul]
        have : ds2.length * 8 ≤ 8 ^ i * 8 := Nat.mul_le_mul_right 8 (by omega)
        have : i * 8 ^ i ≤ i * (8 ^ i * 8) := Nat.mul_le_mul_left i (Nat.le_mul_of_pos_right _ (by decide))
        omega
  · obtain ⟨x2, x5, x6, x7, fo, le, ds1, ds2, rows1, rows2, rfl, f2, no1, no2, g1, g2, l1, l2, b1, b2, c2, c1⟩ := hI
    refine ⟨hen h2, w_nx (w_s (w_rt (w_loc rfl (w_rtn (w_endR (q rows1 ds1 h2 fo f2 no1 g1 l1 (fun r hr => Nat.le_trans (b1 r hr) hm) ?_))))))⟩
    have p8 := pow8 m hm
    have : m * 8 ^ m ≤ 4 * 4096 := Nat.mul_le_mul hm p8
    omega
end
end PV
set_option Elab.async false
set_option linter.all false
set_option maxRecDepth 100000
set_option maxHeartbeats 2000000
set_option autoImplicit false
namespace PV
noncomputable section
open PySem
/-- one step -/
local macro_rules | `(tactic| walk_at "w") => `(tactic| first
  | with_reducible refine w_s ?_ | with_reducible refine w_s0 ?_ | with_reducible refine w_nx ?_ | with_reducible refine w_rtn ?_ | with_reducible refine w_endR ?_ | with_reducible refine w_endN ?_
  | with_reducible refine w_asg ?_ | with_reducible refine w_rt ?_ | with_reducible refine w_expr ?_ | with_reducible refine w_setE ?_ | with_reducible refine w_setF ?_ | with_reducible refine w_par ?_
  | with_reducible refine w_U ?_ | with_reducible refine w_B ?_ | with_reducible refine w_N ?_ | with_reducible refine w_A ?_ | with_reducible refine w_A0 ?_ | with_reducible refine w_cst ?_
  | ((with_reducible show wp (xLoc _ _) _ _); refine w_loc rfl ?_)
  | with_reducible refine w_and ?_ | with_reducible refine w_and1 ?_ | with_reducible refine w_or ?_ | with_reducible refine w_or1 ?_ | with_reducible refine w_not ?_ | with_reducible refine w_chn ?_ | with_reducible refine w_if ?_
  | with_reducible refine w_sl ?_ | with_reducible refine w_on ?_ | with_reducible refine w_os ?_ | with_reducible refine w_prp ?_ | with_reducible refine w_met ?_ | with_reducible refine w_cmpT ?_ | with_reducible refine w_chnT ?_
  | with_reducible refine w_andT ?_ | with_reducible refine w_andT1 ?_ | with_reducible refine w_orT ?_ | with_reducible refine w_orT1 ?_ | with_reducible refine w_notT ?_
  | with_reducible refine w_nam ?_ | ((with_reducible refine w_gt ?wl ?_); (case wl => exact rfl)) | with_reducible refine w_gs ?_ | with_reducible refine w_gs0 ?_ | with_reducible refine w_sub ?_
  | with_reducible refine w_bt ?_ | with_reducible refine w_bf ?_ | with_reducible refine w_tru ?_ | with_reducible refine w_asB ?_ | with_reducible refine w_ret ?_
  | with_reducible refine p_le ?_ | with_reducible refine p_lt ?_ | with_reducible refine p_gt ?_ | with_reducible refine p_ge ?_ | with_reducible refine p_eqI ?_ | with_reducible refine p_neI ?_ | with_reducible refine p_eqS ?_ | with_reducible refine p_neS ?_
  | with_reducible refine p_is ?_ | with_reducible refine p_isnt ?_ | with_reducible refine p_add ?_ | with_reducible refine p_asI ?_ | with_reducible refine p_lenT ?_ | with_reducible refine p_lenS ?_)
/-- a primitive that reckons -/
local macro_rules | `(tactic| walk_at "r") => `(tactic| refine w_run rfl ?_)
/-! ### order makes no difference -/
theorem perm_sum {l m : List Int} (p : l.Perm m) : l.sum = m.sum := by
  induction p with
  | nil => rfl
  | cons x _ ih => simp [ih]
  | swap x y l => simp; omega
  | trans _ _ a b => exact a.trans b
theorem holds_srt (f : List Nat → Int) (c : Cd) : c.srt.holds f = c.holds f := by
  unfold Cd.holds Cd.srt
  have : ((sortB ltS c.ss).map f).sum = (c.ss.map f).sum := perm_sum ((sortB_perm (lt := ltS) c.ss).map f)
  simp only [this]
theorem fits_srt (f : List Nat → Int) (c : Cl) : c.srt.fits f = c.fits f := by
  unfold Cl.fits Cl.srt
  rw [List.all_map]
  congr 1
  funext d
  exact holds_srt f d
theorem idx_srt (f : List Nat → Int) : ∀ cs : List Cl, idxM f (cs.map Cl.srt) = idxM f cs
  | [] => rfl
  | c :: r => by
    rw [List.map_cons]
    unfold idxM
    rw [fits_srt, idx_srt f r]
theorem told_srt (f : List Nat → Int) (hand parts h2 p2 : List (List Nat)) (cls : List Cl) (last : List Nat) : toldM f (mkKD hand parts cls last) = toldM f ⟨h2, p2, cls, last⟩ := by
  unfold toldM mkKD
  simp only [idx_srt, List.getElem?_map]
  cases cls[idxM f cls]? <;> rfl
theorem occ_perm {xs ys : List (List Nat)} (p : xs.Perm ys) : occ xs = occ ys := by
  funext s
  unfold occ
  rw [p.count_eq]
theorem perm_ix {ss : List (List Nat)} {p : List Nat} (hp : p.Perm (List.range ss.length)) : (p.map fun i => ss.getD i []).Perm ss := by
  have h1 : (p.map fun i => ss.getD i []).Perm ((List.range ss.length).map fun i => ss.getD i []) := hp.map _
  have h2 : (List.range ss.length).map (fun i => ss.getD i []) = ss := by
    refine List.ext_getElem (by simp) fun j h1 h2 => ?_
    simp only [List.getElem_map, List.getElem_range, List.getD_eq_getElem?_getD]
    rw [List.getElem?_eq_getElem h2]; rfl
  rw [h2] at h1
  exact h1
theorem kd_ok {hand parts : List (List Nat)} {cls : List Cl} {last : List Nat} (hl : cls.length ≤ 6) (ok : ∀ c, c ∈ cls → ClOk c) : (mkKD hand parts cls last).Ok := by
  refine ⟨by unfold mkKD; simp; omega, fun c hc => ?_⟩
  obtain ⟨c0, h0, rfl⟩ := List.mem_map.mp (show c ∈ cls.map Cl.srt from hc)
  have o := ok c0 h0
  refine ⟨by unfold Cl.srt; simp; have := o.l; omega, fun d hd => ?_⟩
  obtain ⟨d0, g0, rfl⟩ := List.mem_map.mp (show d ∈ c0.cs.map Cd.srt from hd)
  have := (o.cs d0 g0).ss.l
  unfold Cd.srt
  simp only
  rw [(sortB_perm (lt := ltS) d0.ss).length_eq]
  omega
/-! ### some more primitives -/
theorem w_mk {ct : CT} {c f : Nat} {ds : List D} {h : VH} {Q : D → VH → Prop} (w : wp (ct f (.ref h.n :: ds)) (h.new (.ins c [])) fun r h1 => r = .non ∧ Q (.ref h.n) h1) : wp (mkIns ct c f ds) h Q := by
  show wp (fun h => M.bind (ct f (.ref h.n :: ds)) (fun r => match r with | .non => M.pure (.ref h.n) | _ => M.bad) (h.new (.ins c []))) h Q
  refine (show wp (M.bind (ct f (.ref h.n :: ds)) (fun r => match r with | .non => M.pure (.ref h.n) | _ => M.bad)) (h.new (.ins c [])) Q → _ from fun z => z) (w_bind (wp_mono w fun r h1 ⟨e, z⟩ => ?_))
  subst e
  exact z
theorem w_rng2 {h : VH} {a b : Nat} {Q : Stp → VH → Prop} (hb : a ≤ b ∧ b < 1000000) (q : ∀ st : Stp, st.lk = none → (∀ i h', i < b - a → st.go i h' = some (some (.int ((a + i : Nat) : Int)))) → (∀ h', st.go (b - a) h' = some none) → Q st h) : wp (rngI2 (.int (a : Int)) (.int (b : Int))) h Q := by
  have e : rngI2 (.int (a : Int)) (.int (b : Int)) h = .ret (.ok (stpR a (b - a)) h) := by
    unfold rngI2
    simp only
    rw [if_pos ⟨⟨by omega, by omega⟩, by omega, by omega⟩]
    congr 3
    omega
  have q2 := q (stpR a (b - a)) rfl (fun i h' hi => by
    show some (if i < b - a then some (D.int ((a : Int) + (i : Int))) else none) = _
    rw [if_pos hi]; simp) (fun h' => by
    show some (if b - a < b - a then some (D.int ((a : Int) + ((b - a : Nat) : Int))) else none) = _
    rw [if_neg (Nat.lt_irrefl _)])
  unfold wp
  rw [e]
  exact q2
theorem cut_drop {α : Type} {xs : List α} {j : Nat} : cutD xs (some (j : Int)) none = xs.drop j := by
  unfold cutD
  rw [HT.sIx_none, HT.sIx_nat]
  by_cases h : j ≤ xs.length
  · rw [Nat.min_eq_left h, List.take_of_length_le (by simp)]
  · rw [Nat.min_eq_right (by omega), List.drop_length, List.drop_of_length_le (by omega)]
    simp
theorem p_slD {h : VH} {a j : Nat} {xs : List D} {Q : D → VH → Prop} (e : h.get a = some (.lst xs)) (q : Q (.ref h.n) (h.new (.lst (xs.drop j)))) : wp (slM (.ref a) (some (j : Int)) none) h Q := by
  refine w_run (a := .ref h.n) (h' := h.new (.lst (xs.drop j))) ?_ q
  unfold slM
  simp only [e, cut_drop]
end
end PV
set_option Elab.async false
set_option linter.all false
set_option maxRecDepth 100000
set_option maxHeartbeats 2000000
set_option autoImplicit false
namespace PV
noncomputable section
open PySem
/-- one step -/
local macro_rules | `(tactic| walk_at "w") => `(tactic| first
  | with_reducible refine w_s ?_ | with_reducible refine w_s0 ?_ | with_reducible refine w_nx ?_ | with_reducible refine w_rtn ?_ | with_reducible refine w_endR ?_ | with_reducible refine w_endN ?_
  | with_reducible refine w_asg ?_ | with_reducible refine w_rt ?_ | with_reducible refine w_expr ?_ | with_reducible refine w_setE ?_ | with_reducible refine w_setF ?_ | with_reducible refine w_par ?_
  | with_reducible refine w_U ?_ | with_reducible refine w_B ?_ | with_reducible refine w_N ?_ | with_reducible refine w_A ?_ | with_reducible refine w_A0 ?_ | with_reducible refine w_cst ?_
  | ((with_reducible show wp (xLoc _ _) _ _); refine w_loc rfl ?_)
  | with_reducible refine w_and ?_ | with_reducible refine w_and1 ?_ | with_reducible refine w_or ?_ | with_reducible refine w_or1 ?_ | with_reducible refine w_not ?_ | with_reducible refine w_chn ?_ | with_reducible refine w_if ?_
  | with_reducible refine w_sl ?_ | with_reducible refine w_on ?_ | with_reducible refine w_os ?_ | with_reducible refine w_prp ?_ | with_reducible refine w_met ?_ | with_reducible refine w_cmpT ?_ | with_reducible refine w_chnT ?_
  | with_reducible refine w_andT ?_ | with_reducible refine w_andT1 ?_ | with_reducible refine w_orT ?_ | with_reducible refine w_orT1 ?_ | with_reducible refine w_notT ?_
  | with_reducible refine w_nam ?_ | ((with_reducible refine w_gt ?wl ?_); (case wl => exact rfl)) | with_reducible refine w_gs ?_ | with_reducible refine w_gs0 ?_ | with_reducible refine w_sub ?_
  | with_reducible refine w_bt ?_ | with_reducible refine w_bf ?_ | with_reducible refine w_tru ?_ | with_reducible refine w_asB ?_ | with_reducible refine w_ret ?_
  | with_reducible refine p_le ?_ | with_reducible refine p_lt ?_ | with_reducible refine p_gt ?_ | with_reducible refine p_ge ?_ | with_reducible refine p_eqI ?_ | with_reducible refine p_neI ?_ | with_reducible refine p_eqS ?_ | with_reducible refine p_neS ?_
  | with_reducible refine p_is ?_ | with_reducible refine p_isnt ?_ | with_reducible refine p_add ?_ | with_reducible refine p_asI ?_ | with_reducible refine p_lenT ?_ | with_reducible refine p_lenS ?_)
/-- a primitive that reckons -/
local macro_rules | `(tactic| walk_at "r") => `(tactic| refine w_run rfl ?_)
/-! ### law k06 -/
theorem rep_flat {α : Type} (x : α) : ∀ m : Nat, (List.replicate m [x]).flatten = List.replicate m x
  | 0 => rfl
  | n + 1 => by rw [List.replicate_succ, List.flatten_cons, List.replicate_succ, rep_flat x n]; rfl
theorem p_mulL {h : VH} {a m : Nat} {x : D} {Q : D → VH → Prop} (e : h.get a = some (.lst [x])) (hm : m < 1000) (q : Q (.ref h.n) (h.new (.lst (List.replicate m x)))) : wp (mulD (.ref a) (.int (m : Int))) h Q := by
  refine w_run (a := .ref h.n) (h' := h.new (.lst (List.replicate m x))) ?_ q
  unfold mulD
  simp only [e, Int.toNat_natCast]
  rw [if_pos ⟨by omega, by omega, by simp; omega⟩]
  rw [rep_flat]
structure J6 (kc sa ca k : Nat) (ss : List (List Nat)) (cls : List Cl) (kd : KD) (h : VH) : Prop where
  st : h.get sa = some (.lst (ss.map .str))
  cl : h.get ca = some (.lst (cls.map Cl.d))
  kd : KAt kc h k kd
section
variable {ct : CT} {I : Nat → Nat} {s sa ca k : Nat} {ss : List (List Nat)} {cls : List Cl} {hand parts : List (List Nat)} {last : List Nat} {r0 r1 : D}
theorem J6.fr {kc : Nat} {kd : KD} {h h' : VH} (j : J6 kc sa ca k ss cls kd h) (f : Fr [s] h h') (hn : sa ≠ s ∧ ca ≠ s ∧ k ≠ s) : J6 kc sa ca k ss cls kd h' :=
  ⟨f.get j.st (by simp; exact hn.1), f.get j.cl (by simp; exact hn.2.1), f.get j.kd (by simp; exact hn.2.2)⟩
theorem w_picks (hP : PickSp (ct (I 22))) {env : Env} {h : VH} {ne : KE} {Q : D → VH → Prop} (hs1 : ∀ x, nth 1 (sth (some x) 14 (wipeK env [14])) = some (some (.ref s))) (hs2 : ∀ x, nth 2 (sth (some x) 14 (wipeK env [14])) = some (some (.ref sa))) (h0 : 0 < ss.length) (hl : ss.length < 1000) (hn : sa ≠ s)
    (w : wp (ne env) h fun x h1 => ∃ n kk : Nat, x = .int (n : Int) ∧ n ≤ 1000 ∧ Bud h1 s (kk + n) ∧ h1.get sa = some (.lst (ss.map .str)) ∧ ∀ (zs : List (List Nat)) a h2, zs.length = n → Bud h2 s kk → Fr [s] h1 h2 → h1.n ≤ a → h2.get a = some (.lst (zs.map .str)) → Q (.ref a) h2) :
    wp (xLc (xU rngI1 ne) (xNam 14) none (xN (ct (I 22)) [xLoc 1, xLoc 2]) [14] env) h Q := by
  refine w_lc (w_U (wp_mono w fun x h1 ⟨n, kk, e, hn1, b, est, q⟩ => ?_))
  subst e
  refine w_rng (by omega) fun st hlk hgo hen => ⟨hlk, ?_⟩
  refine w_lcK n (fun j acc h' => ∃ zs : List (List Nat), acc = (zs.map D.str).reverse ∧ zs.length = j ∧ Bud h' s (kk + (n - j)) ∧ Fr [s] h1 h') (fun j acc h2 hj hJ => ?_) (fun acc h2 hJ => ?_) turns 0 [] _ (by show _ < 0 + 1000000; omega) (Nat.zero_le _) ⟨[], rfl, rfl, b, .refl⟩
  · obtain ⟨zs, rfl, hz, b2, f2⟩ := hJ
    refine ⟨_, hgo j h2 hj, ?_⟩
    refine w_nam (w_tn (w_bt (w_N (w_A (w_loc (hs1 _) (w_A (w_loc (hs2 _) (w_A0 ?_))))))))
    refine hP h2 s (kk + (n - (j + 1))) (.ref sa) (ss.map D.str) _ (b2.le (by omega)) (.inr ⟨_, rfl, f2.get est (by simp; exact hn)⟩) (by simpa using h0) (by simp; omega) fun x hx h3 b3 f3 => ?_
    obtain ⟨y, hy, rfl⟩ := List.mem_map.mp hx
    exact ⟨zs ++ [y], by simp, by simp [hz], b3, f2.trans f3⟩
  · obtain ⟨zs, rfl, hz, b2, f2⟩ := hJ
    refine ⟨hen h2, ?_⟩
    rw [List.reverse_reverse]
    exact q zs _ _ hz (b2.le (by omega)).new (f2.trans .new) f2.1 new_get
/-- told by the kind and by the law -/
theorem w_told2 (hT : ToldSp (I 1000) (ct (I 18))) (hLT : LToldSp (ct (I 31))) {h : VH} {d d2 : D} {xs ys : List (List Nat)} {Q : D → D → VH → Prop} (j : J6 (I 1000) sa ca k ss cls (mkKD hand parts cls last) h) (hl : cls.length ≤ 6) (ok : ∀ c, c ∈ cls → ClOk c) (sq : SeqAt h d (xs.map .str)) (sq2 : SeqAt h d2 (ys.map .str)) (p : xs.Perm ys) (hx : xs.length < 1000)
    (q : ∀ t h', Fr [] h h' → Q (.str t) (.str t) h') : wp (ct (I 18) [.ref k, d]) h fun a h1 => wp (ct (I 31) [.tup [r0, r1, .ref ca, .str last], d2]) h1 fun b h2 => Q a b h2 := by
  refine hT h k d _ xs _ j.kd (kd_ok hl ok) sq (by omega) fun h1 f1 => ?_
  refine hLT h1 r0 r1 d2 ca ⟨hand, parts, cls, last⟩ ys _ (f1.get j.cl (by simp)) ok (by show cls.length ≤ 100; omega) (sq2.fr0 f1) (by have := p.length_eq; omega) fun h2 f2 => ?_
  rw [told_srt (occ xs) hand parts hand parts, occ_perm p]
  exact q _ h2 (f1.trans f2)
theorem w_idx2 (hCo : CountingSp (I 1000) (ct (I 19))) (hLI : LIndexSp (ct (I 30))) {h : VH} {d d2 : D} {xs ys : List (List Nat)} {Q : D → D → VH → Prop} (j : J6 (I 1000) sa ca k ss cls (mkKD hand parts cls last) h) (hl : cls.length ≤ 6) (ok : ∀ c, c ∈ cls → ClOk c) (sq : SeqAt h d (xs.map .str)) (sq2 : SeqAt h d2 (ys.map .str)) (p : xs.Perm ys) (hx : xs.length < 1000)
    (q : ∀ (t : Nat) h', Fr [] h h' → Q (.int t) (.int t) h') : wp (ct (I 19) [.ref k, d]) h fun a h1 => wp (ct (I 30) [.tup [r0, r1, .ref ca, .str last], d2]) h1 fun b h2 => Q a b h2 := by
  refine hCo h k d _ xs _ j.kd (kd_ok hl ok) sq (by omega) fun h1 f1 => ?_
  refine hLI h1 r0 r1 _ d2 ca cls ys _ (f1.get j.cl (by simp)) ok (by omega) (sq2.fr0 f1) (by have := p.length_eq; omega) fun h2 f2 => ?_
  rw [show (mkKD hand parts cls last).cls = cls.map Cl.srt from rfl, idx_srt, occ_perm p]
  exact q _ h2 (f1.trans f2)
theorem eqS_refl (t : List Nat) : eqS t t = true := (eqS_iff t t).mpr rfl
theorem eqI_refl (t : Nat) : eqI (t : Int) (t : Int) = true := by rw [eqI_nat]; simp
/-- the last statements -/
theorem k06_D (hP : PickSp (ct (I 22))) (hT : ToldSp (I 1000) (ct (I 18))) (hLT : LToldSp (ct (I 31))) (hCo : CountingSp (I 1000) (ct (I 19))) (hLI : LIndexSp (ct (I 30))) {h : VH} (j : J6 (I 1000) sa ca k ss cls (mkKD hand parts cls last) h) (hn : sa ≠ s ∧ ca ≠ s ∧ k ≠ s) (h0 : 0 < ss.length) (h8 : ss.length ≤ 8) (hl : cls.length ≤ 6) (ok : ∀ c, c ∈ cls → ClOk c) (b : Bud h s 100) {x0 x5 x6 x7 x8 x9 x10 x11 x12 x13 x14 : Option D} :
    wp (xSs [(xSetE 7 (xLc (xU rngI1 (xCst (.int (Int.ofNat 40)))) (xNam 14) none (xN (ct (I 22)) [(xLoc 1), (xLoc 2)]) [14])), (xRet (xAnd [(xB (eqQ false) (xMet (I 1000) (ct (I 18)) (xLoc 4) [(xLoc 7)]) (xN (ct (I 31)) [(xLoc 3), (xLoc 7)])), (xB (eqQ false) (xMet (I 1000) (ct (I 19)) (xLoc 4) [(xLoc 7)]) (xN (ct (I 30)) [(xLoc 3), (xLoc 7)]))]))]
      [x0, some (.ref s), some (.ref sa), some (.tup [r0, r1, .ref ca, .str last]), some (.ref k), x5, x6, x7, x8, x9, x10, x11, x12, x13, x14]) h fun f h1 => wp (endK f) h1 fun d _ => d = .bl true := by
  refine w_s (w_setE ?_)
  refine w_picks hP (s := s) (sa := sa) (ss := ss) (fun _ => rfl) (fun _ => rfl) h0 (by omega) hn.1 (w_cst ⟨40, 60, rfl, by omega, b, j.st, fun zs a h1 hz b1 f1 ha e1 => w_nx ?_⟩)
  have j1 := j.fr f1 hn
  have sq : SeqAt h1 (.ref a) (zs.map .str) := .inr ⟨_, rfl, e1⟩
  refine w_s (w_rt (w_and (w_B (w_met (w_loc rfl (p_ins j1.kd (w_A (w_loc rfl (w_A0 ?_)))))))))
  refine wp_mono (w_told2 (r0 := r0) (r1 := r1) (Q := fun a b h' => a = b ∧ (∃ t, a = .str t) ∧ Fr [] h1 h') hT hLT j1 hl ok sq sq (.refl _) (by omega) fun t h' f' => ⟨rfl, ⟨t, rfl⟩, f'⟩) fun a2 h2 z => ?_
  refine w_N (w_A (w_loc rfl (w_A (w_loc rfl (w_A0 (wp_mono z fun b2 h3 w => ?_))))))
  obtain ⟨e, ⟨t, et⟩, f3⟩ := w
  subst e et
  refine p_eqS ?_
  rw [eqS_refl]
  refine w_tru (w_bt (w_and1 (w_B (w_met (w_loc rfl (p_ins (f3.get j1.kd (by simp)) (w_A (w_loc rfl (w_A0 ?_)))))))))
  have j3 := j1.fr (s := s) (f3.mono fun _ z => by cases z) hn
  have sq3 := sq.fr0 f3
  refine wp_mono (w_idx2 (r0 := r0) (r1 := r1) (Q := fun a b h' => a = b ∧ (∃ t : Nat, a = .int t) ∧ Fr [] h3 h') hCo hLI j3 hl ok sq3 sq3 (.refl _) (by omega) fun t h' f' => ⟨rfl, ⟨t, rfl⟩, f'⟩) fun a4 h4 z => ?_
  refine w_N (w_A (w_loc rfl (w_A (w_loc rfl (w_A0 (wp_mono z fun b2 h5 w => ?_))))))
  obtain ⟨e, ⟨t2, et⟩, f5⟩ := w
  subst e et
  refine p_eqI ?_
  rw [eqI_refl]
  exact w_rtn (w_endR rfl)
/-- the loop over longer lists -/
theorem k06_C (hd : IsDraw ct) (hP : PickSp (ct (I 22))) (hT : ToldSp (I 1000) (ct (I 18))) (hLT : LToldSp (ct (I 31))) (hCo : CountingSp (I 1000) (ct (I 19))) (hLI : LIndexSp (ct (I 30))) {h : VH} (j : J6 (I 1000) sa ca k ss cls (mkKD hand parts cls last) h) (hn : sa ≠ s ∧ ca ≠ s ∧ k ≠ s) (h0 : 0 < ss.length) (h8 : ss.length ≤ 8) (hl : cls.length ≤ 6) (ok : ∀ c, c ∈ cls → ClOk c) (b : Bud h s 1000) {x0 x5 x6 x7 x8 x9 x10 x11 x12 x13 x14 : Option D} :
    wp (xSs [(xFor (xB rngI2 (xCst (.int (Int.ofNat 3))) (xCst (.int (Int.ofNat 11)))) (xNam 6) (xSs [(xAsg (xNam 7) (xB addD (xB mulD (xN mkLst [(xB ixM (xLoc 2) (xCst (.int (Int.ofNat 0))))]) (xLoc 6)) (xLc (xU rngI1 (xN (ct 0) [(xLoc 1), (xCst (.int (Int.ofNat 3)))])) (xNam 14) none (xN (ct (I 22)) [(xLoc 1), (xLoc 2)]) [14]))), (xIf (xOrT [(xCmpT (eqQ true) (xMet (I 1000) (ct (I 18)) (xLoc 4) [(xLoc 7)]) (xN (ct (I 31)) [(xLoc 3), (xLoc 7)])), (xCmpT (eqQ true) (xMet (I 1000) (ct (I 19)) (xLoc 4) [(xLoc 7)]) (xN (ct (I 30)) [(xLoc 3), (xLoc 7)]))]) (xSs [(xRet (xCst (.bl false)))]) (xSs []))])), (xSetE 7 (xLc (xU rngI1 (xCst (.int (Int.ofNat 40)))) (xNam 14) none (xN (ct (I 22)) [(xLoc 1), (xLoc 2)]) [14])), (xRet (xAnd [(xB (eqQ false) (xMet (I 1000) (ct (I 18)) (xLoc 4) [(xLoc 7)]) (xN (ct (I 31)) [(xLoc 3), (xLoc 7)])), (xB (eqQ false) (xMet (I 1000) (ct (I 19)) (xLoc 4) [(xLoc 7)]) (xN (ct (I 30)) [(xLoc 3), (xLoc 7)]))]))]
      [x0, some (.ref s), some (.ref sa), some (.tup [r0, r1, .ref ca, .str last]), some (.ref k), x5, x6, x7, x8, x9, x10, x11, x12, x13, x14]) h fun f h1 => wp (endK f) h1 fun d _ => d = .bl true := by
  refine w_s (w_for (w_B (w_cst (w_cst ?_))))
  refine w_rng2 (a := 3) (b := 11) (by omega) fun st hlk hgo hen => ⟨hlk, ?_⟩
  refine w_loopK (11 - 3) (fun i env h' => (∃ y6 y7 y14, env = [x0, some (.ref s), some (.ref sa), some (.tup [r0, r1, .ref ca, .str last]), some (.ref k), x5, y6, y7, x8, x9, x10, x11, x12, x13, y14]) ∧ Bud h' s (1000 - 10 * i) ∧ Fr [s] h h') (fun i env h1 hi hI => ?_) (fun env h1 hI => ?_) turns 0 _ _ (by show _ < 0 + 1000000; omega) (Nat.zero_le _) ⟨⟨_, _, _, rfl⟩, b, .refl⟩
  · obtain ⟨⟨y6, y7, y14, rfl⟩, b1, f1⟩ := hI
    have j1 := j.fr f1 hn
    have hsn := b1.lt
    refine ⟨_, hgo i h1 hi, ?_⟩
    refine w_nam (w_s (w_asg (w_B (w_B (w_N (w_A (w_B (w_loc rfl (w_cst ?_)))))))))
    refine p_ixL (k := 0) (d := .str ss[0]) j1.st (by rw [List.getElem?_map, List.getElem?_eq_getElem h0]; rfl) (w_A0 (p_mkLst (by simp) (w_loc rfl ?_)))
    refine p_mulL new_get (by omega) ?_
    have e2 : ((h1.new (.lst [.str ss[0]])).new (.lst (List.replicate (3 + i) (D.str ss[0])))).get (h1.new (.lst [.str ss[0]])).n = some (.lst (List.replicate (3 + i) (D.str ss[0]))) := new_get
    have f2 : Fr [s] h1 ((h1.new (.lst [.str ss[0]])).new (.lst (List.replicate (3 + i) (D.str ss[0])))) := Fr.new.trans .new
    have b2 : Bud ((h1.new (.lst [.str ss[0]])).new (.lst (List.replicate (3 + i) (D.str ss[0])))) s (1000 - 10 * i) := b1.new.new
    have n2 : s ≠ (h1.new (.lst [D.str ss[0]])).n := by show s ≠ h1.n + 1; omega
    generalize ((h1.new (.lst [.str ss[0]])).new (.lst (List.replicate (3 + i) (D.str ss[0])))) = h2 at e2 f2 b2
    generalize (h1.new (.lst [D.str ss[0]])).n = ra at e2 n2
    refine w_picks hP (s := s) (sa := sa) (ss := ss) (fun _ => rfl) (fun _ => rfl) h0 (by omega) hn.1 ?_
    refine w_drc (k := 990 - 10 * i + 3) hd 3 rfl rfl (by omega) (b2.le (by omega)) fun m hm h3 b3 f3 _ => ?_
    refine ⟨m, 990 - 10 * i, rfl, by omega, b3.le (by omega), (f2.trans f3).get j1.st (by simp; exact hn.1), fun zs a h4 hz b4 f4 ha e4 => ?_⟩
    have e24 := (f3.trans f4).get e2 (by simp; exact fun e => n2 e.symm)
    refine p_addL e24 e4 (by simp; omega) ?_
    have e5 : (h4.new (.lst (List.replicate (3 + i) (D.str ss[0]) ++ zs.map D.str))).get h4.n = some (.lst ((List.replicate (3 + i) ss[0] ++ zs).map D.str)) := by rw [new_get, List.map_append, List.map_replicate]
    have f5 : Fr [s] h1 (h4.new (.lst (List.replicate (3 + i) (D.str ss[0]) ++ zs.map D.str))) := ((f2.trans f3).trans f4).trans .new
    have b5 : Bud (h4.new (.lst (List.replicate (3 + i) (D.str ss[0]) ++ zs.map D.str))) s (990 - 10 * i) := b4.new
    generalize h4.new (.lst (List.replicate (3 + i) (D.str ss[0]) ++ zs.map D.str)) = h5 at e5 f5 b5
    generalize h4.n = la at e5
    have j5 := j1.fr f5 hn
    have sq : SeqAt h5 (.ref la) ((List.replicate (3 + i) ss[0] ++ zs).map .str) := .inr ⟨_, rfl, e5⟩
    have lx : (List.replicate (3 + i) ss[0] ++ zs).length < 1000 := by simp; omega
    refine w_nam (w_nx (w_s (w_if (w_orT (w_cmpT (w_met (w_loc rfl (p_ins j5.kd (w_A (w_loc rfl (w_A0 ?_)))))))))))
    refine wp_mono (w_told2 (r0 := r0) (r1 := r1) (Q := fun a b h' => a = b ∧ (∃ t, a = .str t) ∧ Fr [] h5 h') hT hLT j5 hl ok sq sq (.refl _) lx fun t h' f' => ⟨rfl, ⟨t, rfl⟩, f'⟩) fun a2 h6 z => ?_
    refine w_N (w_A (w_loc rfl (w_A (w_loc rfl (w_A0 (wp_mono z fun b2 h7 w => ?_))))))
    obtain ⟨e, ⟨t, et⟩, f7⟩ := w
    subst e et
    refine p_neS ?_
    rw [eqS_refl]
    refine w_asB (w_bf (w_orT1 (w_cmpT (w_met (w_loc rfl (p_ins (f7.get j5.kd (by simp)) (w_A (w_loc rfl (w_A0 ?_)))))))))
    have f7' : Fr [s] h5 h7 := f7.mono fun _ z => by cases z
    have j7 := j5.fr f7' hn
    have sq7 := sq.fr0 f7
    refine wp_mono (w_idx2 (r0 := r0) (r1 := r1) (Q := fun a b h' => a = b ∧ (∃ t : Nat, a = .int t) ∧ Fr [] h7 h') hCo hLI j7 hl ok sq7 sq7 (.refl _) lx fun t h' f' => ⟨rfl, ⟨t, rfl⟩, f'⟩) fun a4 h8' z => ?_
    refine w_N (w_A (w_loc rfl (w_A (w_loc rfl (w_A0 (wp_mono z fun b2 h9 w => ?_))))))
    obtain ⟨e, ⟨t2, et⟩, f9⟩ := w
    subst e et
    refine p_neI ?_
    rw [eqI_refl]
    refine w_asB (w_bf (w_s0 (w_nx (w_s0 ⟨⟨_, _, _, rfl⟩, ?_, ?_⟩))))
    · exact ((b5.fr f7 (by simp)).fr f9 (by simp)).le (by omega)
    · exact ((f1.trans f5).trans f7').trans (f9.mono fun _ z => by cases z)
  · obtain ⟨⟨y6, y7, y14, rfl⟩, b1, f1⟩ := hI
    exact ⟨hen h1, w_nx (k06_D hP hT hLT hCo hLI (j.fr f1 hn) hn h0 h8 hl ok (b1.le (by omega)))⟩
end
end
end PV
set_option Elab.async false
set_option linter.all false
set_option maxRecDepth 100000
set_option maxHeartbeats 2000000
set_option autoImplicit false
namespace PV
noncomputable section
open PySem
/-- one step -/
local macro_rules | `(tactic| walk_at "w") => `(tactic| first
  | with_reducible refine w_s ?_ | with_reducible refine w_s0 ?_ | with_reducible refine w_nx ?_ | with_reducible refine w_rtn ?_ | with_reducible refine w_endR ?_ | with_reducible refine w_endN ?_
  | with_reducible refine w_asg ?_ | with_reducible refine w_rt ?_ | with_reducible refine w_expr ?_ | with_reducible refine w_setE ?_ | with_reducible refine w_setF ?_ | with_reducible refine w_par ?_
  | with_reducible refine w_U ?_ | with_reducible refine w_B ?_ | with_reducible refine w_N ?_ | with_reducible refine w_A ?_ | with_reducible refine w_A0 ?_ | with_reducible refine w_cst ?_
  | ((with_reducible show wp (xLoc _ _) _ _); refine w_loc rfl ?_)
  | with_reducible refine w_and ?_ | with_reducible refine w_and1 ?_ | with_reducible refine w_or ?_ | with_reducible refine w_or1 ?_ | with_reducible refine w_not ?_ | with_reducible refine w_chn ?_ | with_reducible refine w_if ?_
  | with_reducible refine w_sl ?_ | with_reducible refine w_on ?_ | with_reducible refine w_os ?_ | with_reducible refine w_prp ?_ | with_reducible refine w_met ?_ | with_reducible refine w_cmpT ?_ | with_reducible refine w_chnT ?_
  | with_reducible refine w_andT ?_ | with_reducible refine w_andT1 ?_ | with_reducible refine w_orT ?_ | with_reducible refine w_orT1 ?_ | with_reducible refine w_notT ?_
  | with_reducible refine w_nam ?_ | ((with_reducible refine w_gt ?wl ?_); (case wl => exact rfl)) | with_reducible refine w_gs ?_ | with_reducible refine w_gs0 ?_ | with_reducible refine w_sub ?_
  | with_reducible refine w_bt ?_ | with_reducible refine w_bf ?_ | with_reducible refine w_tru ?_ | with_reducible refine w_asB ?_ | with_reducible refine w_ret ?_
  | with_reducible refine p_le ?_ | with_reducible refine p_lt ?_ | with_reducible refine p_gt ?_ | with_reducible refine p_ge ?_ | with_reducible refine p_eqI ?_ | with_reducible refine p_neI ?_ | with_reducible refine p_eqS ?_ | with_reducible refine p_neS ?_
  | with_reducible refine p_is ?_ | with_reducible refine p_isnt ?_ | with_reducible refine p_add ?_ | with_reducible refine p_asI ?_ | with_reducible refine p_lenT ?_ | with_reducible refine p_lenS ?_)
/-- a primitive that reckons -/
local macro_rules | `(tactic| walk_at "r") => `(tactic| refine w_run rfl ?_)
def kf_law06C (I : Nat → Nat) (ct : CT) : List KS := [(xFor (xB rngI2 (xCst (.int (Int.ofNat 3))) (xCst (.int (Int.ofNat 11)))) (xNam 6) (xSs [(xAsg (xNam 7) (xB addD (xB mulD (xN mkLst [(xB ixM (xLoc 2) (xCst (.int (Int.ofNat 0))))]) (xLoc 6)) (xLc (xU rngI1 (xN (ct 0) [(xLoc 1), (xCst (.int (Int.ofNat 3)))])) (xNam 14) none (xN (ct (I 22)) [(xLoc 1), (xLoc 2)]) [14]))), (xIf (xOrT [(xCmpT (eqQ true) (xMet (I 1000) (ct (I 18)) (xLoc 4) [(xLoc 7)]) (xN (ct (I 31)) [(xLoc 3), (xLoc 7)])), (xCmpT (eqQ true) (xMet (I 1000) (ct (I 19)) (xLoc 4) [(xLoc 7)]) (xN (ct (I 30)) [(xLoc 3), (xLoc 7)]))]) (xSs [(xRet (xCst (.bl false)))]) (xSs []))])), (xSetE 7 (xLc (xU rngI1 (xCst (.int (Int.ofNat 40)))) (xNam 14) none (xN (ct (I 22)) [(xLoc 1), (xLoc 2)]) [14])), (xRet (xAnd [(xB (eqQ false) (xMet (I 1000) (ct (I 18)) (xLoc 4) [(xLoc 7)]) (xN (ct (I 31)) [(xLoc 3), (xLoc 7)])), (xB (eqQ false) (xMet (I 1000) (ct (I 19)) (xLoc 4) [(xLoc 7)]) (xN (ct (I 30)) [(xLoc 3), (xLoc 7)]))]))]
def kf_law06B (I : Nat → Nat) (ct : CT) : KS := xFor (xU seqIK (xN (ct (I 32)) [(xB addD (xU sortM (xLoc 2)) (xN mkLst [(xCst (.str [122, 122, 122, 122, 122, 122]))])), (xCst (.int (Int.ofNat 4)))])) (xNam 5) (xSs [(xSetE 13 (xLc (xU seqIK (xN (ct (I 23)) [(xLoc 1), (xU lenM (xLoc 5))])) (xNam 14) none (xB ixM (xLoc 5) (xLoc 14)) [14])), (xIf (xOrT [(xCmpT (eqQ true) (xMet (I 1000) (ct (I 19)) (xLoc 4) [(xLoc 13)]) (xN (ct (I 30)) [(xLoc 3), (xLoc 5)])), (xCmpT (eqQ true) (xMet (I 1000) (ct (I 18)) (xLoc 4) [(xU tupX (xLoc 13))]) (xN (ct (I 31)) [(xLoc 3), (xLoc 5)]))]) (xSs [(xRet (xCst (.bl false)))]) (xSs []))])
section
variable {ct : CT} {I : Nat → Nat} {s sa ca k : Nat} {ss : List (List Nat)} {cls : List Cl} {hand parts : List (List Nat)} {last : List Nat} {r0 r1 : D}
theorem k06_B (hd : IsDraw ct) (hP : PickSp (ct (I 22))) (hO : OrderSp (ct (I 23))) (hLs : LListsSp (ct (I 32))) (hT : ToldSp (I 1000) (ct (I 18))) (hLT : LToldSp (ct (I 31))) (hCo : CountingSp (I 1000) (ct (I 19))) (hLI : LIndexSp (ct (I 30))) {h : VH} (j : J6 (I 1000) sa ca k ss cls (mkKD hand parts cls last) h) (hn : sa ≠ s ∧ ca ≠ s ∧ k ≠ s) (h0 : 0 < ss.length) (h5 : ss.length ≤ 7) (hl : cls.length ≤ 6) (ok : ∀ c, c ∈ cls → ClOk c) (b : Bud h s 900000) {x0 x5 x6 x7 x8 x9 x10 x11 x12 x13 x14 : Option D} :
    wp (xSs (kf_law06B I ct :: kf_law06C I ct) [x0, some (.ref s), some (.ref sa), some (.tup [r0, r1, .ref ca, .str last]), some (.ref k), x5, x6, x7, x8, x9, x10, x11, x12, x13, x14]) h fun f h1 => wp (endK f) h1 fun d _ => d = .bl true := by
  unfold kf_law06B
  refine w_s (w_for (w_U (w_N (w_A (w_B (w_U (w_loc rfl ?_)))))))
  refine p_sortL j.st (by omega) (w_N (w_A (w_cst (w_A0 (p_mkLst (by simp) ?_)))))
  refine p_addL ((Fr.new (S := [])).get new_get (by simp)) new_get (by rw [List.length_map, (sortB_perm (lt := ltS) ss).length_eq]; simp; omega) (w_A (w_cst (w_A0 ?_)))
  rw [show (List.map D.str (sortB ltS ss) ++ [D.str [122, 122, 122, 122, 122, 122]]) = (sortB ltS ss ++ [[122, 122, 122, 122, 122, 122]]).map D.str by rw [List.map_append]; rfl]
  have f1 : Fr [] h (((h.new (.lst ((sortB ltS ss).map D.str))).new (.lst [D.str [122, 122, 122, 122, 122, 122]])).new (.lst ((sortB ltS ss ++ [[122, 122, 122, 122, 122, 122]]).map D.str))) := (Fr.new.trans .new).trans .new
  have e1 : (((h.new (.lst ((sortB ltS ss).map D.str))).new (.lst [D.str [122, 122, 122, 122, 122, 122]])).new (.lst ((sortB ltS ss ++ [[122, 122, 122, 122, 122, 122]]).map D.str))).get ((h.new (.lst ((sortB ltS ss).map D.str))).new (.lst [D.str [122, 122, 122, 122, 122, 122]])).n = some (.lst ((sortB ltS ss ++ [[122, 122, 122, 122, 122, 122]]).map D.str)) := new_get
  generalize (((h.new (.lst ((sortB ltS ss).map D.str))).new (.lst [D.str [122, 122, 122, 122, 122, 122]])).new (.lst ((sortB ltS ss ++ [[122, 122, 122, 122, 122, 122]]).map D.str))) = h1 at f1 e1
  generalize ((h.new (.lst ((sortB ltS ss).map D.str))).new (.lst [D.str [122, 122, 122, 122, 122, 122]])).n = la at e1
  have ll : (sortB ltS ss ++ [[122, 122, 122, 122, 122, 122]]).length ≤ 8 := by rw [List.length_append, (sortB_perm (lt := ltS) ss).length_eq]; simp; omega
  refine hLs h1 (.ref la) _ 4 _ (.inr ⟨_, rfl, e1⟩) ll (by omega) fun rows ds h2 ra f2 hra g2 lr br cr => ?_
  have f12 : Fr [s] h h2 := (f1.trans f2).mono fun _ z => by cases z
  have b2 : Bud h2 s 900000 := b.fr (f1.trans f2) (by simp)
  have j2 := j.fr f12 hn
  have hlen := lr.len
  have hsn : s < h.n := b.lt
  have nra : ra ≠ s := by have := f1.1; omega
  refine w_seqI (.inr ⟨ra, rfl, g2⟩) fun st hlk hgo => ⟨hlk, ?_⟩
  refine w_loopK ds.length (fun i env h' => (∃ y5 y13 y14, env = [x0, some (.ref s), some (.ref sa), some (.tup [r0, r1, .ref ca, .str last]), some (.ref k), y5, x6, x7, x8, x9, x10, x11, x12, y13, y14]) ∧ Bud h' s (900000 - 4 * i) ∧ Fr [s] h2 h') (fun i env h3 hi hI => ?_) (fun env h3 hI => ?_) turns 0 _ _ (by show _ < 0 + 1000000; omega) (Nat.zero_le _) ⟨⟨_, _, _, rfl⟩, b2, .refl⟩
  · obtain ⟨⟨y5, y13, y14, rfl⟩, b3, f3⟩ := hI
    have hi2 : i < rows.length := by omega
    obtain ⟨rb, er, _, gr⟩ := lr.at hi hi2
    refine ⟨_, by rw [hgo i h3 (.inr ⟨ra, rfl, f3.get g2 (by simp; exact nra)⟩), nth_eq, List.getElem?_eq_getElem hi], ?_⟩
    rw [er]
    have hrb : rb ≠ s := by
      intro e
      subst e
      obtain ⟨n, e9, _⟩ := b2
      rw [gr] at e9
      cases e9
    have gr3 := f3.get gr (by simp; exact hrb)
    have hrl : rows[i].length ≤ 4 := br _ (List.getElem_mem hi2)
    generalize rows[i] = row at gr gr3 hrl
    have j3 := j2.fr f3 hn
    refine w_nam (w_s (w_setE (w_lc (w_U (w_N (w_A (w_loc rfl (w_A (w_U (w_loc rfl (p_lenL gr3 (w_A0 ?_))))))))))))
    rw [List.length_map]
    refine hO h3 s (900000 - 4 * (i + 1)) row.length _ (b3.le (by omega)) (by omega) fun p hp h4 pa b4 f4 hpa e4 => ?_
    have sq4 : SeqAt h4 (.ref pa) (natsD p) := .inr ⟨_, rfl, e4⟩
    refine w_seqI sq4 fun st2 hlk2 hgo2 => ⟨hlk2, ?_⟩
    have hpl : p.length = row.length := by have := hp.length_eq; simpa using this
    have gr4 := f4.get gr3 (by simp; exact hrb)
    refine w_lcmT (S := []) p (fun (i : Nat) => D.int (i : Int)) (fun i => .str (row.getD i [])) (by omega) (fun i h' fr => hgo2 i h' (sq4.fr0 fr)) (fun t ht h5 f5 R hR => ?_) (fun h5 f5 => ?_)
    · have ht2 : t < row.length := List.mem_range.mp (hp.mem_iff.mp ht)
      refine w_nam (w_B (w_loc rfl (w_loc rfl ?_)))
      exact p_ixL (d := .str (row.getD t [])) (f5.get gr4 (by simp)) (by rw [List.getElem?_map, List.getD_eq_getElem?_getD, List.getElem?_eq_getElem ht2]; rfl) (hR h5 .refl)
    · rw [List.reverse_reverse]
      have e6 : (h5.new (.lst (p.map fun i => D.str (row.getD i [])))).get h5.n = some (.lst ((p.map fun i => row.getD i []).map D.str)) := by rw [new_get, List.map_map]; rfl
      have b6 : Bud (h5.new (.lst (p.map fun i => D.str (row.getD i [])))) s (900000 - 4 * (i + 1)) := (b4.fr f5 (by simp)).new
      have f6 : Fr [s] h3 (h5.new (.lst (p.map fun i => D.str (row.getD i [])))) := (f4.trans (f5.mono fun _ z => by cases z)).trans .new
      generalize h5.new (.lst (p.map fun i => D.str (row.getD i []))) = h6 at e6 b6 f6
      generalize h5.n = ma at e6
      have j6 := j3.fr f6 hn
      have gr6 := f6.get gr3 (by simp; exact hrb)
      have sqm : SeqAt h6 (.ref ma) ((p.map fun i => row.getD i []).map .str) := .inr ⟨_, rfl, e6⟩
      have sqr : SeqAt h6 (.ref rb) (row.map .str) := .inr ⟨_, rfl, gr6⟩
      have pm := perm_ix hp
      have lm : (p.map fun i => row.getD i []).length < 1000 := by simp; omega
      refine w_nx (w_s (w_if (w_orT (w_cmpT (w_met (w_loc rfl (p_ins j6.kd (w_A (w_loc rfl (w_A0 ?_))))))))))
      refine wp_mono (w_idx2 (r0 := r0) (r1 := r1) (Q := fun a b h' => a = b ∧ (∃ t : Nat, a = .int t) ∧ Fr [] h6 h') hCo hLI j6 hl ok sqm sqr pm lm fun t h' f' => ⟨rfl, ⟨t, rfl⟩, f'⟩) fun a4 h8' z => ?_
      refine w_N (w_A (w_loc rfl (w_A (w_loc rfl (w_A0 (wp_mono z fun b2 h7 w => ?_))))))
      obtain ⟨e, ⟨t2, et⟩, f7⟩ := w
      subst e et
      refine p_neI ?_
      rw [eqI_refl]
      have f7' : Fr [s] h6 h7 := f7.mono fun _ z => by cases z
      have j7 := j6.fr f7' hn
      refine w_asB (w_bf (w_orT1 (w_cmpT (w_met (w_loc rfl (p_ins j7.kd (w_A (w_U (w_loc rfl (p_tupL (f7.get e6 (by simp)) (w_A0 ?_)))))))))))
      refine wp_mono (w_told2 (r0 := r0) (r1 := r1) (Q := fun a b h' => a = b ∧ (∃ t, a = .str t) ∧ Fr [] h7 h') hT hLT j7 hl ok (.inl rfl) (sqr.fr0 f7) pm lm fun t h' f' => ⟨rfl, ⟨t, rfl⟩, f'⟩) fun a2 h6' z => ?_
      refine w_N (w_A (w_loc rfl (w_A (w_loc rfl (w_A0 (wp_mono z fun b2 h9 w => ?_))))))
      obtain ⟨e, ⟨t, et⟩, f9⟩ := w
      subst e et
      refine p_neS ?_
      rw [eqS_refl]
      refine w_asB (w_bf (w_s0 (w_nx (w_s0 ⟨⟨_, _, _, rfl⟩, ?_, ?_⟩))))
      · exact (b6.fr f7 (by simp)).fr f9 (by simp)
      · exact ((f3.trans f6).trans f7').trans (f9.mono fun _ z => by cases z)
  · obtain ⟨⟨y5, y13, y14, rfl⟩, b3, f3⟩ := hI
    refine ⟨by rw [hgo _ h3 (.inr ⟨ra, rfl, f3.get g2 (by simp; exact nra)⟩), nth_eq, List.getElem?_eq_none (Nat.le_refl _)], w_nx ?_⟩
    exact k06_C hd hP hT hLT hCo hLI (j2.fr f3 hn) hn h0 (by omega) hl ok (b3.le (by omega))
end
end
end PV
set_option Elab.async false
set_option linter.all false
set_option maxRecDepth 100000
set_option maxHeartbeats 2000000
set_option autoImplicit false
namespace PV
noncomputable section
open PySem
/-- one step -/
local macro_rules | `(tactic| walk_at "w") => `(tactic| first
  | with_reducible refine w_s ?_ | with_reducible refine w_s0 ?_ | with_reducible refine w_nx ?_ | with_reducible refine w_rtn ?_ | with_reducible refine w_endR ?_ | with_reducible refine w_endN ?_
  | with_reducible refine w_asg ?_ | with_reducible refine w_rt ?_ | with_reducible refine w_expr ?_ | with_reducible refine w_setE ?_ | with_reducible refine w_setF ?_ | with_reducible refine w_par ?_
  | with_reducible refine w_U ?_ | with_reducible refine w_B ?_ | with_reducible refine w_N ?_ | with_reducible refine w_A ?_ | with_reducible refine w_A0 ?_ | with_reducible refine w_cst ?_
  | ((with_reducible show wp (xLoc _ _) _ _); refine w_loc rfl ?_)
  | with_reducible refine w_and ?_ | with_reducible refine w_and1 ?_ | with_reducible refine w_or ?_ | with_reducible refine w_or1 ?_ | with_reducible refine w_not ?_ | with_reducible refine w_chn ?_ | with_reducible refine w_if ?_
  | with_reducible refine w_sl ?_ | with_reducible refine w_on ?_ | with_reducible refine w_os ?_ | with_reducible refine w_prp ?_ | with_reducible refine w_met ?_ | with_reducible refine w_cmpT ?_ | with_reducible refine w_chnT ?_
  | with_reducible refine w_andT ?_ | with_reducible refine w_andT1 ?_ | with_reducible refine w_orT ?_ | with_reducible refine w_orT1 ?_ | with_reducible refine w_notT ?_
  | with_reducible refine w_nam ?_ | ((with_reducible refine w_gt ?wl ?_); (case wl => exact rfl)) | with_reducible refine w_gs ?_ | with_reducible refine w_gs0 ?_ | with_reducible refine w_sub ?_
  | with_reducible refine w_bt ?_ | with_reducible refine w_bf ?_ | with_reducible refine w_tru ?_ | with_reducible refine w_asB ?_ | with_reducible refine w_ret ?_
  | with_reducible refine p_le ?_ | with_reducible refine p_lt ?_ | with_reducible refine p_gt ?_ | with_reducible refine p_ge ?_ | with_reducible refine p_eqI ?_ | with_reducible refine p_neI ?_ | with_reducible refine p_eqS ?_ | with_reducible refine p_neS ?_
  | with_reducible refine p_is ?_ | with_reducible refine p_isnt ?_ | with_reducible refine p_add ?_ | with_reducible refine p_asI ?_ | with_reducible refine p_lenT ?_ | with_reducible refine p_lenS ?_)
/-- a primitive that reckons -/
local macro_rules | `(tactic| walk_at "r") => `(tactic| refine w_run rfl ?_)
def kf_law06_6 (I : Nat → Nat) (ct : CT) : List KS := (xAsg (xNam 3) (xN mkTup [(xLoc 8), (xLoc 9), (xLoc 10), (xLoc 11)])) :: (xAsg (xNam 4) (xN (mkIns ct (I 1000) (I 10)) [(xB ixM (xLoc 3) (xCst (.int (Int.ofNat 0)))), (xB ixM (xLoc 3) (xCst (.int (Int.ofNat 1)))), (xB ixM (xLoc 3) (xCst (.int (Int.ofNat 2)))), (xB ixM (xLoc 3) (xCst (.int (Int.ofNat 3))))])) :: kf_law06B I ct :: kf_law06C I ct
def kf_law06_4 (I : Nat → Nat) (ct : CT) : List KS := (xIf (xCmpT (eqQ false) (xN (ct 0) [(xLoc 1), (xCst (.int (Int.ofNat 4)))]) (xCst (.int (Int.ofNat 0)))) (xSs [(xAsg (xNam 12) (xB addD (xCst (.int (Int.ofNat 4))) (xN (ct 0) [(xLoc 1), (xCst (.int (Int.ofNat 6)))]))), (xAsg (xNam 10) (xB addD (xN mkLst [(xN mkTup [(xN (ct (I 22)) [(xLoc 1), (xLoc 2)]), (xN mkTup [(xN mkTup [(xN (ct 0) [(xLoc 1), (xCst (.int (Int.ofNat 10)))]), (xLoc 12), (xN mkTup [(xB ixM (xLoc 2) (xCst (.int (Int.ofNat 0))))])])])])]) (xLoc 10)))]) (xSs [])) :: kf_law06_6 I ct
def kf_law06_3 (I : Nat → Nat) (ct : CT) : List KS := (xIf (xCmpT (eqQ false) (xN (ct 0) [(xLoc 1), (xCst (.int (Int.ofNat 2)))]) (xCst (.int (Int.ofNat 0)))) (xSs [(xSetE 7 (xLc (xU rngI1 (xB addD (xCst (.int (Int.ofNat 3))) (xN (ct 0) [(xLoc 1), (xCst (.int (Int.ofNat 2)))]))) (xNam 14) none (xN (ct (I 28)) [(xLoc 1), (xLoc 2)]) [14])), (xAsg (xNam 10) (xB addD (xB addD (xSl (xLoc 10) none (some (xCst (.int (Int.ofNat 2))))) (xN mkLst [(xN mkTup [(xN (ct (I 22)) [(xLoc 1), (xLoc 2)]), (xU tupX (xLoc 7))])])) (xSl (xLoc 10) (some (xCst (.int (Int.ofNat 2)))) none)))]) (xSs [])) :: kf_law06_4 I ct
def kf_law06 (I : Nat → Nat) (ct : CT) : KS := xSs ((xAsg (xNam 1) (xN (ct 1) [(xLoc 0)])) :: (xAsg (xNam 2) (xN (ct (I 26)) [(xLoc 1), (xB addD (xCst (.int (Int.ofNat 2))) (xN (ct 0) [(xLoc 1), (xCst (.int (Int.ofNat 3)))]))])) :: (xAsg (xGt 4 [(xNam 8), (xNam 9), (xNam 10), (xNam 11)]) (xN (ct (I 29)) [(xLoc 1), (xLoc 2), (xN mkLst [(xCst (.str [97]))])])) :: kf_law06_3 I ct)
theorem clArg_d (h : VH) (c : Cl) : ClArg h c.d c := by
  refine ⟨.tup (c.cs.map Cd.d), c.cs.map Cd.d, rfl, .inl rfl, ?_⟩
  generalize c.cs = cs
  induction cs with
  | nil => exact .nil
  | cons d r ih => exact .cons ⟨_, rfl, .inl rfl⟩ ih
theorem clArgs_d (h : VH) : ∀ cs : List Cl, All2 (ClArg h) (cs.map Cl.d) cs
  | [] => .nil
  | c :: r => .cons (clArg_d h c) (clArgs_d h r)
structure H6 (s sa a1 a2 ca : Nat) (ss hand parts : List (List Nat)) (cls : List Cl) (h : VH) : Prop where
  st : h.get sa = some (.lst (ss.map .str))
  hd : h.get a1 = some (.lst (hand.map .str))
  pt : h.get a2 = some (.lst (parts.map .str))
  cl : h.get ca = some (.lst (cls.map Cl.d))
theorem NoRef.ne {S : List Nat} {h : VH} (n : NoRef S h) {a : Nat} {xs : List D} (e : h.get a = some (.lst xs)) : a ∉ S := fun z => n a z xs e
section
variable {ct : CT} {I : Nat → Nat} {s sa a1 a2 ca : Nat} {ss hand parts : List (List Nat)} {cls : List Cl} {last : List Nat}
theorem H6.fr {h h' : VH} (j : H6 s sa a1 a2 ca ss hand parts cls h) (f : Fr [s] h h') (b : NoRef [s] h) : H6 s sa a1 a2 ca ss hand parts cls h' := by
  have ne : ∀ a xs, h.get a = some (.lst xs) → a ∉ [s] := fun a xs e z => b a z xs e
  exact ⟨f.get j.st (ne _ _ j.st), f.get j.hd (ne _ _ j.hd), f.get j.pt (ne _ _ j.pt), f.get j.cl (ne _ _ j.cl)⟩
structure S6 (ct : CT) (I : Nat → Nat) : Prop where
  hd : IsDraw ct
  hs : ct 1 = prim2
  ns : DNamesSp (ct (I 26))
  ru : DRulesSp (ct (I 29))
  co : DCondSp (ct (I 28))
  pi : PickSp (ct (I 22))
  or : OrderSp (ct (I 23))
  ki : KindSp (I 1000) (ct (I 10))
  ls : LListsSp (ct (I 32))
  cn : CountingSp (I 1000) (ct (I 19))
  te : ToldSp (I 1000) (ct (I 18))
  li : LIndexSp (ct (I 30))
  lt : LToldSp (ct (I 31))
theorem k06_6 (Z : S6 ct I) {h : VH} (j : H6 s sa a1 a2 ca ss hand parts cls h) (h0 : 0 < ss.length) (h7 : ss.length ≤ 7) (nh : Nms hand) (np : Nms parts) (ne : 0 < hand.length + parts.length) (nl : Nm last) (hl : cls.length ≤ 6) (ok : ∀ c, c ∈ cls → ClOk c) (b : Bud h s 900000) {x0 x3 x4 x5 x6 x7 x12 x13 x14 : Option D} :
    wp (xSs (kf_law06_6 I ct) [x0, some (.ref s), some (.ref sa), x3, x4, x5, x6, x7, some (.ref a1), some (.ref a2), some (.ref ca), some (.str last), x12, x13, x14]) h fun f h1 => wp (endK f) h1 fun d _ => d = .bl true := by
  unfold kf_law06_6
  have hno := b.no
  have ne0 : ∀ a xs, h.get a = some (.lst xs) → a ≠ s := fun a xs e z => hno a (by simp [z]) xs e
  refine w_s (w_asg (w_N (w_A (w_loc rfl (w_A (w_loc rfl (w_A (w_loc rfl (w_A (w_loc rfl (w_A0 (p_mkTup (by simp) (w_nam (w_nx ?_))))))))))))))
  refine w_s (w_asg (w_N (w_A (w_B (w_loc rfl (w_cst ?_))))))
  refine w_run (m := ixM (.tup [.ref a1, .ref a2, .ref ca, .str last]) (.int (Int.ofNat 0))) (a := .ref a1) (h' := h) rfl ?_
  refine w_A (w_B (w_loc rfl (w_cst ?_)))
  refine w_run (m := ixM (.tup [.ref a1, .ref a2, .ref ca, .str last]) (.int (Int.ofNat 1))) (a := .ref a2) (h' := h) rfl ?_
  refine w_A (w_B (w_loc rfl (w_cst (p_ix4.1 ?_))))
  refine w_A (w_B (w_loc rfl (w_cst (p_ix4.2 (w_A0 ?_)))))
  refine w_mk ?_
  have f1 : Fr [] h (h.new (.ins (I 1000) [])) := .new
  refine Z.ki (h.new (.ins (I 1000) [])) h.n (.ref a1) (.ref a2) (.ref ca) (cls.map Cl.d) hand parts cls last _ new_get (.inr ⟨_, rfl, f1.get j.hd (by simp)⟩) nh (.inr ⟨_, rfl, f1.get j.pt (by simp)⟩) np ne (.inr ⟨_, rfl, f1.get j.cl (by simp)⟩) (clArgs_d _ cls) hl ok nl fun h2 f2 kd => ⟨rfl, w_nam (w_nx ?_)⟩
  have f12 : Fr [] h h2 := ((f1.mono fun _ z => by cases z).trans f2).cut (Nat.le_refl _)
  exact k06_B (k := h.n) Z.hd Z.pi Z.or Z.ls Z.te Z.lt Z.cn Z.li ⟨f12.get j.st (by simp), f12.get j.cl (by simp), kd⟩ ⟨ne0 _ _ j.st, ne0 _ _ j.cl, by have := b.lt; omega⟩ h0 h7 hl ok (b.fr f12 (by simp))
theorem k06_4 (Z : S6 ct I) {h : VH} (j : H6 s sa a1 a2 ca ss hand parts cls h) (ns : Nms ss) (h0 : 0 < ss.length) (h7 : ss.length ≤ 7) (nh : Nms hand) (np : Nms parts) (ne : 0 < hand.length + parts.length) (nl : Nm last) (hl : cls.length ≤ 5) (ok : ∀ c, c ∈ cls → ClOk c) (b : Bud h s 910000) {x0 x3 x4 x5 x6 x7 x12 x13 x14 : Option D} :
    wp (xSs (kf_law06_4 I ct) [x0, some (.ref s), some (.ref sa), x3, x4, x5, x6, x7, some (.ref a1), some (.ref a2), some (.ref ca), some (.str last), x12, x13, x14]) h fun f h1 => wp (endK f) h1 fun d _ => d = .bl true := by
  unfold kf_law06_4
  refine w_s (w_if (w_cmpT ?_))
  refine w_drc (k := 909999) Z.hd 4 rfl rfl (by omega) b fun d1 hd1 h1 b1 f1 _ => w_cst (p_eqI (w_asB (w_bif (fun c => ?_) (fun c => ?_))))
  · have j1 := j.fr f1 b.no
    refine w_s (w_asg (w_B (w_cst ?_)))
    refine w_drc (k := 909998) Z.hd 6 rfl rfl (by omega) b1 fun d2 hd2 h2 b2 f2 _ => p_add (w_nam (w_nx ?_))
    have j2 := j1.fr f2 b1.no
    refine w_s (w_asg (w_B (w_N (w_A (w_N (w_A (w_N (w_A (w_loc rfl (w_A (w_loc rfl (w_A0 ?_))))))))))))
    refine Z.pi h2 s 909997 (.ref sa) _ _ b2 (.inr ⟨_, rfl, j2.st⟩) (by simpa using h0) (by simp; omega) fun x hx h3 b3 f3 => ?_
    obtain ⟨y, hy, rfl⟩ := List.mem_map.mp hx
    have j3 := j2.fr f3 b2.no
    refine w_A (w_N (w_A (w_N (w_A ?_))))
    refine w_drc (k := 909996) Z.hd 10 rfl rfl (by omega) b3 fun d3 hd3 h4 b4 f4 _ => ?_
    have j4 := j3.fr f4 b3.no
    refine w_A (w_loc rfl (w_A (w_N (w_A (w_B (w_loc rfl (w_cst ?_)))))))
    refine p_ixL (k := 0) (d := .str ss[0]) j4.st (by rw [List.getElem?_map, List.getElem?_eq_getElem h0]; rfl) ?_
    refine w_A0 (p_mkTup (by simp) (w_A0 (p_mkTup (by simp) (w_A0 (p_mkTup (by simp) (w_A0 (p_mkTup (by simp) (w_A0 (p_mkLst (by simp) (w_loc rfl ?_))))))))))
    refine p_addL new_get ((Fr.new (S := [])).get j4.cl (by simp)) (by simp; omega) (w_nam (w_nx (w_s0 (w_nx ?_))))
    have ecl : ∀ hh : VH, (hh.new (.lst ([.tup [.str y, .tup [.tup [.int (d3 : Int), .int (Int.ofNat 4 + (d2 : Int)), .tup [.str ss[0]]]]]] ++ cls.map Cl.d))).get hh.n = some (.lst (((⟨y, [⟨d3, some (4 + (d2 : Int)), [ss[0]]⟩]⟩ : Cl) :: cls).map Cl.d)) := fun hh => by rw [new_get]; rfl
    have fN : Fr [s] h4 ((h4.new (.lst [.tup [.str y, .tup [.tup [.int (d3 : Int), .int (Int.ofNat 4 + (d2 : Int)), .tup [.str ss[0]]]]]])).new (.lst ([.tup [.str y, .tup [.tup [.int (d3 : Int), .int (Int.ofNat 4 + (d2 : Int)), .tup [.str ss[0]]]]]] ++ cls.map Cl.d))) := Fr.new.trans .new
    have jN := j4.fr fN b4.no
    refine k06_6 Z (cls := ⟨y, [⟨d3, some (4 + (d2 : Int)), [ss[0]]⟩]⟩ :: cls) ⟨jN.st, jN.hd, jN.pt, ecl _⟩ h0 h7 nh np ne nl (by simp; omega) (fun c hc => ?_) (b4.new.new.le (by omega))
    rcases List.mem_cons.mp hc with rfl | z
    · refine ⟨ns.n y hy, by simp, fun d hd => ?_⟩
      simp at hd
      subst hd
      refine ⟨⟨by show (0 : Int) ≤ (d3 : Int); omega, by show (d3 : Int) ≤ 9; omega⟩, fun k hk => ?_, ⟨fun x hx => ?_, by simp, by simp⟩, by simp⟩
      · have : (4 : Int) + (d2 : Int) = k := Option.some.inj hk
        omega
      · simp at hx; rw [hx]; exact ns.n _ (List.getElem_mem h0)
    · exact ok c z
  · exact w_s0 (w_nx (k06_6 Z (j.fr f1 b.no) h0 h7 nh np ne nl (by omega) ok (b1.le (by omega))))
theorem k06_3 (Z : S6 ct I) {h : VH} (j : H6 s sa a1 a2 ca ss hand parts cls h) (ns : Nms ss) (h0 : 0 < ss.length) (h7 : ss.length ≤ 7) (nh : Nms hand) (np : Nms parts) (ne : 0 < hand.length + parts.length) (nl : Nm last) (hl : cls.length ≤ 3) (ok : ∀ c, c ∈ cls → ClOk c) (b : Bud h s 920000) {x0 x3 x4 x5 x6 x7 x12 x13 x14 : Option D} :
    wp (xSs (kf_law06_3 I ct) [x0, some (.ref s), some (.ref sa), x3, x4, x5, x6, x7, some (.ref a1), some (.ref a2), some (.ref ca), some (.str last), x12, x13, x14]) h fun f h1 => wp (endK f) h1 fun d _ => d = .bl true := by
  unfold kf_law06_3
  refine w_s (w_if (w_cmpT ?_))
  refine w_drc (k := 919999) Z.hd 2 rfl rfl (by omega) b fun d1 hd1 h1 b1 f1 _ => w_cst (p_eqI (w_asB (w_bif (fun c => ?_) (fun c => ?_))))
  · have j1 := j.fr f1 b.no
    refine w_s (w_setE (w_lc (w_U (w_B (w_cst ?_)))))
    refine w_drc (k := 919998) Z.hd 2 rfl rfl (by omega) b1 fun d2 hd2 h2 b2 f2 _ => p_add ?_
    have j2 := j1.fr f2 b1.no
    rw [show (Int.ofNat 3 + (d2 : Int)) = ((3 + d2 : Nat) : Int) by simp]
    refine w_rng (by omega) fun st hlk hgo hen => ⟨hlk, ?_⟩
    refine w_lcK (3 + d2) (fun i acc h' => ∃ cs : List Cd, acc = (cs.map Cd.d).reverse ∧ cs.length = i ∧ (∀ c, c ∈ cs → CdOk c) ∧ Bud h' s (919998 - 20 * i) ∧ Fr [s] h2 h') (fun i acc h3 hi hI => ?_) (fun acc h3 hI => ?_) turns 0 [] _ (by show _ < 0 + 1000000; omega) (Nat.zero_le _) ⟨[], rfl, rfl, (fun c z => by cases z), b2, .refl⟩
    · obtain ⟨cs, rfl, hc1, hc2, b3, f3⟩ := hI
      refine ⟨_, hgo i h3 hi, ?_⟩
      refine w_nam (w_tn (w_bt (w_N (w_A (w_loc rfl (w_A (w_loc rfl (w_A0 ?_))))))))
      refine Z.co h3 s (919998 - 20 * (i + 1)) (.ref sa) ss _ (b3.le (by omega)) (.inr ⟨_, rfl, (j2.fr f3 b2.no).st⟩) ns h0 fun c okc _ h4 b4 f4 => ?_
      refine ⟨cs ++ [c], by simp, by simp [hc1], fun y hy => ?_, b4, f3.trans f4⟩
      rcases List.mem_append.mp hy with z | z
      · exact hc2 y z
      · simp at z; rw [z]; exact okc
    · obtain ⟨cs, rfl, hc1, hc2, b3, f3⟩ := hI
      refine ⟨hen h3, ?_⟩
      rw [List.reverse_reverse]
      have j3 := j2.fr f3 b2.no
      have f4 : Fr [s] h3 (h3.new (.lst (cs.map Cd.d))) := .new
      have j4 := j3.fr f4 b3.no
      have b4 : Bud (h3.new (.lst (cs.map Cd.d))) s 919000 := (b3.le (by omega)).new
      have e4 : (h3.new (.lst (cs.map Cd.d))).get h3.n = some (.lst (cs.map Cd.d)) := new_get
      generalize h3.new (.lst (cs.map Cd.d)) = h4 at f4 j4 b4 e4
      generalize h3.n = wa at e4
      refine w_nx (w_s (w_asg (w_B (w_B (w_sl (w_loc rfl (w_on (w_os (w_cst (p_asI ?_))))))))))
      refine p_slL (j := 2) j4.cl ?_
      have f5 : Fr [s] h4 (h4.new (.lst ((cls.map Cl.d).take 2))) := .new
      have j5 := j4.fr f5 b4.no
      have b5 : Bud (h4.new (.lst ((cls.map Cl.d).take 2))) s 919000 := b4.new
      have e5 : (h4.new (.lst ((cls.map Cl.d).take 2))).get h4.n = some (.lst ((cls.map Cl.d).take 2)) := new_get
      have ew5 := f5.get e4 (b4.no.ne e4)
      generalize h4.new (.lst ((cls.map Cl.d).take 2)) = h5 at f5 j5 b5 e5 ew5
      generalize h4.n = ta at e5
      refine w_N (w_A (w_N (w_A (w_N (w_A (w_loc rfl (w_A (w_loc rfl (w_A0 ?_)))))))))
      refine Z.pi h5 s 918999 (.ref sa) _ _ b5 (.inr ⟨_, rfl, j5.st⟩) (by simpa using h0) (by simp; omega) fun x hx h6 b6 f6 => ?_
      obtain ⟨y, hy, rfl⟩ := List.mem_map.mp hx
      have j6 := j5.fr f6 b5.no
      have e6 := f6.get e5 (b5.no.ne e5)
      have ew6 := f6.get ew5 (b5.no.ne ew5)
      refine w_A (w_U (w_loc rfl (p_tupL ew6 (w_A0 (p_mkTup (by simp) (w_A0 (p_mkLst (by simp) ?_)))))))
      refine p_addL ((Fr.new (S := [])).get e6 (by simp)) new_get (by simp; omega) ?_
      have f7 : Fr [s] h6 ((h6.new (.lst [.tup [.str y, .tup (cs.map Cd.d)]])).new (.lst ((cls.map Cl.d).take 2 ++ [.tup [.str y, .tup (cs.map Cd.d)]]))) := Fr.new.trans .new
      have j7 := j6.fr f7 b6.no
      have b7 : Bud ((h6.new (.lst [.tup [.str y, .tup (cs.map Cd.d)]])).new (.lst ((cls.map Cl.d).take 2 ++ [.tup [.str y, .tup (cs.map Cd.d)]]))) s 918999 := b6.new.new
      have e7 : ((h6.new (.lst [.tup [.str y, .tup (cs.map Cd.d)]])).new (.lst ((cls.map Cl.d).take 2 ++ [.tup [.str y, .tup (cs.map Cd.d)]]))).get (h6.new (.lst [.tup [.str y, .tup (cs.map Cd.d)]])).n = some (.lst ((cls.map Cl.d).take 2 ++ [.tup [.str y, .tup (cs.map Cd.d)]])) := new_get
      generalize ((h6.new (.lst [.tup [.str y, .tup (cs.map Cd.d)]])).new (.lst ((cls.map Cl.d).take 2 ++ [.tup [.str y, .tup (cs.map Cd.d)]]))) = h7' at f7 j7 b7 e7
      generalize (h6.new (.lst [.tup [.str y, .tup (cs.map Cd.d)]])).n = ua at e7
      refine w_sl (w_loc rfl (w_os (w_cst (p_asI (w_on ?_)))))
      refine p_slD (j := 2) j7.cl ?_
      refine p_addL ((Fr.new (S := [])).get e7 (by simp)) new_get (by simp; omega) (w_nam (w_nx (w_s0 (w_nx ?_))))
      have f8 : Fr [s] h7' ((h7'.new (.lst ((cls.map Cl.d).drop 2))).new (.lst (((cls.map Cl.d).take 2 ++ [.tup [.str y, .tup (cs.map Cd.d)]]) ++ (cls.map Cl.d).drop 2))) := Fr.new.trans .new
      have j8 := j7.fr f8 b7.no
      refine k06_4 Z (cls := cls.take 2 ++ [⟨y, cs⟩] ++ cls.drop 2) ⟨j8.st, j8.hd, j8.pt, ?_⟩ ns h0 h7 nh np ne nl (by simp; omega) (fun c hc => ?_) (b7.new.new.le (by omega))
      · rw [new_get, List.map_append, List.map_append, List.map_take, List.map_drop]
        rfl
      · rcases List.mem_append.mp hc with z | z
        · rcases List.mem_append.mp z with z | z
          · exact ok c (List.mem_of_mem_take z)
          · simp at z
            subst z
            exact ⟨ns.n y hy, show cs.length ≤ 4 by omega, hc2⟩
        · exact ok c (List.mem_of_mem_drop z)
  · exact w_s0 (w_nx (k06_4 Z (j.fr f1 b.no) ns h0 h7 nh np ne nl (by omega) ok (b1.le (by omega))))
theorem k06_all (Z : S6 ct I) (zs : List Int) : wp (runK 1 15 (kf_law06 I ct) [.kls zs]) ⟨0, .nil⟩ fun d _ => d = .bl true := by
  refine w_call rfl ?_
  unfold kf_law06
  refine w_s (w_asg (w_N (w_A (w_loc rfl (w_A0 ?_)))))
  rw [Z.hs]
  refine w_run (m := prim2 [.kls zs]) (a := .ref 0) (h' := VH.new ⟨0, .nil⟩ (.src 0)) rfl (w_nam (w_nx ?_))
  have b0 : Bud (VH.new ⟨0, .nil⟩ (.src 0)) 0 1000000 := ⟨0, new_get, by omega⟩
  generalize VH.new ⟨0, .nil⟩ (.src 0) = h0 at b0
  refine w_s (w_asg (w_N (w_A (w_loc rfl (w_A (w_B (w_cst ?_)))))))
  refine w_drc (k := 999999) Z.hd 3 rfl rfl (by omega) b0 fun d1 hd1 h1 b1 f1 _ => p_add (w_A0 ?_)
  rw [show (Int.ofNat 2 + (d1 : Int)) = ((2 + d1 : Nat) : Int) by simp]
  refine Z.ns h1 0 999000 (2 + d1) _ (b1.le (by omega)) (by omega) fun ss hl hnm nd h2 sa b2 f2 hsa e2 => w_nam (w_nx ?_)
  have ns : Nms ss := ⟨hnm, nd, by omega⟩
  refine w_s (w_asg (w_N (w_A (w_loc rfl (w_A (w_loc rfl (w_A (w_N (w_A (w_cst (w_A0 (p_mkLst (by simp) (w_A0 ?_)))))))))))))
  have f3 : Fr [] h2 (h2.new (.lst [.str [97]])) := .new
  have e3 := f3.get e2 (by simp)
  have b3 : Bud (h2.new (.lst [.str [97]])) 0 999000 := b2.new
  have ea : (h2.new (.lst [.str [97]])).get h2.n = some (.lst (([[97]] : List (List Nat)).map .str)) := new_get
  generalize h2.new (.lst [.str [97]]) = h3 at f3 e3 b3 ea
  generalize h2.n = aa at ea
  refine Z.ru h3 0 990000 (.ref sa) (.ref aa) ss [[97]] _ (b3.le (by omega)) (.inr ⟨_, rfl, e3⟩) (.inr ⟨_, rfl, ea⟩) ns (by omega) (by omega) (by simp) fun hand parts cls last ro h4 a1 a2 a3 b4 f4 _ _ _ g1 g2 g3 => ?_
  refine w_gt rfl (w_gs (w_nam (w_gs (w_nam (w_gs (w_nam (w_gs (w_nam (w_gs0 (w_nx ?_))))))))))
  have e4 := f4.get e3 (b3.no.ne e3)
  refine k06_3 Z (a1 := a1) (a2 := a2) (ca := a3) (hand := hand) (parts := parts) ⟨e4, g1, g2, g3⟩ ns (by omega) (by omega) ⟨fun x hx => hnm x (ro.hs x hx), ro.hn, by have := ro.hl; omega⟩ ⟨fun x hx => ?_, ?_, ?_⟩ ro.ne (hnm last ro.la) ro.cl (fun c hc => (ro.cs c hc).1) (b4.le (by omega))
  · have := ro.ps.subset hx
    simp at this
    rw [this]
    exact ⟨by simp, by simp, fun c hc => by simp at hc; omega⟩
  · exact (show ([[97]] : List (List Nat)).Nodup by simp).sublist ro.ps
  · have := ro.ps.length_le
    simp at this; omega
end
end
end PV
set_option maxRecDepth 100000
set_option maxHeartbeats 0
set_option Elab.async false
set_option linter.all false
namespace PV
noncomputable section
open PySem PySem.Spec PyProof.Rows L2
def top (i : Nat) : Stmt := PySem.Challenge.pw_partstold_k06_clauses_that_count.main.body.getD i (.Pass ⟨0, 0, 0, 0⟩)
def mem (i j : Nat) : Stmt := (match top i with | .ClassDef _ _ _ b _ _ _ _ _ _ _ => b | _ => []).getD j (.Pass ⟨0, 0, 0, 0⟩)
def gtg0 : List (Str × Gk) := [("_wall", .fn 2 1),
  ("is_name", .fn 3 1),
  ("is_list", .fn 4 1),
  ("are_names", .fn 5 1),
  ("is_number", .fn 6 1),
  ("is_condition", .fn 7 1),
  ("is_clause", .fn 8 1),
  ("are_clauses", .fn 9 1),
  ("holds", .fn 10 2),
  ("counts_of", .fn 11 1),
  ("_law_source", .fn 1 1),
  ("_law_draw", .fn 0 2),
  ("_law_pick", .fn 24 2),
  ("_law_order", .fn 25 2),
  ("_law_subset", .fn 26 2),
  ("_law_name", .fn 27 2),
  ("_law_names", .fn 28 2),
  ("_law_some", .fn 29 2),
  ("_law_condition", .fn 30 2),
  ("_law_rules", .fn 31 3)]
def gtg1 : List (Str × Gk) := [("_law_index", .fn 32 2),
  ("_law_told", .fn 33 2),
  ("_law_lists", .fn 34 2),
  ("law", .fn 35 1),
  ("LETTERS", .cst (.str [97, 98, 99, 100, 101, 102, 103, 104, 105, 106, 107, 108, 109, 110, 111, 112, 113, 114, 115, 116, 117, 118, 119, 120, 121, 122])),
  ("MOST_SIGNS", .cst (.int (8))),
  ("MOST_CLAUSES", .cst (.int (6))),
  ("MOST_CONDITIONS", .cst (.int (4))),
  ("MOST_NUMBER", .cst (.int (9))),
  ("Kind", .cls 0 12 4)]
def gtg : List (Str × Gk) := gtg0 ++ gtg1
def gta0 : List (Str × Ak) := [("own_hand", .fld 0),
  ("own_parts", .fld 1),
  ("own_clauses", .fld 2),
  ("own_last", .fld 3),
  ("hand", .prp 0 13),
  ("parts", .prp 0 14),
  ("clauses", .prp 0 15),
  ("last", .prp 0 16),
  ("index_by", .met 0 18 1),
  ("told_by", .met 0 19 1),
  ("told", .met 0 20 1),
  ("counting", .met 0 21 1),
  ("cap", .met 0 22 1),
  ("all_states", .met 0 23 0)]
def gta : List (Str × Ak) := gta0
def gt : Ge := ⟨gtg, gta⟩
def r2 : Fnr := ⟨"_wall", "_wall", ["k"], ["k"], (top 0)⟩
def r3 : Fnr := ⟨"is_name", "is_name", ["value"], ["value", "sign"], (top 10)⟩
def r4 : Fnr := ⟨"is_list", "is_list", ["value"], ["value"], (top 11)⟩
def r5 : Fnr := ⟨"are_names", "are_names", ["value"], ["value", "name"], (top 12)⟩
def r6 : Fnr := ⟨"is_number", "is_number", ["value"], ["value"], (top 13)⟩
def r7 : Fnr := ⟨"is_condition", "is_condition", ["value"], ["value"], (top 14)⟩
def r8 : Fnr := ⟨"is_clause", "is_clause", ["value"], ["value", "one"], (top 15)⟩
def r9 : Fnr := ⟨"are_clauses", "are_clauses", ["value"], ["value", "one"], (top 16)⟩
def r10 : Fnr := ⟨"holds", "holds", ["condition", "counts"], ["condition", "counts", "number", "least", "most", "states", "state"], (top 17)⟩
def r11 : Fnr := ⟨"counts_of", "counts_of", ["states"], ["states", "found", "state"], (top 18)⟩
def r12 : Fnr := ⟨"__init__", "Kind.__init__", ["self", "hand", "parts", "clauses", "last"], ["self", "hand", "parts", "clauses", "last", "found", "state", "conditions", "rows", "kind", "least", "most", "states", "one"], (mem 19 0)⟩
def r13 : Fnr := ⟨"hand", "Kind.hand", ["self"], ["self"], (mem 19 1)⟩
def r14 : Fnr := ⟨"parts", "Kind.parts", ["self"], ["self"], (mem 19 2)⟩
def r15 : Fnr := ⟨"clauses", "Kind.clauses", ["self"], ["self"], (mem 19 3)⟩
def r16 : Fnr := ⟨"last", "Kind.last", ["self"], ["self"], (mem 19 4)⟩
def r17 : Fnr := ⟨"__eq__", "Kind.__eq__", ["self", "other"], ["self", "other"], (mem 19 5)⟩
def r18 : Fnr := ⟨"index_by", "Kind.index_by", ["self", "counts"], ["self", "counts", "index", "state", "conditions", "condition"], (mem 19 6)⟩
def r19 : Fnr := ⟨"told_by", "Kind.told_by", ["self", "counts"], ["self", "counts", "index"], (mem 19 7)⟩
def r20 : Fnr := ⟨"told", "Kind.told", ["self", "states"], ["self", "states"], (mem 19 8)⟩
def r21 : Fnr := ⟨"counting", "Kind.counting", ["self", "states"], ["self", "states"], (mem 19 9)⟩
def r22 : Fnr := ⟨"cap", "Kind.cap", ["self", "state"], ["self", "state"], (mem 19 10)⟩
def r23 : Fnr := ⟨"all_states", "Kind.all_states", ["self"], ["self"], (mem 19 11)⟩
def r24 : Fnr := ⟨"_law_pick", "_law_pick", ["_law_source_here", "_law_things"], ["_law_source_here", "_law_things"], (top 23)⟩
def r25 : Fnr := ⟨"_law_order", "_law_order", ["_law_source_here", "_law_many"], ["_law_source_here", "_law_many", "_law_left", "_law_k"], (top 24)⟩
def r26 : Fnr := ⟨"_law_subset", "_law_subset", ["_law_source_here", "_law_row"], ["_law_source_here", "_law_row", "_law_one"], (top 25)⟩
def r27 : Fnr := ⟨"_law_name", "_law_name", ["_law_source_here", "_law_taken"], ["_law_source_here", "_law_taken", "_law_heft", "_law_name_here", "_law_k", "_law_one", "_law_sign"], (top 26)⟩
def r28 : Fnr := ⟨"_law_names", "_law_names", ["_law_source_here", "_law_many"], ["_law_source_here", "_law_many", "_law_names_here", "_law_k"], (top 27)⟩
def r29 : Fnr := ⟨"_law_some", "_law_some", ["_law_source_here", "_law_things"], ["_law_source_here", "_law_things", "_law_found", "_law_k"], (top 28)⟩
def r30 : Fnr := ⟨"_law_condition", "_law_condition", ["_law_source_here", "_law_states"], ["_law_source_here", "_law_states", "_law_low", "_law_most"], (top 29)⟩
def r31 : Fnr := ⟨"_law_rules", "_law_rules", ["_law_source_here", "_law_states", "_law_kinds"], ["_law_source_here", "_law_states", "_law_kinds", "_law_clauses", "_law_k", "_law_hand", "_law_parts", "_law_table", "_law_j"], (top 30)⟩
def r32 : Fnr := ⟨"_law_index", "_law_index", ["_law_rules_here", "_law_states"], ["_law_rules_here", "_law_states", "_law_index_here", "_law_fits", "_law_result", "_law_conditions", "_law_low", "_law_most", "_law_some_here", "_law_number", "_law_state"], (top 31)⟩
def r33 : Fnr := ⟨"_law_told", "_law_told", ["_law_rules_here", "_law_states"], ["_law_rules_here", "_law_states", "_law_index_here"], (top 32)⟩
def r34 : Fnr := ⟨"_law_lists", "_law_lists", ["_law_states", "_law_most"], ["_law_states", "_law_most", "_law_k", "_law_found", "_law_level", "_law_longer", "_law_row", "_law_state"], (top 33)⟩
def r35 : Fnr := ⟨"law", "law", ["_law_script"], ["_law_script", "_law_source_here", "_law_states", "_law_rules_here", "_law_kind", "_law_row", "_law_many", "_law_wide", "_law_hand", "_law_parts", "_law_clauses", "_law_last", "_law_most", "_law_mixed", "_law_k"], (top 34)⟩
def fns0 : List Fnr := [r2, r3, r4, r5, r6, r7, r8, r9, r10, r11, r12, r13, r14, r15, r16, r17, r18, r19, r20, r21]
def fns1 : List Fnr := [r22, r23, r24, r25, r26, r27, r28, r29, r30, r31, r32, r33, r34, r35]
def fns : List Fnr := fns0 ++ fns1
def tab : List Fn := fns.map (Fnr.fn gt 40)
def c0 : Fn := ⟨(nat_lit 1), (nat_lit 1), [(.whl (.val (.cst (.bl true))) [.pass])]⟩
def c1 : Fn := ⟨(nat_lit 1), (nat_lit 2), [(.ret (.and [(.isi (.loc (nat_lit 0)) [(nat_lit 0)]), (.chn (nat_lit 1) (nat_lit 1) (.cst (.int (Int.ofNat (nat_lit 1)))) (.bf1 (nat_lit 0) (.loc (nat_lit 0))) (.cst (.int (Int.ofNat (nat_lit 8))))), (.bf1 (nat_lit 1) (.lc (.seq (.loc (nat_lit 0))) (.nam (nat_lit 1)) none (.cmp (nat_lit 6) (.loc (nat_lit 1)) (.cst (.str [(nat_lit 97), (nat_lit 98), (nat_lit 99), (nat_lit 100), (nat_lit 101), (nat_lit 102), (nat_lit 103), (nat_lit 104), (nat_lit 105), (nat_lit 106), (nat_lit 107), (nat_lit 108), (nat_lit 109), (nat_lit 110), (nat_lit 111), (nat_lit 112), (nat_lit 113), (nat_lit 114), (nat_lit 115), (nat_lit 116), (nat_lit 117), (nat_lit 118), (nat_lit 119), (nat_lit 120), (nat_lit 121), (nat_lit 122)]))) [(nat_lit 1)]))]))]⟩
def c2 : Fn := ⟨(nat_lit 1), (nat_lit 1), [(.ret (.isi (.loc (nat_lit 0)) [(nat_lit 1), (nat_lit 2)]))]⟩
def c3 : Fn := ⟨(nat_lit 1), (nat_lit 2), [(.ret (.and [(.call (nat_lit 4) [(.loc (nat_lit 0))]), (.bf1 (nat_lit 1) (.lc (.seq (.loc (nat_lit 0))) (.nam (nat_lit 1)) none (.call (nat_lit 3) [(.loc (nat_lit 1))]) [(nat_lit 1)])), (.cmp (nat_lit 4) (.lenS (.loc (nat_lit 0))) (.bf1 (nat_lit 0) (.loc (nat_lit 0))))]))]⟩
def c4 : Fn := ⟨(nat_lit 1), (nat_lit 1), [(.ret (.and [(.isi (.loc (nat_lit 0)) [(nat_lit 3)]), (.not (.isi (.loc (nat_lit 0)) [(nat_lit 4)])), (.chn (nat_lit 1) (nat_lit 1) (.cst (.int (Int.ofNat (nat_lit 0)))) (.loc (nat_lit 0)) (.cst (.int (Int.ofNat (nat_lit 9)))))]))]⟩
def c5 : Fn := ⟨(nat_lit 1), (nat_lit 1), [(.cnd (.or [(.not (.val (.call (nat_lit 4) [(.loc (nat_lit 0))]))), (.cmp (nat_lit 5) (.bf1 (nat_lit 0) (.loc (nat_lit 0))) (.cst (.int (Int.ofNat (nat_lit 3))))), (.not (.val (.call (nat_lit 6) [(.ix (.loc (nat_lit 0)) (.cst (.int (Int.ofNat (nat_lit 0)))))])))]) [(.ret (.cst (.bl false)))] []), (.ret (.and [(.or [(.cmp (nat_lit 8) (.ix (.loc (nat_lit 0)) (.cst (.int (Int.ofNat (nat_lit 1))))) (.cst .non)), (.call (nat_lit 6) [(.ix (.loc (nat_lit 0)) (.cst (.int (Int.ofNat (nat_lit 1)))))])]), (.call (nat_lit 5) [(.ix (.loc (nat_lit 0)) (.cst (.int (Int.ofNat (nat_lit 2)))))]), (.cmp (nat_lit 2) (.bf1 (nat_lit 0) (.ix (.loc (nat_lit 0)) (.cst (.int (Int.ofNat (nat_lit 2)))))) (.cst (.int (Int.ofNat (nat_lit 0)))))]))]⟩
def c6 : Fn := ⟨(nat_lit 1), (nat_lit 2), [(.cnd (.or [(.not (.val (.call (nat_lit 4) [(.loc (nat_lit 0))]))), (.cmp (nat_lit 5) (.bf1 (nat_lit 0) (.loc (nat_lit 0))) (.cst (.int (Int.ofNat (nat_lit 2))))), (.not (.val (.call (nat_lit 3) [(.ix (.loc (nat_lit 0)) (.cst (.int (Int.ofNat (nat_lit 0)))))])))]) [(.ret (.cst (.bl false)))] []), (.ret (.and [(.call (nat_lit 4) [(.ix (.loc (nat_lit 0)) (.cst (.int (Int.ofNat (nat_lit 1)))))]), (.cmp (nat_lit 1) (.bf1 (nat_lit 0) (.ix (.loc (nat_lit 0)) (.cst (.int (Int.ofNat (nat_lit 1)))))) (.cst (.int (Int.ofNat (nat_lit 4))))), (.bf1 (nat_lit 1) (.lc (.seq (.ix (.loc (nat_lit 0)) (.cst (.int (Int.ofNat (nat_lit 1)))))) (.nam (nat_lit 1)) none (.call (nat_lit 7) [(.loc (nat_lit 1))]) [(nat_lit 1)]))]))]⟩
def c7 : Fn := ⟨(nat_lit 1), (nat_lit 2), [(.ret (.and [(.call (nat_lit 4) [(.loc (nat_lit 0))]), (.cmp (nat_lit 1) (.bf1 (nat_lit 0) (.loc (nat_lit 0))) (.cst (.int (Int.ofNat (nat_lit 6))))), (.bf1 (nat_lit 1) (.lc (.seq (.loc (nat_lit 0))) (.nam (nat_lit 1)) none (.call (nat_lit 8) [(.loc (nat_lit 1))]) [(nat_lit 1)]))]))]⟩
def c8 : Fn := ⟨(nat_lit 2), (nat_lit 7), [(.asg (.tup [(.nam (nat_lit 3)), (.nam (nat_lit 4)), (.nam (nat_lit 5))]) (.loc (nat_lit 0))), (.asg (.nam (nat_lit 2)) (.bf1 (nat_lit 3) (.lc (.seq (.loc (nat_lit 5))) (.nam (nat_lit 6)) none (.mth (nat_lit 4) (.loc (nat_lit 1)) [(.loc (nat_lit 6)), (.cst (.int (Int.ofNat (nat_lit 0))))]) [(nat_lit 6)]))), (.ret (.and [(.cmp (nat_lit 1) (.loc (nat_lit 3)) (.loc (nat_lit 2))), (.or [(.cmp (nat_lit 8) (.loc (nat_lit 4)) (.cst .non)), (.cmp (nat_lit 1) (.loc (nat_lit 2)) (.loc (nat_lit 4)))])]))]⟩
def c9 : Fn := ⟨(nat_lit 1), (nat_lit 3), [(.asg (.nam (nat_lit 1)) .dnew), (.forr (.seq (.loc (nat_lit 0))) (.nam (nat_lit 2)) [(.asg (.sub (.loc (nat_lit 1)) (.loc (nat_lit 2))) (.bin (nat_lit 0) (.mth (nat_lit 4) (.loc (nat_lit 1)) [(.loc (nat_lit 2)), (.cst (.int (Int.ofNat (nat_lit 0))))]) (.cst (.int (Int.ofNat (nat_lit 1))))))]), (.ret (.loc (nat_lit 1)))]⟩
def c10 : Fn := ⟨(nat_lit 5), (nat_lit 14), [(.cnd (.not (.val (.call (nat_lit 5) [(.loc (nat_lit 1))]))) [.bad] []), (.cnd (.or [(.not (.val (.call (nat_lit 5) [(.loc (nat_lit 2))]))), (.cmp (nat_lit 4) (.bin (nat_lit 0) (.bf1 (nat_lit 0) (.loc (nat_lit 1))) (.bf1 (nat_lit 0) (.loc (nat_lit 2)))) (.cst (.int (Int.ofNat (nat_lit 0)))))]) [.bad] []), (.cnd (.not (.val (.call (nat_lit 9) [(.loc (nat_lit 3))]))) [.bad] []), (.cnd (.not (.val (.call (nat_lit 3) [(.loc (nat_lit 4))]))) [.bad] []), (.setF (nat_lit 0) (.loc (nat_lit 0)) (.bf1 (nat_lit 8) (.bf1 (nat_lit 9) (.lc (.seq (.loc (nat_lit 1))) (.nam (nat_lit 6)) none (.bf1 (nat_lit 10) (.loc (nat_lit 6))) [(nat_lit 6)])))), (.setF (nat_lit 1) (.loc (nat_lit 0)) (.bf1 (nat_lit 8) (.bf1 (nat_lit 9) (.lc (.seq (.loc (nat_lit 2))) (.nam (nat_lit 9)) none (.bf1 (nat_lit 10) (.loc (nat_lit 9))) [(nat_lit 9)])))), (.asg (.nam (nat_lit 5)) (.lst [])), (.forr (.seq (.loc (nat_lit 3))) (.tup [(.nam (nat_lit 6)), (.nam (nat_lit 7))]) [(.setLc (nat_lit 8) (.seq (.loc (nat_lit 7))) (.tup [(.nam (nat_lit 10)), (.nam (nat_lit 11)), (.nam (nat_lit 12))]) none (.tup [(.loc (nat_lit 10)), (.loc (nat_lit 11)), (.bf1 (nat_lit 8) (.bf1 (nat_lit 9) (.lc (.seq (.loc (nat_lit 12))) (.nam (nat_lit 13)) none (.bf1 (nat_lit 10) (.loc (nat_lit 13))) [(nat_lit 13)])))]) [(nat_lit 10), (nat_lit 11), (nat_lit 12)]), (.expr (.mth (nat_lit 0) (.loc (nat_lit 5)) [(.tup [(.loc (nat_lit 6)), (.bf1 (nat_lit 8) (.loc (nat_lit 8)))])]))]), (.setF (nat_lit 2) (.loc (nat_lit 0)) (.bf1 (nat_lit 8) (.loc (nat_lit 5)))), (.setF (nat_lit 3) (.loc (nat_lit 0)) (.loc (nat_lit 4)))]⟩
def c11 : Fn := ⟨(nat_lit 1), (nat_lit 1), [(.ret (.fld (nat_lit 0) (.loc (nat_lit 0))))]⟩
def c12 : Fn := ⟨(nat_lit 1), (nat_lit 1), [(.ret (.fld (nat_lit 1) (.loc (nat_lit 0))))]⟩
def c13 : Fn := ⟨(nat_lit 1), (nat_lit 1), [(.ret (.fld (nat_lit 2) (.loc (nat_lit 0))))]⟩
def c14 : Fn := ⟨(nat_lit 1), (nat_lit 1), [(.ret (.fld (nat_lit 3) (.loc (nat_lit 0))))]⟩
def c15 : Fn := ⟨(nat_lit 2), (nat_lit 2), [(.cnd (.or [(.not (.val (.isc (nat_lit 0) (.loc (nat_lit 1))))), (.cmp (nat_lit 5) (.fld (nat_lit 0) (.loc (nat_lit 0))) (.fld (nat_lit 0) (.loc (nat_lit 1)))), (.cmp (nat_lit 5) (.fld (nat_lit 1) (.loc (nat_lit 0))) (.fld (nat_lit 1) (.loc (nat_lit 1))))]) [(.ret (.cst (.bl false)))] []), (.ret (.and [(.cmp (nat_lit 4) (.fld (nat_lit 2) (.loc (nat_lit 0))) (.fld (nat_lit 2) (.loc (nat_lit 1)))), (.cmp (nat_lit 4) (.fld (nat_lit 3) (.loc (nat_lit 0))) (.fld (nat_lit 3) (.loc (nat_lit 1))))]))]⟩
def c16 : Fn := ⟨(nat_lit 2), (nat_lit 6), [(.forr (.enm (.fld (nat_lit 2) (.loc (nat_lit 0)))) (.tup [(.nam (nat_lit 2)), (.tup [(.nam (nat_lit 3)), (.nam (nat_lit 4))])]) [(.cnd (.val (.bf1 (nat_lit 1) (.lc (.seq (.loc (nat_lit 4))) (.nam (nat_lit 5)) none (.call (nat_lit 10) [(.loc (nat_lit 5)), (.loc (nat_lit 1))]) [(nat_lit 5)]))) [(.ret (.loc (nat_lit 2)))] [])]), (.ret (.bf1 (nat_lit 0) (.fld (nat_lit 2) (.loc (nat_lit 0)))))]⟩
def c17 : Fn := ⟨(nat_lit 2), (nat_lit 3), [(.asg (.nam (nat_lit 2)) (.met (nat_lit 0) (nat_lit 18) (.loc (nat_lit 0)) [(.loc (nat_lit 1))])), (.ret (.ifx (.cmp (nat_lit 4) (.loc (nat_lit 2)) (.bf1 (nat_lit 0) (.fld (nat_lit 2) (.loc (nat_lit 0))))) (.fld (nat_lit 3) (.loc (nat_lit 0))) (.ix (.ix (.fld (nat_lit 2) (.loc (nat_lit 0))) (.loc (nat_lit 2))) (.cst (.int (Int.ofNat (nat_lit 0)))))))]⟩
def c18 : Fn := ⟨(nat_lit 2), (nat_lit 2), [(.ret (.met (nat_lit 0) (nat_lit 19) (.loc (nat_lit 0)) [(.call (nat_lit 11) [(.loc (nat_lit 1))])]))]⟩
def c19 : Fn := ⟨(nat_lit 2), (nat_lit 2), [(.ret (.met (nat_lit 0) (nat_lit 18) (.loc (nat_lit 0)) [(.call (nat_lit 11) [(.loc (nat_lit 1))])]))]⟩
def c20 : Fn := ⟨(nat_lit 2), (nat_lit 2), [(.expr (.call (nat_lit 2) [(.cst (.int (Int.ofNat (nat_lit 0))))]))]⟩
def c21 : Fn := ⟨(nat_lit 1), (nat_lit 1), [(.expr (.call (nat_lit 2) [(.cst (.int (Int.ofNat (nat_lit 1))))]))]⟩
def c22 : Fn := ⟨(nat_lit 2), (nat_lit 2), [(.ret (.ix (.loc (nat_lit 1)) (.call (nat_lit 0) [(.loc (nat_lit 0)), (.bf1 (nat_lit 0) (.loc (nat_lit 1)))])))]⟩
def c23 : Fn := ⟨(nat_lit 2), (nat_lit 4), [(.asg (.nam (nat_lit 2)) (.lrg (.loc (nat_lit 1)))), (.ret (.lc (.rng1 (.loc (nat_lit 1))) (.nam (nat_lit 3)) none (.mth (nat_lit 2) (.loc (nat_lit 2)) [(.call (nat_lit 0) [(.loc (nat_lit 0)), (.bf1 (nat_lit 0) (.loc (nat_lit 2)))])]) [(nat_lit 3)]))]⟩
def c24 : Fn := ⟨(nat_lit 2), (nat_lit 3), [(.ret (.lc (.seq (.loc (nat_lit 1))) (.nam (nat_lit 2)) (some (.cmp (nat_lit 4) (.call (nat_lit 0) [(.loc (nat_lit 0)), (.cst (.int (Int.ofNat (nat_lit 2))))]) (.cst (.int (Int.ofNat (nat_lit 1)))))) (.loc (nat_lit 2)) [(nat_lit 2)]))]⟩
def c25 : Fn := ⟨(nat_lit 2), (nat_lit 7), [(.asg (.nam (nat_lit 2)) (.ix (.lst [(.cst (.int (Int.ofNat (nat_lit 8)))), (.cst (.int (Int.ofNat (nat_lit 4)))), (.cst (.int (Int.ofNat (nat_lit 5)))), (.cst (.int (Int.ofNat (nat_lit 6)))), (.cst (.int (Int.ofNat (nat_lit 7)))), (.cst (.int (Int.ofNat (nat_lit 1)))), (.cst (.int (Int.ofNat (nat_lit 2)))), (.cst (.int (Int.ofNat (nat_lit 3)))), (.cst (.int (Int.ofNat (nat_lit 1)))), (.cst (.int (Int.ofNat (nat_lit 2)))), (.cst (.int (Int.ofNat (nat_lit 3)))), (.cst (.int (Int.ofNat (nat_lit 1)))), (.cst (.int (Int.ofNat (nat_lit 2))))]) (.call (nat_lit 0) [(.loc (nat_lit 0)), (.cst (.int (Int.ofNat (nat_lit 13))))]))), (.asg (.nam (nat_lit 3)) (.mth (nat_lit 6) (.cst (.str [])) [(.lc (.rng1 (.loc (nat_lit 2))) (.nam (nat_lit 4)) none (.ix (.cst (.str [(nat_lit 97), (nat_lit 98), (nat_lit 99), (nat_lit 100), (nat_lit 101), (nat_lit 102), (nat_lit 103), (nat_lit 104), (nat_lit 105), (nat_lit 106), (nat_lit 107), (nat_lit 108), (nat_lit 109), (nat_lit 110), (nat_lit 111), (nat_lit 112), (nat_lit 113), (nat_lit 114), (nat_lit 115), (nat_lit 116), (nat_lit 117), (nat_lit 118), (nat_lit 119), (nat_lit 120), (nat_lit 121), (nat_lit 122)])) (.call (nat_lit 0) [(.loc (nat_lit 0)), (.cst (.int (Int.ofNat (nat_lit 26))))])) [(nat_lit 4)])])), (.cnd (.chn (nat_lit 0) (nat_lit 0) (.cst (.int (Int.ofNat (nat_lit 3)))) (.loc (nat_lit 2)) (.cst (.int (Int.ofNat (nat_lit 8))))) [(.asg (.nam (nat_lit 3)) (.ix (.lst [(.cst (.str [(nat_lit 107), (nat_lit 105), (nat_lit 110), (nat_lit 100)])), (.cst (.str [(nat_lit 104), (nat_lit 97), (nat_lit 110), (nat_lit 100)])), (.cst (.str [(nat_lit 112), (nat_lit 97), (nat_lit 114), (nat_lit 116), (nat_lit 115)])), (.cst (.str [(nat_lit 101), (nat_lit 108), (nat_lit 115), (nat_lit 101)])), (.cst (.str [(nat_lit 115), (nat_lit 111), (nat_lit 102), (nat_lit 116)])), (.cst (.str [(nat_lit 104), (nat_lit 101), (nat_lit 108), (nat_lit 100)])), (.bin (nat_lit 0) (.cst (.str [(nat_lit 113)])) (.sl (.loc (nat_lit 3)) (some (.cst (.int (Int.ofNat (nat_lit 1))))) none))]) (.call (nat_lit 0) [(.loc (nat_lit 0)), (.cst (.int (Int.ofNat (nat_lit 7))))])))] []), (.cnd (.cmp (nat_lit 7) (.loc (nat_lit 3)) (.loc (nat_lit 1))) [(.ret (.loc (nat_lit 3)))] []), (.ret (.ix (.lc (.seq (.lc (.seq (.cst (.str [(nat_lit 97), (nat_lit 98), (nat_lit 99), (nat_lit 100), (nat_lit 101), (nat_lit 102), (nat_lit 103), (nat_lit 104), (nat_lit 105), (nat_lit 106), (nat_lit 107), (nat_lit 108), (nat_lit 109), (nat_lit 110), (nat_lit 111), (nat_lit 112), (nat_lit 113), (nat_lit 114), (nat_lit 115), (nat_lit 116), (nat_lit 117), (nat_lit 118), (nat_lit 119), (nat_lit 120), (nat_lit 121), (nat_lit 122)]))) (.nam (nat_lit 6)) none (.bin (nat_lit 0) (.cst (.str [(nat_lit 122)])) (.loc (nat_lit 6))) [(nat_lit 6)])) (.nam (nat_lit 5)) (some (.cmp (nat_lit 7) (.loc (nat_lit 5)) (.loc (nat_lit 1)))) (.loc (nat_lit 5)) [(nat_lit 5)]) (.cst (.int (Int.ofNat (nat_lit 0))))))]⟩
def c26 : Fn := ⟨(nat_lit 2), (nat_lit 4), [(.asg (.nam (nat_lit 2)) (.lst [])), (.forr (.rng1 (.loc (nat_lit 1))) (.nam (nat_lit 3)) [(.expr (.mth (nat_lit 0) (.loc (nat_lit 2)) [(.call (nat_lit 27) [(.loc (nat_lit 0)), (.loc (nat_lit 2))])]))]), (.ret (.loc (nat_lit 2)))]⟩
def c27 : Fn := ⟨(nat_lit 2), (nat_lit 4), [(.setLc (nat_lit 2) (.seq (.call (nat_lit 25) [(.loc (nat_lit 0)), (.bf1 (nat_lit 0) (.loc (nat_lit 1)))])) (.nam (nat_lit 3)) none (.ix (.loc (nat_lit 1)) (.loc (nat_lit 3))) [(nat_lit 3)]), (.ret (.sl (.loc (nat_lit 2)) none (some (.bin (nat_lit 0) (.cst (.int (Int.ofNat (nat_lit 1)))) (.call (nat_lit 0) [(.loc (nat_lit 0)), (.bf1 (nat_lit 0) (.loc (nat_lit 2)))])))))]⟩
def c28 : Fn := ⟨(nat_lit 2), (nat_lit 4), [(.asg (.nam (nat_lit 2)) (.call (nat_lit 0) [(.loc (nat_lit 0)), (.cst (.int (Int.ofNat (nat_lit 3))))])), (.asg (.nam (nat_lit 3)) (.ifx (.cmp (nat_lit 4) (.call (nat_lit 0) [(.loc (nat_lit 0)), (.cst (.int (Int.ofNat (nat_lit 2))))]) (.cst (.int (Int.ofNat (nat_lit 0))))) (.cst .non) (.bin (nat_lit 0) (.loc (nat_lit 2)) (.call (nat_lit 0) [(.loc (nat_lit 0)), (.cst (.int (Int.ofNat (nat_lit 2))))])))), (.cnd (.cmp (nat_lit 4) (.call (nat_lit 0) [(.loc (nat_lit 0)), (.cst (.int (Int.ofNat (nat_lit 4))))]) (.cst (.int (Int.ofNat (nat_lit 0))))) [(.asg (.tup [(.nam (nat_lit 2)), (.nam (nat_lit 3))]) (.tup [(.cst (.int (Int.ofNat (nat_lit 0)))), (.cst (.int (Int.ofNat (nat_lit 0))))]))] []), (.ret (.tup [(.loc (nat_lit 2)), (.loc (nat_lit 3)), (.bf1 (nat_lit 8) (.call (nat_lit 29) [(.loc (nat_lit 0)), (.loc (nat_lit 1))]))]))]⟩
def c29 : Fn := ⟨(nat_lit 3), (nat_lit 9), [(.par (nat_lit 5) (nat_lit 6) [(.call (nat_lit 26) [(.loc (nat_lit 0)), (.loc (nat_lit 1))]), (.call (nat_lit 26) [(.loc (nat_lit 0)), (.loc (nat_lit 2))])]), (.cnd (.and [(.cmp (nat_lit 4) (.loc (nat_lit 5)) (.lst [])), (.or [(.cmp (nat_lit 4) (.loc (nat_lit 6)) (.lst [])), (.cmp (nat_lit 2) (.call (nat_lit 0) [(.loc (nat_lit 0)), (.cst (.int (Int.ofNat (nat_lit 3))))]) (.cst (.int (Int.ofNat (nat_lit 0)))))])]) [(.asg (.nam (nat_lit 5)) (.lst [(.call (nat_lit 24) [(.loc (nat_lit 0)), (.loc (nat_lit 1))])]))] []), (.asg (.nam (nat_lit 3)) (.lst [])), (.forr (.rng1 (.call (nat_lit 0) [(.loc (nat_lit 0)), (.cst (.int (Int.ofNat (nat_lit 4))))])) (.nam (nat_lit 4)) [(.setLc (nat_lit 7) (.rng1 (.call (nat_lit 0) [(.loc (nat_lit 0)), (.cst (.int (Int.ofNat (nat_lit 3))))])) (.nam (nat_lit 8)) none (.call (nat_lit 30) [(.loc (nat_lit 0)), (.loc (nat_lit 1))]) [(nat_lit 8)]), (.expr (.mth (nat_lit 0) (.loc (nat_lit 3)) [(.tup [(.call (nat_lit 24) [(.loc (nat_lit 0)), (.loc (nat_lit 1))]), (.bf1 (nat_lit 8) (.loc (nat_lit 7)))])]))]), (.ret (.tup [(.loc (nat_lit 5)), (.loc (nat_lit 6)), (.loc (nat_lit 3)), (.call (nat_lit 24) [(.loc (nat_lit 0)), (.loc (nat_lit 1))])]))]⟩
def c30 : Fn := ⟨(nat_lit 2), (nat_lit 11), [(.forr (.enm (.ix (.loc (nat_lit 0)) (.cst (.int (Int.ofNat (nat_lit 2)))))) (.tup [(.nam (nat_lit 2)), (.tup [(.nam (nat_lit 4)), (.nam (nat_lit 5))])]) [(.asg (.nam (nat_lit 3)) (.lst [])), (.forr (.seq (.loc (nat_lit 5))) (.tup [(.nam (nat_lit 6)), (.nam (nat_lit 7)), (.nam (nat_lit 8))]) [(.asg (.nam (nat_lit 9)) (.bf1 (nat_lit 0) (.lc (.seq (.loc (nat_lit 1))) (.nam (nat_lit 10)) (some (.cmp (nat_lit 6) (.loc (nat_lit 10)) (.loc (nat_lit 8)))) (.loc (nat_lit 10)) [(nat_lit 10)]))), (.expr (.mth (nat_lit 0) (.loc (nat_lit 3)) [(.and [(.cmp (nat_lit 1) (.loc (nat_lit 6)) (.loc (nat_lit 9))), (.or [(.cmp (nat_lit 8) (.loc (nat_lit 7)) (.cst .non)), (.cmp (nat_lit 1) (.loc (nat_lit 9)) (.loc (nat_lit 7)))])])]))]), (.cnd (.val (.bf1 (nat_lit 1) (.loc (nat_lit 3)))) [(.ret (.loc (nat_lit 2)))] [])]), (.ret (.bf1 (nat_lit 0) (.ix (.loc (nat_lit 0)) (.cst (.int (Int.ofNat (nat_lit 2)))))))]⟩
def c31 : Fn := ⟨(nat_lit 2), (nat_lit 3), [(.asg (.nam (nat_lit 2)) (.call (nat_lit 32) [(.loc (nat_lit 0)), (.loc (nat_lit 1))])), (.ret (.ifx (.cmp (nat_lit 4) (.loc (nat_lit 2)) (.bf1 (nat_lit 0) (.ix (.loc (nat_lit 0)) (.cst (.int (Int.ofNat (nat_lit 2))))))) (.ix (.loc (nat_lit 0)) (.cst (.int (Int.ofNat (nat_lit 3))))) (.ix (.ix (.ix (.loc (nat_lit 0)) (.cst (.int (Int.ofNat (nat_lit 2))))) (.loc (nat_lit 2))) (.cst (.int (Int.ofNat (nat_lit 0)))))))]⟩
def c32 : Fn := ⟨(nat_lit 2), (nat_lit 8), [(.par (nat_lit 3) (nat_lit 4) [(.lst []), (.lst [(.lst [])])]), (.forr (.rng1 (.loc (nat_lit 1))) (.nam (nat_lit 2)) [(.asg (.nam (nat_lit 5)) (.lst [])), (.forr (.seq (.loc (nat_lit 4))) (.nam (nat_lit 6)) [(.expr (.mth (nat_lit 1) (.loc (nat_lit 5)) [(.lc (.seq (.loc (nat_lit 0))) (.nam (nat_lit 7)) (some (.or [(.cmp (nat_lit 4) (.loc (nat_lit 6)) (.lst [])), (.cmp (nat_lit 1) (.ix (.loc (nat_lit 6)) (.neg (.cst (.int (Int.ofNat (nat_lit 1)))))) (.loc (nat_lit 7)))])) (.bin (nat_lit 0) (.loc (nat_lit 6)) (.lst [(.loc (nat_lit 7))])) [(nat_lit 7)])]))]), (.par (nat_lit 3) (nat_lit 4) [(.bin (nat_lit 0) (.loc (nat_lit 3)) (.loc (nat_lit 5))), (.loc (nat_lit 5))])]), (.ret (.loc (nat_lit 3)))]⟩
def c33 : Fn := ⟨(nat_lit 1), (nat_lit 15), [(.asg (.nam (nat_lit 1)) (.call (nat_lit 1) [(.loc (nat_lit 0))])), (.asg (.nam (nat_lit 2)) (.call (nat_lit 28) [(.loc (nat_lit 1)), (.bin (nat_lit 0) (.cst (.int (Int.ofNat (nat_lit 2)))) (.call (nat_lit 0) [(.loc (nat_lit 1)), (.cst (.int (Int.ofNat (nat_lit 3))))]))])), (.asg (.tup [(.nam (nat_lit 8)), (.nam (nat_lit 9)), (.nam (nat_lit 10)), (.nam (nat_lit 11))]) (.call (nat_lit 31) [(.loc (nat_lit 1)), (.loc (nat_lit 2)), (.lst [(.cst (.str [(nat_lit 97)]))])])), (.cnd (.cmp (nat_lit 4) (.call (nat_lit 0) [(.loc (nat_lit 1)), (.cst (.int (Int.ofNat (nat_lit 2))))]) (.cst (.int (Int.ofNat (nat_lit 0))))) [(.setLc (nat_lit 7) (.rng1 (.bin (nat_lit 0) (.cst (.int (Int.ofNat (nat_lit 3)))) (.call (nat_lit 0) [(.loc (nat_lit 1)), (.cst (.int (Int.ofNat (nat_lit 2))))]))) (.nam (nat_lit 14)) none (.call (nat_lit 30) [(.loc (nat_lit 1)), (.loc (nat_lit 2))]) [(nat_lit 14)]), (.asg (.nam (nat_lit 10)) (.bin (nat_lit 0) (.bin (nat_lit 0) (.sl (.loc (nat_lit 10)) none (some (.cst (.int (Int.ofNat (nat_lit 2)))))) (.lst [(.tup [(.call (nat_lit 24) [(.loc (nat_lit 1)), (.loc (nat_lit 2))]), (.bf1 (nat_lit 8) (.loc (nat_lit 7)))])])) (.sl (.loc (nat_lit 10)) (some (.cst (.int (Int.ofNat (nat_lit 2))))) none)))] []), (.cnd (.cmp (nat_lit 4) (.call (nat_lit 0) [(.loc (nat_lit 1)), (.cst (.int (Int.ofNat (nat_lit 4))))]) (.cst (.int (Int.ofNat (nat_lit 0))))) [(.asg (.nam (nat_lit 12)) (.bin (nat_lit 0) (.cst (.int (Int.ofNat (nat_lit 4)))) (.call (nat_lit 0) [(.loc (nat_lit 1)), (.cst (.int (Int.ofNat (nat_lit 6))))]))), (.asg (.nam (nat_lit 10)) (.bin (nat_lit 0) (.lst [(.tup [(.call (nat_lit 24) [(.loc (nat_lit 1)), (.loc (nat_lit 2))]), (.tup [(.tup [(.call (nat_lit 0) [(.loc (nat_lit 1)), (.cst (.int (Int.ofNat (nat_lit 10))))]), (.loc (nat_lit 12)), (.tup [(.ix (.loc (nat_lit 2)) (.cst (.int (Int.ofNat (nat_lit 0)))))])])])])]) (.loc (nat_lit 10))))] []), (.asg (.nam (nat_lit 3)) (.tup [(.loc (nat_lit 8)), (.loc (nat_lit 9)), (.loc (nat_lit 10)), (.loc (nat_lit 11))])), (.asg (.nam (nat_lit 4)) (.mk (nat_lit 0) (nat_lit 12) [(.ix (.loc (nat_lit 3)) (.cst (.int (Int.ofNat (nat_lit 0))))), (.ix (.loc (nat_lit 3)) (.cst (.int (Int.ofNat (nat_lit 1))))), (.ix (.loc (nat_lit 3)) (.cst (.int (Int.ofNat (nat_lit 2))))), (.ix (.loc (nat_lit 3)) (.cst (.int (Int.ofNat (nat_lit 3)))))])), (.forr (.seq (.call (nat_lit 34) [(.bin (nat_lit 0) (.bf1 (nat_lit 9) (.loc (nat_lit 2))) (.lst [(.cst (.str [(nat_lit 122), (nat_lit 122), (nat_lit 122), (nat_lit 122), (nat_lit 122), (nat_lit 122)]))])), (.cst (.int (Int.ofNat (nat_lit 4))))])) (.nam (nat_lit 5)) [(.setLc (nat_lit 13) (.seq (.call (nat_lit 25) [(.loc (nat_lit 1)), (.bf1 (nat_lit 0) (.loc (nat_lit 5)))])) (.nam (nat_lit 14)) none (.ix (.loc (nat_lit 5)) (.loc (nat_lit 14))) [(nat_lit 14)]), (.cnd (.or [(.cmp (nat_lit 5) (.met (nat_lit 0) (nat_lit 21) (.loc (nat_lit 4)) [(.loc (nat_lit 13))]) (.call (nat_lit 32) [(.loc (nat_lit 3)), (.loc (nat_lit 5))])), (.cmp (nat_lit 5) (.met (nat_lit 0) (nat_lit 20) (.loc (nat_lit 4)) [(.bf1 (nat_lit 8) (.loc (nat_lit 13)))]) (.call (nat_lit 33) [(.loc (nat_lit 3)), (.loc (nat_lit 5))]))]) [(.ret (.cst (.bl false)))] [])]), (.forr (.rng2 (.cst (.int (Int.ofNat (nat_lit 3)))) (.cst (.int (Int.ofNat (nat_lit 11))))) (.nam (nat_lit 6)) [(.asg (.nam (nat_lit 7)) (.bin (nat_lit 0) (.bin (nat_lit 2) (.lst [(.ix (.loc (nat_lit 2)) (.cst (.int (Int.ofNat (nat_lit 0)))))]) (.loc (nat_lit 6))) (.lc (.rng1 (.call (nat_lit 0) [(.loc (nat_lit 1)), (.cst (.int (Int.ofNat (nat_lit 3))))])) (.nam (nat_lit 14)) none (.call (nat_lit 24) [(.loc (nat_lit 1)), (.loc (nat_lit 2))]) [(nat_lit 14)]))), (.cnd (.or [(.cmp (nat_lit 5) (.met (nat_lit 0) (nat_lit 20) (.loc (nat_lit 4)) [(.loc (nat_lit 7))]) (.call (nat_lit 33) [(.loc (nat_lit 3)), (.loc (nat_lit 7))])), (.cmp (nat_lit 5) (.met (nat_lit 0) (nat_lit 21) (.loc (nat_lit 4)) [(.loc (nat_lit 7))]) (.call (nat_lit 32) [(.loc (nat_lit 3)), (.loc (nat_lit 7))]))]) [(.ret (.cst (.bl false)))] [])]), (.setLc (nat_lit 7) (.rng1 (.cst (.int (Int.ofNat (nat_lit 40))))) (.nam (nat_lit 14)) none (.call (nat_lit 24) [(.loc (nat_lit 1)), (.loc (nat_lit 2))]) [(nat_lit 14)]), (.ret (.and [(.cmp (nat_lit 4) (.met (nat_lit 0) (nat_lit 20) (.loc (nat_lit 4)) [(.loc (nat_lit 7))]) (.call (nat_lit 33) [(.loc (nat_lit 3)), (.loc (nat_lit 7))])), (.cmp (nat_lit 4) (.met (nat_lit 0) (nat_lit 21) (.loc (nat_lit 4)) [(.loc (nat_lit 7))]) (.call (nat_lit 32) [(.loc (nat_lit 3)), (.loc (nat_lit 7))]))]))]⟩
def tabC : List Fn := [c0, c1, c2, c3, c4, c5, c6, c7, c8, c9, c10, c11, c12, c13, c14, c15, c16, c17, c18, c19, c20, c21, c22, c23, c24, c25, c26, c27, c28, c29, c30, c31, c32, c33]
theorem tab_eq : tab = tabC := by kernel_rfl
def iL : List Nat := [2, 3, 4, 5, 6, 7, 8, 9, 10, 11, 12, 13, 14, 15, 16, 17, 18, 19, 20, 21, 22, 23, 24, 25, 26, 27, 28, 29, 30, 31, 32, 33, 34, 35]
def iX (g : Nat) : Nat := match nth g iL with
  | some x => x
  | none => 0
def kf_wall (I : Nat → Nat) (ct : CT) : KS := xSs [(xWhl (xU truM (xCst (.bl true))) (xSs [xPass]))]
def tabK : List Kf := [⟨1, 1, kf_wall iX⟩, ⟨1, 2, kf_is_name iX⟩, ⟨1, 1, kf_is_list iX⟩, ⟨1, 2, kf_are_names iX⟩, ⟨1, 1, kf_is_number iX⟩, ⟨1, 1, kf_is_condition iX⟩, ⟨1, 2, kf_is_clause iX⟩, ⟨1, 2, kf_are_clauses iX⟩, ⟨2, 7, kf_holds iX⟩, ⟨1, 3, kf_counts_of iX⟩, ⟨5, 14, kf_KindU_initU iX⟩, ⟨1, 1, kf_Kind_hand iX⟩, ⟨1, 1, kf_Kind_parts iX⟩, ⟨1, 1, kf_Kind_clauses iX⟩, ⟨1, 1, kf_Kind_last iX⟩, ⟨2, 2, kf_KindU_eqU iX⟩, ⟨2, 6, kf_Kind_index_by iX⟩, ⟨2, 3, kf_Kind_told_by iX⟩, ⟨2, 2, kf_Kind_told iX⟩, ⟨2, 2, kf_Kind_counting iX⟩, ⟨2, 2, kf_Kind_cap iX⟩, ⟨1, 1, kf_Kind_all_states iX⟩, ⟨2, 2, kf__law_pick iX⟩, ⟨2, 4, kf__law_order iX⟩, ⟨2, 3, kf__law_subset iX⟩, ⟨2, 7, kf__law_name iX⟩, ⟨2, 4, kf__law_names iX⟩, ⟨2, 4, kf__law_some iX⟩, ⟨2, 4, kf__law_condition iX⟩, ⟨3, 9, kf__law_rules iX⟩, ⟨2, 11, kf__law_index iX⟩, ⟨2, 3, kf__law_told iX⟩, ⟨2, 8, kf__law_lists iX⟩, ⟨1, 15, kf_law06 iX⟩]
theorem s0 : Same 60 c0 ⟨1, 1, kf_wall iX⟩ := ⟨rfl, rfl, fun ct => by kernel_rfl⟩
theorem s1 : Same 60 c1 ⟨1, 2, kf_is_name iX⟩ := ⟨rfl, rfl, fun ct => by kernel_rfl⟩
theorem s2 : Same 60 c2 ⟨1, 1, kf_is_list iX⟩ := ⟨rfl, rfl, fun ct => by kernel_rfl⟩
theorem s3 : Same 60 c3 ⟨1, 2, kf_are_names iX⟩ := ⟨rfl, rfl, fun ct => by kernel_rfl⟩
theorem s4 : Same 60 c4 ⟨1, 1, kf_is_number iX⟩ := ⟨rfl, rfl, fun ct => by kernel_rfl⟩
theorem s5 : Same 60 c5 ⟨1, 1, kf_is_condition iX⟩ := ⟨rfl, rfl, fun ct => by kernel_rfl⟩
theorem s6 : Same 60 c6 ⟨1, 2, kf_is_clause iX⟩ := ⟨rfl, rfl, fun ct => by kernel_rfl⟩
theorem s7 : Same 60 c7 ⟨1, 2, kf_are_clauses iX⟩ := ⟨rfl, rfl, fun ct => by kernel_rfl⟩
theorem s8 : Same 60 c8 ⟨2, 7, kf_holds iX⟩ := ⟨rfl, rfl, fun ct => by kernel_rfl⟩
theorem s9 : Same 60 c9 ⟨1, 3, kf_counts_of iX⟩ := ⟨rfl, rfl, fun ct => by kernel_rfl⟩
theorem s10 : Same 60 c10 ⟨5, 14, kf_KindU_initU iX⟩ := ⟨rfl, rfl, fun ct => by kernel_rfl⟩
theorem s11 : Same 60 c11 ⟨1, 1, kf_Kind_hand iX⟩ := ⟨rfl, rfl, fun ct => by kernel_rfl⟩
theorem s12 : Same 60 c12 ⟨1, 1, kf_Kind_parts iX⟩ := ⟨rfl, rfl, fun ct => by kernel_rfl⟩
theorem s13 : Same 60 c13 ⟨1, 1, kf_Kind_clauses iX⟩ := ⟨rfl, rfl, fun ct => by kernel_rfl⟩
theorem s14 : Same 60 c14 ⟨1, 1, kf_Kind_last iX⟩ := ⟨rfl, rfl, fun ct => by kernel_rfl⟩
theorem s15 : Same 60 c15 ⟨2, 2, kf_KindU_eqU iX⟩ := ⟨rfl, rfl, fun ct => by kernel_rfl⟩
theorem s16 : Same 60 c16 ⟨2, 6, kf_Kind_index_by iX⟩ := ⟨rfl, rfl, fun ct => by kernel_rfl⟩
theorem s17 : Same 60 c17 ⟨2, 3, kf_Kind_told_by iX⟩ := ⟨rfl, rfl, fun ct => by kernel_rfl⟩
theorem s18 : Same 60 c18 ⟨2, 2, kf_Kind_told iX⟩ := ⟨rfl, rfl, fun ct => by kernel_rfl⟩
theorem s19 : Same 60 c19 ⟨2, 2, kf_Kind_counting iX⟩ := ⟨rfl, rfl, fun ct => by kernel_rfl⟩
theorem s20 : Same 60 c20 ⟨2, 2, kf_Kind_cap iX⟩ := ⟨rfl, rfl, fun ct => by kernel_rfl⟩
theorem s21 : Same 60 c21 ⟨1, 1, kf_Kind_all_states iX⟩ := ⟨rfl, rfl, fun ct => by kernel_rfl⟩
theorem s22 : Same 60 c22 ⟨2, 2, kf__law_pick iX⟩ := ⟨rfl, rfl, fun ct => by kernel_rfl⟩
theorem s23 : Same 60 c23 ⟨2, 4, kf__law_order iX⟩ := ⟨rfl, rfl, fun ct => by kernel_rfl⟩
theorem s24 : Same 60 c24 ⟨2, 3, kf__law_subset iX⟩ := ⟨rfl, rfl, fun ct => by kernel_rfl⟩
theorem s25 : Same 60 c25 ⟨2, 7, kf__law_name iX⟩ := ⟨rfl, rfl, fun ct => by kernel_rfl⟩
theorem s26 : Same 60 c26 ⟨2, 4, kf__law_names iX⟩ := ⟨rfl, rfl, fun ct => by kernel_rfl⟩
theorem s27 : Same 60 c27 ⟨2, 4, kf__law_some iX⟩ := ⟨rfl, rfl, fun ct => by kernel_rfl⟩
theorem s28 : Same 60 c28 ⟨2, 4, kf__law_condition iX⟩ := ⟨rfl, rfl, fun ct => by kernel_rfl⟩
theorem s29 : Same 60 c29 ⟨3, 9, kf__law_rules iX⟩ := ⟨rfl, rfl, fun ct => by kernel_rfl⟩
theorem s30 : Same 60 c30 ⟨2, 11, kf__law_index iX⟩ := ⟨rfl, rfl, fun ct => by kernel_rfl⟩
theorem s31 : Same 60 c31 ⟨2, 3, kf__law_told iX⟩ := ⟨rfl, rfl, fun ct => by kernel_rfl⟩
theorem s32 : Same 60 c32 ⟨2, 8, kf__law_lists iX⟩ := ⟨rfl, rfl, fun ct => by kernel_rfl⟩
theorem s33 : Same 60 c33 ⟨1, 15, kf_law06 iX⟩ := ⟨rfl, rfl, fun ct => by kernel_rfl⟩
theorem sames : Sames 60 tabC tabK := .cons s0 (.cons s1 (.cons s2 (.cons s3 (.cons s4 (.cons s5 (.cons s6 (.cons s7 (.cons s8 (.cons s9 (.cons s10 (.cons s11 (.cons s12 (.cons s13 (.cons s14 (.cons s15 (.cons s16 (.cons s17 (.cons s18 (.cons s19 (.cons s20 (.cons s21 (.cons s22 (.cons s23 (.cons s24 (.cons s25 (.cons s26 (.cons s27 (.cons s28 (.cons s29 (.cons s30 (.cons s31 (.cons s32 (.cons s33 (.nil))))))))))))))))))))))))))))))))))
theorem call_at (n : Nat) {f np nn : Nat} {b : CT → KS} (h : nth f tabK = some ⟨np, nn, b⟩) : callK tabK (n + 1) (f + 2) = runK np nn (b (callK tabK n)) := by
  funext ds
  show @Option.rec Kf (fun _ => M D) M.bad (fun q => runK q.np q.nn (q.body (callK tabK n)) ds) (nth f tabK) = _
  rw [h]
theorem dr (n : Nat) : IsDraw (callK tabK (n + 1)) := rfl
theorem aHolds (n : Nat) : HoldsSp (callK tabK (n + 1) (iX 8)) := by
  rw [show iX 8 = 8 + 2 from rfl, call_at _ (np := 2) (nn := 7) (b := kf_holds iX) rfl]
  exact holds_sp
theorem aCounts (n : Nat) : CountsSp (callK tabK (n + 1) (iX 9)) := by
  rw [show iX 9 = 9 + 2 from rfl, call_at _ (np := 1) (nn := 3) (b := kf_counts_of iX) rfl]
  exact counts_sp
theorem aIndex (n : Nat) : IndexSp (iX 1000) (callK tabK (n + 2) (iX 16)) := by
  rw [show iX 16 = 16 + 2 from rfl, call_at _ (np := 2) (nn := 6) (b := kf_Kind_index_by iX) rfl]
  exact index_sp (aHolds n)
theorem aTell (n : Nat) : TellSp (iX 1000) (callK tabK (n + 3) (iX 17)) := by
  rw [show iX 17 = 17 + 2 from rfl, call_at _ (np := 2) (nn := 3) (b := kf_Kind_told_by iX) rfl]
  exact told_by_sp (aIndex n)
theorem aTold (n : Nat) : ToldSp (iX 1000) (callK tabK (n + 4) (iX 18)) := by
  rw [show iX 18 = 18 + 2 from rfl, call_at _ (np := 2) (nn := 2) (b := kf_Kind_told iX) rfl]
  exact told_sp (aCounts (n + 2)) (aTell n)
theorem aCounting (n : Nat) : CountingSp (iX 1000) (callK tabK (n + 3) (iX 19)) := by
  rw [show iX 19 = 19 + 2 from rfl, call_at _ (np := 2) (nn := 2) (b := kf_Kind_counting iX) rfl]
  exact counting_sp (aCounts (n + 1)) (aIndex n)
theorem aList (n : Nat) : ListSp (callK tabK (n + 1) (iX 2)) := by
  rw [show iX 2 = 2 + 2 from rfl, call_at _ (np := 1) (nn := 1) (b := kf_is_list iX) rfl]
  exact list_sp
theorem aName (n : Nat) : NameSp (callK tabK (n + 1) (iX 1)) := by
  rw [show iX 1 = 1 + 2 from rfl, call_at _ (np := 1) (nn := 2) (b := kf_is_name iX) rfl]
  exact name_sp
theorem aNames (n : Nat) : NamesSp (callK tabK (n + 2) (iX 3)) := by
  rw [show iX 3 = 3 + 2 from rfl, call_at _ (np := 1) (nn := 2) (b := kf_are_names iX) rfl]
  exact names_sp (aList n) (aName n)
theorem aNum (n : Nat) : NumSp (callK tabK (n + 1) (iX 4)) := by
  rw [show iX 4 = 4 + 2 from rfl, call_at _ (np := 1) (nn := 1) (b := kf_is_number iX) rfl]
  exact num_sp
theorem aCond (n : Nat) : CondSp (callK tabK (n + 3) (iX 5)) := by
  rw [show iX 5 = 5 + 2 from rfl, call_at _ (np := 1) (nn := 1) (b := kf_is_condition iX) rfl]
  exact cond_sp (aList (n + 1)) (aNum (n + 1)) (aNames n)
theorem aClause (n : Nat) : ClauseSp (callK tabK (n + 4) (iX 6)) := by
  rw [show iX 6 = 6 + 2 from rfl, call_at _ (np := 1) (nn := 2) (b := kf_is_clause iX) rfl]
  exact clause_sp (aList (n + 2)) (aName (n + 2)) (aCond n)
theorem aClauses (n : Nat) : ClausesSp (callK tabK (n + 5) (iX 7)) := by
  rw [show iX 7 = 7 + 2 from rfl, call_at _ (np := 1) (nn := 2) (b := kf_are_clauses iX) rfl]
  exact clauses_sp (aList (n + 3)) (aClause n)
theorem aKind (n : Nat) : KindSp (iX 1000) (callK tabK (n + 6) (iX 10)) := by
  rw [show iX 10 = 10 + 2 from rfl, call_at _ (np := 5) (nn := 14) (b := kf_KindU_initU iX) rfl]
  exact kind_sp (aName (n + 4)) (aNames (n + 3)) (aClauses n)
theorem aPick (n : Nat) : PickSp (callK tabK (n + 2) (iX 22)) := by
  rw [show iX 22 = 22 + 2 from rfl, call_at _ (np := 2) (nn := 2) (b := kf__law_pick iX) rfl]
  exact pick_sp (dr n)
theorem aOrder (n : Nat) : OrderSp (callK tabK (n + 2) (iX 23)) := by
  rw [show iX 23 = 23 + 2 from rfl, call_at _ (np := 2) (nn := 4) (b := kf__law_order iX) rfl]
  exact order_sp (dr n)
theorem aSubset (n : Nat) : SubsetSp (callK tabK (n + 2) (iX 24)) := by
  rw [show iX 24 = 24 + 2 from rfl, call_at _ (np := 2) (nn := 3) (b := kf__law_subset iX) rfl]
  exact subset_sp (dr n)
theorem aDName (n : Nat) : DNameSp (callK tabK (n + 2) (iX 25)) := by
  rw [show iX 25 = 25 + 2 from rfl, call_at _ (np := 2) (nn := 7) (b := kf__law_name iX) rfl]
  exact dname_sp (dr n)
theorem aDNames (n : Nat) : DNamesSp (callK tabK (n + 3) (iX 26)) := by
  rw [show iX 26 = 26 + 2 from rfl, call_at _ (np := 2) (nn := 4) (b := kf__law_names iX) rfl]
  exact dnames_sp (aDName n)
theorem aDSome (n : Nat) : DSomeSp (callK tabK (n + 3) (iX 27)) := by
  rw [show iX 27 = 27 + 2 from rfl, call_at _ (np := 2) (nn := 4) (b := kf__law_some iX) rfl]
  exact dsome_sp (dr (n + 1)) (aOrder n)
theorem aDCond (n : Nat) : DCondSp (callK tabK (n + 4) (iX 28)) := by
  rw [show iX 28 = 28 + 2 from rfl, call_at _ (np := 2) (nn := 4) (b := kf__law_condition iX) rfl]
  exact dcond_sp (dr (n + 2)) (aDSome n)
theorem aDRules (n : Nat) : DRulesSp (callK tabK (n + 5) (iX 29)) := by
  rw [show iX 29 = 29 + 2 from rfl, call_at _ (np := 3) (nn := 9) (b := kf__law_rules iX) rfl]
  exact drules_sp (dr (n + 3)) (aPick (n + 2)) (aSubset (n + 2)) (aDCond n)
theorem aLIndex (n : Nat) : LIndexSp (callK tabK (n + 1) (iX 30)) := by
  rw [show iX 30 = 30 + 2 from rfl, call_at _ (np := 2) (nn := 11) (b := kf__law_index iX) rfl]
  exact lindex_sp
theorem aLTold (n : Nat) : LToldSp (callK tabK (n + 2) (iX 31)) := by
  rw [show iX 31 = 31 + 2 from rfl, call_at _ (np := 2) (nn := 3) (b := kf__law_told iX) rfl]
  exact ltold_sp (aLIndex n)
theorem aLLists (n : Nat) : LListsSp (callK tabK (n + 1) (iX 32)) := by
  rw [show iX 32 = 32 + 2 from rfl, call_at _ (np := 2) (nn := 8) (b := kf__law_lists iX) rfl]
  exact lists_sp
theorem z6 : S6 (callK tabK 30) iX := ⟨dr 29, rfl, aDNames 27, aDRules 25, aDCond 26, aPick 28, aOrder 28, aKind 24, aLLists 29, aCounting 27, aTold 26, aLIndex 29, aLTold 28⟩
theorem good (ns : List Int) : (callT tab (48 + 12) (30 + 1) (33 + 2) [.kls ns] ⟨0, .nil⟩).all isT := by
  rw [tab_eq, callK_eq sames, call_at 30 (f := 33) (np := 1) (nn := 15) (b := kf_law06 iX) rfl]
  refine P.all_mono (fun r z => ?_) (k06_all z6 ns)
  cases r with
  | bad => exact z.elim
  | ok d h =>
    have z2 : d = .bl true := z
    subst z2
    exact trivial
def rD : Fnr := ⟨"_law_draw", "_law_draw", ["_law_source_here", "_law_many"], ["_law_source_here", "_law_many", "_law_mixed", "_law_digit"], (top 22)⟩
def rS : Fnr := ⟨"_law_source", "_law_source", ["_law_script"], ["_law_script", "_law_cell", "_law_great", "_law_seed"], (top 21)⟩
def pas0 : List Pa := [.glo "_law_draw", .glo "_law_source", .glo "_wall", .glo "is_name", .glo "is_list", .glo "are_names", .glo "is_number", .glo "is_condition", .glo "is_clause", .glo "are_clauses", .glo "holds", .glo "counts_of", .met "Kind" "__init__", .prp "Kind" "hand", .prp "Kind" "parts", .prp "Kind" "clauses", .prp "Kind" "last", .met "Kind" "__eq__", .met "Kind" "index_by", .met "Kind" "told_by"]
def pas1 : List Pa := [.met "Kind" "told", .met "Kind" "counting", .met "Kind" "cap", .met "Kind" "all_states", .glo "_law_pick", .glo "_law_order", .glo "_law_subset", .glo "_law_name", .glo "_law_names", .glo "_law_some", .glo "_law_condition", .glo "_law_rules", .glo "_law_index", .glo "_law_told", .glo "_law_lists", .glo "law"]
def pas : List Pa := pas0 ++ pas1
def cn : List Str := ["Kind"]
def an : List Str := ["own_hand", "own_parts", "own_clauses", "own_last", "own_kinds", "own_states", "kinds", "order", "count_rows", "found", "unlike", "parents", "set_by_hand", "marks", "from_below", "standing", "own_book", "own_top", "sheets", "at", "rulebook", "most", "caps", "places", "sizes", "steps"]
def qs : List (Pa × Str) := pas.zip ((rD :: rS :: fns).map (·.q))
def lo0 : List Str := ["_wall", "__name__", "PartsError", "BadKind", "LETTERS", "MOST_SIGNS", "MOST_CLAUSES", "MOST_CONDITIONS", "MOST_NUMBER", "is_name", "is_list", "are_names", "is_number", "is_condition", "is_clause", "are_clauses", "holds", "counts_of", "Kind", "_law_source", "_law_draw", "_law_pick", "_law_order", "_law_subset", "_law_name", "_law_names", "_law_some", "_law_condition", "_law_rules", "_law_index"]
def lo1 : List Str := ["_law_told", "_law_lists"]
def lo : List Str := lo0 ++ lo1
abbrev Rw : PySem.W.OpenRow := PySem.W.OpenLaw.row PySem.Challenge.rw_partstold_k06_clauses_that_count
abbrev hk : PySem.W.Hook := hookP cn pas gt qs (rD :: rS :: fns)
def ob (s : PySem.W.SharedT) : AlP := obsP cn pas gt qs (HandSHeadRun.getT s)
theorem ob_eq (s : PySem.W.SharedT) : ob s = hk.obs s.abs := obsP_eq cn pas (HandSHeadRun.getT_eq s)
theorem run (w : World) : HandSHeadRun.RunEq Rw (PySem.W.view Rw.prog [34]) hk ob 20000 lo w := by
  intro os
  kernel_rfl
theorem stB : statB gt fns rD rS cn.length an = true := by decide +kernel
theorem anN : an.Nodup := by decide +kernel
theorem dI : rD.irs gt 40 = drawB := by kernel_rfl
theorem sI : rS.irs gt 40 = srcB := by kernel_rfl
theorem lL : pas.length = fns.length + 2 := by decide +kernel
theorem lawPl : plainA (defArgs r35.st) r35.ps = true := by decide +kernel
theorem ends (w : World) (mg : Str → Option Value) (fa : Addr) (h : Heap) (Y : hk.says w h) (N : h.Ns mainGlobals mg) (hmg : mg ("law" : Str) = some (.ref fa)) :
    ∃ (K : PySem.W.Frag) (fd : FuncData) (sp : Sp), K.In h ∧ (∀ (s : Shared) (u : Value), BindsTo s fd ⟨[u], []⟩ [("_law_script", u)]) ∧
      (∀ (H : Hp) (a : Addr) (ns : List Int), ns.length ≤ 63 → Only H → SqL K H a (ns.map V.int) → sp [.ref a] H (fun v _ => v = .bl true) fun _ _ _ => False) ∧
      ∀ base : Heap, FnOk (PySem.Challenge.rw_partstold_k06_clauses_that_count).prog w K mg base CX0 (2 * 30 + 3) fa fd ["_law_script"] sp := by
  obtain ⟨K, KX, lk, ob⟩ := Y
  have B : ∀ base, Tb (gsOf (PySem.Challenge.rw_partstold_k06_clauses_that_count).prog w K cn an anN) K ⟨(PySem.Challenge.rw_partstold_k06_clauses_that_count).prog, w, mg, base⟩ gt tab 40 fns rD rS (adA K pas) := fun base => tb_of anN KX N stB lk lL ob rfl rfl rfl rfl dI sI
  have hfa : adA K pas (33 + 2) = fa := by
    have e := ((B default).fn "law" (33 + 2) 1 (by kernel_rfl)).1
    have e2 := e.symm.trans hmg
    cases e2
    rfl
  obtain ⟨fd, sp, h1, h2, h3⟩ := law_all (deep := 48) (d := 30) (i := 33) (r := r35) (x := "_law_script") B (by rfl) rfl hfa (fun fd Fd s u => FunD.bindsA (ps := ["_law_script"]) Fd (bind_plain lawPl) s [u] rfl) good
  exact ⟨K, fd, sp, KX, h1, h2, h3⟩
end
end PV
open PySem PySem.W PySem.Calls PyProof.Rows
set_option maxRecDepth 100000 in
set_option maxHeartbeats 8000000 in
theorem PySem.Challenge.cw_partstold_k06_clauses_that_count_holds : PySem.Challenge.rw_partstold_k06_clauses_that_count.Holds := by
  w_on; o_law
  refine HandSHeadRun.head_any (r := OpenLaw.row PySem.Challenge.rw_partstold_k06_clauses_that_count) (q := view (OpenLaw.row PySem.Challenge.rw_partstold_k06_clauses_that_count).prog [34]) (H := PV.hk) (ob := PV.ob) (M := 20000) (loose := PV.lo) (d := HandSHeadRun.topDef (OpenLaw.row PySem.Challenge.rw_partstold_k06_clauses_that_count).prog 34) (kwd := []) PV.ob_eq
    (by kernel_rfl) (fun s => by kernel_rfl) PV.run (by kernel_rfl) (by kernel_rfl) (by kernel_rfl) (by rfl) (by first | assumption | decide +kernel) (by decide +kernel) ⟨rfl, rfl, rfl, rfl, rfl, by decide +kernel⟩ ?hw ?hc
  case hw => w_witness2
  case hc =>
    refine L2.walk_ofE (l := PySem.Challenge.rw_partstold_k06_clauses_that_count) (n := 63) (k := 2 * 30 + 3) (x := "_law_script") (CX := L2.CX0) rfl (by decide) (by kernel_rfl) ⟨rfl, by decide, by decide⟩ ?F (fun _ _ _ _ z => z)
    intro w mg fa h Y G hmg0
    have hmg : mg ("law" : PySem.Str) = some (.ref fa) := by
      have e : (HandSHeadRun.topDef (OpenLaw.row PySem.Challenge.rw_partstold_k06_clauses_that_count).prog 34).name = ("law" : PySem.Str) := by kernel_rfl
      rw [← e]
      exact hmg0
    obtain ⟨K, fd, sp, h1, h2, h3, h4⟩ := PV.ends w mg fa h Y G hmg
    exact ⟨K, fd, sp, h1, h2, h3, fun base _ _ => h4 base⟩
